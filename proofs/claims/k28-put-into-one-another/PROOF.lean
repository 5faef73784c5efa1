import PyProof.Rows.All
import Wide.All
import OpenK.AllK
import Wide.FinOn
import PySem.Str
import HandS.ForExc
import HandS.Comp
import HandS.TupAny
import HandS.TupMul
import HandS.Wide
import HandS.IsInst
import HandS.Deep
import HandS.More
import HandS.Conv
import HandS.Iter
import HandS.Zip
import HandS.TryMany
import HandS.CallSlots
import HandS.Lambda
import HandS.Style
import KE.DataFind
import KE.DataMinMax
import KE.SortData
import PyProof.SumAny
import KE.DatumOrd
import HandS.SortKw
import PyProof.ZipIter
import KE.GoesMore
import KE.GoesEnum
import HandS.NoneIn
import HandS.ReCall
import PyProof.EqAt
import KE.KExcSuper
import HandS.ExcInit
import HandS.ExcField
import HandS.ExcIs
import HandS.HeadHook4
import HandS.EndTab
import HandS.HeadWalk
import HandS.Head2
import HandS.HeadEnd
import KE.IntBitsLaws
import PySem.Challenge.RW_holdfills_k28_whole_put_into_one_another
set_option autoImplicit false
/-! The clean machine: a by-value reading of a small part of Python, over data without addresses. -/
namespace Cl
open PySem (Str)

/-- a value, by its content -/
inductive D where
  | non
  | bl (b : Bool)
  | int (i : Int)
  | str (x : Str)
  | rep (d : D)
  | tup (xs : List D)
  | lst (xs : List D)
  | fn (i : Nat)
  | st
  | thk
  | exc (c : Nat) (d : D)
  deriving Inhabited

def D.isL : D → Bool
  | .lst _ => true
  | _ => false
def b2i (b : Bool) : Int := if b then 1 else 0

mutual
/-- the same value -/
def D.same : D → D → Bool
  | .non, .non => true
  | .bl a, .bl b => a == b
  | .int a, .int b => decide (a = b)
  | .str a, .str b => decide (a = b)
  | .rep a, .rep b => D.same a b
  | .tup a, .tup b => D.sames a b
  | .lst a, .lst b => D.sames a b
  | .fn a, .fn b => decide (a = b)
  | .st, .st => true
  | .thk, .thk => true
  | .exc a d, .exc b e => decide (a = b) && D.same d e
  | _, _ => false
def D.sames : List D → List D → Bool
  | [], [] => true
  | a :: r, b :: q => D.same a b && D.sames r q
  | _, _ => false
end
mutual
/-- == of data -/
def D.eqv : D → D → Bool
  | .non, .non => true
  | .bl a, .bl b => a == b
  | .bl a, .int b => decide (b2i a = b)
  | .int a, .bl b => decide (a = b2i b)
  | .int a, .int b => decide (a = b)
  | .str a, .str b => decide (a = b)
  | .tup a, .tup b => D.eqvs a b
  | .lst a, .lst b => D.eqvs a b
  | _, _ => false
def D.eqvs : List D → List D → Bool
  | [], [] => true
  | a :: r, b :: q => D.eqv a b && D.eqvs r q
  | _, _ => false
end
mutual
/-- data of a depth of at most so much: none, truth values, whole numbers, texts, tuples and lists of these -/
def D.fit : Nat → D → Bool
  | _, .non => true
  | _, .bl _ => true
  | _, .int _ => true
  | _, .str x => x.cps.all (· < 1114112)
  | n + 1, .tup xs => D.fits n xs
  | n + 1, .lst xs => D.fits n xs
  | _, _ => false
def D.fits : Nat → List D → Bool
  | _, [] => true
  | n, x :: xs => D.fit n x && D.fits n xs
end
mutual
/-- how long what repr tells may be, at most: 571 signs a whole number -/
def D.wid : D → Nat
  | .non => 4
  | .bl _ => 5
  | .int _ => 571
  | .str x => 10 * x.length + 2
  | .tup xs => D.wids xs + 3
  | .lst xs => D.wids xs + 2
  | _ => 0
def D.wids : List D → Nat
  | [] => 0
  | x :: xs => D.wid x + 2 + D.wids xs
end
mutual
/-- all whole numbers in it have less than so many figures -/
def D.low : D → Bool
  | .int i => decide (i.natAbs < 10 ^ 570)
  | .tup xs => D.lows xs
  | .lst xs => D.lows xs
  | _ => true
def D.lows : List D → Bool
  | [] => true
  | x :: xs => D.low x && D.lows xs
end

mutual
/-- no thing that is called, no caught error within -/
def D.pure : D → Bool
  | .thk => false
  | .exc _ _ => false
  | .tup xs => D.pures xs
  | .lst xs => D.pures xs
  | _ => true
def D.pures : List D → Bool
  | [] => true
  | x :: xs => D.pure x && D.pures xs
end

/-- an outcome: a value, an error of the program's own with what it carries, nothing known, or a draw below a number -/
inductive M (α : Type) where
  | ok (a : α)
  | exc (c : Nat) (d : D)
  | stuck
  | draw (n : Nat) (k : Nat → M α)

def M.bind {α β : Type} : M α → (α → M β) → M β
  | .ok a, f => f a
  | .exc c d, _ => .exc c d
  | .stuck, _ => .stuck
  | .draw n k, f => .draw n fun v => M.bind (k v) f
instance : Monad M where
  pure := M.ok
  bind := M.bind
/-- errors are not looked for -/
def M.nox {α : Type} : M α → M α
  | .ok a => .ok a
  | .exc _ _ => .stuck
  | .stuck => .stuck
  | .draw n k => .draw n fun v => M.nox (k v)

inductive Op where
  | add | sub | mul | fdiv | mod | pow
inductive Cm where
  | eq | ne | lt | le | gt | ge | is | isnot | isin | notin
inductive Pr where
  | len | list | tuple | sorted | sum | min | max | minD | maxD | min2 | max2 | listRange | tupleRange | sortedSet | lenSet | repr | int | isInt | isBool | isTuple | isList | isStr
inductive Mt where
  | count | index
/-- what is walked -/
inductive Wk where
  | seq | rng1 | rng2 | enum | zip

/-- a target: slots, nested -/
inductive Tg where
  | v (i : Nat)
  | nil
  | cons (h t : Tg)

/-- expressions; nil and cons: rows of expressions, told as tuples -/
inductive E where
  | con (d : D)
  | glo (x : Str) (d : D)
  | var (i : Nat)
  | bor (i : Nat)
  | nil
  | cons (h t : E)
  | list (a : E)
  | frz (a : E)
  | bin (op : Op) (a b : E)
  | neg (a : E)
  | cmp (op : Cm) (a b : E)
  | chain (op op' : Cm) (a b c : E)
  | not (a : E)
  | and (a b : E)
  | or (a b : E)
  | ite (c a b : E)
  | idx (a b : E)
  | absent
  | slc (a lo hi : E)
  | rev (a : E)
  | call (f : Nat) (a : E)
  | callk (f : Nat) (perm : List Nat) (a k : E)
  | callv (i : Nat) (a : E)
  | heard (f : Nat) (body : E)
  | force (i : Nat)
  | prim (p : Pr) (a : E)
  | meth (m : Mt) (a b : E)
  | comp (own : List Nat) (w : Wk) (it : E) (t : Tg) (c elt : E)
  | comp2 (own : List Nat) (w : Wk) (it : E) (t : Tg) (c : E) (own1 : List Nat) (w1 : Wk) (it1 : E) (t1 : Tg) (c1 elt : E)
  | attr (i : Nat) (x : Str)
  | isx (i : Nat) (c : Nat)
  | draw (a b : E)

abbrev Env := List (Option (D × Bool))
inductive Fl where
  | nx | rt (d : D) | bk | ct

/-- blocks: each statement with what comes behind it -/
inductive S where
  | done
  | kill (is : List Nat) (r : S)
  | frz (is : List Nat) (r : S)
  | pass (r : S)
  | set (i : Nat) (own : Bool) (e : E) (r : S)
  | sets (t : Tg) (e : E) (r : S)
  | mset (ts : List (Nat × Bool)) (a : E) (r : S)
  | setix (i : Nat) (a b : E) (r : S)
  | app (i : Nat) (e : E) (r : S)
  | ext (i : Nat) (e : E) (r : S)
  | ins (i : Nat) (a b : E) (r : S)
  | rem (i : Nat) (e : E) (r : S)
  | apop (i j : Nat) (e : E) (r : S)
  | expr (e : E) (r : S)
  | ite (c : E) (a b : S) (r : S)
  | for_ (w : Wk) (it : E) (t : Tg) (b : S) (r : S)
  | whl (c : E) (b : S) (r : S)
  | ret (e : E)
  | brk
  | cnt
  | raise (c : Nat) (e : E)
  | raise0 (c : Nat)
  | try_ (b : S) (h : S) (r : S)
  /-- an except clause: the class, the slot of its name, the suite; then the further clauses -/
  | hand (c : Nat) (i : Option Nat) (b : S) (r : S)

structure Fn where
  np : Nat
  ns : Nat
  body : S

/-! ### operations on values -/
def LIM : Nat := 16777216
/-- factors may have so many bits -/
def MULB : Nat := 450000

def opV : Op → D → D → M D
  | .add, .int a, .int b => .ok (.int (a + b))
  | .add, .tup a, .tup b => if a.length + b.length ≤ LIM then .ok (.tup (a ++ b)) else .stuck
  | .add, .lst a, .lst b => if a.length + b.length ≤ LIM then .ok (.lst (a ++ b)) else .stuck
  | .sub, .int a, .int b => .ok (.int (a - b))
  | .mul, .int a, .int b => if a.natAbs < 2 ^ 64 ∨ b.natAbs < 2 ^ 64 ∨ (a.natAbs < 2 ^ MULB ∧ b.natAbs < 2 ^ MULB) then .ok (.int (a * b)) else .stuck
  | .mul, .tup a, .int k => if a.length * k.toNat ≤ LIM ∧ k < 2 ^ 62 ∧ -(2 ^ 62) ≤ k then .ok (.tup (List.replicate k.toNat a).flatten) else .stuck
  | .mul, .lst a, .int k => if a.length * k.toNat ≤ LIM ∧ k < 2 ^ 62 ∧ -(2 ^ 62) ≤ k then .ok (.lst (List.replicate k.toNat a).flatten) else .stuck
  | .fdiv, .int a, .int b => if 0 < b ∧ b < 2 ^ 9000 then .ok (.int (a / b)) else .stuck
  | .mod, .int a, .int b => if 0 < b then .ok (.int (a % b)) else .stuck
  | .pow, .int a, .int b => if 0 ≤ b ∧ b ≤ 1000000 ∧ a.natAbs < 2 ^ 64 then .ok (.int (a ^ b.toNat)) else .stuck
  | _, _, _ => .stuck

mutual
/-- < of data that are alike: whole numbers, tuples of such -/
def D.lt : D → D → Option Bool
  | .int a, .int b => some (decide (a < b))
  | .tup a, .tup b => D.lts a b
  | _, _ => none
def D.lts : List D → List D → Option Bool
  | [], [] => some false
  | [], _ :: _ => some true
  | _ :: _, [] => some false
  | a :: r, b :: q => if D.eqv a b then D.lts r q else D.lt a b
end

def cmpV : Cm → D → D → M D
  | .eq, .rep a, .rep b => if D.same a b then .ok (.bl true) else .stuck
  | .eq, a, b => if D.fit 60 a && D.fit 60 b then .ok (.bl (D.eqv a b)) else .stuck
  | .ne, .rep a, .rep b => if D.same a b then .ok (.bl false) else .stuck
  | .ne, a, b => if D.fit 60 a && D.fit 60 b then .ok (.bl (!D.eqv a b)) else .stuck
  | .lt, .int a, .int b => .ok (.bl (decide (a < b)))
  | .le, .int a, .int b => .ok (.bl (decide (a ≤ b)))
  | .gt, .int a, .int b => .ok (.bl (decide (b < a)))
  | .ge, .int a, .int b => .ok (.bl (decide (b ≤ a)))
  | .is, .bl a, .bl b => .ok (.bl (a == b))
  | .isnot, .bl a, .bl b => .ok (.bl (!(a == b)))
  | .is, a, .non => .ok (.bl (match a with | .non => true | _ => false))
  | .isnot, a, .non => .ok (.bl (match a with | .non => false | _ => true))
  | .isin, a, .lst xs => if D.fit 60 a && D.fit 60 (.lst xs) then .ok (.bl (xs.any fun x => D.eqv x a)) else .stuck
  | .isin, a, .tup xs => if D.fit 60 a && D.fit 60 (.tup xs) then .ok (.bl (xs.any fun x => D.eqv x a)) else .stuck
  | .notin, a, .lst xs => if D.fit 60 a && D.fit 60 (.lst xs) then .ok (.bl (!xs.any fun x => D.eqv x a)) else .stuck
  | .notin, a, .tup xs => if D.fit 60 a && D.fit 60 (.tup xs) then .ok (.bl (!xs.any fun x => D.eqv x a)) else .stuck
  | _, _, _ => .stuck

/-- the item at an index of any sign -/
def atD (xs : List D) (i : Int) : Option D :=
  if 0 ≤ i then xs[i.toNat]? else if -(xs.length : Int) ≤ i then xs[(i + xs.length).toNat]? else none
def idxV : D → D → M D
  | .tup xs, .int i => match atD xs i with | some d => .ok d | none => .stuck
  | .lst xs, .int i => match atD xs i with | some d => .ok d | none => .stuck
  | _, _ => .stuck
/-- a slice's bound as a place among n -/
def bnd (n d : Nat) : Option Int → Nat
  | none => d
  | some v => if v < 0 then (v + (n : Int)).toNat else min v.toNat n
def cut (xs : List D) (lo hi : Option Int) : List D := (xs.drop (bnd xs.length 0 lo)).take (bnd xs.length xs.length hi - bnd xs.length 0 lo)
def slcV : D → Option Int → Option Int → M D
  | .tup xs, l, h => .ok (.tup (cut xs l h))
  | .lst xs, l, h => .ok (.lst (cut xs l h))
  | _, _, _ => .stuck
def asI : D → M (Option Int)
  | .int i => .ok (some i)
  | _ => .stuck

def intL : List D → Option (List Int)
  | [] => some []
  | .int i :: r => (intL r).map (i :: ·)
  | _ => none
/-- shapes of data: whole numbers, rows place by place -/
inductive Shp where
  | any | i
  | row (l : List Shp)
mutual
def Shp.mrg : D → Shp → Shp
  | .int _, _ => .i
  | .tup ds, .row ss => .row (Shp.mrgs ds ss)
  | .tup ds, _ => .row (Shp.mrgs ds [])
  | _, s => s
def Shp.mrgs : List D → List Shp → List Shp
  | [], ss => ss
  | d :: ds, [] => Shp.mrg d .any :: Shp.mrgs ds []
  | d :: ds, s :: ss => Shp.mrg d s :: Shp.mrgs ds ss
end
mutual
def Shp.ok : D → Shp → Bool
  | .int _, .i => true
  | .tup ds, .row ss => Shp.oks ds ss
  | _, _ => false
def Shp.oks : List D → List Shp → Bool
  | [], _ => true
  | _ :: _, [] => false
  | d :: ds, s :: ss => Shp.ok d s && Shp.oks ds ss
end
def isWhole : D → Bool
  | .int _ => true
  | _ => false
def rowNe : D → Bool
  | .tup (_ :: _) => true
  | _ => false
/-- they may be put in order: whole numbers, or rows that agree place by place -/
def sortOk (xs : List D) : Bool := xs.all isWhole || (xs.all rowNe && xs.all fun d => Shp.ok d (xs.foldl (fun s d => Shp.mrg d s) .any))
/-- a row in its order: put in behind those that are not greater -/
def insD (x : D) : List D → Option (List D)
  | [] => some [x]
  | y :: r => match D.lt x y with
    | none => none
    | some true => some (x :: y :: r)
    | some false => (insD x r).map (y :: ·)
def sortD : List D → Option (List D)
  | [] => some []
  | x :: r => (sortD r).bind (insD x)
/-- the least, the greatest of whole numbers -/
def iMin (x : Int) (xs : List Int) : Int := xs.foldl (fun a y => if y < a then y else a) x
def iMax (x : Int) (xs : List Int) : Int := xs.foldl (fun a y => if a < y then y else a) x
def oM {α : Type} : Option α → M α
  | some a => .ok a
  | none => .stuck
def rng (lo hi : Int) : List D := (List.range (hi - lo).toNat).map fun (k : Nat) => D.int (lo + (k : Int))
def dedup : List D → List D → List D
  | _, [] => []
  | seen, x :: r => if seen.any (fun y => D.eqv y x) then dedup seen r else x :: dedup (x :: seen) r
def items : D → Option (List D)
  | .tup xs => some xs
  | .lst xs => some xs
  | _ => none

def primV : Pr → List D → M D
  | .len, [.tup xs] => .ok (.int xs.length)
  | .len, [.lst xs] => .ok (.int xs.length)
  | .list, [.tup xs] => .ok (.lst xs)
  | .list, [.lst xs] => .ok (.lst xs)
  | .tuple, [.tup xs] => .ok (.tup xs)
  | .tuple, [.lst xs] => .ok (.tup xs)
  | .sorted, [.lst xs] => if D.fits 60 xs && sortOk xs then oM ((sortD xs).map .lst) else .stuck
  | .sum, [a] => match items a with
    | some xs => oM ((intL xs).map fun l => .int l.sum)
    | none => .stuck
  | .min, [a] => match (items a).bind intL with
    | some (x :: xs) => .ok (.int (iMin x xs))
    | _ => .stuck
  | .max, [a] => match (items a).bind intL with
    | some (x :: xs) => .ok (.int (iMax x xs))
    | _ => .stuck
  | .minD, [a, .int d] => match (items a).bind intL with
    | some (x :: xs) => .ok (.int (iMin x xs))
    | some [] => .ok (.int d)
    | none => .stuck
  | .maxD, [a, .int d] => match (items a).bind intL with
    | some (x :: xs) => .ok (.int (iMax x xs))
    | some [] => .ok (.int d)
    | none => .stuck
  | .min2, [.int a, .int b] => .ok (.int (if b < a then b else a))
  | .max2, [.int a, .int b] => .ok (.int (if b > a then b else a))
  | .listRange, [.int n] => if n ≤ LIM ∧ -(2 ^ 61) ≤ n then .ok (.lst (rng 0 n)) else .stuck
  | .listRange, [.int a, .int n] => if n - a ≤ LIM ∧ -(2 ^ 61) ≤ n ∧ n < 2 ^ 61 ∧ -(2 ^ 61) ≤ a ∧ a < 2 ^ 61 then .ok (.lst (rng a n)) else .stuck
  | .tupleRange, [.int n] => if n ≤ LIM ∧ -(2 ^ 61) ≤ n then .ok (.tup (rng 0 n)) else .stuck
  | .tupleRange, [.int a, .int n] => if n - a ≤ LIM ∧ -(2 ^ 61) ≤ n ∧ n < 2 ^ 61 ∧ -(2 ^ 61) ≤ a ∧ a < 2 ^ 61 then .ok (.tup (rng a n)) else .stuck
  | .sortedSet, [a] => match items a with
    | some xs => if D.fits 60 xs then oM ((sortD (dedup [] xs)).map .lst) else .stuck
    | none => .stuck
  | .lenSet, [a] => match items a with
    | some xs => if D.fits 60 xs then .ok (.int (dedup [] xs).length) else .stuck
    | none => .stuck
  | .repr, [d] => if D.fit 60 d && D.low d && decide (D.wid d ≤ 16000000) then .ok (.rep d) else .stuck
  | .int, [.int i] => .ok (.int i)
  | .isInt, [d] => match d with
    | .int _ => .ok (.bl true)
    | .bl _ => .ok (.bl true)
    | .non => .ok (.bl false)
    | .str _ => .ok (.bl false)
    | .tup _ => .ok (.bl false)
    | .lst _ => .ok (.bl false)
    | _ => .stuck
  | .isBool, [d] => match d with
    | .int _ => .ok (.bl false)
    | .bl _ => .ok (.bl true)
    | .non => .ok (.bl false)
    | .str _ => .ok (.bl false)
    | .tup _ => .ok (.bl false)
    | .lst _ => .ok (.bl false)
    | _ => .stuck
  | .isTuple, [d] => match d with
    | .int _ => .ok (.bl false)
    | .bl _ => .ok (.bl false)
    | .non => .ok (.bl false)
    | .str _ => .ok (.bl false)
    | .tup _ => .ok (.bl true)
    | .lst _ => .ok (.bl false)
    | _ => .stuck
  | .isList, [d] => match d with
    | .int _ => .ok (.bl false)
    | .bl _ => .ok (.bl false)
    | .non => .ok (.bl false)
    | .str _ => .ok (.bl false)
    | .tup _ => .ok (.bl false)
    | .lst _ => .ok (.bl true)
    | _ => .stuck
  | _, _ => .stuck

/-- the first place of an equal one -/
def findD (x : D) : List D → Nat → Option Nat
  | [], _ => none
  | y :: r, n => if D.eqv y x then some n else findD x r (n + 1)
def methV : Mt → D → D → M D
  | .count, a, x => match items a with
    | some xs => if D.fits 60 xs && D.fit 60 x then .ok (.int (xs.countP fun y => D.eqv y x)) else .stuck
    | none => .stuck
  | .index, a, x => match items a with
    | some xs => if D.fits 60 xs && D.fit 60 x then (match findD x xs 0 with | some n => .ok (.int n) | none => .stuck) else .stuck
    | none => .stuck

/-- what is walked, item by item -/
def walkV : Wk → D → M (List D)
  | .seq, .tup xs => .ok xs
  | .seq, .lst xs => .ok xs
  | .rng1, .tup [.int n] => if n ≤ LIM ∧ -(2 ^ 61) ≤ n then .ok (rng 0 n) else .stuck
  | .rng2, .tup [.int a, .int n] => if n - a ≤ LIM ∧ -(2 ^ 61) ≤ n ∧ n < 2 ^ 61 ∧ -(2 ^ 61) ≤ a ∧ a < 2 ^ 61 then .ok (rng a n) else .stuck
  | .enum, .tup [a] => match items a with
    | some xs => .ok (xs.zipIdx.map fun p => .tup [.int p.2, p.1])
    | none => .stuck
  | .zip, .tup [.tup xs, .tup ys] => .ok ((xs.zip ys).map fun p => .tup [p.1, p.2])
  | .zip, .tup [.lst xs, .lst ys] => .ok ((xs.zip ys).map fun p => .tup [p.1, p.2])
  | .zip, .tup [.tup xs, .lst ys] => .ok ((xs.zip ys).map fun p => .tup [p.1, p.2])
  | _, _ => .stuck

/-! ### names -/
def Tg.slots : Tg → List Nat
  | .v i => [i]
  | .nil => []
  | .cons h t => h.slots ++ t.slots
/-- the slots that a block stores to -/
def asgS : S → List Nat
  | .kill _ r | .frz _ r | .pass r | .expr _ r => asgS r
  | .set i _ _ r | .setix i _ _ r | .app i _ r | .ext i _ r | .ins i _ _ r | .rem i _ r => i :: asgS r
  | .sets t _ r => t.slots ++ asgS r
  | .mset ts _ r => ts.map (·.1) ++ asgS r
  | .apop i j _ r => i :: j :: asgS r
  | .ite _ a b r => asgS a ++ asgS b ++ asgS r
  | .for_ _ _ t b r => t.slots ++ asgS b ++ asgS r
  | .whl _ b r => asgS b ++ asgS r
  | .try_ b h r => asgS b ++ asgS h ++ asgS r
  | .hand _ i b r => i.toList ++ asgS b ++ asgS r
  | _ => []
def Env.at (env : Env) (i : Nat) : Option (D × Bool) := List.getD env i none
def putAt : Env → Nat → Option (D × Bool) → Env
  | [], _, _ => []
  | _ :: r, 0, v => v :: r
  | x :: r, i + 1, v => x :: putAt r i v
def wipe (env : Env) : List Nat → Env
  | [] => env
  | i :: is => putAt (wipe env is) i none
def frzAt : Env → Nat → Env
  | [], _ => []
  | x :: r, 0 => (match x with | some (d, _) => some (d, false) | none => none) :: r
  | x :: r, i + 1 => x :: frzAt r i
def freeze (env : Env) : List Nat → Env
  | [] => env
  | i :: is => frzAt (freeze env is) i
def putAll : Env → List (Nat × Bool) → List D → Env
  | env, (i, o) :: ts, d :: ds => putAll (putAt env i (some (d, o && d.isL))) ts ds
  | env, _, _ => env
/-- what is known still where an error is caught -/
def calm (is : List Nat) (env : Env) : Env := wipe (env.map fun
  | some (d, false) => if d.pure then some (d, false) else none
  | _ => none) is
/-- names of pure values -/
def purge (env : Env) : Env := env.map fun
  | some (d, o) => if d.pure then some (d, o) else none
  | none => none
/-- the caught error at its name -/
def hold (i : Option Nat) (c : Nat) (d : D) (env : Env) : Env := match i with
  | some i => putAt env i (some (.exc c d, false))
  | none => env
def gone (i : Option Nat) (env : Env) : Env := match i with
  | some i => purge (putAt env i none)
  | none => purge env
/-- a value to a target -/
def asg : Tg → D → Env → Option Env
  | .v i, d, env => some (putAt env i (some (d, false)))
  | .nil, .tup [], env => some env
  | .cons h t, .tup (x :: xs), env => (asg h x env).bind fun e => asg t (.tup xs) e
  | .nil, .lst [], env => some env
  | .cons h t, .lst (x :: xs), env => (asg h x env).bind fun e => asg t (.lst xs) e
  | _, _, _ => none

def pick {α : Type} (xs : List α) : List Nat → Option (List α)
  | [] => some []
  | i :: is => match xs[i]?, pick xs is with
    | some x, some r => some (x :: r)
    | _, _ => none

/-- error classes: 0 HoldError, the others beneath it; 1000: ValueError -/
def subc (c k : Nat) : Bool := c == k || k == 0 || k == 1000

/-- the attribute that an error carries -/
def fldOf : Nat → Option Str
  | 0 => none
  | 1 => some "value" | 2 => some "value" | 3 => some "place" | 4 => some "value" | 5 => some "value" | 6 => some "value"
  | 7 => some "place" | 8 => some "place" | 9 => some "place" | 10 => some "place" | 11 => some "place" | 12 => some "value" | 13 => some "value"
  | 14 => none | 15 => some "most"
  | _ => none
/-- a row of turns of a comprehension -/
def compL (turn : D → M (Option D)) : List D → M (List D)
  | [] => .ok []
  | x :: xs => M.bind (turn x) fun y => M.bind (compL turn xs) fun ys => .ok (match y with | some d => d :: ys | none => ys)
def compL2 (turn : Nat → D → M (List D)) : Nat → List D → M (List D)
  | _, [] => .ok []
  | k, x :: xs => M.bind (turn k x) fun y => M.bind (compL2 turn (k + y.length) xs) fun ys => .ok (y ++ ys)

def pureM (d : D) : M D := if d.pure then .ok d else .stuck
def asB : D → M D
  | .bl k => .ok (.bl k)
  | _ => .stuck
section
variable (F : Nat → M D → List D → M D) (th : M D)
def evE : E → Env → M D
  | .con d, _ => .ok d
  | .glo _ d, _ => .ok d
  | .var i, env => match env.at i with
    | some (d, false) => .ok d
    | _ => .stuck
  | .bor i, env => match env.at i with
    | some (d, _) => .ok d
    | none => .stuck
  | .nil, _ => .ok (.tup [])
  | .cons a r, env => (evE a env).bind fun x => (evE r env).bind fun xs => match xs with
    | .tup ys => .ok (.tup (x :: ys))
    | _ => .stuck
  | .list a, env => (evE a env).bind fun xs => match xs with
    | .tup ys => .ok (.lst ys)
    | _ => .stuck
  | .frz a, env => evE a env
  | .bin op a b, env => (evE a env).bind fun x => (evE b env).bind fun y => opV op x y
  | .neg a, env => (evE a env).bind fun x => match x with
    | .int i => .ok (.int (-i))
    | _ => .stuck
  | .cmp op a b, env => (evE a env).bind fun x => (evE b env).bind fun y => cmpV op x y
  | .chain op op' a b c, env => (evE a env).bind fun x => (evE b env).bind fun y => (cmpV op x y).bind fun r => match r with
    | .bl true => (evE c env).bind fun z => cmpV op' y z
    | .bl false => .ok (.bl false)
    | _ => .stuck
  | .not a, env => (evE a env).bind fun x => match x with
    | .bl b => .ok (.bl (!b))
    | _ => .stuck
  | .and a b, env => (evE a env).bind fun x => match x with
    | .bl true => (evE b env).bind asB
    | .bl false => .ok (.bl false)
    | _ => .stuck
  | .or a b, env => (evE a env).bind fun x => match x with
    | .bl true => .ok (.bl true)
    | .bl false => (evE b env).bind asB
    | _ => .stuck
  | .ite c a b, env => (evE c env).bind fun x => match x with
    | .bl true => evE a env
    | .bl false => evE b env
    | _ => .stuck
  | .idx a b, env => (evE a env).bind fun x => (evE b env).bind fun y => idxV x y
  | .absent, _ => .stuck
  | .slc a lo hi, env => (evE a env).bind fun x => (match lo with
      | .absent => M.ok none
      | _ => (evE lo env).bind asI).bind fun l => (match hi with
      | .absent => M.ok none
      | _ => (evE hi env).bind asI).bind fun h => slcV x l h
  | .rev a, env => (evE a env).bind fun x => match x with
    | .tup xs => .ok (.tup xs.reverse)
    | .lst xs => .ok (.lst xs.reverse)
    | _ => .stuck
  | .call f a, env => (evE a env).bind fun x => match x with
    | .tup xs => F f .stuck xs
    | _ => .stuck
  | .callk f perm a k, env => (evE a env).bind fun x => (evE k env).bind fun y => match x, y with
    | .tup xs, .tup ys => (match pick (xs ++ ys) perm with
      | some zs => F f .stuck zs
      | none => .stuck)
    | _, _ => .stuck
  | .callv i a, env => match env.at i with
    | some (.fn f, false) => (evE a env).bind fun x => (match x with
      | .tup xs => F f .stuck xs
      | _ => .stuck)
    | _ => .stuck
  | .heard f body, env => (F f ((evE body (calm [] env)).bind pureM) [.thk]).bind pureM
  | .force i, env => match env.at i with
    | some (.thk, _) => th
    | _ => .stuck
  | .prim p a, env => (evE a env).bind fun x => match x with
    | .tup xs => primV p xs
    | _ => .stuck
  | .meth m a b, env => (evE a env).bind fun x => match x with
    | .lst xs => (evE b env).bind fun y => methV m (.lst xs) y
    | _ => .stuck
  | .comp own w it t c elt, env => (evE it env).bind fun x => (walkV w x).bind fun xs =>
      (compL (fun x => match asg t x (wipe env own) with
        | some env1 => M.nox ((evE c env1).bind fun b => match b with
          | .bl true => (evE elt env1).bind fun y => .ok (some y)
          | .bl false => .ok none
          | _ => .stuck)
        | none => .stuck) xs).bind fun ys => .ok (.lst ys)
  | .comp2 own w it t c own1 w1 it1 t1 c1 elt, env => (evE it env).bind fun x => (walkV w x).bind fun xs =>
      (compL2 (fun k x => match asg t x (wipe env own) with
        | some env1 => M.nox ((evE c env1).bind fun b => match b with
          | .bl true => ((evE it1 env1).bind (walkV w1)).bind fun xs1 => if k + xs1.length ≤ LIM then
            compL (fun x1 => match asg t1 x1 (wipe env1 own1) with
              | some env2 => (evE c1 env2).bind fun b => (match b with
                | .bl true => (evE elt env2).bind fun y => .ok (some y)
                | .bl false => .ok none
                | _ => .stuck)
              | none => .stuck) xs1
            else .stuck
          | .bl false => .ok []
          | _ => .stuck)
        | none => .stuck) 0 xs).bind fun ys => .ok (.lst ys)
  | .attr i x, env => match env.at i with
    | some (.exc c d, false) => if fldOf c = some x then .ok d else .stuck
    | _ => .stuck
  | .isx i k, env => match env.at i with
    | some (.exc c _, false) => if subc c k then .ok (.bl true) else .stuck
    | _ => .stuck
  | .draw a b, env => (evE a env).bind fun x => (evE b env).bind fun y => match x, y with
    | .st, .int n => if 0 < n ∧ n < 2 ^ 9000 then .draw n.toNat fun v => .ok (.int (v : Int)) else .stuck
    | _, _ => .stuck

/-- a loop's turns -/
def forL (turn : D → Env → M (Env × Fl)) : List D → Env → M (Env × Fl)
  | [], env => .ok (env, .nx)
  | x :: xs, env => (turn x env).bind fun p => match p.2 with
    | .nx => forL turn xs p.1
    | .ct => forL turn xs p.1
    | .bk => .ok (p.1, .nx)
    | .rt d => .ok (p.1, .rt d)
def whlL (test : Env → M D) (body : Env → M (Env × Fl)) : Nat → Env → M (Env × Fl)
  | 0, _ => .stuck
  | n + 1, env => (test env).bind fun b => match b with
    | .bl true => (body env).bind fun p => (match p.2 with
      | .nx => whlL test body n p.1
      | .ct => whlL test body n p.1
      | .bk => .ok (p.1, .nx)
      | .rt d => .ok (p.1, .rt d))
    | .bl false => .ok (env, .nx)
    | _ => .stuck
/-- behind a statement -/
def thenS (m : M (Env × Fl)) (k : Env → M (Env × Fl)) : M (Env × Fl) := m.bind fun p => match p.2 with
  | .nx => k p.1
  | f => .ok (p.1, f)
def ownL (env : Env) (i : Nat) : M (List D) := match env.at i with
  | some (.lst xs, true) => .ok xs
  | _ => .stuck
/-- an error, as the clauses take it -/
def catchM (h : Nat → D → M (Env × Fl)) : M (Env × Fl) → M (Env × Fl)
  | .ok a => .ok a
  | .exc c d => h c d
  | .stuck => .stuck
  | .draw n k => .draw n fun v => catchM h (k v)
def remD (x : D) : List D → Option (List D)
  | [] => none
  | y :: r => if D.eqv y x then some r else (remD x r).map (y :: ·)

mutual
def exS : S → Env → M (Env × Fl)
  | .done, env => .ok (env, .nx)
  | .kill is r, env => exS r (wipe env is)
  | .frz is r, env => exS r (freeze env is)
  | .pass r, env => exS r env
  | .set i own e r, env => (evE F th e env).bind fun d => exS r (putAt env i (some (d, own && d.isL)))
  | .sets t e r, env => (evE F th e env).bind fun d => match asg t d env with
    | some env' => exS r env'
    | none => .stuck
  | .mset ts a r, env => (evE F th a env).bind fun x => match x with
    | .tup ds => if ds.length = ts.length then exS r (putAll env ts ds) else .stuck
    | _ => .stuck
  | .setix i a b r, env => (evE F th b env).bind fun y => (ownL env i).bind fun xs => (evE F th a env).bind fun k => match k with
    | .int k => if 0 ≤ k ∧ k < xs.length then exS r (putAt env i (some (.lst (xs.set k.toNat y), true))) else .stuck
    | _ => .stuck
  | .app i e r, env => (ownL env i).bind fun xs => (evE F th e env).bind fun d => if xs.length < LIM then exS r (putAt env i (some (.lst (xs ++ [d]), true))) else .stuck
  | .ext i e r, env => (ownL env i).bind fun xs => (evE F th e env).bind fun d => match d with
    | .lst ys => if xs.length + ys.length ≤ LIM then exS r (putAt env i (some (.lst (xs ++ ys), true))) else .stuck
    | _ => .stuck
  | .ins i a b r, env => (ownL env i).bind fun xs => (evE F th a env).bind fun k => (evE F th b env).bind fun d => match k with
    | .int k => if xs.length < LIM ∧ 0 ≤ k ∧ k < 2 ^ 62 then exS r (putAt env i (some (.lst (xs.take k.toNat ++ d :: xs.drop k.toNat), true))) else .stuck
    | _ => .stuck
  | .rem i e r, env => (ownL env i).bind fun xs => (evE F th e env).bind fun d => if D.fits 60 xs && D.fit 60 d then (match remD d xs with
    | some ys => exS r (putAt env i (some (.lst ys, true)))
    | none => .stuck) else .stuck
  | .apop i j e r, env => (ownL env i).bind fun xs => (ownL env j).bind fun ys => (evE F th e env).bind fun k => match k with
    | .int k => if 0 ≤ k ∧ k < 2 ^ 62 ∧ i ≠ j then (match ys[k.toNat]? with
      | some y => if xs.length < LIM then exS r (putAt (putAt env j (some (.lst (ys.eraseIdx k.toNat), true))) i (some (.lst (xs ++ [y]), true))) else .stuck
      | none => .stuck) else .stuck
    | _ => .stuck
  | .expr e r, env => (evE F th e env).bind fun _ => exS r env
  | .ite c a b r, env => (evE F th c env).bind fun x => match x with
    | .bl true => thenS (exS a env) (exS r)
    | .bl false => thenS (exS b env) (exS r)
    | _ => .stuck
  | .for_ w it t b r, env => (evE F th it env).bind fun x => (walkV w x).bind fun xs =>
      thenS (forL (fun x env => match asg t x env with
        | some env' => exS b env'
        | none => .stuck) xs env) (exS r)
  | .whl c b r, env => thenS (whlL (evE F th c) (exS b) LIM env) (exS r)
  | .ret e, env => (evE F th e env).bind fun d => .ok (env, .rt d)
  | .brk, env => .ok (env, .bk)
  | .cnt, env => .ok (env, .ct)
  | .raise c e, env => (evE F th e env).bind fun d => if d.pure then .exc c d else .stuck
  | .raise0 c, _ => .exc c .non
  | .try_ b h r, env => thenS (catchM (fun c d => exH h c d (calm (asgS b) env)) (exS b env)) (exS r)
  | .hand .., _ => .stuck
/-- the clauses of a try -/
def exH : S → Nat → D → Env → M (Env × Fl)
  | .hand k i b r, c, d, env => if subc c k then
      (M.nox (exS b (hold i c d env))).bind fun p => match p.2 with
        | .rt e => if e.pure then .ok (p.1, .rt e) else .stuck
        | f => .ok (gone i p.1, f)
    else exH r c d env
  | .done, c, d, _ => .exc c d
  | _, _, _, _ => .stuck
end
end

abbrev Tab := Nat → Option Fn
def enter (f : Fn) (ds : List D) : Env := ds.map (fun d => some (d, false)) ++ List.replicate (f.ns - f.np) none
def leave (m : M (Env × Fl)) : M D := m.bind fun p => match p.2 with
  | .rt d => .ok d
  | .nx => .ok .non
  | _ => .stuck
def run (T : Tab) : Nat → Nat → M D → List D → M D
  | 0, _, _, _ => .stuck
  | n + 1, i, th, ds => match T i with
    | some f => if ds.length = f.np then leave (exS (run T n) th f.body (enter f ds)) else .stuck
    | none => .stuck

/-- what holds of every way -/
def wp {α : Type} : M α → (α → Prop) → (Nat → D → Prop) → Prop
  | .ok a, Q, _ => Q a
  | .exc c d, _, E => E c d
  | .stuck, _, _ => False
  | .draw n k, Q, E => ∀ v, v < n → wp (k v) Q E
/-- the names behind the state's making -/
def lawEnv (ns : Nat) : Env := [none, some (.st, false)] ++ List.replicate (ns - 2) none
end Cl
set_option autoImplicit false
set_option Elab.async false
set_option linter.all false
set_option maxRecDepth 100000
set_option maxHeartbeats 2000000
/-! How the clean machine's values stand in the hand layer's heap. -/
namespace Cl
open PySem PySem.Spec PyProof.Rows L2

/-! ### data of the library -/
mutual
def toPy : D → PyData
  | .non => .none
  | .bl b => .bool b
  | .int i => .int i
  | .str x => .str x
  | .tup xs => .tuple (toPys xs)
  | .lst xs => .list (toPys xs)
  | _ => .none
def toPys : List D → List PyData
  | [] => []
  | x :: xs => toPy x :: toPys xs
end

/-- the thing that is called: where it stands, what stood frozen at its making, code objects, the state -/
structure Th where
  a : Addr
  bs : Hp
  cc : List (Addr × Str)
  sp : Addr × Bool
/-- addresses that are told apart: the functions, the state's dict and its two lists, the thing that is called, the caught error -/
structure Rp where
  fA : Nat → Addr
  sp : Addr × Bool
  sc : Addr
  sl : Addr
  th : Th
  ex : Addr
  xd : Option Addr
  xc : Nat

mutual
/-- v stands for d, over the part S of the heap that never changes -/
def Rep (K : PySem.W.Frag) (R : Rp) (S : Hp) : D → V → Prop
  | .non, v => v = .non
  | .bl b, v => v = .bl b
  | .int i, v => v = .int i
  | .str x, v => v = .str x
  | .rep d, v => v = .str (PyData.shown (toPy d))
  | .tup ds, v => ∃ a vs, v = .ref a ∧ SqT K S a vs ∧ RepL K R S ds vs
  | .lst ds, v => ∃ a vs, v = .ref a ∧ S a = some (.lst vs) ∧ RepL K R S ds vs
  | .fn i, v => v = .ref (R.fA i)
  | .st, v => v = .ref R.sp.1 ∧ R.sp.2 = true
  | .thk, v => v = .ref R.th.a ∧ Same R.th.bs S ∧ R.th.sp = R.sp
  | .exc c d, v => v = .ref R.ex ∧ c = R.xc ∧ ((fldOf c = none ∧ R.xd = none) ∨ ∃ f x u, fldOf c = some f ∧ R.xd = some x ∧ S x = some (.xd [(f, u)]) ∧ Rep K R S d u)
def RepL (K : PySem.W.Frag) (R : Rp) (S : Hp) : List D → List V → Prop
  | [], vs => vs = []
  | d :: ds, vs => ∃ v r, vs = v :: r ∧ Rep K R S d v ∧ RepL K R S ds r
end

theorem Rd.same {S S' : Hp} {a : Addr} {u : HO} (h : Same S S') (r : Rd S a u) : Rd S' a u := by
  rcases r with r | ⟨o, r⟩
  · exact .inl (h _ _ r)
  · exact .inr ⟨o, h _ _ r⟩
theorem SqT.same {K : PySem.W.Frag} {S S' : Hp} {a : Addr} {xs : List V} (h : Same S S') (r : SqT K S a xs) : SqT K S' a xs := by
  rcases r with r | r
  · exact .inl (Rd.same h r)
  · exact .inr r
theorem SqL.same {K : PySem.W.Frag} {S S' : Hp} {a : Addr} {xs : List V} (h : Same S S') (r : SqL K S a xs) : SqL K S' a xs := by
  rcases r with r | r
  · exact .inl (Rd.same h r)
  · exact .inr r

mutual
theorem Rep.same {K : PySem.W.Frag} {R : Rp} {S S' : Hp} (h : Same S S') : ∀ (d : D) (v : V), Rep K R S d v → Rep K R S' d v
  | .non, _, r => r
  | .bl _, _, r => r
  | .int _, _, r => r
  | .str _, _, r => r
  | .rep _, _, r => r
  | .fn _, _, r => r
  | .st, _, r => r
  | .thk, _, r => ⟨r.1, r.2.1.trans h, r.2.2⟩
  | .exc c d, v, r => by
    obtain ⟨r1, r2, r3⟩ := r
    refine ⟨r1, r2, r3.imp id fun ⟨f, x, u, e1, e2, e3, e4⟩ => ⟨f, x, u, e1, e2, h _ _ e3, Rep.same h d u e4⟩⟩
  | .tup ds, v, r => by
    obtain ⟨a, vs, e, s, q⟩ := r
    exact ⟨a, vs, e, SqT.same h s, RepL.same h ds vs q⟩
  | .lst ds, v, r => by
    obtain ⟨a, vs, e, s, q⟩ := r
    exact ⟨a, vs, e, h _ _ s, RepL.same h ds vs q⟩
theorem RepL.same {K : PySem.W.Frag} {R : Rp} {S S' : Hp} (h : Same S S') : ∀ (ds : List D) (vs : List V), RepL K R S ds vs → RepL K R S' ds vs
  | [], _, r => r
  | d :: ds, vs, r => by
    obtain ⟨v, q, e, x, y⟩ := r
    exact ⟨v, q, e, Rep.same h d v x, RepL.same h ds q y⟩
end
mutual
/-- pure values stand the same for another thing that is called, another caught error -/
theorem Rep.swap {K : PySem.W.Frag} {R R' : Rp} {S : Hp} (h1 : R.fA = R'.fA) (h2 : R.sp = R'.sp) : ∀ (d : D) (v : V), d.pure = true → Rep K R S d v → Rep K R' S d v
  | .non, _, _, r => r
  | .bl _, _, _, r => r
  | .int _, _, _, r => r
  | .str _, _, _, r => r
  | .rep _, _, _, r => r
  | .fn i, v, _, r => by
    show v = .ref (R'.fA i)
    rw [← h1]
    exact r
  | .st, v, _, r => by
    show v = .ref R'.sp.1 ∧ R'.sp.2 = true
    rw [← h2]
    exact r
  | .thk, _, p, _ => by simp [D.pure] at p
  | .exc _ _, _, p, _ => by simp [D.pure] at p
  | .tup ds, v, p, r => by
    obtain ⟨a, vs, e, s, q⟩ := r
    simp only [D.pure] at p
    exact ⟨a, vs, e, s, RepL.swap h1 h2 ds vs p q⟩
  | .lst ds, v, p, r => by
    obtain ⟨a, vs, e, s, q⟩ := r
    simp only [D.pure] at p
    exact ⟨a, vs, e, s, RepL.swap h1 h2 ds vs p q⟩
theorem RepL.swap {K : PySem.W.Frag} {R R' : Rp} {S : Hp} (h1 : R.fA = R'.fA) (h2 : R.sp = R'.sp) : ∀ (ds : List D) (vs : List V), D.pures ds = true → RepL K R S ds vs → RepL K R' S ds vs
  | [], _, _, r => r
  | d :: ds, vs, p, r => by
    obtain ⟨v, q, e, x, y⟩ := r
    simp only [D.pures, Bool.and_eq_true] at p
    exact ⟨v, q, e, Rep.swap h1 h2 d v p.1 x, RepL.swap h1 h2 ds q p.2 y⟩
end
theorem RepL.len {K : PySem.W.Frag} {R : Rp} {S : Hp} : ∀ {ds : List D} {vs : List V}, RepL K R S ds vs → vs.length = ds.length
  | [], _, r => by cases r; rfl
  | d :: ds, vs, r => by
    obtain ⟨v, q, e, x, y⟩ := r
    subst e
    simp [RepL.len y]
theorem RepL.app {K : PySem.W.Frag} {R : Rp} {S : Hp} : ∀ {ds es : List D} {vs us : List V}, RepL K R S ds vs → RepL K R S es us → RepL K R S (ds ++ es) (vs ++ us)
  | [], _, _, _, r, q => by cases r; exact q
  | d :: ds, es, vs, us, r, q => by
    obtain ⟨v, w, e, x, y⟩ := r
    subst e
    exact ⟨v, w ++ us, rfl, x, RepL.app y q⟩
theorem RepL.get {K : PySem.W.Frag} {R : Rp} {S : Hp} : ∀ {ds : List D} {vs : List V} {i : Nat} {d : D}, RepL K R S ds vs → ds[i]? = some d → ∃ v, vs[i]? = some v ∧ Rep K R S d v
  | [], _, _, _, _, h => by simp at h
  | d :: ds, vs, 0, _, r, h => by
    obtain ⟨v, q, e, x, y⟩ := r
    subst e
    simp at h
    subst h
    exact ⟨v, rfl, x⟩
  | d :: ds, vs, i + 1, _, r, h => by
    obtain ⟨v, q, e, x, y⟩ := r
    subst e
    simpa using RepL.get (i := i) y (by simpa using h)
theorem RepL.take {K : PySem.W.Frag} {R : Rp} {S : Hp} : ∀ {ds : List D} {vs : List V} (n : Nat), RepL K R S ds vs → RepL K R S (ds.take n) (vs.take n)
  | [], _, n, r => by cases r; cases n <;> exact rfl
  | _ :: _, _, 0, r => rfl
  | d :: ds, vs, n + 1, r => by
    obtain ⟨v, q, e, x, y⟩ := r
    subst e
    exact ⟨v, q.take n, rfl, x, RepL.take n y⟩
theorem RepL.drop {K : PySem.W.Frag} {R : Rp} {S : Hp} : ∀ {ds : List D} {vs : List V} (n : Nat), RepL K R S ds vs → RepL K R S (ds.drop n) (vs.drop n)
  | [], _, n, r => by cases r; cases n <;> exact rfl
  | _ :: _, _, 0, r => r
  | d :: ds, vs, n + 1, r => by
    obtain ⟨v, q, e, x, y⟩ := r
    subst e
    exact RepL.drop n y
theorem RepL.rev {K : PySem.W.Frag} {R : Rp} {S : Hp} : ∀ {ds : List D} {vs : List V}, RepL K R S ds vs → RepL K R S ds.reverse vs.reverse
  | [], _, r => by cases r; exact rfl
  | d :: ds, vs, r => by
    obtain ⟨v, q, e, x, y⟩ := r
    subst e
    rw [List.reverse_cons, List.reverse_cons]
    exact RepL.app (RepL.rev y) ⟨v, [], rfl, x, rfl⟩
theorem RepL.rep {K : PySem.W.Frag} {R : Rp} {S : Hp} {ds : List D} {vs : List V} (r : RepL K R S ds vs) : ∀ n : Nat, RepL K R S (List.replicate n ds).flatten (List.replicate n vs).flatten
  | 0 => rfl
  | n + 1 => by
    rw [List.replicate_succ, List.replicate_succ, List.flatten_cons, List.flatten_cons]
    exact RepL.app r (RepL.rep r n)
theorem RepL.set {K : PySem.W.Frag} {R : Rp} {S : Hp} {d : D} {v : V} (h : Rep K R S d v) : ∀ {ds : List D} {vs : List V} (n : Nat), RepL K R S ds vs → RepL K R S (ds.set n d) (vs.set n v)
  | [], _, n, r => by cases r; exact rfl
  | _ :: _, _, 0, r => by
    obtain ⟨u, q, e, x, y⟩ := r
    subst e
    exact ⟨v, q, rfl, h, y⟩
  | _ :: _, _, n + 1, r => by
    obtain ⟨u, q, e, x, y⟩ := r
    subst e
    exact ⟨u, q.set n v, rfl, x, RepL.set h n y⟩
theorem RepL.erase {K : PySem.W.Frag} {R : Rp} {S : Hp} : ∀ {ds : List D} {vs : List V} (n : Nat), RepL K R S ds vs → RepL K R S (ds.eraseIdx n) (vs.eraseIdx n)
  | [], _, n, r => by cases r; exact rfl
  | _ :: _, _, 0, r => by
    obtain ⟨u, q, e, x, y⟩ := r
    subst e
    exact y
  | _ :: _, _, n + 1, r => by
    obtain ⟨u, q, e, x, y⟩ := r
    subst e
    exact ⟨u, q.eraseIdx n, rfl, x, RepL.erase n y⟩

/-! ### data that fit -/
mutual
theorem fit_dp {K : PySem.W.Frag} {R : Rp} {S : Hp} : ∀ (d : D) (n : Nat) (v : V), D.fit n d = true → Rep K R S d v → Dp K S v (toPy d)
  | .non, n, v, _, r => by cases r; exact .non
  | .bl b, n, v, _, r => by cases r; exact .bl b
  | .int i, n, v, _, r => by cases r; exact .int i
  | .str x, n, v, _, r => by cases r; exact .str x
  | .tup ds, 0, v, f, _ => by simp [D.fit] at f
  | .tup ds, n + 1, v, f, r => by
    obtain ⟨a, vs, e, s, q⟩ := r
    subst e
    simp only [D.fit] at f
    exact .tup s (fits_dp ds n vs f q)
  | .lst ds, 0, v, f, _ => by simp [D.fit] at f
  | .lst ds, n + 1, v, f, r => by
    obtain ⟨a, vs, e, s, q⟩ := r
    subst e
    simp only [D.fit] at f
    exact .lst (.inl (.inl s)) (fits_dp ds n vs f q)
  | .rep _, n, v, f, _ => by cases n <;> simp [D.fit] at f
  | .fn _, n, v, f, _ => by cases n <;> simp [D.fit] at f
  | .st, n, v, f, _ => by cases n <;> simp [D.fit] at f
  | .thk, n, v, f, _ => by cases n <;> simp [D.fit] at f
  | .exc _ _, n, v, f, _ => by cases n <;> simp [D.fit] at f
theorem fits_dp {K : PySem.W.Frag} {R : Rp} {S : Hp} : ∀ (ds : List D) (n : Nat) (vs : List V), D.fits n ds = true → RepL K R S ds vs → DpAll K S vs (toPys ds)
  | [], n, vs, _, r => by cases r; exact .nil
  | d :: ds, n, vs, f, r => by
    obtain ⟨v, q, e, x, y⟩ := r
    subst e
    simp only [D.fits, Bool.and_eq_true] at f
    exact .cons (fit_dp d n v f.1 x) (fits_dp ds n q f.2 y)
end
mutual
theorem fit_depth : ∀ (d : D) (n : Nat), D.fit n d = true → PyData.depth (toPy d) ≤ n ∧ PyData.canLay0 (toPy d) = true ∧ PyData.hasDict (toPy d) = false
  | .non, n, _ => by simp [toPy, PyData.depth, PyData.canLay0, PyData.hasDict]
  | .bl b, n, _ => by simp [toPy, PyData.depth, PyData.canLay0, PyData.hasDict]
  | .int i, n, _ => by simp [toPy, PyData.depth, PyData.canLay0, PyData.hasDict]
  | .str x, n, f => by
    have f' : x.cps.all (· < 1114112) = true := by cases n <;> simpa [D.fit] using f
    exact ⟨by simp [toPy, PyData.depth], by simpa [toPy, PyData.canLay0, PyData.strOk] using f', by simp [toPy, PyData.hasDict]⟩
  | .tup ds, 0, f => by simp [D.fit] at f
  | .tup ds, n + 1, f => by
    simp only [D.fit] at f
    obtain ⟨a, b, c⟩ := fits_depth ds n f
    simp only [toPy, PyData.depth, PyData.canLay0, PyData.hasDict]
    exact ⟨by omega, b, c⟩
  | .lst ds, 0, f => by simp [D.fit] at f
  | .lst ds, n + 1, f => by
    simp only [D.fit] at f
    obtain ⟨a, b, c⟩ := fits_depth ds n f
    simp only [toPy, PyData.depth, PyData.canLay0, PyData.hasDict]
    exact ⟨by omega, b, c⟩
  | .rep _, n, f => by cases n <;> simp [D.fit] at f
  | .fn _, n, f => by cases n <;> simp [D.fit] at f
  | .st, n, f => by cases n <;> simp [D.fit] at f
  | .thk, n, f => by cases n <;> simp [D.fit] at f
  | .exc _ _, n, f => by cases n <;> simp [D.fit] at f
theorem fits_depth : ∀ (ds : List D) (n : Nat), D.fits n ds = true → PyData.depthAll (toPys ds) ≤ n ∧ PyData.canLayAll0 (toPys ds) = true ∧ PyData.hasDictAll (toPys ds) = false
  | [], n, _ => by simp [toPys, PyData.depthAll, PyData.canLayAll0, PyData.hasDictAll]
  | d :: ds, n, f => by
    simp only [D.fits, Bool.and_eq_true] at f
    obtain ⟨a, b, c⟩ := fit_depth d n f.1
    obtain ⟨a', b', c'⟩ := fits_depth ds n f.2
    simp only [toPys, PyData.depthAll, PyData.canLayAll0, PyData.hasDictAll, b, b', c, c', Bool.and_true, Bool.or_false, and_true]
    omega
end
theorem fit_shaped {d : D} {n : Nat} (f : D.fit n d = true) (hn : n ≤ 64) : SeqAt.shaped (toPy d) = true := by
  obtain ⟨a, b, _⟩ := fit_depth d n f
  show ((toPy d).canLay0 && decide ((toPy d).depth ≤ 64)) = true
  rw [b, Bool.true_and]
  exact decide_eq_true (by omega)
mutual
theorem fit_eqv : ∀ (a b : D) (n m : Nat), D.fit n a = true → D.fit m b = true → PyData.eqv (toPy a) (toPy b) = D.eqv a b
  | .non, b, n, m, _, fb => by cases b <;> first | (cases m <;> simp [D.fit] at fb; done) | simp [toPy, PyData.eqv, D.eqv]
  | .bl x, b, n, m, _, fb => by cases b <;> first | (cases m <;> simp [D.fit] at fb; done) | (simp [toPy, PyData.eqv, D.eqv, b2i, Bool.beq_eq_decide_eq]; done) | (simp [toPy, PyData.eqv, D.eqv, b2i, Bool.beq_eq_decide_eq]; exact decide_eq_decide.mpr Iff.rfl)
  | .int x, b, n, m, _, fb => by cases b <;> first | (cases m <;> simp [D.fit] at fb; done) | (simp [toPy, PyData.eqv, D.eqv, b2i, Bool.beq_eq_decide_eq]; done) | (simp [toPy, PyData.eqv, D.eqv, b2i, Bool.beq_eq_decide_eq]; exact decide_eq_decide.mpr Iff.rfl)
  | .str x, b, n, m, _, fb => by cases b <;> first | (cases m <;> simp [D.fit] at fb; done) | simp [toPy, PyData.eqv, D.eqv, Bool.beq_eq_decide_eq]
  | .tup xs, b, n, m, fa, fb => by
    cases n with
    | zero => simp [D.fit] at fa
    | succ n =>
      cases b with
      | tup ys =>
        cases m with
        | zero => simp [D.fit] at fb
        | succ m =>
          simp only [D.fit] at fa fb
          simp only [toPy, PyData.eqv, D.eqv]
          exact fits_eqv xs ys n m fa fb
      | _ => first | (cases m <;> simp [D.fit] at fb; done) | simp [toPy, PyData.eqv, D.eqv]
  | .lst xs, b, n, m, fa, fb => by
    cases n with
    | zero => simp [D.fit] at fa
    | succ n =>
      cases b with
      | lst ys =>
        cases m with
        | zero => simp [D.fit] at fb
        | succ m =>
          simp only [D.fit] at fa fb
          simp only [toPy, PyData.eqv, D.eqv]
          exact fits_eqv xs ys n m fa fb
      | _ => first | (cases m <;> simp [D.fit] at fb; done) | simp [toPy, PyData.eqv, D.eqv]
  | .rep _, _, n, _, f, _ => by cases n <;> simp [D.fit] at f
  | .fn _, _, n, _, f, _ => by cases n <;> simp [D.fit] at f
  | .st, _, n, _, f, _ => by cases n <;> simp [D.fit] at f
  | .thk, _, n, _, f, _ => by cases n <;> simp [D.fit] at f
  | .exc _ _, _, n, _, f, _ => by cases n <;> simp [D.fit] at f
theorem fits_eqv : ∀ (as bs : List D) (n m : Nat), D.fits n as = true → D.fits m bs = true → PyData.eqvAll (toPys as) (toPys bs) = D.eqvs as bs
  | [], [], _, _, _, _ => by simp [toPys, PyData.eqvAll, D.eqvs]
  | [], _ :: _, _, _, _, _ => by simp [toPys, PyData.eqvAll, D.eqvs]
  | _ :: _, [], _, _, _, _ => by simp [toPys, PyData.eqvAll, D.eqvs]
  | a :: as, b :: bs, n, m, fa, fb => by
    simp only [D.fits, Bool.and_eq_true] at fa fb
    simp only [toPys, PyData.eqvAll, D.eqvs, fit_eqv a b n m fa.1 fb.1, fits_eqv as bs n m fa.2 fb.2]
end
end Cl
set_option autoImplicit false
set_option Elab.async false
set_option linter.all false
set_option maxRecDepth 100000
set_option maxHeartbeats 2000000
/-! The heap as a clean run sees it: what never changes (S), what may (H), the names, the growth. -/
namespace Cl
open PySem PySem.Spec PyProof.Rows L2

/-- what is fixed for a law's text -/
structure Gl0 where
  P : Program
  w : World
  K : PySem.W.Frag
  mg : Str → Option Value
  base : Heap
  T : Tab
  /-- tables of code objects -/
  tabs : List (Addr × Str)
  /-- the functions, the classes, the constants by name -/
  fl : List (Str × Nat)
  cl : List (Str × Nat)
  gl : List (Str × D)
  /-- how defs are called by names: the def, the number of plain arguments, the names, the order -/
  kl : List (Nat × Nat × List Str × List Nat) := []
  fA : Nat → Addr
  cA : Nat → Addr

def Rp.st (R : Rp) (a : Addr) : Prop := R.sp.2 = true ∧ (a = R.sp.1 ∨ a = R.sc ∨ a = R.sl)
def keyS (s : Str) : Key := Sum.inr s
/-- the number of draws is at most this -/
def BIG : Nat := 2 ^ 100000
def BITS : Nat := 2 ^ 2000000
structure Sta where
  cells : List Int
  lefts : List Int
  at_ : Int
/-- the state of the draws -/
structure StOk (R : Rp) (H : Hp) (b : Nat) : Prop where
  ex : R.sp.2 = true → ∃ z : Sta, H R.sp.1 = some (.dK [(keyS "cells", .ref R.sc), (keyS "lefts", .ref R.sl), (keyS "at", .int z.at_)]) ∧ H R.sc = some (.lst (z.cells.map V.int)) ∧ H R.sl = some (.lst (z.lefts.map V.int)) ∧
    z.cells.length = z.lefts.length ∧ 0 < z.cells.length ∧ z.cells.length ≤ 1000 ∧ (∀ c ∈ z.cells, c.natAbs < BITS) ∧ (∀ c ∈ z.lefts, 0 ≤ c ∧ c.natAbs < BITS) ∧ 0 ≤ z.at_ ∧ z.at_ ≤ b
  ne : R.sp.2 = true → R.sc ≠ R.sl

/-- tables of code objects; code objects -/
structure Tabs2 (T C : List (Addr × Str)) (H : Hp) : Prop where
  t : LamX.Tabs T H
  c : ∀ p ∈ C, H p.1 = some (LamX.CodeO p.1 p.2)
/-- S: what is read and never changed -/
structure Wd (G : Gl0) (R : Rp) (S H : Hp) (b : Nat) : Prop where
  sub : Same S H
  nst : ∀ a, R.st a → S a = none
  ntb : ∀ a ps, S a ≠ some (.tbl ps)
  st : StOk R H b
  tb : Tabs2 G.tabs R.th.cc H

/-- from (S, H) on to (S', H') -/
structure Gr (R : Rp) (S H S' H' : Hp) : Prop where
  ss : Same S S'
  hh : ∀ a o, H a = some o → ¬ R.st a → (∀ ps, o ≠ .tbl ps) → H' a = some o
  fr : ∀ a o, H a = some o → S' a = S a
  dom : ∀ a o, H a = some o → ∃ o', H' a = some o'
theorem Gr.refl (R : Rp) (S H : Hp) : Gr R S H S H := ⟨Same.refl S, fun _ _ h _ _ => h, fun _ _ _ => rfl, fun _ o h => ⟨o, h⟩⟩
theorem Gr.trans {R : Rp} {S H S1 H1 S2 H2 : Hp} (a : Gr R S H S1 H1) (b : Gr R S1 H1 S2 H2) : Gr R S H S2 H2 where
  ss := a.ss.trans b.ss
  hh := fun c o h n m => b.hh c o (a.hh c o h n m) n m
  fr := fun c o h => by
    obtain ⟨o', h'⟩ := a.dom c o h
    rw [b.fr c o' h', a.fr c o h]
  dom := fun c o h => by
    obtain ⟨o', h'⟩ := a.dom c o h
    exact b.dom c o' h'

/-- an expression's value: frozen, new (a list that nobody else has), or read off a name -/
inductive Md where
  | f | o | b
  deriving DecidableEq
/-- a list that may still be changed: its items are frozen -/
def Top (G : Gl0) (R : Rp) (S H : Hp) (d : D) (v : V) : Prop := ∃ ds a vs, d = .lst ds ∧ v = .ref a ∧ S a = none ∧ H a = some (.lst vs) ∧ ¬ R.st a ∧ RepL G.K R S ds vs
def VR (G : Gl0) (R : Rp) (H0 S H : Hp) : Md → D → V → Prop
  | .f, d, v => Rep G.K R S d v
  | .o, d, v => (d.isL = false ∧ Rep G.K R S d v) ∨ ∃ ds a vs, d = .lst ds ∧ v = .ref a ∧ S a = none ∧ H a = some (.lst vs) ∧ ¬ R.st a ∧ RepL G.K R S ds vs ∧ H0 a = none
  | .b, d, v => Rep G.K R S d v ∨ Top G R S H d v
theorem VR.b {G : Gl0} {R : Rp} {H0 S H : Hp} {m : Md} {d : D} {v : V} (h : VR G R H0 S H m d v) : Rep G.K R S d v ∨ Top G R S H d v := by
  cases m with
  | f => exact .inl h
  | b => exact h
  | o =>
    rcases h with h | ⟨ds, a, vs, h1, h2, h3, h4, h5, h6, _⟩
    · exact .inl h.2
    · exact .inr ⟨ds, a, vs, h1, h2, h3, h4, h5, h6⟩
theorem Top.step {G : Gl0} {R : Rp} {S H S' H' : Hp} {d : D} {v : V} (g : Gr R S H S' H') (h : Top G R S H d v) : Top G R S' H' d v := by
  obtain ⟨ds, a, vs, h1, h2, h3, h4, h5, h6⟩ := h
  exact ⟨ds, a, vs, h1, h2, (g.fr a _ h4).trans h3, g.hh a _ h4 h5 (fun _ e => by cases e), h5, RepL.same g.ss _ _ h6⟩
theorem VR.step {G : Gl0} {R : Rp} {H0 S H S' H' : Hp} {m : Md} {d : D} {v : V} (g : Gr R S H S' H') (h : VR G R H0 S H m d v) : VR G R H0 S' H' m d v := by
  cases m with
  | f => exact Rep.same g.ss _ _ h
  | b =>
    rcases h with h | h
    · exact .inl (Rep.same g.ss _ _ h)
    · exact .inr (h.step g)
  | o =>
    rcases h with h | ⟨ds, a, vs, h1, h2, h3, h4, h5, h6, h7⟩
    · exact .inl ⟨h.1, Rep.same g.ss _ _ h.2⟩
    · exact .inr ⟨ds, a, vs, h1, h2, (g.fr a _ h4).trans h3, g.hh a _ h4 h5 (fun _ e => by cases e), h5, RepL.same g.ss _ _ h6, h7⟩
/-- frozen items of a tuple or list that is read -/
theorem VR.tup {G : Gl0} {R : Rp} {H0 S H : Hp} {m : Md} {ds : List D} {v : V} (h : VR G R H0 S H m (.tup ds) v) : ∃ a vs, v = .ref a ∧ SqT G.K S a vs ∧ RepL G.K R S ds vs := by
  rcases h.b with h | ⟨es, a, vs, h1, _⟩
  · exact h
  · cases h1
theorem VR.lst {G : Gl0} {R : Rp} {H0 S H : Hp} {m : Md} {ds : List D} {v : V} (hs : Same S H) (h : VR G R H0 S H m (.lst ds) v) : ∃ a vs, v = .ref a ∧ H a = some (.lst vs) ∧ RepL G.K R S ds vs := by
  rcases h.b with h | ⟨es, a, vs, h1, h2, h3, h4, h5, h6⟩
  · obtain ⟨a, vs, e, s, q⟩ := h
    exact ⟨a, vs, e, hs _ _ s, q⟩
  · cases h1
    exact ⟨a, vs, h2, h4, h6⟩
theorem VR.int {G : Gl0} {R : Rp} {H0 S H : Hp} {m : Md} {i : Int} {v : V} (h : VR G R H0 S H m (.int i) v) : v = .int i := by
  rcases h.b with h | ⟨es, a, vs, h1, _⟩
  · exact h
  · cases h1
theorem VR.bl {G : Gl0} {R : Rp} {H0 S H : Hp} {m : Md} {i : Bool} {v : V} (h : VR G R H0 S H m (.bl i) v) : v = .bl i := by
  rcases h.b with h | ⟨es, a, vs, h1, _⟩
  · exact h
  · cases h1
theorem VR.non {G : Gl0} {R : Rp} {H0 S H : Hp} {m : Md} {v : V} (h : VR G R H0 S H m .non v) : v = .non := by
  rcases h.b with h | ⟨es, a, vs, h1, _⟩
  · exact h
  · cases h1
/-- data that fit are data of the library, read in H -/
theorem VR.dp {G : Gl0} {R : Rp} {H0 S H : Hp} {m : Md} {d : D} {v : V} {n : Nat} (hs : Same S H) (h : VR G R H0 S H m d v) (f : D.fit n d = true) : Dp G.K H v (toPy d) := by
  rcases h.b with h | ⟨ds, a, vs, h1, h2, h3, h4, h5, h6⟩
  · exact fit_dp d n v f (Rep.same hs _ _ h)
  · subst h1 h2
    cases n with
    | zero => simp [D.fit] at f
    | succ n =>
      simp only [D.fit] at f
      exact .lst (.inl (.inl h4)) (fits_dp ds n vs f (RepL.same hs _ _ h6))
/-- a value that is no list is frozen -/
theorem VR.frozen {G : Gl0} {R : Rp} {H0 S H : Hp} {m : Md} {d : D} {v : V} (h : VR G R H0 S H m d v) (n : d.isL = false) : Rep G.K R S d v := by
  rcases h.b with h | ⟨es, a, vs, h1, _⟩
  · exact h
  · rw [h1] at n
    cases n

/-- the names -/
structure Ev (G : Gl0) (R : Rp) (H0 : Hp) (ρ : Env) (σ : L2.St) (S H : Hp) : Prop where
  len : σ.length = ρ.length
  frz : ∀ i d, ρ.at i = some (d, false) → ∃ v, σ[i]? = some (some v) ∧ Rep G.K R S d v
  own : ∀ i d, ρ.at i = some (d, true) → ∃ ds a vs, d = .lst ds ∧ σ[i]? = some (some (.ref a)) ∧ S a = none ∧ H a = some (.lst vs) ∧ ¬ R.st a ∧ RepL G.K R S ds vs ∧ H0 a = none
  dst : ∀ i j d e a, ρ.at i = some (d, true) → ρ.at j = some (e, true) → σ[i]? = some (some (.ref a)) → σ[j]? = some (some (.ref a)) → i = j
  dom : ∀ a o, H0 a = some o → ∃ o', H a = some o'
theorem Ev.step {G : Gl0} {R : Rp} {H0 : Hp} {ρ : Env} {σ : L2.St} {S H S' H' : Hp} (g : Gr R S H S' H') (h : Ev G R H0 ρ σ S H) : Ev G R H0 ρ σ S' H' where
  len := h.len
  frz := fun i d e => by
    obtain ⟨v, a, b⟩ := h.frz i d e
    exact ⟨v, a, Rep.same g.ss _ _ b⟩
  own := fun i d e => by
    obtain ⟨ds, a, vs, h1, h2, h3, h4, h5, h6, h7⟩ := h.own i d e
    exact ⟨ds, a, vs, h1, h2, (g.fr a _ h4).trans h3, g.hh a _ h4 h5 (fun _ z => by cases z), h5, RepL.same g.ss _ _ h6, h7⟩
  dst := h.dst
  dom := fun a o e => by
    obtain ⟨o', q⟩ := h.dom a o e
    exact g.dom a o' q

/-! ### the bare run: S grows by new frozen objects -/
section
variable {G : Gl0} {R : Rp} {S H : Hp} {b : Nat}
theorem Wd.stS (w : Wd G R S H b) {a : Addr} (h : R.st a) : ∃ o, H a = some o := by
  obtain ⟨on, h⟩ := h
  obtain ⟨z, h1, h2, h3, _⟩ := w.st.ex on
  rcases h with rfl | rfl | rfl
  · exact ⟨_, h1⟩
  · exact ⟨_, h2⟩
  · exact ⟨_, h3⟩
theorem Wd.nstOf (w : Wd G R S H b) {a : Addr} (h : H a = none) : ¬ R.st a := fun z => by
  obtain ⟨o, e⟩ := w.stS z
  rw [h] at e
  cases e
theorem StOk.upd (h : StOk R H b) {p : Addr} {o : HO} (n : H p = none) : StOk R (upd H p o) b := by
  refine ⟨fun on => ?_, h.ne⟩
  obtain ⟨z, h1, h2, h3, r⟩ := h.ex on
  exact ⟨z, by rw [upd_ne (ne_of_none h1 n)]; exact h1, by rw [upd_ne (ne_of_none h2 n)]; exact h2, by rw [upd_ne (ne_of_none h3 n)]; exact h3, r⟩
theorem tabs_upd {T C : List (Addr × Str)} (h : Tabs2 T C H) {p : Addr} {o : HO} (n : H p = none) : Tabs2 T C (upd H p o) :=
  ⟨h.t.ext fun c u e => (by rw [upd_ne (ne_of_none e n)]; exact e), fun q hq => by rw [upd_ne (ne_of_none (h.c q hq) n)]; exact h.c q hq⟩
theorem same_upd {H : Hp} {p : Addr} {o : HO} (n : H p = none) : Same H (upd H p o) := fun c u e => by
  rw [upd_ne (ne_of_none e n)]
  exact e
theorem gr_upd {S H : Hp} {p : Addr} {o : HO} (n : H p = none) : Gr R S H S (upd H p o) :=
  ⟨Same.refl S, fun a u e _ _ => same_upd n a u e, fun _ _ _ => rfl, fun a u e => ⟨u, same_upd n a u e⟩⟩
/-- a new object, not frozen -/
theorem Wd.new (w : Wd G R S H b) {p : Addr} {o : HO} (n : H p = none) : Wd G R S (upd H p o) b :=
  ⟨w.sub.trans (same_upd n), w.nst, w.ntb, w.st.upd n, tabs_upd w.tb n⟩
/-- .. frozen at once -/
theorem Wd.newF (w : Wd G R S H b) {p : Addr} {o : HO} (n : H p = none) (ho : ∀ ps, o ≠ .tbl ps) : Wd G R (upd S p o) (upd H p o) b where
  sub := fun a u e => by
    by_cases h : a = p
    · subst h
      rw [upd_same] at e ⊢
      exact e
    · rw [upd_ne h] at e ⊢
      exact w.sub a u e
  nst := fun a h => by
    have : a ≠ p := fun e => w.nstOf n (e ▸ h)
    rw [upd_ne this]
    exact w.nst a h
  ntb := fun a ps e => by
    by_cases h : a = p
    · subst h
      rw [upd_same] at e
      exact ho ps (Option.some.inj e)
    · rw [upd_ne h] at e
      exact w.ntb a ps e
  st := w.st.upd n
  tb := tabs_upd w.tb n
theorem gr_updF {S H : Hp} {p : Addr} {o : HO} (n : H p = none) (hs : Same S H) : Gr R S H (upd S p o) (upd H p o) where
  ss := same_upd (by
    cases e : S p with
    | none => rfl
    | some u =>
      have := hs p u e
      rw [n] at this
      cases this)
  hh := fun a u e _ _ => same_upd n a u e
  fr := fun a u e => by rw [upd_ne (ne_of_none e n)]
  dom := fun a u e => ⟨u, same_upd n a u e⟩
/-- a list that is nobody's is frozen -/
theorem Wd.freeze (w : Wd G R S H b) {a : Addr} {vs : List V} (h : H a = some (.lst vs)) (n : ¬ R.st a) : Wd G R (upd S a (.lst vs)) H b where
  sub := fun c u e => by
    by_cases q : c = a
    · subst q
      rw [upd_same] at e
      rw [h, e]
    · rw [upd_ne q] at e
      exact w.sub c u e
  nst := fun c q => by
    have : c ≠ a := fun e => n (e ▸ q)
    rw [upd_ne this]
    exact w.nst c q
  ntb := fun c ps e => by
    by_cases q : c = a
    · subst q
      rw [upd_same] at e
      cases e
    · rw [upd_ne q] at e
      exact w.ntb c ps e
  st := w.st
  tb := w.tb
theorem same_updS {S : Hp} {p : Addr} {o : HO} (n : S p = none) : Same S (upd S p o) := same_upd n
end
end Cl
set_option autoImplicit false
set_option Elab.async false
set_option linter.all false
set_option maxRecDepth 100000
set_option maxHeartbeats 2000000
/-! What a clean expression tells of a Python expression: the readings. -/
namespace Cl
open PySem PySem.Spec PyProof.Rows L2

/-! ### wp -/
theorem wp_bind {α β : Type} {Q : β → Prop} {E : Nat → D → Prop} : ∀ {m : M α} {f : α → M β}, wp (m.bind f) Q E → wp m (fun a => wp (f a) Q E) E
  | .ok _, _, h => h
  | .exc _ _, _, h => h
  | .stuck, _, h => h
  | .draw n k, f, h => fun v hv => wp_bind (m := k v) (h v hv)
theorem wp_bind' {α β : Type} {Q : β → Prop} {E : Nat → D → Prop} : ∀ {m : M α} {f : α → M β}, wp m (fun a => wp (f a) Q E) E → wp (m.bind f) Q E
  | .ok _, _, h => h
  | .exc _ _, _, h => h
  | .stuck, _, h => h
  | .draw n k, f, h => fun v hv => wp_bind' (m := k v) (h v hv)
theorem wp_mono {α : Type} {Q Q' : α → Prop} {E E' : Nat → D → Prop} (hQ : ∀ a, Q a → Q' a) (hE : ∀ c d, E c d → E' c d) : ∀ {m : M α}, wp m Q E → wp m Q' E'
  | .ok _, h => hQ _ h
  | .exc _ _, h => hE _ _ h
  | .stuck, h => h
  | .draw n k, h => fun v hv => wp_mono hQ hE (m := k v) (h v hv)
theorem wp_nox {α : Type} {Q : α → Prop} {E E' : Nat → D → Prop} : ∀ {m : M α}, wp (M.nox m) Q E → wp m Q E'
  | .ok _, h => h
  | .exc _ _, h => h.elim
  | .stuck, h => h.elim
  | .draw n k, h => fun v hv => wp_nox (m := k v) (h v hv)

theorem bind_assoc {α β γ : Type} {f : α → M β} {g : β → M γ} : ∀ m : M α, (m.bind f).bind g = m.bind fun x => (f x).bind g
  | .ok _ => rfl
  | .exc _ _ => rfl
  | .stuck => rfl
  | .draw n k => by
    show M.draw n (fun v => ((k v).bind f).bind g) = M.draw n (fun v => (k v).bind fun x => (f x).bind g)
    exact congrArg (M.draw n) (funext fun v => bind_assoc (k v))
/-! ### how many draws at most -/
section
variable (k : Nat) (kh : Nat → Nat) (t : Nat)
def wgt : E → Nat
  | .cons a r => wgt a + wgt r
  | .list a => wgt a
  | .frz a => wgt a
  | .bin _ a b => wgt a + wgt b
  | .neg a => wgt a
  | .cmp _ a b => wgt a + wgt b
  | .chain _ _ a b c => wgt a + wgt b + wgt c
  | .not a => wgt a
  | .and a b => wgt a + wgt b
  | .or a b => wgt a + wgt b
  | .ite c a b => wgt c + wgt a + wgt b
  | .idx a b => wgt a + wgt b
  | .slc a l h => wgt a + wgt l + wgt h
  | .rev a => wgt a
  | .call _ a => wgt a + k
  | .callk _ _ a b => wgt a + wgt b + k
  | .callv _ a => wgt a + k
  | .heard _ b => kh (wgt b)
  | .force _ => t
  | .prim _ a => wgt a
  | .meth _ a b => wgt a + wgt b
  | .comp _ _ it _ c e => wgt it + LIM * (wgt c + wgt e)
  | .comp2 _ _ it _ c _ _ it1 _ c1 e => wgt it + LIM * (wgt c + wgt it1 + LIM * (wgt c1 + wgt e))
  | .draw a b => wgt a + wgt b + 1
  | _ => 0
end

/-- where an expression is run: the functions, the thing that is called, the weights, the two addresses, the wish of errors -/
structure Lv where
  F : Nat → M D → List D → M D
  tm : M D
  k : Nat
  kh : Nat → Nat
  t : Nat
  th : Th
  ea : Addr
  xd : Option Addr
  xc : Nat
  W : WX

def md : E → Md
  | .bor _ => .b
  | .list _ => .o
  | .bin .add _ _ => .o
  | .bin .mul _ _ => .o
  | .slc _ _ _ => .o
  | .rev _ => .o
  | .ite _ a _ => md a
  | .prim .list _ => .o
  | .prim .sorted _ => .o
  | .prim .listRange _ => .o
  | .prim .sortedSet _ => .o
  | .comp .. => .o
  | .comp2 .. => .o
  | _ => .f
def mds : E → List Md
  | .cons a r => md a :: mds r
  | _ => []

def ExcAt (G : Gl0) (R : Rp) (S H : Hp) (c : Nat) (d : D) (dx : Option Addr) : Prop := d.pure = true ∧ (∃ x, G.cl.lookup x = some c) ∧
  match fldOf c with
  | none => dx = none
  | some f => ∃ x v, dx = some x ∧ S x = some (.xd [(f, v)]) ∧ Rep G.K R S d v

/-- the state ahead -/
structure Here (G : Gl0) (L : Lv) (R : Rp) (ρ : Env) (σ : L2.St) (H0 S H : Hp) (b : Nat) : Prop where
  fA : R.fA = G.fA
  th : R.th = L.th
  ex : R.ex = L.ea ∧ R.xd = L.xd ∧ R.xc = L.xc
  wd : Wd G R S H b
  ev : Ev G R H0 ρ σ S H
/-- behind: the state has grown -/
structure Behind (G : Gl0) (R : Rp) (S H : Hp) (b w : Nat) (S' H' : Hp) (b' : Nat) : Prop where
  gr : Gr R S H S' H'
  wd : Wd G R S' H' b'
  le : b' ≤ b + w
theorem Here.step {G : Gl0} {L : Lv} {R : Rp} {ρ : Env} {σ : L2.St} {H0 S H S' H' : Hp} {b w b' : Nat} (h : Here G L R ρ σ H0 S H b) (q : Behind G R S H b w S' H' b') : Here G L R ρ σ H0 S' H' b' :=
  ⟨h.fA, h.th, h.ex, q.wd, h.ev.step q.gr⟩
theorem Behind.refl {G : Gl0} {R : Rp} {S H : Hp} {b w : Nat} (h : Wd G R S H b) : Behind G R S H b w S H b := ⟨Gr.refl R S H, h, by omega⟩
theorem Behind.trans {G : Gl0} {R : Rp} {S H S1 H1 S2 H2 : Hp} {b w b1 w1 b2 : Nat} (x : Behind G R S H b w S1 H1 b1) (y : Behind G R S1 H1 b1 w1 S2 H2 b2) : Behind G R S H b (w + w1) S2 H2 b2 :=
  ⟨x.gr.trans y.gr, y.wd, by have := x.le; have := y.le; omega⟩
theorem Behind.more {G : Gl0} {R : Rp} {S H S1 H1 : Hp} {b w w' b1 : Nat} (x : Behind G R S H b w S1 H1 b1) (h : w ≤ w') : Behind G R S H b w' S1 H1 b1 :=
  ⟨x.gr, x.wd, by have := x.le; omega⟩

/-- rows of values -/
inductive VRs (G : Gl0) (R : Rp) (S H : Hp) : Hp → List Md → List D → List V → Prop
  | nil {H0 : Hp} : VRs G R S H H0 [] [] []
  | cons {H0 H1 : Hp} {m : Md} {ms : List Md} {d : D} {ds : List D} {v : V} {vs : List V} (h : VR G R H0 S H m d v) (f : ∀ a o, H0 a = some o → ∃ o', H1 a = some o') (n : ∀ a, v = .ref a → m = .o → d.isL = true → ∃ o, H1 a = some o)
      (r : VRs G R S H H1 ms ds vs) : VRs G R S H H0 (m :: ms) (d :: ds) (v :: vs)
theorem VRs.step {G : Gl0} {R : Rp} {H0 S H S' H' : Hp} (g : Gr R S H S' H') {ms : List Md} {ds : List D} {vs : List V} (h : VRs G R S H H0 ms ds vs) : VRs G R S' H' H0 ms ds vs := by
  induction h with
  | nil => exact .nil
  | cons h f n r ih => exact .cons (h.step g) f n ih
theorem VRs.len {G : Gl0} {R : Rp} {H0 S H : Hp} {ms : List Md} {ds : List D} {vs : List V} (h : VRs G R S H H0 ms ds vs) : vs.length = ds.length := by
  induction h with
  | nil => rfl
  | cons h f n r ih => simp [ih]
theorem VRs.frozen {G : Gl0} {R : Rp} {H0 S H : Hp} {ms : List Md} {ds : List D} {vs : List V} (h : VRs G R S H H0 ms ds vs) (hm : ∀ m ∈ ms, m = .f) : RepL G.K R S ds vs := by
  induction h with
  | nil => exact rfl
  | cons h f n r ih =>
    have e := hm _ List.mem_cons_self
    subst e
    exact ⟨_, _, rfl, h, ih fun m q => hm m (List.mem_cons_of_mem _ q)⟩
theorem VRs.one {G : Gl0} {R : Rp} {H0 S H : Hp} {ms : List Md} {d : D} {vs : List V} (h : VRs G R S H H0 ms [d] vs) : ∃ v m, vs = [v] ∧ VR G R H0 S H m d v := by
  cases h with
  | cons h f n r =>
    cases r
    exact ⟨_, _, rfl, h⟩
theorem VRs.two {G : Gl0} {R : Rp} {H0 S H : Hp} {ms : List Md} {d e : D} {vs : List V} (h : VRs G R S H H0 ms [d, e] vs) : ∃ v u m m' H1, vs = [v, u] ∧ VR G R H0 S H m d v ∧ VR G R H1 S H m' e u := by
  cases h with
  | cons h f n r =>
    cases r with
    | cons h' f' n' r' =>
      cases r'
      exact ⟨_, _, _, _, _, rfl, h, h'⟩

/-- what is wished of an error -/
def wishX (G : Gl0) (L : Lv) (R : Rp) (σ : L2.St) (S H : Hp) (b w : Nat) : Nat → D → Prop := fun c d =>
  ∀ dx S' H' b', Behind G R S H b w S' H' b' → ExcAt G R S' H' c d dx → L.W (.ref (G.cA c)) dx σ H'
/-- an expression's reading -/
def rdE (G : Gl0) (L : Lv) (e : E) : TE := fun σ H Q => ∃ R ρ H0 S b, Here G L R ρ σ H0 S H b ∧ b + wgt L.k L.kh L.t e ≤ BIG ∧
  wp (evE L.F L.tm e ρ) (fun d => ∀ v S' H' b', Behind G R S H b (wgt L.k L.kh L.t e) S' H' b' → VR G R H S' H' (md e) d v → Q v H') (wishX G L R σ S H b (wgt L.k L.kh L.t e))
/-- a test's -/
def rdT (G : Gl0) (L : Lv) (e : E) : TT := fun σ H Q => ∃ R ρ H0 S b, Here G L R ρ σ H0 S H b ∧ b + wgt L.k L.kh L.t e ≤ BIG ∧
  wp (evE L.F L.tm e ρ) (fun d => ∃ c, d = .bl c ∧ ∀ S' H' b', Behind G R S H b (wgt L.k L.kh L.t e) S' H' b' → Q c H') (wishX G L R σ S H b (wgt L.k L.kh L.t e))
/-- a row's -/
def rdA (G : Gl0) (L : Lv) (e : E) : TA := fun σ H Q => ∃ R ρ H0 S b, Here G L R ρ σ H0 S H b ∧ b + wgt L.k L.kh L.t e ≤ BIG ∧
  wp (evE L.F L.tm e ρ) (fun d => ∃ ds, d = .tup ds ∧ ∀ vs S' H' b', Behind G R S H b (wgt L.k L.kh L.t e) S' H' b' → VRs G R S' H' H (mds e) ds vs → Q vs H') (wishX G L R σ S H b (wgt L.k L.kh L.t e))

theorem _root_.L2.PE.imp {X : Cx} {e : Expr} {t t' : TE} (h : PE X e t) (f : ∀ σ H Q, t' σ H Q → t σ H Q) : PE X e t' := ⟨fun pins s σ H Q I q => h.run pins s σ H Q I (f σ H Q q)⟩
theorem _root_.L2.PT.imp {X : Cx} {e : Expr} {t t' : TT} (h : PT X e t) (f : ∀ σ H Q, t' σ H Q → t σ H Q) : PT X e t' := ⟨fun pins s σ H Q I q => h.run pins s σ H Q I (f σ H Q q)⟩
theorem _root_.L2.PA.imp {X : Cx} {e : List Expr} {t t' : TA} (h : PA X e t) (f : ∀ σ H Q, t' σ H Q → t σ H Q) : PA X e t' := ⟨fun pos pins s σ H Q I q => h.run pos pins s σ H Q I (f σ H Q q)⟩

section
variable {G : Gl0} {L : Lv}
/-- what a value must do behind a step that neither draws nor raises -/
abbrev Out (G : Gl0) (R : Rp) (H S' H' : Hp) (b : Nat) (m : Md) (Q : VK) : D → Prop := fun d => ∀ v S2 H2, Gr R S' H' S2 H2 → Wd G R S2 H2 b → VR G R H S2 H2 m d v → Q v H2
/-- one part, then such a step -/
theorem rd1 {a e : E} {σ : L2.St} {H : Hp} {Q Z : VK} {f : D → M D} (h : rdE G L e σ H Q) (he : ∀ ρ, evE L.F L.tm e ρ = (evE L.F L.tm a ρ).bind f) (hw : wgt L.k L.kh L.t e = wgt L.k L.kh L.t a)
    (z : ∀ R S' H' b d v (Ef : Nat → D → Prop), R.fA = G.fA → Wd G R S' H' b → (∀ c o, H c = some o → ∃ o', H' c = some o') → VR G R H S' H' (md a) d v → wp (f d) (Out G R H S' H' b (md e) Q) Ef → Z v H') : rdE G L a σ H Z := by
  obtain ⟨R, ρ, H0, S, b, hh, hb, hp⟩ := h
  refine ⟨R, ρ, H0, S, b, hh, by rw [← hw]; exact hb, ?_⟩
  rw [he] at hp
  refine wp_mono (fun d hd v S' H' b' hq hv => ?_) (fun c d hc dx S' H' b' hq => hc dx S' H' b' (by rw [hw]; exact hq)) (wp_bind hp)
  exact z R S' H' b' d v _ hh.fA hq.wd hq.gr.dom hv (wp_mono (fun d' q v' S2 H2 g w2 r2 => q v' S2 H2 b' ⟨hq.gr.trans g, w2, by rw [hw]; exact hq.le⟩ r2) (fun _ _ x => x) hd)
/-- two parts -/
theorem rd2 {a b e : E} {σ : L2.St} {H : Hp} {Q : VK} {Z : V → V → Hp → Prop} {f : D → D → M D} (h : rdE G L e σ H Q) (he : ∀ ρ, evE L.F L.tm e ρ = (evE L.F L.tm a ρ).bind fun x => (evE L.F L.tm b ρ).bind fun y => f x y)
    (hw : wgt L.k L.kh L.t e = wgt L.k L.kh L.t a + wgt L.k L.kh L.t b)
    (z : ∀ R H1 S' H' b' d1 d2 v1 v2 (Ef : Nat → D → Prop), R.fA = G.fA → Wd G R S' H' b' → (∀ c o, H c = some o → ∃ o', H' c = some o') → VR G R H S' H' (md a) d1 v1 → VR G R H1 S' H' (md b) d2 v2 → wp (f d1 d2) (Out G R H S' H' b' (md e) Q) Ef → Z v1 v2 H') :
    rdE G L a σ H fun x H1 => rdE G L b σ H1 fun y H2 => Z x y H2 := by
  obtain ⟨R, ρ, H0, S, n, hh, hb, hp⟩ := h
  refine ⟨R, ρ, H0, S, n, hh, by omega, ?_⟩
  rw [he] at hp
  refine wp_mono (fun d hd v S1 H1 b1 q1 hv => ?_) (fun c d hc dx S' H' b' hq => hc dx S' H' b' (by rw [hw]; exact hq.more (by omega))) (wp_bind hp)
  refine ⟨R, ρ, H0, S1, b1, hh.step q1, by have := q1.le; omega, ?_⟩
  refine wp_mono (fun d2 hd2 v2 S2 H2 b2 q2 hv2 => ?_) (fun c d hc dx S' H' b' hq => hc dx S' H' b' (by rw [hw]; exact q1.trans hq)) (wp_bind hd)
  exact z R H1 S2 H2 b2 d d2 v v2 _ hh.fA q2.wd (q1.gr.trans q2.gr).dom (hv.step q2.gr) hv2 (wp_mono (fun d' q v' S3 H3 g w3 r3 => q v' S3 H3 b2 ⟨(q1.gr.trans q2.gr).trans g, w3, by rw [hw]; have := q1.le; have := q2.le; omega⟩ r3) (fun _ _ x => x) hd2)
/-- no part -/
theorem rd0 {e : E} {σ : L2.St} {H : Hp} {Q : VK} {Z : Prop} (h : rdE G L e σ H Q)
    (z : ∀ R ρ H0 S b (Ef : Nat → D → Prop), Here G L R ρ σ H0 S H b → wp (evE L.F L.tm e ρ) (Out G R H S H b (md e) Q) Ef → Z) : Z := by
  obtain ⟨R, ρ, H0, S, b, hh, hb, hp⟩ := h
  exact z R ρ H0 S b _ hh (wp_mono (fun d hd v S2 H2 g w2 r2 => hd v S2 H2 b ⟨g, w2, by omega⟩ r2) (fun _ _ x => x) hp)

/-! ### constants and names -/
variable {X : Cx}
theorem se_con_int {i : Int} {j : Nat} {pos : Pos} : PE X (.Constant (.int i) j pos) (rdE G L (.con (.int i))) := pe_int.imp fun σ H Q h => rd0 h fun R ρ H0 S b Ef hh q => q _ S H (Gr.refl R S H) hh.wd rfl
theorem se_con_bl {i : Bool} {j : Nat} {pos : Pos} : PE X (.Constant (.bool i) j pos) (rdE G L (.con (.bl i))) := pe_bl.imp fun σ H Q h => rd0 h fun R ρ H0 S b Ef hh q => q _ S H (Gr.refl R S H) hh.wd rfl
theorem se_con_non {j : Nat} {pos : Pos} : PE X (.Constant .none j pos) (rdE G L (.con .non)) := pe_non.imp fun σ H Q h => rd0 h fun R ρ H0 S b Ef hh q => q _ S H (Gr.refl R S H) hh.wd rfl
theorem se_con_str {i : Str} {j : Nat} {pos : Pos} : PE X (.Constant (.str i) j pos) (rdE G L (.con (.str i))) := pe_str.imp fun σ H Q h => rd0 h fun R ρ H0 S b Ef hh q => q _ S H (Gr.refl R S H) hh.wd rfl
theorem se_var {i : Nat} {x : Str} {pos : Pos} (hN : X.N[i]? = some x) (hv : Vis X.env.scope x) (hd : (x == ("__debug__" : Str)) = false) (hcd : (x == ("__classdict__" : Str)) = false) : PE X (.Name x pos) (rdE G L (.var i)) :=
  (pe_var hN hv hd hcd).imp fun σ H Q h => rd0 h fun R ρ H0 S b Ef hh q => by
    simp only [evE] at q
    cases e : ρ.at i with
    | none => rw [e] at q; exact q.elim
    | some p =>
      obtain ⟨d, o⟩ := p
      rw [e] at q
      cases o with
      | true => exact q.elim
      | false =>
        obtain ⟨v, hs, hr⟩ := hh.ev.frz i d e
        exact ⟨v, hs, q v S H (Gr.refl R S H) hh.wd hr⟩
theorem se_bor {i : Nat} {x : Str} {pos : Pos} (hN : X.N[i]? = some x) (hv : Vis X.env.scope x) (hd : (x == ("__debug__" : Str)) = false) (hcd : (x == ("__classdict__" : Str)) = false) : PE X (.Name x pos) (rdE G L (.bor i)) :=
  (pe_var hN hv hd hcd).imp fun σ H Q h => rd0 h fun R ρ H0 S b Ef hh q => by
    simp only [evE] at q
    cases e : ρ.at i with
    | none => rw [e] at q; exact q.elim
    | some p =>
      obtain ⟨d, o⟩ := p
      rw [e] at q
      cases o with
      | true =>
        obtain ⟨ds, a, vs, h1, h2, h3, h4, h5, h6, h7⟩ := hh.ev.own i d e
        exact ⟨_, h2, q _ S H (Gr.refl R S H) hh.wd (.inr ⟨ds, a, vs, h1, rfl, h3, h4, h5, h6⟩)⟩
      | false =>
        obtain ⟨v, hs, hr⟩ := hh.ev.frz i d e
        exact ⟨v, hs, q v S H (Gr.refl R S H) hh.wd (.inl hr)⟩
theorem se_glo {x : Str} {d : D} {v : V} {u : Value} {pos : Pos} (hg : L2.Gl X x) (hm : X.mg x = some u) (r : RelV v u) (rep : ∀ (R : Rp) (S : Hp), R.fA = G.fA → Rep G.K R S d v) (hd : (x == ("__debug__" : Str)) = false) : PE X (.Name x pos) (rdE G L (.glo x d)) :=
  (pe_glob hg hm r hd).imp fun σ H Q h => rd0 h fun R ρ H0 S b Ef hh q => q v S H (Gr.refl R S H) hh.wd (rep R S hh.fA)
/-- a new list is frozen -/
theorem frzS {R : Rp} {S H S' H' : Hp} {b w b' : Nat} {c : Addr} {vs : List V} (q : Behind G R S H b w S' H' b') (h3 : S' c = none) (h4 : H' c = some (.lst vs)) (h5 : ¬ R.st c) (h7 : H c = none) : Behind G R S H b w (upd S' c (.lst vs)) H' b' :=
  ⟨⟨q.gr.ss.trans (same_updS h3), q.gr.hh, fun x o e => by rw [upd_ne (ne_of_none e h7)]; exact q.gr.fr x o e, q.gr.dom⟩, q.wd.freeze h4 h5, q.le⟩
theorem rep_frz {R : Rp} {S H : Hp} {c : Addr} {vs : List V} {ds : List D} (h3 : S c = none) (h6 : RepL G.K R S ds vs) : Rep G.K R (upd S c (.lst vs)) (.lst ds) (.ref c) :=
  ⟨c, vs, rfl, upd_same, RepL.same (same_updS h3) _ _ h6⟩
theorem rd_frz {a : E} {σ : L2.St} {H : Hp} {Q : VK} (hm : md a ≠ .b) (h : rdE G L (.frz a) σ H Q) : rdE G L a σ H Q := by
  obtain ⟨R, ρ, H0, S, b, hh, hb, hp⟩ := h
  refine ⟨R, ρ, H0, S, b, hh, hb, wp_mono (fun d hd v S' H' b' hq hv => ?_) (fun _ _ x => x) hp⟩
  cases em : md a with
  | b => exact (hm em).elim
  | f =>
    rw [em] at hv
    exact hd v S' H' b' hq hv
  | o =>
    rw [em] at hv
    rcases hv with hv | ⟨ds, c, vs, h1, h2, h3, h4, h5, h6, h7⟩
    · exact hd v S' H' b' hq hv.2
    · subst h1 h2
      exact hd _ (upd S' c (.lst vs)) H' b' (frzS hq h3 h4 h5 h7) (rep_frz (H := H') h3 h6)
theorem se_frz {a : E} {e : Expr} (h : PE X e (rdE G L a)) (hm : md a ≠ .b) : PE X e (rdE G L (.frz a)) := h.imp fun σ H Q h => rd_frz hm h

/-! ### operators -/
theorem sizeLim : sizeLine = LIM := by
  rw [sizeLine_eq]
  rfl
theorem low_of_big {i j : Int} (h : i.natAbs < 2 ^ MULB ∧ j.natAbs < 2 ^ MULB) : CMulW i j := by
  have f : ∀ x : Int, x.natAbs < 2 ^ MULB → x.natAbs.log2 < MULB := fun x hx => by
    by_cases z : x.natAbs = 0
    · rw [z]
      decide
    · exact (Nat.log2_lt z).mpr hx
  have a := f i h.1
  have b := f j h.2
  show i.natAbs.log2 + j.natAbs.log2 < 1000000
  have : MULB = 450000 := rfl
  omega
theorem cmul_of {i : Int} (h : i.natAbs < 2 ^ 64) : -(2 ^ 64) < i ∧ i < 2 ^ 64 := by
  have e : (2 : Nat) ^ 64 = 18446744073709551616 := by decide
  have e2 : (2 : Int) ^ 64 = 18446744073709551616 := by decide
  rw [e] at h
  rw [e2]
  omega
theorem op_mulC : OpR X (binaryOp .Mult) (rI (fun i j => i.natAbs < 2 ^ 64 ∨ j.natAbs < 2 ^ 64 ∨ (i.natAbs < 2 ^ MULB ∧ j.natAbs < 2 ^ MULB)) fun i j => .int (i * j)) := by
  intro pins s σ H x y v u Q I rx ry h
  obtain ⟨i, j, rfl, rfl, c, q⟩ := h
  rcases c with c | c | c
  · exact op_mul pins s σ H _ _ v u Q I rx ry ⟨i, j, rfl, rfl, .inl (cmul_of c), q⟩
  · exact op_mul pins s σ H _ _ v u Q I rx ry ⟨i, j, rfl, rfl, .inr (cmul_of c), q⟩
  · exact op_mulW pins s σ H _ _ v u Q I rx ry ⟨i, j, rfl, rfl, low_of_big c, q⟩
theorem op_fdivC : OpR X (binaryOp .FloorDiv) (rI (fun _ j => 0 < j ∧ j < 2 ^ 9000) fun i j => .int (i / j)) := by
  intro pins s σ H x y v u Q I rx ry h
  obtain ⟨i, j, rfl, rfl, c, q⟩ := h
  refine op_fdivW pins s σ H _ _ v u Q I rx ry ⟨i, j, rfl, rfl, ⟨c.1, ?_⟩, q⟩
  have z : j.natAbs ≠ 0 := by omega
  refine (Nat.log2_lt z).mpr ?_
  have : (j.natAbs : Int) < ((2 ^ 9000 : Nat) : Int) := by
    rw [Int.natCast_pow]
    have e : (j.natAbs : Int) = j := by omega
    rw [e]
    exact c.2
  exact Int.ofNat_lt.mp this
end
end Cl
set_option autoImplicit false
set_option Elab.async false
set_option linter.all false
set_option maxRecDepth 100000
set_option maxHeartbeats 4000000
/-! Operators by values: tuple * int for every int, + and * of clean values. -/
namespace Cl
open PySem PySem.Spec PyProof.Rows L2
open PySem.AutoSeq1 (wpAny_loadPart')
open Builtin Builtin.Tuple

theorem tup_mul_same (l : Addr) (its : Array Value) (n : Nat) (dd : Option Addr) (sl : Array (Option Value)) (x : Int) (u : Tok) (h0 : (decide (x < -(2 ^ 63)) || decide (x ≥ 2 ^ 63)) = false) (h1 : (its.isEmpty || x == 1) = true) :
    Meets (Builtin.«tuple.__mul__» ⟨[.ref l, .int x u], []⟩) (fun _ R s => s.heap.get? l = some { cls := .type "tuple", dict := dd, data := .seq its n, slots := sl } ∧ R (.ok (.ret (.ref l))) s) :=
  .of_wp fun prog w A R s h => by
    obtain ⟨hp, g, d, tk, os⟩ := s
    obtain ⟨hl, h⟩ := h
    have f1 := AutoSeq1.idx_int
    wp_walk using wpAny_loadPart' hl
    repeat (first
      | (refine wpAny_ite_false (decide_eq_false (by rw [h0]; exact Bool.false_ne_true)) ?_; wp_walk using wpAny_loadPart' hl)
      | (refine wpAny_ite_true (decide_eq_true h1) ?_; wp_walk using wpAny_loadPart' hl))
    exact ⟨_, rfl, h⟩
theorem tup_mul_none (l : Addr) (its : Array Value) (n : Nat) (dd : Option Addr) (sl : Array (Option Value)) (x : Int) (u : Tok) (h0 : (decide (x < -(2 ^ 63)) || decide (x ≥ 2 ^ 63)) = false) (h1 : (its.isEmpty || x == 1) = false) (h2 : (decide (x ≤ 0) || its.isEmpty) = true) :
    Meets (Builtin.«tuple.__mul__» ⟨[.ref l, .int x u], []⟩) (fun _ R s => s.heap.get? l = some { cls := .type "tuple", dict := dd, data := .seq its n, slots := sl } ∧
      R (.ok (.ret (Value.ref s.heap.objs.size))) { s with heap := s.heap.push { cls := Value.type "tuple", data := Data.seq #[] }, toks := s.toks }) :=
  .of_wp fun prog w A R s h => by
    obtain ⟨hp, g, d, tk, os⟩ := s
    obtain ⟨hl, h⟩ := h
    have f1 := AutoSeq1.idx_int
    wp_walk using wpAny_loadPart' hl
    repeat (first
      | (refine wpAny_ite_false (decide_eq_false (by rw [h0]; exact Bool.false_ne_true)) ?_; wp_walk using wpAny_loadPart' hl)
      | (refine wpAny_ite_false (decide_eq_false (by rw [h1]; exact Bool.false_ne_true)) ?_; wp_walk using wpAny_loadPart' hl)
      | (refine wpAny_ite_true (decide_eq_true h2) ?_; wp_walk using wpAny_loadPart' hl))
    exact ⟨_, rfl, h⟩

def rMulT (K : PySem.W.Frag) : R2 := fun x y H Q => ∃ l k xs, x = .ref l ∧ y = .int k ∧ SqT K H l xs ∧ xs.length * k.toNat ≤ sizeLine ∧ k < 2 ^ 62 ∧ -(2 ^ 62) ≤ k ∧
  ((xs = [] ∨ k = 1) → Q (.ref l) H) ∧ (¬ (xs = [] ∨ k = 1) → ∀ p, H p = none → Q (.ref p) (upd H p (.tup (List.replicate k.toNat xs).flatten)))
section
variable {X : Cx}
theorem op_mulT : OpR X (binaryOp .Mult) (rMulT X.K) := by
  intro pins s σ H x y v u Q I rx ry h
  obtain ⟨l, k, xs, rfl, rfl, hT, hz, hk1, hk2, q1, q2⟩ := h
  cases rx
  obtain ⟨t, rfl⟩ := ry
  obtain ⟨its, r, ⟨⟨cls, dd, data, sl⟩, ho, hc, n, hd⟩, hs⟩ := I.tuple hT
  simp only at hc hd
  subst hc hd
  have hle : its.length = xs.length := r.length.symm
  have e62 : (2 : Int) ^ 62 = 4611686018427387904 := by decide
  have e63 : (2 : Int) ^ 63 = 9223372036854775808 := by decide
  have h0 : (decide (k < -(2 ^ 63)) || decide (k ≥ 2 ^ 63)) = false := by
    rw [decide_eq_false (by omega), decide_eq_false (by omega)] <;> rfl
  have hsl := sizeLine_eq
  have emp : its.toArray.isEmpty = decide (xs = []) := by
    cases its with
    | nil =>
      cases xs with
      | nil => rfl
      | cons a b => simp at hle
    | cons a b =>
      cases xs with
      | nil => simp at hle
      | cons a b => rfl
  have go : ∀ {R' : Shared → Prop}, wpAny (model X.prog X.w) X.A.in1 (call (.builtin "tuple.__mul__") [.ref l, .int k t]) (EP X pins σ Q) X.xe s → wpAny (model X.prog X.w) X.A.in1 (call (.builtin "tuple.__mul__") [.ref l, .int k t]) (EP X pins σ Q) X.xe s := fun h => h
  refine wpAny_binaryOp_repeat_ref (T := "tuple") (U := "int") (by decide) ⟨_, ho, rfl⟩ (fun s' => typeIs_int s' k t) noFill_tuple_mul F.fills_int_mul F.slot_int_rmul repeat_tuple F.slot_int_index.lookup
    (call_meets F.slot_int_rmul (typeIs_int s k t) F.entry_int_rmul (F.args_int_rmul_2 _ _) (int_rmul_tuple k t l its.toArray n dd sl)
      ⟨ho, rfl, ⟨_, ho, rfl⟩, ?_⟩)
  by_cases c : xs = [] ∨ k = 1
  · have h1 : (its.toArray.isEmpty || k == 1) = true := by
      rw [emp]
      rcases c with c | c
      · rw [decide_eq_true c, Bool.true_or]
      · rw [c]
        simp
    exact call_meets F.slot_tuple_mul ⟨_, ho, rfl⟩ F.entry_tuple_mul (F.args_tuple_mul_2 _ _) (tup_mul_same l its.toArray n dd sl k t h0 h1) ⟨ho, .ref l, H, I, rfl, q1 c⟩
  · have hx : xs ≠ [] := fun e => c (.inl e)
    have hk : k ≠ 1 := fun e => c (.inr e)
    have h1 : (its.toArray.isEmpty || k == 1) = false := by
      rw [emp, decide_eq_false hx, Bool.false_or]
      exact beq_eq_false_iff_ne.mpr hk
    by_cases c2 : k ≤ 0
    · have h2 : (decide (k ≤ 0) || its.toArray.isEmpty) = true := by rw [decide_eq_true c2, Bool.true_or]
      refine call_meets F.slot_tuple_mul ⟨_, ho, rfl⟩ F.entry_tuple_mul (F.args_tuple_mul_2 _ _) (tup_mul_none l its.toArray n dd sl k t h0 h1 h2) ⟨ho, ?_⟩
      have ek : k.toNat = 0 := by omega
      have qq := q2 c
      rw [ek] at qq
      refine ⟨.ref s.heap.objs.size, _, I.laid (t' := s.toks) (o := .tup []) (fun b ob q => Heap.get?_push_of_some _ q) (Nat.le_refl _) ?_, rfl, qq _ (I.hok.fresh (Nat.le_refl _))⟩
      exact ⟨Nat.zero_le _, [], .nil, IsTup.new _ _⟩
    · have hsz0 : its.toArray.size = xs.length := by rw [List.size_toArray, hle]
      have hk0 : (k.toNat : Int) = k := by omega
      have hm : ((its.toArray.size : Nat) : Int) * k = ((xs.length * k.toNat : Nat) : Int) := by
        rw [hsz0, Int.natCast_mul, hk0]
      have hmb : ((its.toArray.size : Nat) : Int) * k ≤ 16777216 := by
        rw [hm]
        omega
      have flen : (List.replicate k.toNat its).flatten.length ≤ sizeLine := by
        rw [PyProof.Rows.lm_len_rep_flat, hle, Nat.mul_comm]
        exact hz
      have h2 : (decide (k ≤ 0) || its.toArray.isEmpty) = false := by
        rw [emp, decide_eq_false hx, decide_eq_false c2]
        rfl
      have h4 : Builtin.Tuple.tupleTooMany (((its.toArray.size : Nat) : Int) * k) = false := by
        unfold Builtin.Tuple.tupleTooMany
        rw [sizeLine_eq]
        exact decide_eq_false (by omega)
      refine call_meets F.slot_tuple_mul ⟨_, ho, rfl⟩ F.entry_tuple_mul (F.args_tuple_mul_2 _ _) (tuple_mulW l its.toArray n dd sl k t h0 h1 h2 (by omega) h4 (by rw [size_rep, List.size_toArray]; exact flen)) ⟨ho, ?_⟩
      rw [size_rep]
      refine ⟨.ref s.heap.objs.size, _, I.laid (t' := s.toks) (o := .tup (List.replicate k.toNat xs).flatten) (fun b ob q => Heap.get?_push_of_some _ q) (Nat.le_refl _) ?_, rfl, q2 c _ (I.hok.fresh (Nat.le_refl _))⟩
      exact ⟨by rw [PyProof.Rows.lm_len_rep_flat, Nat.mul_comm]; exact hz, _, r.rep k.toNat, IsTup.new _ _⟩

/-! ### + - * // % ** of clean values -/
variable {G : Gl0} {L : Lv} {a b : E} {ea eb : Expr} {pos : Pos}
/-- what a two-place operation is to do -/
def OpC (G : Gl0) (X : Cx) (f : Value → Value → Sem Value) (g : D → D → M D) (m : Md) : Prop :=
  ∀ (R : Rp) (H0 H1 S H : Hp) (n : Nat) (m1 m2 : Md) (d1 d2 : D) (v1 v2 : V) (Q : VK) (Ef : Nat → D → Prop), R.fA = G.fA → Wd G R S H n → (∀ c o, H0 c = some o → ∃ o', H c = some o') → VR G R H0 S H m1 d1 v1 → VR G R H1 S H m2 d2 v2 →
    wp (g d1 d2) (Out G R H0 S H n m Q) Ef → ∃ r : R2, OpR X f r ∧ r v1 v2 H Q
theorem fresh_of {H0 H : Hp} {p : Addr} (dom : ∀ c o, H0 c = some o → ∃ o', H c = some o') (hp : H p = none) : H0 p = none := by
  cases e : H0 p with
  | none => rfl
  | some o =>
    obtain ⟨o', h⟩ := dom p o e
    rw [hp] at h
    cases h
/-- a new list, not frozen -/
theorem out_lst {R : Rp} {H0 S H : Hp} {n : Nat} {Q : VK} {ds : List D} {vs : List V} {p : Addr} (o : Out G R H0 S H n .o Q (.lst ds)) (w : Wd G R S H n) (dom : ∀ c o, H0 c = some o → ∃ o', H c = some o') (r : RepL G.K R S ds vs) (hp : H p = none) : Q (.ref p) (upd H p (.lst vs)) := by
  have hS : S p = none := by
    cases e : S p with
    | none => rfl
    | some u =>
      have := w.sub p u e
      rw [hp] at this
      cases this
  exact o _ S _ (gr_upd hp) (w.new hp) (.inr ⟨ds, p, vs, rfl, rfl, hS, upd_same, w.nstOf hp, r, fresh_of dom hp⟩)
/-- a new tuple -/
theorem rep_tup {R : Rp} {S H : Hp} {n : Nat} {ds : List D} {vs : List V} {p : Addr} (w : Wd G R S H n) (r : RepL G.K R S ds vs) (hp : H p = none) : Rep G.K R (upd S p (.tup vs)) (.tup ds) (.ref p) := by
  have hS : S p = none := by
    cases e : S p with
    | none => rfl
    | some u =>
      have := w.sub p u e
      rw [hp] at this
      cases this
  exact ⟨p, vs, rfl, .inl (.inl upd_same), RepL.same (same_updS hS) _ _ r⟩
theorem vr_any {R : Rp} {H0 S H : Hp} {m : Md} {d : D} {v : V} (n : d.isL = false) (h : Rep G.K R S d v) : VR G R H0 S H m d v := by
  cases m with
  | f => exact h
  | o => exact .inl ⟨n, h⟩
  | b => exact .inl h
theorem out_tup {R : Rp} {H0 S H : Hp} {n : Nat} {m : Md} {Q : VK} {ds : List D} {vs : List V} {p : Addr} (o : Out G R H0 S H n m Q (.tup ds)) (w : Wd G R S H n) (r : RepL G.K R S ds vs) (hp : H p = none) : Q (.ref p) (upd H p (.tup vs)) :=
  o _ _ _ (gr_updF hp w.sub) (w.newF hp (fun _ e => by cases e)) (vr_any rfl (rep_tup w r hp))
theorem out_same {R : Rp} {H0 S H : Hp} {n : Nat} {m : Md} {Q : VK} {d : D} {v : V} (o : Out G R H0 S H n m Q d) (w : Wd G R S H n) (nl : d.isL = false) (r : Rep G.K R S d v) : Q v H :=
  o _ _ _ (Gr.refl R S H) w (vr_any nl r)
theorem RepL.nil_iff {K : PySem.W.Frag} {R : Rp} {S : Hp} {ds : List D} {vs : List V} (r : RepL K R S ds vs) : vs = [] ↔ ds = [] := by
  have := r.len
  cases ds <;> cases vs <;> simp_all

theorem opc_add (hK : X.K = G.K) : OpC G X (binaryOp .Add) (opV .add) .o := by
  intro R H0 H1 S H n m1 m2 d1 d2 v1 v2 Q Ef hf w dom r1 r2 o
  cases d1 with
  | int i =>
    cases d2 with
    | int j =>
      cases r1.int
      cases r2.int
      exact ⟨_, op_add, i, j, rfl, rfl, out_same o w rfl rfl⟩
    | _ => exact o.elim
  | tup xs =>
    cases d2 with
    | tup ys =>
      obtain ⟨p, vs, rfl, sp, rp⟩ := r1.tup
      obtain ⟨q, us, rfl, sq, rq⟩ := r2.tup
      simp only [opV] at o
      split at o
      · rename_i hz
        refine ⟨_, op_catA, p, q, vs, us, rfl, rfl, by rw [hK]; exact SqT.same w.sub sp, by rw [hK]; exact SqT.same w.sub sq, by rw [rp.len, rq.len, sizeLim]; exact hz, fun e => ?_, fun e1 e2 => ?_, fun e1 e2 c hc => ?_⟩
        · cases rp.nil_iff.mp e
          exact out_same o w rfl ⟨q, us, rfl, sq, rq⟩
        · cases rq.nil_iff.mp e2
          rw [List.append_nil] at o
          exact out_same o w rfl ⟨p, vs, rfl, sp, rp⟩
        · exact out_tup o w (rp.app rq) hc
      · exact o.elim
    | _ => exact o.elim
  | lst xs =>
    cases d2 with
    | lst ys =>
      obtain ⟨p, vs, rfl, sp, rp⟩ := r1.lst w.sub
      obtain ⟨q, us, rfl, sq, rq⟩ := r2.lst w.sub
      simp only [opV] at o
      split at o
      · rename_i hz
        exact ⟨_, op_cat, p, q, vs, us, rfl, rfl, sp, sq, by rw [rp.len, rq.len, sizeLim]; exact hz, fun c hc => out_lst o w dom (rp.app rq) hc⟩
      · exact o.elim
    | _ => exact o.elim
  | _ => cases d2 <;> exact o.elim
theorem opc_sub : OpC G X (binaryOp .Sub) (opV .sub) .f := by
  intro R H0 H1 S H n m1 m2 d1 d2 v1 v2 Q Ef hf w dom r1 r2 o
  cases d1 with
  | int i =>
    cases d2 with
    | int j =>
      cases r1.int
      cases r2.int
      exact ⟨_, op_sub, i, j, rfl, rfl, out_same o w rfl rfl⟩
    | _ => exact o.elim
  | _ => cases d2 <;> exact o.elim
theorem opc_mul (hK : X.K = G.K) : OpC G X (binaryOp .Mult) (opV .mul) .o := by
  intro R H0 H1 S H n m1 m2 d1 d2 v1 v2 Q Ef hf w dom r1 r2 o
  cases d1 with
  | int i =>
    cases d2 with
    | int j =>
      cases r1.int
      cases r2.int
      simp only [opV] at o
      split at o
      · rename_i hz
        exact ⟨_, op_mulC, i, j, rfl, rfl, hz, out_same o w rfl rfl⟩
      · exact o.elim
    | _ => exact o.elim
  | tup xs =>
    cases d2 with
    | int j =>
      obtain ⟨p, vs, rfl, sp, rp⟩ := r1.tup
      cases r2.int
      simp only [opV] at o
      split at o
      · rename_i hz
        refine ⟨_, op_mulT, p, j, vs, rfl, rfl, by rw [hK]; exact SqT.same w.sub sp, by rw [rp.len, sizeLim]; exact hz.1, hz.2.1, hz.2.2, fun e => ?_, fun e c hc => out_tup o w (rp.rep _) hc⟩
        have ee : (List.replicate j.toNat xs).flatten = xs := by
          rcases e with e | e
          · rw [rp.nil_iff.mp e]
            simp
          · rw [e]
            simp
        rw [ee] at o
        exact out_same o w rfl ⟨p, vs, rfl, sp, rp⟩
      · exact o.elim
    | _ => exact o.elim
  | lst xs =>
    cases d2 with
    | int j =>
      obtain ⟨p, vs, rfl, sp, rp⟩ := r1.lst w.sub
      cases r2.int
      simp only [opV] at o
      split at o
      · rename_i hz
        have e62 : (2 : Int) ^ 62 = 4611686018427387904 := by decide
        have e63 : (2 : Int) ^ 63 = 9223372036854775808 := by decide
        exact ⟨_, op_rep, p, j, vs, rfl, rfl, sp, by omega, by omega, by rw [rp.len, sizeLim]; exact hz.1, fun c hc => out_lst o w dom (rp.rep _) hc⟩
      · exact o.elim
    | _ => exact o.elim
  | _ => cases d2 <;> exact o.elim
theorem opc_fdiv : OpC G X (binaryOp .FloorDiv) (opV .fdiv) .f := by
  intro R H0 H1 S H n m1 m2 d1 d2 v1 v2 Q Ef hf w dom r1 r2 o
  cases d1 with
  | int i =>
    cases d2 with
    | int j =>
      cases r1.int
      cases r2.int
      simp only [opV] at o
      split at o
      · rename_i hz
        exact ⟨_, op_fdivC, i, j, rfl, rfl, hz, out_same o w rfl rfl⟩
      · exact o.elim
    | _ => exact o.elim
  | _ => cases d2 <;> exact o.elim
theorem opc_mod : OpC G X (binaryOp .Mod) (opV .mod) .f := by
  intro R H0 H1 S H n m1 m2 d1 d2 v1 v2 Q Ef hf w dom r1 r2 o
  cases d1 with
  | int i =>
    cases d2 with
    | int j =>
      cases r1.int
      cases r2.int
      simp only [opV] at o
      split at o
      · rename_i hz
        exact ⟨_, op_mod, i, j, rfl, rfl, hz, out_same o w rfl rfl⟩
      · exact o.elim
    | _ => exact o.elim
  | _ => cases d2 <;> exact o.elim
theorem opc_pow : OpC G X (binaryOp .Pow) (opV .pow) .f := by
  intro R H0 H1 S H n m1 m2 d1 d2 v1 v2 Q Ef hf w dom r1 r2 o
  cases d1 with
  | int i =>
    cases d2 with
    | int j =>
      cases r1.int
      cases r2.int
      simp only [opV] at o
      split at o
      · rename_i hz
        exact ⟨_, op_pow, i, j, rfl, rfl, hz, out_same o w rfl rfl⟩
      · exact o.elim
    | _ => exact o.elim
  | _ => cases d2 <;> exact o.elim
/-- a two-place operation's rule by the values -/
def rC (G : Gl0) (g : D → D → M D) (m : Md) : R2 := fun x y H Q => ∃ (R : Rp) (H0 H1 S : Hp) (n : Nat) (m1 m2 : Md) (d1 d2 : D) (Ef : Nat → D → Prop), R.fA = G.fA ∧ Wd G R S H n ∧ (∀ c o, H0 c = some o → ∃ o', H c = some o') ∧ VR G R H0 S H m1 d1 x ∧ VR G R H1 S H m2 d2 y ∧ wp (g d1 d2) (Out G R H0 S H n m Q) Ef
theorem OpC.rule {f : Value → Value → Sem Value} {g : D → D → M D} {m : Md} (h : OpC G X f g m) : OpR X f (rC G g m) := by
  intro pins s σ H x y v u Q I rx ry q
  obtain ⟨R, H0, H1, S, n, m1, m2, d1, d2, Ef, hf, w, dom, r1, r2, o⟩ := q
  obtain ⟨r, hr, hq⟩ := h R H0 H1 S H n m1 m2 d1 d2 x y Q Ef hf w dom r1 r2 o
  exact hr pins s σ H x y v u Q I rx ry hq
def opOf : Op → Operator
  | .add => .Add | .sub => .Sub | .mul => .Mult | .fdiv => .FloorDiv | .mod => .Mod | .pow => .Pow
theorem opc_bin (hK : X.K = G.K) (op : Op) : OpC G X (binaryOp (opOf op)) (opV op) (md (.bin op a b)) := by
  cases op
  · exact opc_add hK
  · exact opc_sub
  · exact opc_mul hK
  · exact opc_fdiv
  · exact opc_mod
  · exact opc_pow
theorem se_bin (hK : X.K = G.K) {op : Op} (ha : PE X ea (rdE G L a)) (hb : PE X eb (rdE G L b)) : PE X (.BinOp ea (opOf op) eb pos) (rdE G L (.bin op a b)) :=
  (pe_op (opc_bin (a := a) (b := b) hK op).rule ha hb).imp fun σ H Q h => rd2 h (fun _ => rfl) rfl fun R H1 S' H' b' d1 d2 v1 v2 Ef hf w dom r1 r2 o => ⟨R, H, H1, S', b', _, _, d1, d2, Ef, hf, w, dom, r1, r2, o⟩
end
end Cl
set_option autoImplicit false
set_option Elab.async false
set_option linter.all false
set_option maxRecDepth 100000
set_option maxHeartbeats 4000000
/-! Comparisons of clean values. -/
namespace Cl
open PySem PySem.Spec PyProof.Rows L2
section
variable {G : Gl0} {L : Lv} {X : Cx}
theorem toPys_map : ∀ ds : List D, toPys ds = ds.map toPy
  | [] => rfl
  | d :: ds => by
    rw [toPys, toPys_map ds]
    rfl
theorem any_eqv {x : D} {n m : Nat} (fx : D.fit m x = true) : ∀ {ds : List D}, D.fits n ds = true → ((toPys ds).any fun z => PyData.eqv z (toPy x)) = ds.any fun z => D.eqv z x
  | [], _ => rfl
  | d :: ds, f => by
    simp only [D.fits, Bool.and_eq_true] at f
    rw [toPys, List.any_cons, List.any_cons, fit_eqv d x n m f.1 fx, any_eqv fx f.2]
/-- in, not in of a tuple of data -/
def rInDT (K : PySem.W.Frag) (neg : Bool) : R2 := fun x y H Q => ∃ d ds, Dp K H x d ∧ Dp K H y (.tuple ds) ∧ SeqAt.shaped d = true ∧ SeqAt.shaped (.tuple ds) = true ∧ Q (.bl (if neg then !(ds.any fun z => PyData.eqv z d) else ds.any fun z => PyData.eqv z d)) H
theorem lay_tup {ds : List PyData} (h : SeqAt.shaped (.tuple ds) = true) : PyData.canLayAll0 ds = true := by
  have h' : ((PyData.tuple ds).canLay0 && decide ((PyData.tuple ds).depth ≤ 64)) = true := h
  rw [Bool.and_eq_true] at h'
  simpa only [PyData.canLay0] using h'.1
theorem op_inDT (hu : X.A.units + 65 < cLine) : OpR X (compareOp .In) (rInDT X.K false) := by
  intro pins s σ H x y v u Q I rx ry h
  obtain ⟨d, ds, hd, he, sd, se, q⟩ := h
  obtain ⟨as, r1⟩ := Dp.reads I d x v hd rx
  obtain ⟨bs, r2⟩ := Dp.reads I (.tuple ds) y u he ry
  exact SeqAt.in_tuple_reads r2 r1 (lay_tup se) (SeqAt.canLay_of_shaped sd) (room_in_shaped sd hu) ⟨.bl _, H, I, rfl, q⟩
theorem op_notInDT (hu : X.A.units + 65 < cLine) : OpR X (compareOp .NotIn) (rInDT X.K true) := by
  intro pins s σ H x y v u Q I rx ry h
  obtain ⟨d, ds, hd, he, sd, se, q⟩ := h
  obtain ⟨as, r1⟩ := Dp.reads I d x v hd rx
  obtain ⟨bs, r2⟩ := Dp.reads I (.tuple ds) y u he ry
  exact SeqAt.notIn_tuple_reads r2 r1 (lay_tup se) (SeqAt.canLay_of_shaped sd) (room_in_shaped sd hu) ⟨.bl _, H, I, rfl, q⟩
def cmOf : Cm → CmpOp
  | .eq => .Eq | .ne => .NotEq | .lt => .Lt | .le => .LtE | .gt => .Gt | .ge => .GtE | .is => .Is | .isnot => .IsNot | .isin => .In | .notin => .NotIn
theorem same_refl_eq {a b : D} {S : Hp} {K : PySem.W.Frag} {R : Rp} {x y : V} (h : D.same a b = true) (hs : PyData.shown (toPy a) = PyData.shown (toPy b)) : True := trivial
mutual
theorem same_eq : ∀ (a b : D), D.same a b = true → a = b
  | .non, b, h => by cases b <;> simp [D.same] at h ⊢
  | .bl x, b, h => by cases b <;> simp [D.same] at h ⊢; exact h
  | .int x, b, h => by cases b <;> simp [D.same] at h ⊢; exact h
  | .str x, b, h => by cases b <;> simp [D.same] at h ⊢; exact h
  | .rep x, b, h => by
    cases b with
    | rep y =>
      simp only [D.same] at h
      rw [same_eq x y h]
    | _ => simp [D.same] at h
  | .tup xs, b, h => by
    cases b with
    | tup ys =>
      simp only [D.same] at h
      rw [sames_eq xs ys h]
    | _ => simp [D.same] at h
  | .lst xs, b, h => by
    cases b with
    | lst ys =>
      simp only [D.same] at h
      rw [sames_eq xs ys h]
    | _ => simp [D.same] at h
  | .fn x, b, h => by cases b <;> simp [D.same] at h ⊢; exact h
  | .st, b, h => by cases b <;> simp [D.same] at h ⊢
  | .thk, b, h => by cases b <;> simp [D.same] at h ⊢
  | .exc c x, b, h => by
    cases b with
    | exc e y =>
      simp only [D.same, Bool.and_eq_true, decide_eq_true_eq] at h
      rw [h.1, same_eq x y h.2]
    | _ => simp [D.same] at h
theorem sames_eq : ∀ (a b : List D), D.sames a b = true → a = b
  | [], [], _ => rfl
  | [], _ :: _, h => by simp [D.sames] at h
  | _ :: _, [], h => by simp [D.sames] at h
  | a :: as, b :: bs, h => by
    simp only [D.sames, Bool.and_eq_true] at h
    rw [same_eq a b h.1, sames_eq as bs h.2]
end
mutual
theorem same_rfl : ∀ (a : D), D.same a a = true
  | .non => by simp [D.same]
  | .bl x => by simp [D.same]
  | .int x => by simp [D.same]
  | .str x => by simp [D.same]
  | .rep x => by simp only [D.same]; exact same_rfl x
  | .tup xs => by simp only [D.same]; exact sames_rfl xs
  | .lst xs => by simp only [D.same]; exact sames_rfl xs
  | .fn x => by simp [D.same]
  | .st => by simp [D.same]
  | .thk => by simp [D.same]
  | .exc c x => by simp only [D.same, decide_true, Bool.true_and]; exact same_rfl x
theorem sames_rfl : ∀ (a : List D), D.sames a a = true
  | [] => by simp [D.sames]
  | a :: as => by simp only [D.sames, Bool.and_eq_true]; exact ⟨same_rfl a, sames_rfl as⟩
end
theorem fit_split {a b : D} (h : (D.fit 60 a && D.fit 60 b) = true) : D.fit 60 a = true ∧ D.fit 60 b = true := by simpa using h
theorem opc_eq (hK : X.K = G.K) (hu : X.A.units + 64 < cLine) : OpC G X (compareOp .Eq) (cmpV .eq) .f := by
  intro R H0 H1 S H n m1 m2 d1 d2 v1 v2 Q Ef hf w dom r1 r2 o
  have main : wp (if D.fit 60 d1 && D.fit 60 d2 then M.ok (D.bl (D.eqv d1 d2)) else .stuck) (Out G R H0 S H n .f Q) Ef → ∃ r : R2, OpR X (compareOp .Eq) r ∧ r v1 v2 H Q := fun o => by
    split at o
    · rename_i hz
      obtain ⟨f1, f2⟩ := fit_split hz
      refine ⟨_, op_eqD hu, toPy d1, toPy d2, by rw [hK]; exact r1.dp w.sub f1, by rw [hK]; exact r2.dp w.sub f2, fit_shaped f1 (by omega), fit_shaped f2 (by omega), ?_⟩
      rw [fit_eqv d1 d2 60 60 f1 f2]
      exact out_same o w rfl rfl
    · exact o.elim
  cases d1 with
  | rep a =>
    cases d2 with
    | rep b =>
      simp only [cmpV] at o
      split at o
      · rename_i hz
        have e := same_eq a b hz
        subst e
        have e1 := r1.frozen (d := .rep a) rfl
        have e2 := r2.frozen (d := .rep a) rfl
        refine ⟨_, op_eq, ?_, ?_⟩
        · rw [show v1 = _ from e1, show v2 = _ from e2]
          rfl
        · rw [show v1 = _ from e1, show v2 = _ from e2]
          rw [decide_eq_true rfl]
          exact out_same o w rfl rfl
      · exact o.elim
    | _ => exact main o
  | _ => exact main o
theorem opc_ne (hK : X.K = G.K) (hu : X.A.units + 64 < cLine) : OpC G X (compareOp .NotEq) (cmpV .ne) .f := by
  intro R H0 H1 S H n m1 m2 d1 d2 v1 v2 Q Ef hf w dom r1 r2 o
  have main : wp (if D.fit 60 d1 && D.fit 60 d2 then M.ok (D.bl (!D.eqv d1 d2)) else .stuck) (Out G R H0 S H n .f Q) Ef → ∃ r : R2, OpR X (compareOp .NotEq) r ∧ r v1 v2 H Q := fun o => by
    split at o
    · rename_i hz
      obtain ⟨f1, f2⟩ := fit_split hz
      refine ⟨_, op_neD hu, toPy d1, toPy d2, by rw [hK]; exact r1.dp w.sub f1, by rw [hK]; exact r2.dp w.sub f2, fit_shaped f1 (by omega), fit_shaped f2 (by omega), ?_⟩
      rw [fit_eqv d1 d2 60 60 f1 f2]
      exact out_same o w rfl rfl
    · exact o.elim
  cases d1 with
  | rep a =>
    cases d2 with
    | rep b =>
      simp only [cmpV] at o
      split at o
      · rename_i hz
        have e := same_eq a b hz
        subst e
        have e1 := r1.frozen (d := .rep a) rfl
        have e2 := r2.frozen (d := .rep a) rfl
        refine ⟨_, op_ne, ?_, ?_⟩
        · rw [show v1 = _ from e1, show v2 = _ from e2]
          rfl
        · rw [show v1 = _ from e1, show v2 = _ from e2]
          rw [decide_eq_true rfl]
          exact out_same o w rfl rfl
      · exact o.elim
    | _ => exact main o
  | _ => exact main o
theorem opc_int {op : CmpOp} {c : Cm} {p : Int → Int → Bool} (ho : OpR X (compareOp op) (rI0 fun i j => .bl (p i j))) (h1 : ∀ i j, cmpV c (.int i) (.int j) = .ok (.bl (p i j))) (h2 : ∀ d e, (∀ i j, d = .int i → e = .int j → False) → cmpV c d e = .stuck) : OpC G X (compareOp op) (cmpV c) .f := by
  intro R H0 H1 S H n m1 m2 d1 d2 v1 v2 Q Ef hf w dom r1 r2 o
  by_cases z : ∃ i j, d1 = .int i ∧ d2 = .int j
  · obtain ⟨i, j, rfl, rfl⟩ := z
    cases r1.int
    cases r2.int
    rw [h1] at o
    exact ⟨_, ho, i, j, rfl, rfl, out_same o w rfl rfl⟩
  · rw [h2 d1 d2 (fun i j e1 e2 => z ⟨i, j, e1, e2⟩)] at o
    exact o.elim
theorem notInts {c : Cm} (h : ∀ d e, cmpV c d e = match d, e with | .int i, .int j => cmpV c (.int i) (.int j) | _, _ => .stuck) (d e : D) (n : ∀ i j, d = .int i → e = .int j → False) : cmpV c d e = .stuck := by
  rw [h]
  cases d with
  | int i =>
    cases e with
    | int j => exact (n i j rfl rfl).elim
    | _ => rfl
  | _ => cases e <;> rfl
theorem opc_is : OpC G X (compareOp .Is) (cmpV .is) .f := by
  intro R H0 H1 S H n m1 m2 d1 d2 v1 v2 Q Ef hf w dom r1 r2 o
  have main : wp (M.ok (D.bl (match d1 with | .non => true | _ => false))) (Out G R H0 S H n .f Q) Ef → v2 = .non → (d1 = .non ↔ v1 = .non) → ∃ r : R2, OpR X (compareOp .Is) r ∧ r v1 v2 H Q := fun o e i => by
    refine ⟨_, op_isN, e, ?_⟩
    have := out_same o w rfl rfl
    cases d1 with
    | non => rw [decide_eq_true (i.mp rfl)]; exact this
    | _ => rw [decide_eq_false (fun z => by cases i.mpr z)]; exact this
  cases d2 with
  | non =>
    refine main (by cases d1 <;> exact o) r2.non ⟨fun e => by subst e; exact r1.non, fun e => ?_⟩
    subst e
    rcases r1.b with h | ⟨ds, a, vs, h1, h2, _⟩
    · cases d1 with
      | non => rfl
      | tup _ => obtain ⟨a, vs, e, _⟩ := h; cases e
      | lst _ => obtain ⟨a, vs, e, _⟩ := h; cases e
      | exc _ _ => obtain ⟨e, _⟩ := h; cases e
      | thk => obtain ⟨e, _⟩ := h; cases e
      | st => obtain ⟨e, _⟩ := h; cases e
      | _ => cases h
    · cases h2
  | bl j =>
    cases d1 with
    | bl i =>
      cases r1.bl
      cases r2.bl
      refine ⟨_, op_isBl, i, j, rfl, rfl, ?_⟩
      rw [← Bool.beq_eq_decide_eq]
      exact out_same o w rfl rfl
    | _ => exact o.elim
  | _ => cases d1 <;> exact o.elim
theorem opc_isnot : OpC G X (compareOp .IsNot) (cmpV .isnot) .f := by
  intro R H0 H1 S H n m1 m2 d1 d2 v1 v2 Q Ef hf w dom r1 r2 o
  have main : wp (M.ok (D.bl (match d1 with | .non => false | _ => true))) (Out G R H0 S H n .f Q) Ef → v2 = .non → (d1 = .non ↔ v1 = .non) → ∃ r : R2, OpR X (compareOp .IsNot) r ∧ r v1 v2 H Q := fun o e i => by
    refine ⟨_, op_notN, e, ?_⟩
    have := out_same o w rfl rfl
    cases d1 with
    | non => rw [decide_eq_true (i.mp rfl)]; exact this
    | _ => rw [decide_eq_false (fun z => by cases i.mpr z)]; exact this
  cases d2 with
  | non =>
    refine main (by cases d1 <;> exact o) r2.non ⟨fun e => by subst e; exact r1.non, fun e => ?_⟩
    subst e
    rcases r1.b with h | ⟨ds, a, vs, h1, h2, _⟩
    · cases d1 with
      | non => rfl
      | tup _ => obtain ⟨a, vs, e, _⟩ := h; cases e
      | lst _ => obtain ⟨a, vs, e, _⟩ := h; cases e
      | exc _ _ => obtain ⟨e, _⟩ := h; cases e
      | thk => obtain ⟨e, _⟩ := h; cases e
      | st => obtain ⟨e, _⟩ := h; cases e
      | _ => cases h
    · cases h2
  | bl j =>
    cases d1 with
    | bl i =>
      cases r1.bl
      cases r2.bl
      refine ⟨_, op_notBl, i, j, rfl, rfl, ?_⟩
      rw [← Bool.beq_eq_decide_eq]
      exact out_same o w rfl rfl
    | _ => exact o.elim
  | _ => cases d1 <;> exact o.elim
theorem opc_in (hK : X.K = G.K) (hu : X.A.units + 65 < cLine) : OpC G X (compareOp .In) (cmpV .isin) .f := by
  intro R H0 H1 S H n m1 m2 d1 d2 v1 v2 Q Ef hf w dom r1 r2 o
  cases d2 with
  | lst xs =>
    have o' : wp (if D.fit 60 d1 && D.fit 60 (.lst xs) then M.ok (D.bl (xs.any fun x => D.eqv x d1)) else .stuck) (Out G R H0 S H n .f Q) Ef := by cases d1 <;> exact o
    split at o'
    · rename_i hz
      obtain ⟨f1, f2⟩ := fit_split hz
      have hd2 := r2.dp w.sub f2
      refine ⟨_, op_inD hu, toPy d1, toPys xs, by rw [hK]; exact r1.dp w.sub f1, by rw [hK]; simpa only [toPy] using hd2, fit_shaped f1 (by omega), by simpa only [toPy] using fit_shaped f2 (by omega), ?_⟩
      rw [any_eqv (n := 59) f1 (by simpa only [D.fit] using f2)]
      exact out_same o' w rfl rfl
    · exact o'.elim
  | tup xs =>
    have o' : wp (if D.fit 60 d1 && D.fit 60 (.tup xs) then M.ok (D.bl (xs.any fun x => D.eqv x d1)) else .stuck) (Out G R H0 S H n .f Q) Ef := by cases d1 <;> exact o
    split at o'
    · rename_i hz
      obtain ⟨f1, f2⟩ := fit_split hz
      have hd2 := r2.dp w.sub f2
      refine ⟨_, op_inDT hu, toPy d1, toPys xs, by rw [hK]; exact r1.dp w.sub f1, by rw [hK]; simpa only [toPy] using hd2, fit_shaped f1 (by omega), by simpa only [toPy] using fit_shaped f2 (by omega), ?_⟩
      rw [any_eqv (n := 59) f1 (by simpa only [D.fit] using f2)]
      exact out_same o' w rfl rfl
    · exact o'.elim
  | _ => cases d1 <;> exact o.elim
theorem opc_notin (hK : X.K = G.K) (hu : X.A.units + 65 < cLine) : OpC G X (compareOp .NotIn) (cmpV .notin) .f := by
  intro R H0 H1 S H n m1 m2 d1 d2 v1 v2 Q Ef hf w dom r1 r2 o
  cases d2 with
  | lst xs =>
    have o' : wp (if D.fit 60 d1 && D.fit 60 (.lst xs) then M.ok (D.bl (!xs.any fun x => D.eqv x d1)) else .stuck) (Out G R H0 S H n .f Q) Ef := by cases d1 <;> exact o
    split at o'
    · rename_i hz
      obtain ⟨f1, f2⟩ := fit_split hz
      have hd2 := r2.dp w.sub f2
      refine ⟨_, op_notInD hu, toPy d1, toPys xs, by rw [hK]; exact r1.dp w.sub f1, by rw [hK]; simpa only [toPy] using hd2, fit_shaped f1 (by omega), by simpa only [toPy] using fit_shaped f2 (by omega), ?_⟩
      rw [any_eqv (n := 59) f1 (by simpa only [D.fit] using f2)]
      exact out_same o' w rfl rfl
    · exact o'.elim
  | tup xs =>
    have o' : wp (if D.fit 60 d1 && D.fit 60 (.tup xs) then M.ok (D.bl (!xs.any fun x => D.eqv x d1)) else .stuck) (Out G R H0 S H n .f Q) Ef := by cases d1 <;> exact o
    split at o'
    · rename_i hz
      obtain ⟨f1, f2⟩ := fit_split hz
      have hd2 := r2.dp w.sub f2
      refine ⟨_, op_notInDT hu, toPy d1, toPys xs, by rw [hK]; exact r1.dp w.sub f1, by rw [hK]; simpa only [toPy] using hd2, fit_shaped f1 (by omega), by simpa only [toPy] using fit_shaped f2 (by omega), ?_⟩
      rw [any_eqv (n := 59) f1 (by simpa only [D.fit] using f2)]
      exact out_same o' w rfl rfl
    · exact o'.elim
  | _ => cases d1 <;> exact o.elim
theorem opc_cmp (hK : X.K = G.K) (hu : X.A.units + 65 < cLine) (c : Cm) : OpC G X (compareOp (cmOf c)) (cmpV c) .f := by
  cases c
  · exact opc_eq hK (by omega)
  · exact opc_ne hK (by omega)
  · exact opc_int op_lt (fun _ _ => rfl) (notInts fun d e => by cases d <;> cases e <;> rfl)
  · exact opc_int op_le (fun _ _ => rfl) (notInts fun d e => by cases d <;> cases e <;> rfl)
  · exact opc_int op_gt (fun _ _ => rfl) (notInts fun d e => by cases d <;> cases e <;> rfl)
  · exact opc_int op_ge (fun _ _ => rfl) (notInts fun d e => by cases d <;> cases e <;> rfl)
  · exact opc_is
  · exact opc_isnot
  · exact opc_in hK hu
  · exact opc_notin hK hu
variable {a b c : E} {ea eb ec : Expr} {pos : Pos}
theorem se_cmp (hK : X.K = G.K) (hu : X.A.units + 65 < cLine) {op : Cm} (ha : PE X ea (rdE G L a)) (hb : PE X eb (rdE G L b)) (hm : behindInMarks (cmOf op) eb = false) : PE X (.Compare ea [cmOf op] [eb] pos) (rdE G L (.cmp op a b)) :=
  (pe_cmpR (opc_cmp hK hu op).rule ha hb hm).imp fun σ H Q h => rd2 h (fun _ => rfl) rfl fun R H1 S' H' b' d1 d2 v1 v2 Ef hf w dom r1 r2 o => ⟨R, H, H1, S', b', _, _, d1, d2, Ef, hf, w, dom, r1, r2, o⟩
end
end Cl
set_option autoImplicit false
set_option Elab.async false
set_option linter.all false
set_option maxRecDepth 100000
set_option maxHeartbeats 4000000
/-! Tests, and, or, not, chains, conditional expressions, rows, displays, subscripts, slices. -/
namespace Cl
open PySem PySem.Spec PyProof.Rows L2
section
variable {G : Gl0} {L : Lv} {X : Cx} {a b c : E} {ea eb ec : Expr} {es : List Expr} {pos : Pos}

theorem rdT_E {e : E} {σ : L2.St} {H : Hp} {Q : Bool → Hp → Prop} (h : rdT G L e σ H Q) : rdE G L e σ H (fun x H' => ∃ k, x = .bl k ∧ Q k H') := by
  obtain ⟨R, ρ, H0, S, n, hh, hb, hp⟩ := h
  refine ⟨R, ρ, H0, S, n, hh, hb, wp_mono (fun d hd v S' H' b' hq hv => ?_) (fun _ _ x => x) hp⟩
  obtain ⟨k, rfl, hd⟩ := hd
  exact ⟨k, hv.bl, hd S' H' b' hq⟩
/-- a test whose value is told -/
theorem st_val (h : PE X ea (rdE G L a)) (he : ∀ whole, isTrue ea X.env whole = (do let v ← whole; standAt ea.pos; holding [v] (truthy v))) : PT X ea (rdT G L a) :=
  (pt_val h he).imp fun σ H Q q => rdT_E q
theorem st_cmp (hK : X.K = G.K) (hu : X.A.units + 65 < cLine) {op : Cm} (ha : PE X ea (rdE G L a)) (hb : PE X eb (rdE G L b)) (hm : behindInMarks (cmOf op) eb = false) : PT X (.Compare ea [cmOf op] [eb] pos) (rdT G L (.cmp op a b)) :=
  (pt_cmpR (opc_cmp hK hu op).rule ha hb hm).imp fun σ H Q h => rd2 (rdT_E h) (fun _ => rfl) rfl fun R H1 S' H' b' d1 d2 v1 v2 Ef hf w dom r1 r2 o => ⟨R, H, H1, S', b', _, _, d1, d2, Ef, hf, w, dom, r1, r2, o⟩
/-! ### chains -/
theorem rd_chain {op op' : Cm} {σ : L2.St} {H : Hp} {Q : VK} (h : rdE G L (.chain op op' a b c) σ H Q) : tChain (rC G (cmpV op) .f) (rC G (cmpV op') .f) (rdE G L a) (rdE G L b) (rdE G L c) σ H Q := by
  obtain ⟨R, ρ, H0, S, n, hh, hb, hp⟩ := h
  simp only [wgt] at hb hp
  refine ⟨R, ρ, H0, S, n, hh, by omega, ?_⟩
  simp only [evE] at hp
  refine wp_mono (fun d hd v S1 H1 b1 q1 hv => ?_) (fun c d hc dx S' H' b' hq => hc dx S' H' b' (hq.more (by omega))) (wp_bind hp)
  refine ⟨R, ρ, H0, S1, b1, hh.step q1, by have := q1.le; omega, ?_⟩
  refine wp_mono (fun d2 hd2 v2 S2 H2 b2 q2 hv2 => ?_) (fun c d hc dx S' H' b' hq => hc dx S' H' b' ((q1.trans hq).more (by omega))) (wp_bind hd)
  refine ⟨R, H, H1, S2, b2, _, _, d, d2, _, hh.fA, q2.wd, (q1.gr.trans q2.gr).dom, hv.step q2.gr, hv2, wp_mono (fun z hz v3 S3 H3 g3 w3 r3 => ?_) (fun _ _ x => x) (wp_bind hd2)⟩
  cases z with
  | bl k =>
    refine ⟨k, r3, ?_⟩
    have q3 : Behind G R S H n (wgt L.k L.kh L.t a + wgt L.k L.kh L.t b) S3 H3 b2 := ⟨(q1.gr.trans q2.gr).trans g3, w3, by have := q1.le; have := q2.le; omega⟩
    cases k with
    | true =>
      rw [if_pos rfl]
      refine ⟨R, ρ, H0, S3, b2, hh.step q3, by have := q3.le; omega, ?_⟩
      refine wp_mono (fun d4 hd4 v4 S4 H4 b4 q4 hv4 => ?_) (fun c d hc dx S' H' b' hq => hc dx S' H' b' (q3.trans hq)) (wp_bind hz)
      refine ⟨R, H1, H3, S4, b4, _, _, d2, d4, _, hh.fA, q4.wd, fun c o e => (q2.gr.trans (g3.trans q4.gr)).dom c o e, hv2.step (g3.trans q4.gr), hv4, wp_mono (fun z5 hz5 v5 S5 H5 g5 w5 r5 => ?_) (fun _ _ x => x) hd4⟩
      exact hz5 v5 S5 H5 b4 ⟨(q3.gr.trans q4.gr).trans g5, w5, by have := q3.le; have := q4.le; omega⟩ r5
    | false =>
      rw [if_neg Bool.false_ne_true]
      exact hz (.bl false) S3 H3 b2 (q3.more (by omega)) rfl
  | _ => exact hz.elim
theorem se_chain (hK : X.K = G.K) (hu : X.A.units + 65 < cLine) {op op' : Cm} (ha : PE X ea (rdE G L a)) (hb : PE X eb (rdE G L b)) (hc : PE X ec (rdE G L c)) (hm : lastMarks [cmOf op, cmOf op'] [eb, ec] = false) :
    PE X (.Compare ea [cmOf op, cmOf op'] [eb, ec] pos) (rdE G L (.chain op op' a b c)) :=
  (pe_chain (opc_cmp hK hu op).rule (opc_cmp hK hu op').rule ha hb hc hm).imp fun σ H Q h => rd_chain h
theorem st_chain (hK : X.K = G.K) (hu : X.A.units + 65 < cLine) {op op' : Cm} (ha : PE X ea (rdE G L a)) (hb : PE X eb (rdE G L b)) (hc : PE X ec (rdE G L c)) (hm : lastMarks [cmOf op, cmOf op'] [eb, ec] = false) :
    PT X (.Compare ea [cmOf op, cmOf op'] [eb, ec] pos) (rdT G L (.chain op op' a b c)) :=
  (pt_chain (opc_cmp hK hu op).rule (opc_cmp hK hu op').rule ha hb hc hm).imp fun σ H Q h => rd_chain (rdT_E h)
/-! ### not, and, or -/
theorem rd_not {σ : L2.St} {H : Hp} {Q : VK} (h : rdE G L (.not a) σ H Q) : tNotV (rdE G L a) σ H Q := by
  refine rd1 h (fun _ => rfl) rfl fun R S' H' n d v Ef hf w dom hv o => ?_
  cases d with
  | bl k => exact ⟨k, hv.bl, out_same o w rfl rfl⟩
  | _ => exact o.elim
theorem se_not (ha : PE X ea (rdE G L a)) : PE X (.UnaryOp .Not ea pos) (rdE G L (.not a)) := (pe_not ha).imp fun σ H Q h => rd_not h
theorem st_not (ha : PT X ea (rdT G L a)) : PT X (.UnaryOp .Not ea pos) (rdT G L (.not a)) := (pt_not ha).imp fun σ H Q h => by
  obtain ⟨R, ρ, H0, S, n, hh, hb, hp⟩ := h
  simp only [wgt] at hb hp
  simp only [evE] at hp
  refine ⟨R, ρ, H0, S, n, hh, hb, wp_mono (fun d hd => ?_) (fun _ _ x => x) (wp_bind hp)⟩
  cases d with
  | bl k =>
    obtain ⟨c, e, q⟩ := hd
    cases e
    exact ⟨k, rfl, q⟩
  | _ => exact hd.elim
/-- the first part of and, or -/
theorem rd_and {σ : L2.St} {H : Hp} {Q : VK} (h : rdE G L (.and a b) σ H Q) : tAndV (rdE G L a) (rdE G L b) σ H Q := by
  obtain ⟨R, ρ, H0, S, n, hh, hb, hp⟩ := h
  simp only [wgt] at hb hp
  simp only [evE] at hp
  refine ⟨R, ρ, H0, S, n, hh, by omega, wp_mono (fun d hd v S1 H1 b1 q1 hv => ?_) (fun c d hc dx S' H' b' hq => hc dx S' H' b' (hq.more (by omega))) (wp_bind hp)⟩
  cases d with
  | bl k =>
    refine ⟨k, hv.bl, ?_⟩
    cases k with
    | true =>
      rw [if_pos rfl]
      refine ⟨R, ρ, H0, S1, b1, hh.step q1, by have := q1.le; omega, wp_mono (fun d2 hd2 v2 S2 H2 b2 q2 hv2 => ?_) (fun c d hc dx S' H' b' hq => hc dx S' H' b' (q1.trans hq)) (wp_bind hd)⟩
      cases d2 with
      | bl k2 => exact hd2 v2 S2 H2 b2 (q1.trans q2) (hv2.frozen rfl)
      | _ => exact hd2.elim
    | false =>
      rw [if_neg Bool.false_ne_true]
      exact hd (.bl false) S1 H1 b1 (q1.more (by omega)) rfl
  | _ => exact hd.elim
theorem rd_or {σ : L2.St} {H : Hp} {Q : VK} (h : rdE G L (.or a b) σ H Q) : tOrV (rdE G L a) (rdE G L b) σ H Q := by
  obtain ⟨R, ρ, H0, S, n, hh, hb, hp⟩ := h
  simp only [wgt] at hb hp
  simp only [evE] at hp
  refine ⟨R, ρ, H0, S, n, hh, by omega, wp_mono (fun d hd v S1 H1 b1 q1 hv => ?_) (fun c d hc dx S' H' b' hq => hc dx S' H' b' (hq.more (by omega))) (wp_bind hp)⟩
  cases d with
  | bl k =>
    refine ⟨k, hv.bl, ?_⟩
    cases k with
    | false =>
      rw [if_neg Bool.false_ne_true]
      refine ⟨R, ρ, H0, S1, b1, hh.step q1, by have := q1.le; omega, wp_mono (fun d2 hd2 v2 S2 H2 b2 q2 hv2 => ?_) (fun c d hc dx S' H' b' hq => hc dx S' H' b' (q1.trans hq)) (wp_bind hd)⟩
      cases d2 with
      | bl k2 => exact hd2 v2 S2 H2 b2 (q1.trans q2) (hv2.frozen rfl)
      | _ => exact hd2.elim
    | true =>
      rw [if_pos rfl]
      exact hd (.bl true) S1 H1 b1 (q1.more (by omega)) rfl
  | _ => exact hd.elim
theorem rdT_and {σ : L2.St} {H : Hp} {Q : Bool → Hp → Prop} (h : rdT G L (.and a b) σ H Q) : tAnd (rdT G L a) (rdT G L b) σ H Q := by
  obtain ⟨R, ρ, H0, S, n, hh, hb, hp⟩ := h
  simp only [wgt] at hb hp
  simp only [evE] at hp
  refine ⟨R, ρ, H0, S, n, hh, by omega, wp_mono (fun d hd => ?_) (fun c d hc dx S' H' b' hq => hc dx S' H' b' (hq.more (by omega))) (wp_bind hp)⟩
  cases d with
  | bl k =>
    refine ⟨k, rfl, fun S1 H1 b1 q1 => ?_⟩
    cases k with
    | true =>
      rw [if_pos rfl]
      refine ⟨R, ρ, H0, S1, b1, hh.step q1, by have := q1.le; omega, wp_mono (fun d2 hd2 => ?_) (fun c d hc dx S' H' b' hq => hc dx S' H' b' (q1.trans hq)) (wp_bind hd)⟩
      cases d2 with
      | bl k2 =>
        obtain ⟨c, e, q⟩ := hd2
        cases e
        exact ⟨k2, rfl, fun S2 H2 b2 q2 => q S2 H2 b2 (q1.trans q2)⟩
      | _ => exact hd2.elim
    | false =>
      rw [if_neg Bool.false_ne_true]
      obtain ⟨c, e, q⟩ := hd
      cases e
      exact q S1 H1 b1 (q1.more (by omega))
  | _ => exact hd.elim
theorem rdT_or {σ : L2.St} {H : Hp} {Q : Bool → Hp → Prop} (h : rdT G L (.or a b) σ H Q) : tOr (rdT G L a) (rdT G L b) σ H Q := by
  obtain ⟨R, ρ, H0, S, n, hh, hb, hp⟩ := h
  simp only [wgt] at hb hp
  simp only [evE] at hp
  refine ⟨R, ρ, H0, S, n, hh, by omega, wp_mono (fun d hd => ?_) (fun c d hc dx S' H' b' hq => hc dx S' H' b' (hq.more (by omega))) (wp_bind hp)⟩
  cases d with
  | bl k =>
    refine ⟨k, rfl, fun S1 H1 b1 q1 => ?_⟩
    cases k with
    | false =>
      rw [if_neg Bool.false_ne_true]
      refine ⟨R, ρ, H0, S1, b1, hh.step q1, by have := q1.le; omega, wp_mono (fun d2 hd2 => ?_) (fun c d hc dx S' H' b' hq => hc dx S' H' b' (q1.trans hq)) (wp_bind hd)⟩
      cases d2 with
      | bl k2 =>
        obtain ⟨c, e, q⟩ := hd2
        cases e
        exact ⟨k2, rfl, fun S2 H2 b2 q2 => q S2 H2 b2 (q1.trans q2)⟩
      | _ => exact hd2.elim
    | true =>
      rw [if_pos rfl]
      obtain ⟨c, e, q⟩ := hd
      cases e
      exact q S1 H1 b1 (q1.more (by omega))
  | _ => exact hd.elim
theorem se_and (ha : PE X ea (rdE G L a)) (hb : PE X (.BoolOp .And (eb :: es) pos) (rdE G L b)) : PE X (.BoolOp .And (ea :: eb :: es) pos) (rdE G L (.and a b)) := (pe_and ha hb).imp fun σ H Q h => rd_and h
theorem se_or (ha : PE X ea (rdE G L a)) (hb : PE X (.BoolOp .Or (eb :: es) pos) (rdE G L b)) : PE X (.BoolOp .Or (ea :: eb :: es) pos) (rdE G L (.or a b)) := (pe_or ha hb).imp fun σ H Q h => rd_or h
theorem sw_and (ha : PT X ea (rdT G L a)) (hb : PW X (.BoolOp .And (eb :: es) pos) (rdT G L b)) : PW X (.BoolOp .And (ea :: eb :: es) pos) (rdT G L (.and a b)) :=
  ⟨fun wh pins s σ H Q I h => (pw_and ha hb).run wh pins s σ H Q I (rdT_and h)⟩
theorem sw_or (ha : PT X ea (rdT G L a)) (hb : PW X (.BoolOp .Or (eb :: es) pos) (rdT G L b)) : PW X (.BoolOp .Or (ea :: eb :: es) pos) (rdT G L (.or a b)) :=
  ⟨fun wh pins s σ H Q I h => (pw_or ha hb).run wh pins s σ H Q I (rdT_or h)⟩
/-! ### a if c else b -/
theorem rd_ite {σ : L2.St} {H : Hp} {Q : VK} (hm : md a = md b) (h : rdE G L (.ite c a b) σ H Q) : tIf (rdT G L c) (rdE G L a) (rdE G L b) σ H Q := by
  obtain ⟨R, ρ, H0, S, n, hh, hb, hp⟩ := h
  simp only [wgt, md] at hb hp
  simp only [evE] at hp
  refine ⟨R, ρ, H0, S, n, hh, by omega, wp_mono (fun d hd => ?_) (fun c d hc dx S' H' b' hq => hc dx S' H' b' (hq.more (by omega))) (wp_bind hp)⟩
  have lift : ∀ {m : Md} {S1 H1 S2 H2 : Hp} {b1 : Nat} {w : Nat} {d2 : D} {v2 : V}, Behind G R S H n w S1 H1 b1 → VR G R H1 S2 H2 m d2 v2 → VR G R H S2 H2 m d2 v2 := fun {m S1 H1 S2 H2 b1 w d2 v2} q r => by
    cases m with
    | f => exact r
    | b => exact r
    | o =>
      rcases r with r | ⟨ds, p, vs, h1, h2, h3, h4, h5, h6, h7⟩
      · exact .inl r
      · exact .inr ⟨ds, p, vs, h1, h2, h3, h4, h5, h6, fresh_of q.gr.dom h7⟩
  cases d with
  | bl k =>
    refine ⟨k, rfl, fun S1 H1 b1 q1 => ?_⟩
    cases k with
    | true =>
      rw [if_pos rfl]
      exact ⟨R, ρ, H0, S1, b1, hh.step q1, by have := q1.le; omega, wp_mono (fun d2 hd2 v2 S2 H2 b2 q2 hv2 => hd2 v2 S2 H2 b2 ((q1.trans q2).more (by omega)) (lift q1 hv2)) (fun c d hc dx S' H' b' hq => hc dx S' H' b' ((q1.trans hq).more (by omega))) hd⟩
    | false =>
      rw [if_neg Bool.false_ne_true]
      exact ⟨R, ρ, H0, S1, b1, hh.step q1, by have := q1.le; omega, wp_mono (fun d2 hd2 v2 S2 H2 b2 q2 hv2 => hd2 v2 S2 H2 b2 ((q1.trans q2).more (by omega)) (by rw [hm]; exact lift q1 hv2)) (fun c d hc dx S' H' b' hq => hc dx S' H' b' ((q1.trans hq).more (by omega))) hd⟩
  | _ => exact hd.elim
theorem se_ite (hm : md a = md b) (hc : PT X ec (rdT G L c)) (ha : PE X ea (rdE G L a)) (hb : PE X eb (rdE G L b)) : PE X (.IfExp ec ea eb pos) (rdE G L (.ite c a b)) := (pe_ifExp hc ha hb).imp fun σ H Q h => rd_ite hm h
/-! ### rows, tuples, lists -/
theorem sa_nil : PA X [] (rdA G L .nil) := pa_nil.imp fun σ H Q h => by
  obtain ⟨R, ρ, H0, S, n, hh, hb, hp⟩ := h
  obtain ⟨ds, e, q⟩ := hp
  cases e
  exact q [] S H n (Behind.refl hh.wd) .nil
theorem sa_cons {r : E} (ha : PE X ea (rdE G L a)) (hr : PA X es (rdA G L r)) (hs : starEach (ea :: es) X.env = (false, eval ea X.env) :: starEach es X.env) : PA X (ea :: es) (rdA G L (.cons a r)) :=
  (pa_cons ha hr hs).imp fun σ H Q h => by
    obtain ⟨R, ρ, H0, S, n, hh, hb, hp⟩ := h
    simp only [wgt, mds] at hb hp
    simp only [evE] at hp
    refine ⟨R, ρ, H0, S, n, hh, by omega, wp_mono (fun d hd v S1 H1 b1 q1 hv => ?_) (fun c d hc dx S' H' b' hq => hc dx S' H' b' (hq.more (by omega))) (wp_bind hp)⟩
    refine ⟨R, ρ, H0, S1, b1, hh.step q1, by have := q1.le; omega, wp_mono (fun d2 hd2 => ?_) (fun c d hc dx S' H' b' hq => hc dx S' H' b' (q1.trans hq)) (wp_bind hd)⟩
    cases d2 with
    | tup ds =>
      obtain ⟨es, e, q⟩ := hd2
      cases e
      refine ⟨ds, rfl, fun vs S2 H2 b2 q2 hvs => q (v :: vs) S2 H2 b2 (q1.trans q2) (.cons (hv.step q2.gr) q1.gr.dom (fun p ev em el => ?_) hvs)⟩
      rw [em] at hv
      rcases hv with hv | ⟨es, p', vs', h1, h2, h3, h4, _⟩
      · rw [el] at hv
        cases hv.1
      · rw [ev] at h2
        cases h2
        exact ⟨_, h4⟩
    | _ => exact hd2.elim
theorem pk_imp {X : Cx} {kws : List Keyword} {t t' : TA} (h : PK X kws t) (f : ∀ σ H Q, t' σ H Q → t σ H Q) : PK X kws t' := ⟨fun pos pins s σ H Q I q => h.run pos pins s σ H Q I (f σ H Q q)⟩
theorem sk_nil : PK X [] (rdA G L .nil) := pk_imp pk_nil fun σ H Q h => by
  obtain ⟨R, ρ, H0, S, n, hh, hb, hp⟩ := h
  obtain ⟨ds, e, q⟩ := hp
  cases e
  exact q [] S H n (Behind.refl hh.wd) .nil
theorem sk_cons {r : E} {kn : Option Str} {kp : Pos} {kws : List Keyword} (ha : PE X ea (rdE G L a)) (hr : PK X kws (rdA G L r)) : PK X (⟨kn, ea, kp⟩ :: kws) (rdA G L (.cons a r)) :=
  pk_imp (pk_cons ha hr) fun σ H Q h => by
    obtain ⟨R, ρ, H0, S, n, hh, hb, hp⟩ := h
    simp only [wgt, mds] at hb hp
    simp only [evE] at hp
    refine ⟨R, ρ, H0, S, n, hh, by omega, wp_mono (fun d hd v S1 H1 b1 q1 hv => ?_) (fun c d hc dx S' H' b' hq => hc dx S' H' b' (hq.more (by omega))) (wp_bind hp)⟩
    refine ⟨R, ρ, H0, S1, b1, hh.step q1, by have := q1.le; omega, wp_mono (fun d2 hd2 => ?_) (fun c d hc dx S' H' b' hq => hc dx S' H' b' (q1.trans hq)) (wp_bind hd)⟩
    cases d2 with
    | tup ds =>
      obtain ⟨es, e, q⟩ := hd2
      cases e
      refine ⟨ds, rfl, fun vs S2 H2 b2 q2 hvs => q (v :: vs) S2 H2 b2 (q1.trans q2) (.cons (hv.step q2.gr) q1.gr.dom (fun p ev em el => ?_) hvs)⟩
      rw [em] at hv
      rcases hv with hv | ⟨es, p', vs', h1, h2, h3, h4, _⟩
      · rw [el] at hv
        cases hv.1
      · rw [ev] at h2
        cases h2
        exact ⟨_, h4⟩
    | _ => exact hd2.elim
theorem wp_len {e : E} {ρ : Env} (h : True) : True := h
/-- a tuple display -/
theorem se_tup {r : E} {k : Nat} (hr : PA X es (rdA G L r)) (hm : ∀ m ∈ mds r, m = .f) (hm2 : md r = .f) (hl : es.length ≤ LIM) (hlen : ∀ (F : Nat → M D → List D → M D) (tm : M D) (ρ : Env) (Q : D → Prop) (Ef : Nat → D → Prop), wp (evE F tm r ρ) Q Ef → wp (evE F tm r ρ) (fun d => Q d ∧ ∃ ds, d = .tup ds ∧ ds.length = es.length) Ef) :
    PE X (.Tuple es k pos) (rdE G L r) := (pe_tup hr).imp fun σ H Q h => by
  obtain ⟨R, ρ, H0, S, n, hh, hb, hp⟩ := h
  refine ⟨R, ρ, H0, S, n, hh, hb, wp_mono (fun d hd => ?_) (fun _ _ x => x) (hlen _ _ _ _ _ hp)⟩
  obtain ⟨hd, ds, rfl, el⟩ := hd
  refine ⟨ds, rfl, fun vs S' H' b' q hvs => ⟨by rw [hvs.len, el, sizeLim]; exact hl, fun p hp => ?_⟩⟩
  rw [hm2] at hd
  exact hd (.ref p) (upd S' p (.tup vs)) _ b' ⟨q.gr.trans (gr_updF hp q.wd.sub), q.wd.newF hp (fun _ e => by cases e), q.le⟩ (rep_tup q.wd (hvs.frozen hm) hp)
/-- a list display -/
theorem se_lst {r : E} (hr : PA X es (rdA G L r)) (hm : ∀ m ∈ mds r, m = .f) (hl : es.length ≤ LIM) (hlen : ∀ (F : Nat → M D → List D → M D) (tm : M D) (ρ : Env) (Q : D → Prop) (Ef : Nat → D → Prop), wp (evE F tm r ρ) Q Ef → wp (evE F tm r ρ) (fun d => Q d ∧ ∃ ds, d = .tup ds ∧ ds.length = es.length) Ef) :
    PE X (.List es pos) (rdE G L (.list r)) := (pe_lst hr).imp fun σ H Q h => by
  obtain ⟨R, ρ, H0, S, n, hh, hb, hp⟩ := h
  simp only [evE] at hp
  refine ⟨R, ρ, H0, S, n, hh, hb, wp_mono (fun d hd => ?_) (fun _ _ x => x) (hlen _ _ _ _ _ (wp_bind hp))⟩
  obtain ⟨hd, ds, rfl, el⟩ := hd
  refine ⟨ds, rfl, fun vs S' H' b' q hvs => ⟨by rw [hvs.len, el, sizeLim]; exact hl, fun p hp => ?_⟩⟩
  have w2 := q.wd.new (o := .lst vs) hp
  have hS : S' p = none := by
    cases e : S' p with
    | none => rfl
    | some u =>
      have := q.wd.sub p u e
      rw [hp] at this
      cases this
  exact hd (.ref p) S' _ b' ⟨q.gr.trans (gr_upd hp), w2, q.le⟩ (.inr ⟨ds, p, vs, rfl, rfl, hS, upd_same, q.wd.nstOf hp, hvs.frozen hm, fresh_of q.gr.dom hp⟩)
/-! ### minus, subscripts, slices -/
theorem se_neg (ha : PE X ea (rdE G L a)) : PE X (.UnaryOp .USub ea pos) (rdE G L (.neg a)) := (pe_un un_neg ha).imp fun σ H Q h => by
  refine rd1 h (fun _ => rfl) rfl fun R S' H' n d v Ef hf w dom hv o => ?_
  cases d with
  | int i => exact ⟨i, hv.int, out_same o w rfl rfl⟩
  | _ => exact o.elim
theorem atD_I {ds : List D} {vs : List V} {K : PySem.W.Frag} {R : Rp} {S : Hp} {i : Int} {d : D} (r : RepL K R S ds vs) (h : atD ds i = some d) : ∃ v, atI vs i = some v ∧ Rep K R S d v := by
  unfold atD at h
  have hl := r.len
  by_cases h0 : 0 ≤ i
  · rw [if_pos h0] at h
    obtain ⟨v, e, q⟩ := r.get h
    refine ⟨v, ?_, q⟩
    have := atI_nat (xs := vs) e
    rw [show ((i.toNat : Nat) : Int) = i by omega] at this
    exact this
  · rw [if_neg h0] at h
    by_cases h1 : -(ds.length : Int) ≤ i
    · rw [if_pos h1] at h
      obtain ⟨v, e, q⟩ := r.get h
      refine ⟨v, ?_, q⟩
      unfold atI ixN
      rw [if_neg h0, hl, if_pos h1]
      exact e
    · rw [if_neg h1] at h
      cases h
theorem rep_m {R : Rp} {H0 S H : Hp} {d : D} {v : V} {n : Nat} {Q : VK} (o : Out G R H0 S H n .f Q d) (w : Wd G R S H n) (r : Rep G.K R S d v) : Q v H := o v S H (Gr.refl R S H) w r
theorem se_idx (hK : X.K = G.K) (ha : PE X ea (rdE G L a)) (hb : PE X eb (rdE G L b)) (hs : PlainIx eb) : PE X (.Subscript ea eb pos) (rdE G L (.idx a b)) := (pe_ix ix_seq ha hb hs).imp fun σ H Q h => by
  refine rd2 h (fun _ => rfl) rfl fun R H1 S' H' n d1 d2 v1 v2 Ef hf w dom r1 r2 o => ?_
  cases d1 with
  | tup xs =>
    cases d2 with
    | int i =>
      obtain ⟨p, vs, rfl, sp, rp⟩ := r1.tup
      cases r2.int
      simp only [idxV] at o
      cases e : atD xs i with
      | none => rw [e] at o; exact o.elim
      | some d =>
        rw [e] at o
        obtain ⟨v, e1, q1⟩ := atD_I rp e
        exact .inr (.inl ⟨p, vs, i, v, rfl, rfl, by rw [hK]; exact SqT.same w.sub sp, e1, rep_m o w q1⟩)
    | _ => exact o.elim
  | lst xs =>
    cases d2 with
    | int i =>
      obtain ⟨p, vs, rfl, sp, rp⟩ := r1.lst w.sub
      cases r2.int
      simp only [idxV] at o
      cases e : atD xs i with
      | none => rw [e] at o; exact o.elim
      | some d =>
        rw [e] at o
        obtain ⟨v, e1, q1⟩ := atD_I rp e
        exact .inl ⟨p, vs, i, v, rfl, rfl, .inl (.inl sp), e1, rep_m o w q1⟩
    | _ => exact o.elim
  | _ => cases d2 <;> exact o.elim
end
end Cl
set_option autoImplicit false
set_option Elab.async false
set_option linter.all false
set_option maxRecDepth 100000
set_option maxHeartbeats 4000000
/-! Slices; calls of built-ins by values. -/
namespace Cl
open PySem PySem.Spec PyProof.Rows L2
section
variable {G : Gl0} {L : Lv} {X : Cx} {a b c : E} {ea eb ec : Expr} {es : List Expr} {pos p2 : Pos}
theorem bnd_eq (n d : Nat) (o : Option Int) : HT.sIx n d o = bnd n d o := by cases o <;> rfl
theorem cut_rep {K : PySem.W.Frag} {R : Rp} {S : Hp} {ds : List D} {vs : List V} (r : RepL K R S ds vs) (lo hi : Option Int) : RepL K R S (cut ds lo hi) (cutV vs lo hi) := by
  unfold cut cutV
  rw [bnd_eq, bnd_eq, r.len]
  exact (r.drop _).take _
def partE (G : Gl0) (L : Lv) (e : E) (ρ : Env) : M (Option Int) := match e with
  | .absent => M.ok none
  | _ => (evE L.F L.tm e ρ).bind asI
/-- a bound's reading -/
def rdP (G : Gl0) (L : Lv) (e : E) : TO := fun σ H Q => ∃ R ρ H0 S b, Here G L R ρ σ H0 S H b ∧ b + wgt L.k L.kh L.t e ≤ BIG ∧
  wp (partE G L e ρ) (fun o => ∀ S' H' b', Behind G R S H b (wgt L.k L.kh L.t e) S' H' b' → Q o H') (wishX G L R σ S H b (wgt L.k L.kh L.t e))
theorem _root_.L2.PO.imp {e : Option Expr} {t t' : TO} (h : PO X e t) (f : ∀ σ H Q, t' σ H Q → t σ H Q) : PO X e t' := ⟨fun pins s σ H Q I q => h.run pins s σ H Q I (f σ H Q q)⟩
theorem sp_none : PO X none (rdP G L .absent) := po_none.imp fun σ H Q h => by
  obtain ⟨R, ρ, H0, S, n, hh, hb, hp⟩ := h
  exact hp S H n (Behind.refl hh.wd)
theorem sp_some (hn : b ≠ .absent) (hb : PE X eb (rdE G L b)) : PO X (some eb) (rdP G L b) := (po_some hb).imp fun σ H Q h => by
  obtain ⟨R, ρ, H0, S, n, hh, hb, hp⟩ := h
  have e : partE G L b ρ = (evE L.F L.tm b ρ).bind asI := by
    cases b <;> first | rfl | exact (hn rfl).elim
  rw [e] at hp
  refine ⟨R, ρ, H0, S, n, hh, hb, wp_mono (fun d hd v S' H' b' q hv => ?_) (fun _ _ x => x) (wp_bind hp)⟩
  cases d with
  | int i => exact ⟨i, hv.int, hd S' H' b' q⟩
  | _ => exact hd.elim
def rSlC (G : Gl0) : V → Option Int → Option Int → Hp → VK → Prop := fun x lo hi H Q => ∃ (R : Rp) (H0 S : Hp) (n : Nat) (m : Md) (d : D) (Ef : Nat → D → Prop), R.fA = G.fA ∧ Wd G R S H n ∧ (∀ c o, H0 c = some o → ∃ o', H c = some o') ∧ VR G R H0 S H m d x ∧ wp (slcV d lo hi) (Out G R H0 S H n .o Q) Ef
theorem sl_C (hK : X.K = G.K) : SlR X (rSlC G) := by
  intro pins s σ H x v vl vu lo hi sl Q I rx hs pl pu h
  obtain ⟨R, H0, S, n, m, d, Ef, hf, w, dom, r, o⟩ := h
  cases d with
  | tup xs =>
    obtain ⟨p, vs, rfl, sp, rp⟩ := r.tup
    refine sl_tupA pins s σ H _ v vl vu lo hi sl Q I rx hs pl pu ⟨p, vs, rfl, by rw [hK]; exact SqT.same w.sub sp, fun e => ?_, fun e q hq => out_tup o w (cut_rep rp lo hi) hq⟩
    have ec : cutV vs lo hi = vs := by
      unfold cutV
      rw [e.1, e.2]
      simp
    have ed : cut xs lo hi = xs := by
      unfold cut
      rw [← bnd_eq, ← bnd_eq, ← rp.len, e.1, e.2, rp.len]
      simp
    refine out_same (d := .tup (cut xs lo hi)) o w rfl ?_
    rw [ed]
    exact ⟨p, vs, rfl, sp, rp⟩
  | lst xs =>
    obtain ⟨p, vs, rfl, sp, rp⟩ := r.lst w.sub
    exact sl_list pins s σ H _ v vl vu lo hi sl Q I rx hs pl pu ⟨p, vs, rfl, .inl (.inl sp), fun q hq => out_lst o w dom (cut_rep rp lo hi) hq⟩
  | _ => exact o.elim
theorem se_slc (hK : X.K = G.K) {lo hi : Option Expr} (ha : PE X ea (rdE G L a)) (hb : PO X lo (rdP G L b)) (hc : PO X hi (rdP G L c)) : PE X (.Subscript ea (.Slice lo hi none p2) pos) (rdE G L (.slc a b c)) :=
  (pe_slice (sl_C hK) ha hb hc).imp fun σ H Q h => by
    obtain ⟨R, ρ, H0, S, n, hh, hb, hp⟩ := h
    have ev : evE L.F L.tm (.slc a b c) ρ = (evE L.F L.tm a ρ).bind fun x => (partE G L b ρ).bind fun l => (partE G L c ρ).bind fun h => slcV x l h := by
      simp only [evE, partE] <;> rfl
    rw [ev] at hp
    simp only [wgt] at hb hp
    refine ⟨R, ρ, H0, S, n, hh, by omega, wp_mono (fun d hd v S1 H1 b1 q1 hv => ?_) (fun c d hc dx S' H' b' hq => hc dx S' H' b' (hq.more (by omega))) (wp_bind hp)⟩
    refine ⟨R, ρ, H0, S1, b1, hh.step q1, by have := q1.le; omega, wp_mono (fun l hl S2 H2 b2 q2 => ?_) (fun c d hc dx S' H' b' hq => hc dx S' H' b' ((q1.trans hq).more (by omega))) (wp_bind hd)⟩
    refine ⟨R, ρ, H0, S2, b2, (hh.step q1).step q2, by have := q1.le; have := q2.le; omega, wp_mono (fun u hu S3 H3 b3 q3 => ?_) (fun c d hc dx S' H' b' hq => hc dx S' H' b' (((q1.trans q2).trans hq).more (by omega))) (wp_bind hl)⟩
    refine ⟨R, H, S3, b3, md a, d, _, hh.fA, q3.wd, (q1.gr.trans (q2.gr.trans q3.gr)).dom, hv.step (q2.gr.trans q3.gr), wp_mono (fun d' q v' S4 H4 g4 w4 r4 => ?_) (fun _ _ x => x) hu⟩
    exact q v' S4 H4 b3 ⟨(q1.gr.trans (q2.gr.trans q3.gr)).trans g4, w4, by have := q1.le; have := q2.le; have := q3.le; omega⟩ r4
end
end Cl
set_option autoImplicit false
set_option Elab.async false
set_option linter.all false
set_option maxRecDepth 100000
set_option maxHeartbeats 4000000
/-! Calls of built-ins. -/
namespace Cl
open PySem PySem.Spec PyProof.Rows L2
section
variable {G : Gl0} {L : Lv} {X : Cx} {a b c : E} {ea eb ec : Expr} {es : List Expr} {pos p2 : Pos}

/-! ### how long a text repr makes -/
theorem piled_le : ∀ {ts : List Str} {n : Nat}, (ts.map fun t => t.length + 2).sum ≤ n → piled ts ≤ n
  | [], n, _ => Nat.zero_le _
  | t :: ts, n, h => by
    simp only [List.map_cons, List.sum_cons] at h
    have := piled_le (ts := ts) (n := n - (t.length + 2)) (by omega)
    simp only [piled] at this ⊢
    simp only [List.map_cons, List.sum_cons] at this ⊢
    omega
theorem tupleText_le (ts : List Str) : (tupleText ts).length ≤ (ts.map fun t => t.length + 2).sum + 3 := by
  unfold tupleText
  rw [strLen_append, strLen_append]
  have e1 : ((if ts.length == 1 then ",)" else ")" : String) : Str).length ≤ 2 := by
    split <;> decide
  have e2 : (("(" : Str)).length = 1 := rfl
  cases ts with
  | nil =>
    have e3 : (Str.join ", " ([] : List Str)).length = 0 := rfl
    simp only [List.map_nil, List.sum_nil]
    omega
  | cons t r =>
    have e3 := join_length_add (t :: r) (by simp)
    have e4 := piled_le (ts := t :: r) (Nat.le_refl _)
    omega
theorem textFrom_le : ∀ (ts : List Str) (k : Nat) (acc : Str), (textFrom k acc ts).length ≤ acc.length + (ts.map fun t => t.length + 2).sum
  | [], k, acc => by simp [textFrom]
  | t :: r, k, acc => by
    have ih := textFrom_le r (k + 1) (acc ++ (if k > 0 then ", " else "" : String) ++ t)
    have e : (acc ++ (if k > 0 then ", " else "" : String) ++ t).length ≤ acc.length + 2 + t.length := by
      rw [strLen_append, strLen_append]
      have : ((if k > 0 then ", " else "" : String) : Str).length ≤ 2 := by split <;> decide
      omega
    simp only [textFrom, List.map_cons, List.sum_cons]
    omega
theorem listText_le (ts : List Str) : (listText ts).length ≤ (ts.map fun t => t.length + 2).sum + 2 := by
  unfold listText
  rw [strLen_append]
  have h := textFrom_le ts 0 "["
  have e1 : (("[" : Str)).length = 1 := rfl
  have e2 : (("]" : String) : Str).length = 1 := rfl
  omega
mutual
theorem shown_le : ∀ (d : D) (n : Nat), D.fit n d = true → D.low d = true → (toPy d).shown.length ≤ D.wid d
  | .non, n, _, _ => by simp only [toPy, PyData.shown, D.wid]; decide
  | .bl b, n, _, _ => by cases b <;> simp only [toPy, PyData.shown, D.wid] <;> decide
  | .int i, n, _, h => by
    simp only [D.low, decide_eq_true_eq] at h
    simp only [toPy, PyData.shown, D.wid]
    have := int_text_length_le10 (a := i) (k := 570) (by decide) h
    rw [PySem.ofString_length]
    exact this
  | .str x, n, f, _ => by
    have f' : x.cps.all (· < 1114112) = true := by cases n <;> simpa [D.fit] using f
    simp only [toPy, PyData.shown, D.wid]
    refine StrLaws.reprText_len x fun c hc => ?_
    have : c < 1114112 := by
      have := Array.all_eq_true_iff_forall_mem.mp f' c (Array.mem_def.mpr hc)
      simpa using this
    have e : (16 : Nat) ^ 8 = 4294967296 := by decide
    omega
  | .tup ds, 0, f, _ => by simp [D.fit] at f
  | .tup ds, n + 1, f, h => by
    simp only [D.fit] at f
    simp only [D.low] at h
    simp only [toPy, PyData.shown, D.wid]
    exact Nat.le_trans (tupleText_le _) (Nat.add_le_add_right (shown_les ds n f h) 3)
  | .lst ds, 0, f, _ => by simp [D.fit] at f
  | .lst ds, n + 1, f, h => by
    simp only [D.fit] at f
    simp only [D.low] at h
    simp only [toPy, PyData.shown, D.wid]
    exact Nat.le_trans (listText_le _) (Nat.add_le_add_right (shown_les ds n f h) 2)
  | .rep _, n, f, _ => by cases n <;> simp [D.fit] at f
  | .fn _, n, f, _ => by cases n <;> simp [D.fit] at f
  | .st, n, f, _ => by cases n <;> simp [D.fit] at f
  | .thk, n, f, _ => by cases n <;> simp [D.fit] at f
  | .exc _ _, n, f, _ => by cases n <;> simp [D.fit] at f
theorem shown_les : ∀ (ds : List D) (n : Nat), D.fits n ds = true → D.lows ds = true → ((PyData.shownAll (toPys ds)).map fun t => t.length + 2).sum ≤ D.wids ds
  | [], n, _, _ => by simp [toPys, PyData.shownAll, D.wids]
  | d :: ds, n, f, h => by
    simp only [D.fits, Bool.and_eq_true] at f
    simp only [D.lows, Bool.and_eq_true] at h
    have h1 := shown_le d n f.1 h.1
    have h2 := shown_les ds n f.2 h.2
    simp only [toPys, PyData.shownAll, List.map_cons, List.sum_cons, D.wids]
    omega
end
theorem log_low {i : Int} (h : i.natAbs < 10 ^ 570) : i.natAbs.log2 < 1920 := by
  by_cases z : i.natAbs = 0
  · rw [z]
    decide
  · refine (Nat.log2_lt z).mpr (Nat.lt_trans h ?_)
    decide +kernel
mutual
theorem fit_showable : ∀ (d : D) (n : Nat), D.fit n d = true → D.low d = true → (toPy d).showable = true
  | .non, n, _, _ => by simp [toPy, PyData.showable]
  | .bl b, n, _, _ => by simp [toPy, PyData.showable]
  | .int i, n, _, h => by
    simp only [D.low, decide_eq_true_eq] at h
    simp only [toPy, PyData.showable]
    exact decide_eq_true (log_low h)
  | .str x, n, f, _ => by simp [toPy, PyData.showable]
  | .tup ds, 0, f, _ => by simp [D.fit] at f
  | .tup ds, n + 1, f, h => by
    simp only [D.fit] at f
    simp only [D.low] at h
    simp only [toPy, PyData.showable]
    exact fits_showable ds n f h
  | .lst ds, 0, f, _ => by simp [D.fit] at f
  | .lst ds, n + 1, f, h => by
    simp only [D.fit] at f
    simp only [D.low] at h
    simp only [toPy, PyData.showable]
    exact fits_showable ds n f h
  | .rep _, n, f, _ => by cases n <;> simp [D.fit] at f
  | .fn _, n, f, _ => by cases n <;> simp [D.fit] at f
  | .st, n, f, _ => by cases n <;> simp [D.fit] at f
  | .thk, n, f, _ => by cases n <;> simp [D.fit] at f
  | .exc _ _, n, f, _ => by cases n <;> simp [D.fit] at f
theorem fits_showable : ∀ (ds : List D) (n : Nat), D.fits n ds = true → D.lows ds = true → PyData.showableAll (toPys ds) = true
  | [], n, _, _ => by simp [toPys, PyData.showableAll]
  | d :: ds, n, f, h => by
    simp only [D.fits, Bool.and_eq_true] at f
    simp only [D.lows, Bool.and_eq_true] at h
    simp only [toPys, PyData.showableAll, fit_showable d n f.1 h.1, fits_showable ds n f.2 h.2, Bool.and_true]
end

/-! ### built-ins by values -/
/-- what a call by values is to do -/
def CalC (G : Gl0) (X : Cx) (f : Value) (g : List D → M D) (m : Md) : Prop :=
  ∀ (R : Rp) (H0 S H : Hp) (n : Nat) (ms : List Md) (ds : List D) (vs : List V) (Q : VK) (Ef : Nat → D → Prop), R.fA = G.fA → Wd G R S H n → (∀ c o, H0 c = some o → ∃ o', H c = some o') → VRs G R S H H0 ms ds vs →
    wp (g ds) (Out G R H0 S H n m Q) Ef → ∃ r : List V → Hp → VK → Prop, CallR X f r ∧ r vs H Q
def rCal (G : Gl0) (g : List D → M D) (m : Md) : List V → Hp → VK → Prop := fun vs H Q => ∃ (R : Rp) (H0 S : Hp) (n : Nat) (ms : List Md) (ds : List D) (Ef : Nat → D → Prop), R.fA = G.fA ∧ Wd G R S H n ∧ (∀ c o, H0 c = some o → ∃ o', H c = some o') ∧ VRs G R S H H0 ms ds vs ∧
  wp (g ds) (Out G R H0 S H n m Q) Ef
theorem CalC.rule {f : Value} {g : List D → M D} {m : Md} (h : CalC G X f g m) : CallR X f (rCal G g m) := by
  intro pins s σ H xs us Q I rx q
  obtain ⟨R, H0, S, n, ms, ds, Ef, hf, w, dom, r, o⟩ := q
  obtain ⟨rr, hr, hq⟩ := h R H0 S H n ms ds xs Q Ef hf w dom r o
  exact hr pins s σ H xs us Q I rx hq
theorem rd_prim {p : Pr} {σ : L2.St} {H : Hp} {Q : VK} (h : rdE G L (.prim p a) σ H Q) : tCB (rCal G (primV p) (md (.prim p a))) (rdA G L a) σ H Q := by
  obtain ⟨R, ρ, H0, S, n, hh, hb, hp⟩ := h
  simp only [wgt] at hb hp
  simp only [evE] at hp
  refine ⟨R, ρ, H0, S, n, hh, hb, wp_mono (fun d hd => ?_) (fun _ _ x => x) (wp_bind hp)⟩
  cases d with
  | tup ds => exact ⟨ds, rfl, fun vs S' H' b' q hv => ⟨R, H, S', b', mds a, ds, _, hh.fA, q.wd, q.gr.dom, hv, wp_mono (fun d' q' v' S4 H4 g4 w4 r4 => q' v' S4 H4 b' ⟨q.gr.trans g4, w4, q.le⟩ r4) (fun _ _ x => x) hd⟩⟩
  | _ => exact hd.elim
theorem sq_of (hK : X.K = G.K) {R : Rp} {H0 S H : Hp} {n : Nat} {m : Md} {d : D} {v : V} {xs : List D} (w : Wd G R S H n) (r : VR G R H0 S H m d v) (e : items d = some xs) : ∃ p vs, v = .ref p ∧ (SqL X.K H p vs ∨ SqT X.K H p vs) ∧ RepL G.K R S xs vs := by
  cases d with
  | tup ys =>
    cases e
    obtain ⟨p, vs, rfl, sp, rp⟩ := r.tup
    exact ⟨p, vs, rfl, .inr (by rw [hK]; exact SqT.same w.sub sp), rp⟩
  | lst ys =>
    cases e
    obtain ⟨p, vs, rfl, sp, rp⟩ := r.lst w.sub
    exact ⟨p, vs, rfl, .inl (.inl (.inl sp)), rp⟩
  | _ => cases e
theorem one_of {g : List D → M D} {d : D} {ds : List D} {P : D → Prop} {Ef : Nat → D → Prop} (h : wp (g ds) P Ef) (hs : ∀ l : List D, l.length ≠ 1 → g l = .stuck) : ∃ d, ds = [d] := by
  cases ds with
  | nil => rw [hs [] (by simp)] at h; exact h.elim
  | cons x r =>
    cases r with
    | nil => exact ⟨x, rfl⟩
    | cons y q => rw [hs (x :: y :: q) (by simp)] at h; exact h.elim
theorem cc_len (hK : X.K = G.K) : CalC G X (.builtin "len") (primV .len) .f := by
  intro R H0 S H n ms ds vs Q Ef hf w dom r o
  obtain ⟨d, rfl⟩ := one_of (d := .non) o (fun l h => by cases l with | nil => rfl | cons x r => cases r with | nil => exact (h rfl).elim | cons y q => cases x <;> rfl)
  obtain ⟨v, m, rfl, hv⟩ := r.one
  cases d with
  | tup xs =>
    obtain ⟨p, us, rfl, sp, rp⟩ := sq_of hK w hv rfl
    refine ⟨_, call_len_seq, p, us, rfl, sp, ?_⟩
    rw [rp.len]
    exact out_same o w rfl rfl
  | lst xs =>
    obtain ⟨p, us, rfl, sp, rp⟩ := sq_of hK w hv rfl
    refine ⟨_, call_len_seq, p, us, rfl, sp, ?_⟩
    rw [rp.len]
    exact out_same o w rfl rfl
  | _ => exact o.elim
theorem cc_list (hK : X.K = G.K) : CalC G X (.type "list") (primV .list) .o := by
  intro R H0 S H n ms ds vs Q Ef hf w dom r o
  obtain ⟨d, rfl⟩ := one_of (d := .non) o (fun l h => by cases l with | nil => rfl | cons x r => cases r with | nil => exact (h rfl).elim | cons y q => cases x <;> rfl)
  obtain ⟨v, m, rfl, hv⟩ := r.one
  cases d with
  | tup xs =>
    obtain ⟨p, us, rfl, sp, rp⟩ := sq_of hK w hv rfl
    exact ⟨_, call_list_of, p, us, rfl, sp, fun l hl => out_lst o w dom rp hl⟩
  | lst xs =>
    obtain ⟨p, us, rfl, sp, rp⟩ := sq_of hK w hv rfl
    exact ⟨_, call_list_of, p, us, rfl, sp, fun l hl => out_lst o w dom rp hl⟩
  | _ => exact o.elim
theorem cc_tuple (hK : X.K = G.K) : CalC G X (.type "tuple") (primV .tuple) .f := by
  intro R H0 S H n ms ds vs Q Ef hf w dom r o
  obtain ⟨d, rfl⟩ := one_of (d := .non) o (fun l h => by cases l with | nil => rfl | cons x r => cases r with | nil => exact (h rfl).elim | cons y q => cases x <;> rfl)
  obtain ⟨v, m, rfl, hv⟩ := r.one
  cases d with
  | tup xs =>
    obtain ⟨p, us, rfl, sp, rp⟩ := hv.tup
    exact ⟨_, call_tuple_of, p, us, rfl, .inr ⟨by rw [hK]; exact SqT.same w.sub sp, out_same o w rfl ⟨p, us, rfl, sp, rp⟩⟩⟩
  | lst xs =>
    obtain ⟨p, us, rfl, sp, rp⟩ := hv.lst w.sub
    exact ⟨_, call_tuple_of, p, us, rfl, .inl ⟨.inl (.inl sp), fun l hl => out_tup o w rp hl⟩⟩
  | _ => exact o.elim
theorem cc_int : CalC G X (.type "int") (primV .int) .f := by
  intro R H0 S H n ms ds vs Q Ef hf w dom r o
  obtain ⟨d, rfl⟩ := one_of (d := .non) o (fun l h => by cases l with | nil => rfl | cons x r => cases r with | nil => exact (h rfl).elim | cons y q => cases x <;> rfl)
  obtain ⟨v, m, rfl, hv⟩ := r.one
  cases d with
  | int i =>
    cases hv.int
    exact ⟨_, call_int1, .inl ⟨i, rfl, out_same o w rfl rfl⟩⟩
  | _ => exact o.elim
theorem ints_rep {K : PySem.W.Frag} {R : Rp} {S : Hp} : ∀ {ds : List D} {vs : List V} {l : List Int}, RepL K R S ds vs → intL ds = some l → vs = l.map V.int
  | [], vs, l, r, h => by
    cases h
    exact r
  | d :: ds, vs, l, r, h => by
    obtain ⟨v, q, rfl, x, y⟩ := r
    cases d with
    | int i =>
      simp only [intL, Option.map_eq_some_iff] at h
      obtain ⟨l', h1, rfl⟩ := h
      rw [ints_rep y h1, show v = V.int i from x]
      rfl
    | _ => cases h
theorem cc_max2 (hc : X.calm = true) : CalC G X (.builtin "max") (primV .max2) .f := by
  intro R H0 S H n ms ds vs Q Ef hf w dom r o
  cases ds with
  | nil => exact o.elim
  | cons x t =>
    cases t with
    | nil => cases x <;> exact o.elim
    | cons y u =>
      cases u with
      | cons _ _ => cases x <;> cases y <;> exact o.elim
      | nil =>
        obtain ⟨v1, v2, m1, m2, H1, rfl, h1, h2⟩ := r.two
        cases x with
        | int i =>
          cases y with
          | int j =>
            cases h1.int
            cases h2.int
            exact ⟨_, call_max2 hc, i, j, rfl, out_same o w rfl rfl⟩
          | _ => exact o.elim
        | _ => cases y <;> exact o.elim
theorem cc_min2 (hc : X.calm = true) : CalC G X (.builtin "min") (primV .min2) .f := by
  intro R H0 S H n ms ds vs Q Ef hf w dom r o
  cases ds with
  | nil => exact o.elim
  | cons x t =>
    cases t with
    | nil => cases x <;> exact o.elim
    | cons y u =>
      cases u with
      | cons _ _ => cases x <;> cases y <;> exact o.elim
      | nil =>
        obtain ⟨v1, v2, m1, m2, H1, rfl, h1, h2⟩ := r.two
        cases x with
        | int i =>
          cases y with
          | int j =>
            cases h1.int
            cases h2.int
            exact ⟨_, call_min2 hc, i, j, rfl, out_same o w rfl rfl⟩
          | _ => exact o.elim
        | _ => cases y <;> exact o.elim
end
end Cl
set_option autoImplicit false
set_option Elab.async false
set_option linter.all false
set_option maxRecDepth 100000
set_option maxHeartbeats 4000000
/-! sum, ranges as lists and tuples, isinstance, repr. -/
namespace Cl
open PySem PySem.Spec PyProof.Rows L2
section
variable {G : Gl0} {L : Lv} {X : Cx} {a b c : E} {ea eb ec : Expr} {es : List Expr} {pos p2 : Pos}
theorem preSum_list (ns : List Int) : ∀ k, k ≤ ns.length → PySem.preSum (fun i => ns.getD i 0) k = (ns.take k).sum
  | 0, _ => by simp [PySem.preSum]
  | k + 1, h => by
    rw [PySem.preSum, preSum_list ns k (by omega), List.take_add_one, List.sum_append]
    have : ns[k]? = some ns[k] := List.getElem?_eq_getElem (by omega)
    rw [List.getD_eq_getElem?_getD, this]
    simp
theorem call_sumT (hc : X.calm = true) : CallR X (.builtin "sum") (fun vs H Q => ∃ (a : Addr) (ns : List Int), vs = [V.ref a] ∧ SqT X.K H a (ns.map V.int) ∧ Q (.int ns.sum) H) := by
  intro pins s σ H xs us Q I rx h
  obtain ⟨a, ns, rfl, hT, q⟩ := h
  obtain ⟨u, rfl, ru⟩ := vals1 rx
  cases ru
  obtain ⟨its, r, p, hz⟩ := I.tuple hT
  have hi := intsAre_of r
  have hlen : its.length = ns.length := by
    have := r.length
    simpa using this.symm
  refine call_sum_walkAnyS (W.iter_tupleW (A := X.A.in1) (I.ok.hd hc) p fun s₂ e Wk st hfp hw hk => ?_)
  refine ⟨_, _, _, _, its.toArray.size, _, _, fun i => ns.getD i 0, rfl, Wk, st, hfp, fun i v hv => ?_, fun s' t' m => ?_⟩
  · have hv' : its[i]? = some v := by simpa using hv
    have hil : i < its.length := by
      obtain ⟨h1, _⟩ := List.getElem?_eq_some_iff.mp hv'
      exact h1
    have hni : (ns.map V.int)[i]? = some (.int (ns.getD i 0)) := by
      rw [List.getElem?_map, List.getD_eq_getElem?_getD, List.getElem?_eq_getElem (by omega)]
      rfl
    obtain ⟨u, h1, h2⟩ := r.get hni
    rw [hv'] at h1
    cases h1
    exact h2
  · obtain ⟨h', tk, rfl, hk'⟩ := W.moved_old e rfl m
    have es : PySem.preSum (fun i => ns.getD i 0) its.toArray.size = ns.sum := by
      rw [List.size_toArray, hlen, preSum_list ns ns.length (Nat.le_refl _), List.take_length]
    rw [es]
    exact ⟨.int ns.sum, H, I.kept (t' := tk) hk', ⟨_, rfl⟩, q⟩
theorem cc_sum (hK : X.K = G.K) (hc : X.calm = true) : CalC G X (.builtin "sum") (primV .sum) .f := by
  intro R H0 S H n ms ds vs Q Ef hf w dom r o
  obtain ⟨d, rfl⟩ := one_of (d := .non) o (fun l h => by cases l with | nil => rfl | cons x r => cases r with | nil => exact (h rfl).elim | cons y q => cases x <;> rfl)
  obtain ⟨v, m, rfl, hv⟩ := r.one
  simp only [primV] at o
  cases e : items d with
  | none => rw [e] at o; exact o.elim
  | some xs =>
    rw [e] at o
    cases e2 : intL xs with
    | none => simp only [e2, oM] at o; exact o.elim
    | some l =>
      simp only [e2, oM, Option.map_some] at o
      obtain ⟨p, us, rfl, sp, rp⟩ := sq_of hK w hv e
      have eu := ints_rep rp e2
      subst eu
      rcases sp with sp | sp
      · exact ⟨_, cr_sum hc, p, l, rfl, sp, out_same o w rfl rfl⟩
      · exact ⟨_, call_sumT hc, p, l, rfl, sp, out_same o w rfl rfl⟩
/-! ### isinstance -/
def tyName : Pr → String
  | .isInt => "int" | .isBool => "bool" | .isTuple => "tuple" | .isList => "list" | _ => ""
def tyOf : D → String
  | .non => "NoneType" | .bl _ => "bool" | .int _ => "int" | .str _ => "str" | .tup _ => "tuple" | .lst _ => "list" | _ => ""
def plainD : D → Bool
  | .non | .bl _ | .int _ | .str _ | .tup _ | .lst _ => true
  | _ => false
theorem tyx_of (hK : X.K = G.K) {R : Rp} {H0 S H : Hp} {n : Nat} {m : Md} {d : D} {v : V} (w : Wd G R S H n) (r : VR G R H0 S H m d v) (hp : plainD d = true) : TyX X.K H v (.type (tyOf d)) := by
  cases d with
  | non => cases r.non; exact .base .non
  | bl b => cases r.bl; exact .base (.bl b)
  | int i => cases r.int; exact .base (.int i)
  | str x => cases (show v = _ from r.frozen (d := .str x) rfl); exact .base (.str x)
  | tup xs =>
    obtain ⟨p, vs, rfl, sp, rp⟩ := r.tup
    rcases SqT.same w.sub sp with (h | ⟨o, h⟩) | ⟨o, its, k, h1, h2, _⟩
    · exact .base (.tup h)
    · exact .fTuple h
    · exact .kTuple (by rw [hK]; exact h1) h2
  | lst xs =>
    obtain ⟨p, vs, rfl, sp, rp⟩ := r.lst w.sub
    exact .base (.lst sp)
  | _ => cases hp
theorem isi_kit (p : Pr) (d : D) (hp : p = .isInt ∨ p = .isBool ∨ p = .isTuple ∨ p = .isList) (hd : plainD d = true) : ∃ k, primV p [d] = .ok (.bl k) ∧ PySem.W.kitOne G.K (.type (tyOf d)) (.type (tyName p)) = some k := by
  rcases hp with rfl | rfl | rfl | rfl <;> cases d <;> first | (cases hd; done) | exact ⟨_, rfl, kit_ty (by dsimp only [tyOf, tyName]; decide +kernel)⟩
theorem isi_stuck (p : Pr) (d : D) (hp : p = .isInt ∨ p = .isBool ∨ p = .isTuple ∨ p = .isList) (hd : plainD d = false) : primV p [d] = .stuck := by
  rcases hp with rfl | rfl | rfl | rfl <;> cases d <;> first | (cases hd; done) | rfl
/-- isinstance(e, T), T one of int, bool, tuple, list -/
theorem se_isi (hK : X.K = G.K) {p : Pr} (hp : p = .isInt ∨ p = .isBool ∨ p = .isTuple ∨ p = .isList) {x : Str} {pf px : Pos} (ha : PE X ea (rdE G L a)) (hg : L2.Gl X "isinstance") (hm : X.mg "isinstance" = none) (hgx : L2.Gl X x) (hmx : X.mg x = none)
    (hbx : bootBuiltins x = some (.type (tyName p))) (hn : x ≠ "__name__") (hdb : (x == ("__debug__" : Str)) = false) (he : starEach [ea, .Name x px] X.env = (false, eval ea X.env) :: starEach [.Name x px] X.env) :
    PE X (.Call (.Name "isinstance" pf) [ea, .Name x px] [] pos) (rdE G L (.prim p (.cons a .nil))) :=
  (pe_callB call_isi hg hm (by decide +kernel) (pa_cons ha (pa_cons (pe_bltn hgx hmx hbx (show RelV (.ty (tyName p)) _ from rfl) hn hdb) pa_nil) he) (he := he)).imp fun σ H Q h => by
    have hmd : md (.prim p (.cons a .nil)) = .f := by rcases hp with rfl | rfl | rfl | rfl <;> rfl
    refine rd1 h (f := fun d => primV p [d]) (fun ρ => ?_) (by simp [wgt]) fun R S' H' n d v Ef hf w dom hv o => ?_
    · simp only [evE]
      rw [bind_assoc]
      rfl
    · cases hd : plainD d with
      | false =>
        rw [isi_stuck p d hp hd] at o
        exact o.elim
      | true =>
        obtain ⟨k, h1, h2⟩ := isi_kit (G := G) p d hp hd
        rw [h1, hmd] at o
        exact ⟨v, .ty (tyName p), _, _, k, rfl, .ty _, tyx_of hK w hv hd, by rw [hK]; exact h2, out_same o w rfl rfl⟩
/-! ### list(range(..)), tuple(range(..)) -/
theorem rng_rep {K : PySem.W.Frag} {R : Rp} {S : Hp} (lo : Int) : ∀ n : Nat, RepL K R S ((List.range n).map fun (k : Nat) => D.int (lo + (k : Int))) ((List.range n).map fun (k : Nat) => V.int (lo + (k : Int))) := fun n => by
  have : ∀ l : List Nat, RepL K R S (l.map fun (k : Nat) => D.int (lo + (k : Int))) (l.map fun (k : Nat) => V.int (lo + (k : Int))) := fun l => by
    induction l with
    | nil => exact rfl
    | cons x r ih => exact ⟨_, _, rfl, rfl, ih⟩
  exact this _
theorem rgV_rep {K : PySem.W.Frag} {R : Rp} {S : Hp} (lo hi : Int) : RepL K R S (rng lo hi) (rgV lo hi) := rng_rep lo _
theorem rgok1 {n : Int} (h : n ≤ LIM ∧ -(2 ^ 61) ≤ n) : RgOk 0 n := by
  have e : (LIM : Int) = 16777216 := rfl
  have e1 : (2 : Int) ^ 61 = 2305843009213693952 := by decide
  have e2 : (2 : Int) ^ 62 = 4611686018427387904 := by decide
  have e3 : (2 : Nat) ^ 24 = 16777216 := by decide
  unfold RgOk
  omega
theorem rgok2 {a n : Int} (h : n - a ≤ LIM ∧ -(2 ^ 61) ≤ n ∧ n < 2 ^ 61 ∧ -(2 ^ 61) ≤ a ∧ a < 2 ^ 61) : RgOk a n := by
  have e : (LIM : Int) = 16777216 := rfl
  have e1 : (2 : Int) ^ 61 = 2305843009213693952 := by decide
  have e2 : (2 : Int) ^ 62 = 4611686018427387904 := by decide
  have e3 : (2 : Nat) ^ 24 = 16777216 := by decide
  unfold RgOk
  omega
theorem ev_one {p : Pr} (ρ : Env) : evE L.F L.tm (.prim p (.cons a .nil)) ρ = (evE L.F L.tm a ρ).bind fun d => primV p [d] := by
  simp only [evE]
  rw [bind_assoc]
  rfl
theorem ev_two {p : Pr} (ρ : Env) : evE L.F L.tm (.prim p (.cons a (.cons b .nil))) ρ = (evE L.F L.tm a ρ).bind fun x => (evE L.F L.tm b ρ).bind fun y => primV p [x, y] := by
  simp only [evE]
  rw [bind_assoc]
  refine congrArg _ (funext fun x => ?_)
  rw [bind_assoc, bind_assoc]
  rfl
theorem se_listRg1 (hc : X.calm = true) {p p' p'' : Pos} (hg : L2.Gl X "list") (hm : X.mg "list" = none) (hg' : L2.Gl X "range") (hm' : X.mg "range" = none) (ha : PE X ea (rdE G L a)) (na : starEach [ea] X.env = (false, eval ea X.env) :: starEach [] X.env) :
    PE X (.Call (.Name "list" p) [.Call (.Name "range" p') [ea] [] p''] [] pos) (rdE G L (.prim .listRange (.cons a .nil))) := (pe_listRg hc hg hm (prg_1 hg' hm' ha na)).imp fun σ H Q h =>
  rd1 h ev_one (by simp [wgt]) fun R S' H' n d v Ef hf w dom hv o => by
    cases d with
    | int i =>
      simp only [primV] at o
      split at o
      · rename_i hz
        exact ⟨i, hv.int, rgok1 hz, fun q hq => out_lst o w dom (rgV_rep 0 i) hq⟩
      · exact o.elim
    | _ => exact o.elim
theorem se_tupRg1 (hc : X.calm = true) {p p' p'' : Pos} (hg : L2.Gl X "tuple") (hm : X.mg "tuple" = none) (hg' : L2.Gl X "range") (hm' : X.mg "range" = none) (ha : PE X ea (rdE G L a)) (na : starEach [ea] X.env = (false, eval ea X.env) :: starEach [] X.env) :
    PE X (.Call (.Name "tuple" p) [.Call (.Name "range" p') [ea] [] p''] [] pos) (rdE G L (.prim .tupleRange (.cons a .nil))) := (pe_tupRg hc hg hm (prg_1 hg' hm' ha na)).imp fun σ H Q h =>
  rd1 h ev_one (by simp [wgt]) fun R S' H' n d v Ef hf w dom hv o => by
    cases d with
    | int i =>
      simp only [primV] at o
      split at o
      · rename_i hz
        exact ⟨i, hv.int, rgok1 hz, fun q hq => out_tup o w (rgV_rep 0 i) hq⟩
      · exact o.elim
    | _ => exact o.elim
theorem se_listRg2 (hc : X.calm = true) {p p' p'' : Pos} (hg : L2.Gl X "list") (hm : X.mg "list" = none) (hg' : L2.Gl X "range") (hm' : X.mg "range" = none) (ha : PE X ea (rdE G L a)) (hb : PE X eb (rdE G L b)) (na : starEach [ea, eb] X.env = (false, eval ea X.env) :: starEach [eb] X.env) (nb : starEach [eb] X.env = (false, eval eb X.env) :: starEach [] X.env) :
    PE X (.Call (.Name "list" p) [.Call (.Name "range" p') [ea, eb] [] p''] [] pos) (rdE G L (.prim .listRange (.cons a (.cons b .nil)))) := (pe_listRg hc hg hm (prg_2 hg' hm' ha hb na nb (by rw [nb]; rfl))).imp fun σ H Q h =>
  rd2 h ev_two (by simp [wgt]) fun R H1 S' H' n d1 d2 v1 v2 Ef hf w dom r1 r2 o => by
    cases d1 with
    | int i =>
      cases d2 with
      | int j =>
        simp only [primV] at o
        split at o
        · rename_i hz
          exact ⟨i, j, r1.int, r2.int, rgok2 hz, fun q hq => out_lst o w dom (rgV_rep i j) hq⟩
        · exact o.elim
      | _ => exact o.elim
    | _ => cases d2 <;> exact o.elim
theorem se_tupRg2 (hc : X.calm = true) {p p' p'' : Pos} (hg : L2.Gl X "tuple") (hm : X.mg "tuple" = none) (hg' : L2.Gl X "range") (hm' : X.mg "range" = none) (ha : PE X ea (rdE G L a)) (hb : PE X eb (rdE G L b)) (na : starEach [ea, eb] X.env = (false, eval ea X.env) :: starEach [eb] X.env) (nb : starEach [eb] X.env = (false, eval eb X.env) :: starEach [] X.env) :
    PE X (.Call (.Name "tuple" p) [.Call (.Name "range" p') [ea, eb] [] p''] [] pos) (rdE G L (.prim .tupleRange (.cons a (.cons b .nil)))) := (pe_tupRg hc hg hm (prg_2 hg' hm' ha hb na nb (by rw [nb]; rfl))).imp fun σ H Q h =>
  rd2 h ev_two (by simp [wgt]) fun R H1 S' H' n d1 d2 v1 v2 Ef hf w dom r1 r2 o => by
    cases d1 with
    | int i =>
      cases d2 with
      | int j =>
        simp only [primV] at o
        split at o
        · rename_i hz
          exact ⟨i, j, r1.int, r2.int, rgok2 hz, fun q hq => out_tup o w (rgV_rep i j) hq⟩
        · exact o.elim
      | _ => exact o.elim
    | _ => cases d2 <;> exact o.elim
/-! ### repr -/
theorem call_reprD (hg : X.A.guards = some []) (hu : X.A.units + 70 < cLine) : CallR X (.builtin "repr") (fun vs H Q => ∃ v d, vs = [v] ∧ Dp X.K H v d ∧ d.showable = true ∧ d.hasDict = false ∧ d.depth ≤ 64 ∧ d.shown.length ≤ sizeLine ∧ Q (.str d.shown) H) := by
  intro pins s σ H xs us Q I rx h
  obtain ⟨v, d, rfl, hd, h1, h2, h3, h4, q⟩ := h
  obtain ⟨u, rfl, ru⟩ := vals1 rx
  cases hd with
  | non => cases ru; exact P.repr_of_none ⟨.str _, H, I.tok _, ⟨_, rfl⟩, q⟩
  | bl b => cases ru; exact P.repr_of_bool ⟨.str _, H, I.tok _, ⟨_, rfl⟩, by cases b <;> exact q⟩
  | int i =>
    obtain ⟨t, rfl⟩ := ru
    exact P.repr_of_int (of_decide_eq_true (by simpa only [PyData.showable] using h1)) ⟨.str _, H, I.tok _, ⟨_, rfl⟩, q⟩
  | str x =>
    obtain ⟨t, rfl⟩ := ru
    exact P.repr_of_str ⟨.str _, H, I.tok _, ⟨_, rfl⟩, q⟩ h4
  | @lst a ys ds hs ha =>
    obtain ⟨as, r⟩ := Dp.reads I (.list ds) _ u (.lst hs ha) ru
    cases ru
    exact repr_of_reads' r h1 (fun z => by rw [h2] at z; cases z) hg (by omega) (fun _ _ e => e) (fun h' t tk k => ⟨.str _, H, I.kept k, ⟨_, rfl⟩, q⟩) h4
  | @tup a ys ds hs ha =>
    obtain ⟨as, r⟩ := Dp.reads I (.tuple ds) _ u (.tup hs ha) ru
    cases ru
    exact repr_of_reads' r h1 (fun z => by rw [h2] at z; cases z) hg (by omega) (fun _ _ e => e) (fun h' t tk k => ⟨.str _, H, I.kept k, ⟨_, rfl⟩, q⟩) h4
theorem cc_repr (hK : X.K = G.K) (hg : X.A.guards = some []) (hu : X.A.units + 70 < cLine) : CalC G X (.builtin "repr") (primV .repr) .f := by
  intro R H0 S H n ms ds vs Q Ef hf w dom r o
  obtain ⟨d, rfl⟩ := one_of (d := .non) o (fun l h => by cases l with | nil => rfl | cons x r => cases r with | nil => exact (h rfl).elim | cons y q => cases x <;> rfl)
  obtain ⟨v, m, rfl, hv⟩ := r.one
  simp only [primV] at o
  split at o
  · rename_i hz
    simp only [Bool.and_eq_true, decide_eq_true_eq] at hz
    obtain ⟨⟨f1, f2⟩, f3⟩ := hz
    obtain ⟨d1, _, d3⟩ := fit_depth d 60 f1
    refine ⟨_, call_reprD hg hu, v, toPy d, rfl, by rw [hK]; exact hv.dp w.sub f1, fit_showable d 60 f1 f2, d3, by omega, ?_, out_same o w rfl rfl⟩
    have := shown_le d 60 f1 f2
    rw [sizeLine_eq]
    omega
  · exact o.elim
end
end Cl
set_option autoImplicit false
set_option Elab.async false
set_option linter.all false
set_option maxRecDepth 100000
set_option maxHeartbeats 4000000
/-! The least and the greatest of whole numbers, with and without a default. -/
namespace Cl
open PySem PySem.Spec PyProof.Rows L2
section
variable {G : Gl0} {L : Lv} {X : Cx} {a b c : E} {ea eb ec : Expr} {es : List Expr} {pos p2 : Pos}
theorem imax_of (x : Int) (xs : List Int) : PySem.W.maxOf x xs = iMax x xs := by
  unfold PySem.W.maxOf iMax
  congr 1
  funext a y
  show (if decide (a < y) = true then y else a) = _
  simp
theorem imin_of (x : Int) (xs : List Int) : PySem.W.minOf x xs = iMin x xs := by
  unfold PySem.W.minOf iMin
  congr 1
  funext a y
  show (if decide (y < a) = true then y else a) = _
  simp
theorem un_of (hu : X.A.units + 64 < cLine) : X.A.units + 1 + PySem.W.Datum.depth Int < cLine := by
  have : PySem.W.Datum.depth Int = 0 := rfl
  omega
/-- a row of whole numbers -/
def rInts (K : PySem.W.Frag) (f : Int → List Int → Int) : List V → Hp → VK → Prop := fun vs H Q => ∃ (p : Addr) (x : Int) (xs : List Int), vs = [.ref p] ∧ (SqL K H p ((x :: xs).map V.int) ∨ SqT K H p ((x :: xs).map V.int)) ∧ Q (.int (f x xs)) H
theorem call_maxI (hc : X.calm = true) (hu : X.A.units + 64 < cLine) : CallR X (.builtin "max") (rInts X.K iMax) := by
  intro pins s σ H vs us Q I r h
  obtain ⟨p, x, xs, rfl, hs, q⟩ := h
  rw [Vals.ref1 r]
  rcases hs with hs | hs
  · obtain ⟨its, rv, hl, _⟩ := I.list hs
    refine PySem.W.max_list_datum (α := Int) (I.ok.hd hc) hl.isList (PySem.W.HoldAll.of_ints (intsAre_of rv)) (un_of hu) fun i v h' tk hi hv k => ⟨.int (iMax x xs), H, I.kept k, ?_, q⟩
    obtain ⟨t, rfl⟩ := PySem.W.int_of_holds hv
    exact ⟨t, by rw [imax_of]⟩
  · obtain ⟨its, rv, hl, _⟩ := I.tuple hs
    refine PySem.W.max_tuple_datum (α := Int) (I.ok.hd hc) hl (PySem.W.HoldAll.of_ints (intsAre_of rv)) (un_of hu) fun i v h' tk hi hv k => ⟨.int (iMax x xs), H, I.kept k, ?_, q⟩
    obtain ⟨t, rfl⟩ := PySem.W.int_of_holds hv
    exact ⟨t, by rw [imax_of]⟩
theorem call_minI (hc : X.calm = true) (hu : X.A.units + 64 < cLine) : CallR X (.builtin "min") (rInts X.K iMin) := by
  intro pins s σ H vs us Q I r h
  obtain ⟨p, x, xs, rfl, hs, q⟩ := h
  rw [Vals.ref1 r]
  rcases hs with hs | hs
  · obtain ⟨its, rv, hl, _⟩ := I.list hs
    refine PySem.W.min_list_datum (α := Int) (I.ok.hd hc) hl.isList (PySem.W.HoldAll.of_ints (intsAre_of rv)) (un_of hu) fun i v h' tk hi hv k => ⟨.int (iMin x xs), H, I.kept k, ?_, q⟩
    obtain ⟨t, rfl⟩ := PySem.W.int_of_holds hv
    exact ⟨t, by rw [imin_of]⟩
  · obtain ⟨its, rv, hl, _⟩ := I.tuple hs
    refine PySem.W.min_tuple_datum (α := Int) (I.ok.hd hc) hl (PySem.W.HoldAll.of_ints (intsAre_of rv)) (un_of hu) fun i v h' tk hi hv k => ⟨.int (iMin x xs), H, I.kept k, ?_, q⟩
    obtain ⟨t, rfl⟩ := PySem.W.int_of_holds hv
    exact ⟨t, by rw [imin_of]⟩
/-- with a default -/
def iOr (f : Int → List Int → Int) (d : Int) : List Int → Int
  | [] => d
  | x :: xs => f x xs
def rIntsD (K : PySem.W.Frag) (f : Int → List Int → Int) : List V → List V → Hp → VK → Prop := fun vs zs H Q => ∃ (p : Addr) (xs : List Int) (d : Int), vs = [.ref p] ∧ zs = [.int d] ∧ (SqL K H p (xs.map V.int) ∨ SqT K H p (xs.map V.int)) ∧ Q (.int (iOr f d xs)) H
theorem call_maxD (hc : X.calm = true) (hu : X.A.units + 64 < cLine) : CallRK X (.builtin "max") ["default"] (rIntsD X.K iMax) := by
  intro pins s σ H vs zs us ws Q I r rz h
  obtain ⟨p, xs, d, rfl, rfl, hs, q⟩ := h
  rw [Vals.ref1 r]
  obtain ⟨w, rfl, rw'⟩ := vals1 rz
  rcases hs with hs | hs
  · obtain ⟨its, rv, hl, _⟩ := I.list hs
    refine PySem.W.max_list_datum_default (α := Int) (I.ok.hd hc) hl.isList (PySem.W.HoldAll.of_ints (intsAre_of rv)) (un_of hu) (fun e h' tk k => ?_) fun y ys i v h' tk e hi hv k => ?_
    · subst e
      exact ⟨.int d, H, I.kept k, rw', q⟩
    · subst e
      obtain ⟨t, rfl⟩ := PySem.W.int_of_holds hv
      exact ⟨.int (iMax y ys), H, I.kept k, ⟨t, by rw [imax_of]⟩, q⟩
  · obtain ⟨its, rv, hl, _⟩ := I.tuple hs
    refine PySem.W.max_tuple_datum_default (α := Int) (I.ok.hd hc) hl (PySem.W.HoldAll.of_ints (intsAre_of rv)) (un_of hu) (fun e h' tk k => ?_) fun y ys i v h' tk e hi hv k => ?_
    · subst e
      exact ⟨.int d, H, I.kept k, rw', q⟩
    · subst e
      obtain ⟨t, rfl⟩ := PySem.W.int_of_holds hv
      exact ⟨.int (iMax y ys), H, I.kept k, ⟨t, by rw [imax_of]⟩, q⟩
theorem call_minD (hc : X.calm = true) (hu : X.A.units + 64 < cLine) : CallRK X (.builtin "min") ["default"] (rIntsD X.K iMin) := by
  intro pins s σ H vs zs us ws Q I r rz h
  obtain ⟨p, xs, d, rfl, rfl, hs, q⟩ := h
  rw [Vals.ref1 r]
  obtain ⟨w, rfl, rw'⟩ := vals1 rz
  rcases hs with hs | hs
  · obtain ⟨its, rv, hl, _⟩ := I.list hs
    refine PySem.W.min_list_datum_default (α := Int) (I.ok.hd hc) hl.isList (PySem.W.HoldAll.of_ints (intsAre_of rv)) (un_of hu) (fun e h' tk k => ?_) fun y ys i v h' tk e hi hv k => ?_
    · subst e
      exact ⟨.int d, H, I.kept k, rw', q⟩
    · subst e
      obtain ⟨t, rfl⟩ := PySem.W.int_of_holds hv
      exact ⟨.int (iMin y ys), H, I.kept k, ⟨t, by rw [imin_of]⟩, q⟩
  · obtain ⟨its, rv, hl, _⟩ := I.tuple hs
    refine PySem.W.min_tuple_datum_default (α := Int) (I.ok.hd hc) hl (PySem.W.HoldAll.of_ints (intsAre_of rv)) (un_of hu) (fun e h' tk k => ?_) fun y ys i v h' tk e hi hv k => ?_
    · subst e
      exact ⟨.int d, H, I.kept k, rw', q⟩
    · subst e
      obtain ⟨t, rfl⟩ := PySem.W.int_of_holds hv
      exact ⟨.int (iMin y ys), H, I.kept k, ⟨t, by rw [imin_of]⟩, q⟩
theorem ints_of (hK : X.K = G.K) {R : Rp} {H0 S H : Hp} {n : Nat} {m : Md} {d : D} {v : V} {l : List Int} (w : Wd G R S H n) (r : VR G R H0 S H m d v) (e : (items d).bind intL = some l) : ∃ p, v = .ref p ∧ (SqL X.K H p (l.map V.int) ∨ SqT X.K H p (l.map V.int)) := by
  cases e1 : items d with
  | none => rw [e1] at e; cases e
  | some xs =>
    rw [e1] at e
    obtain ⟨p, us, rfl, sp, rp⟩ := sq_of hK w r e1
    have eu := ints_rep rp (show intL xs = some l from e)
    subst eu
    exact ⟨p, rfl, sp⟩
theorem cc_max (hK : X.K = G.K) (hc : X.calm = true) (hu : X.A.units + 64 < cLine) : CalC G X (.builtin "max") (primV .max) .f := by
  intro R H0 S H n ms ds vs Q Ef hf w dom r o
  obtain ⟨d, rfl⟩ := one_of (d := .non) o (fun l h => by cases l with | nil => rfl | cons x r => cases r with | nil => exact (h rfl).elim | cons y q => cases x <;> rfl)
  obtain ⟨v, m, rfl, hv⟩ := r.one
  simp only [primV] at o
  split at o
  · rename_i x xs e
    obtain ⟨p, rfl, sp⟩ := ints_of hK w hv e
    exact ⟨_, call_maxI hc hu, p, x, xs, rfl, sp, out_same o w rfl rfl⟩
  · exact o.elim
theorem cc_min (hK : X.K = G.K) (hc : X.calm = true) (hu : X.A.units + 64 < cLine) : CalC G X (.builtin "min") (primV .min) .f := by
  intro R H0 S H n ms ds vs Q Ef hf w dom r o
  obtain ⟨d, rfl⟩ := one_of (d := .non) o (fun l h => by cases l with | nil => rfl | cons x r => cases r with | nil => exact (h rfl).elim | cons y q => cases x <;> rfl)
  obtain ⟨v, m, rfl, hv⟩ := r.one
  simp only [primV] at o
  split at o
  · rename_i x xs e
    obtain ⟨p, rfl, sp⟩ := ints_of hK w hv e
    exact ⟨_, call_minI hc hu, p, x, xs, rfl, sp, out_same o w rfl rfl⟩
  · exact o.elim
/-- by a name -/
def rKey (G : Gl0) (g : List D → M D) : List V → List V → Hp → VK → Prop := fun vs zs H Q => ∃ v z, vs = [v] ∧ zs = [z] ∧ rCal G g .f [v, z] H Q
theorem key_inv {R : Rp} {H0 S H : Hp} {n : Nat} {p : Pr} {ds : List D} {P : D → Prop} {Ef : Nat → D → Prop} {f : Int → List Int → Int} (hp : (p = .maxD ∧ f = iMax) ∨ (p = .minD ∧ f = iMin)) (o : wp (primV p ds) P Ef) : ∃ a i l, ds = [a, .int i] ∧ (items a).bind intL = some l ∧ P (.int (iOr f i l)) := by
  have main : ∀ a b, wp (primV p [a, b]) P Ef → ∃ i l, b = .int i ∧ (items a).bind intL = some l ∧ P (.int (iOr f i l)) := fun a b o => by
    cases b with
    | int i =>
      cases e : (items a).bind intL with
      | none => rcases hp with ⟨rfl, rfl⟩ | ⟨rfl, rfl⟩ <;> · simp only [primV, e] at o; exact o.elim
      | some l =>
        refine ⟨i, l, rfl, rfl, ?_⟩
        cases l with
        | nil => rcases hp with ⟨rfl, rfl⟩ | ⟨rfl, rfl⟩ <;> · simp only [primV, e] at o; exact o
        | cons x xs => rcases hp with ⟨rfl, rfl⟩ | ⟨rfl, rfl⟩ <;> · simp only [primV, e] at o; exact o
    | _ => rcases hp with ⟨rfl, rfl⟩ | ⟨rfl, rfl⟩ <;> exact o.elim
  cases ds with
  | nil => rcases hp with ⟨rfl, rfl⟩ | ⟨rfl, rfl⟩ <;> exact o.elim
  | cons a r =>
    cases r with
    | nil => rcases hp with ⟨rfl, rfl⟩ | ⟨rfl, rfl⟩ <;> exact o.elim
    | cons b r =>
      cases r with
      | nil =>
        obtain ⟨i, l, rfl, h1, h2⟩ := main a b o
        exact ⟨a, i, l, rfl, h1, h2⟩
      | cons c r =>
        have e : primV p (a :: b :: c :: r) = .stuck := by rcases hp with ⟨rfl, rfl⟩ | ⟨rfl, rfl⟩ <;> cases b <;> rfl
        rw [e] at o
        exact o.elim
theorem ck_max (hK : X.K = G.K) (hc : X.calm = true) (hu : X.A.units + 64 < cLine) : CallRK X (.builtin "max") ["default"] (rKey G (primV .maxD)) := by
  intro pins s σ H vs zs us ws Q I rx rz q
  obtain ⟨v, z, rfl, rfl, R, H0, S, n, ms, ds, Ef, hf, w, dom, r, o⟩ := q
  obtain ⟨a, i, l, rfl, e, o'⟩ := key_inv (R := R) (H0 := H0) (S := S) (H := H) (n := n) (.inl ⟨rfl, rfl⟩) o
  obtain ⟨v', u, m, m', H1, e2, r1, r2⟩ := r.two
  cases e2
  cases r2.int
  obtain ⟨p, rfl, sp⟩ := ints_of hK w r1 e
  exact call_maxD hc hu pins s σ H _ _ us ws Q I rx rz ⟨p, l, i, rfl, rfl, sp, out_same o' w rfl rfl⟩
theorem ck_min (hK : X.K = G.K) (hc : X.calm = true) (hu : X.A.units + 64 < cLine) : CallRK X (.builtin "min") ["default"] (rKey G (primV .minD)) := by
  intro pins s σ H vs zs us ws Q I rx rz q
  obtain ⟨v, z, rfl, rfl, R, H0, S, n, ms, ds, Ef, hf, w, dom, r, o⟩ := q
  obtain ⟨a, i, l, rfl, e, o'⟩ := key_inv (R := R) (H0 := H0) (S := S) (H := H) (n := n) (.inr ⟨rfl, rfl⟩) o
  obtain ⟨v', u, m, m', H1, e2, r1, r2⟩ := r.two
  cases e2
  cases r2.int
  obtain ⟨p, rfl, sp⟩ := ints_of hK w r1 e
  exact call_minD hc hu pins s σ H _ _ us ws Q I rx rz ⟨p, l, i, rfl, rfl, sp, out_same o' w rfl rfl⟩
theorem rdA_nil {σ : L2.St} {H : Hp} {Q : List V → Hp → Prop} (h : rdA G L .nil σ H Q) : Q [] H := by
  obtain ⟨R, ρ, H0, S, n, hh, hb, hp⟩ := h
  obtain ⟨ds, e, q⟩ := hp
  cases e
  exact q [] S H n (Behind.refl hh.wd) .nil
theorem rdA_cons {r : E} {σ : L2.St} {H : Hp} {Q : List V → Hp → Prop} (h : rdA G L (.cons a r) σ H Q) : rdE G L a σ H fun v H1 => rdA G L r σ H1 fun vs H2 => Q (v :: vs) H2 := by
  obtain ⟨R, ρ, H0, S, n, hh, hb, hp⟩ := h
  simp only [wgt, mds] at hb hp
  simp only [evE] at hp
  refine ⟨R, ρ, H0, S, n, hh, by omega, wp_mono (fun d hd v S1 H1 b1 q1 hv => ?_) (fun c d hc dx S' H' b' hq => hc dx S' H' b' (hq.more (by omega))) (wp_bind hp)⟩
  refine ⟨R, ρ, H0, S1, b1, hh.step q1, by have := q1.le; omega, wp_mono (fun d2 hd2 => ?_) (fun c d hc dx S' H' b' hq => hc dx S' H' b' (q1.trans hq)) (wp_bind hd)⟩
  cases d2 with
  | tup ds =>
    obtain ⟨es, e, q⟩ := hd2
    cases e
    refine ⟨ds, rfl, fun vs S2 H2 b2 q2 hvs => q (v :: vs) S2 H2 b2 (q1.trans q2) (.cons (hv.step q2.gr) q1.gr.dom (fun p ev em el => ?_) hvs)⟩
    rw [em] at hv
    rcases hv with hv | ⟨es, p', vs', h1, h2, h3, h4, _⟩
    · rw [el] at hv
      cases hv.1
    · rw [ev] at h2
      cases h2
      exact ⟨_, h4⟩
  | _ => exact hd2.elim
theorem rdE_mono {σ : L2.St} {H : Hp} {Q Q' : VK} (h : rdE G L a σ H Q) (f : ∀ v H', Q v H' → Q' v H') : rdE G L a σ H Q' := by
  obtain ⟨R, ρ, H0, S, n, hh, hb, hp⟩ := h
  exact ⟨R, ρ, H0, S, n, hh, hb, wp_mono (fun d hd v S' H' b' q r => f v H' (hd v S' H' b' q r)) (fun _ _ z => z) hp⟩
theorem se_key {p : Pr} {id : String} {x : Str} {p1 kp : Pos} (hck : CallRK X (.builtin id) ["default"] (rKey G (primV p))) (hmd : md (.prim p (.cons a (.cons b .nil))) = .f) (hg : L2.Gl X x) (hm : X.mg x = none) (hv : bootBuiltins x = some (.builtin id)) (hn : x ≠ "__name__") (hdb : (x == ("__debug__" : Str)) = false)
    (ha : PE X ea (rdE G L a)) (hb : PE X eb (rdE G L b)) (hs : starEach [ea] X.env = (false, eval ea X.env) :: starEach [] X.env) : PE X (.Call (.Name x p1) [ea] [⟨some "default", eb, kp⟩] pos) (rdE G L (.prim p (.cons a (.cons b .nil)))) :=
  (pe_callBK hck hg hm hv (pa_cons ha pa_nil hs) (pk_cons hb pk_nil) hn hdb (he := by show backTo pos (starEach [ea] X.env) = _; rw [hs]; rfl) (hpl := by rw [hs]; rfl)).imp fun σ H Q h => by
    have h1 := rdA_cons (rd_prim h)
    rw [hmd] at h1
    refine rdE_mono h1 fun v H1 h2 => ?_
    exact rdE_mono (rdA_cons h2) fun z H2 h3 => ⟨v, z, rfl, rfl, rdA_nil h3⟩
end
end Cl
set_option autoImplicit false
set_option Elab.async false
set_option linter.all false
set_option maxRecDepth 100000
set_option maxHeartbeats 1000000
/-! zip of a tuple and a list: two walkers of any two kinds. -/
namespace Cl.Zp
open PySem RZ
open PySem.Sem (wp)
/-- a kind of walker: how it stands over what it walks -/
structure Kd where
  It : Heap → Addr → Addr → Nat → Prop
  Sq : Heap → Addr → Array Value → Prop
structure KdOk (k : Kd) : Prop where
  itx : ∀ {g g' : Heap} {a c l : Addr} {i : Nat}, k.It g a l i → Heap.ExtBut c g g' → a ≠ c → k.It g' a l i
  sqx : ∀ {g g' : Heap} {c l : Addr} {us : Array Value}, k.Sq g l us → Heap.ExtBut c g g' → l ≠ c → k.Sq g' l us
  itat : ∀ {g g' : Heap} {a l : Addr} {i : Nat}, k.It g a l i → (∀ o, g.get? a = some o → g'.get? a = some o) → k.It g' a l i
  item : ∀ {prog : Program} {w : World} {A : Around} {E : Value → Shared → Prop} {s : Shared} {a l : Addr} {i : Nat} {us : Array Value} {u : Value} {Q : Value → Shared → Prop}, k.It s.heap a l i → k.Sq s.heap l us → us[i]? = some u →
    (∀ g, k.It g a l (i + 1) → Heap.SameBut a s.heap g → Q u { s with heap := g }) → wpAny (model prog w) A (Builtin.SmallTypes.nextOf (.ref a)) Q E s
  fin : ∀ {prog : Program} {w : World} {A : Around} {E : Value → Shared → Prop} {s : Shared} {a l : Addr} {i : Nat} {us : Array Value} {Q : Value → Shared → Prop}, A.handled = none → k.It s.heap a l i → k.Sq s.heap l us → us[i]? = none →
    (∀ g e, Heap.ExtBut a s.heap g → (∃ o, g.get? e = some o ∧ o.cls = .type "StopIteration") → E (.ref e) { s with heap := g }) → wpAny (model prog w) A (Builtin.SmallTypes.nextOf (.ref a)) Q E s
def kL : Kd := ⟨Heap.IsListIter, Heap.IsList⟩
def kT : Kd := ⟨Heap.IsTupleIter, Heap.IsTuple⟩
theorem kL_ok : KdOk kL := ⟨fun a b c => Heap.IsListIter.extBut a b c, fun a b c => Heap.IsList.extBut a b c, fun a b => Heap.IsListIter.at a b, fun a b c d => wpAny_nextOf_list_item a b c d, fun z a b c d => wpAny_nextOf_list_end z a b c d⟩
theorem kT_ok : KdOk kT := ⟨fun a b c => Heap.IsTupleIter.extBut a b c, fun a b c => Heap.IsTuple.extBut a b c, fun a b => Heap.IsTupleIter.at a b, fun a b c d => nextOf_tuple_item a b c d, fun z a b c d => nextOf_tuple_end z a b c d⟩
section
variable {prog : Program} {w : World} {A : Around} {E : Value → Shared → Prop} {s : Shared} {k k' : Kd}
theorem next_item (K : KdOk k) (K' : KdOk k') {q t r a c l m : Addr} {i j : Nat} {us vs : Array Value} {u v y z : Value} {Q : Value → Shared → Prop} (ap : ZipApart q t r a c l m)
    (hq : IsZip s.heap q t r .none) (ht : IsPair s.heap t (.ref a) (.ref c)) (hr : IsPair s.heap r y z) (ha : k.It s.heap a l i) (hc : k'.It s.heap c m j) (hl : k.Sq s.heap l us) (hm : k'.Sq s.heap m vs) (hu : us[i]? = some u) (hv : vs[j]? = some v)
    (go : ∀ g, IsZip g q t r (rawInt s.heap.objs.size) → IsPair g r u v → k.It g a l (i + 1) → k'.It g c m (j + 1) → IsPair g s.heap.objs.size u v → g.objs.size = s.heap.objs.size + 1 →
      (∀ b o, b ≠ q → b ≠ r → b ≠ a → b ≠ c → s.heap.get? b = some o → g.get? b = some o) → Q (.ref s.heap.objs.size) { s with heap := g }) :
    wpAny (model prog w) A (Builtin.«zip.__next__» ⟨[.ref q], []⟩) (fun f s' => ∃ x, f = .done (.ret x) ∧ Q x s') E s := by
  show wpAny _ _ (field (.ref q) 2 >>= _) _ _ _
  refine wpAny_bind (wpAny_field hq rfl (x := .bool false) rfl ?_)
  show wpAny _ _ (field (.ref q) 3 >>= _) _ _ _
  refine wpAny_bind (wpAny_field hq rfl (x := .ref t) rfl (wpAny_bind (wpAny_seqItems ht rfl ?_)))
  show wpAny _ _ (Builtin.SmallTypes.ownedTupleIsFree (.ref q) >>= _) _ _ _
  refine wpAny_bind ?_
  unfold Builtin.SmallTypes.ownedTupleIsFree <;> skip
  refine wpAny_bind (wpAny_field hq rfl (x := .none) rfl (wpAny_pure ?_))
  rw [if_pos rfl]
  refine wpAny_bind (wpAny_rule (wpAny_bind (wpAny_field hq rfl (x := .ref r) rfl ?_)))
  refine wpAny_bind (wpAny_setField_rec hq (by simp) fun g1 q1 x1 => wpAny_bind ?_)
  replace q1 : IsZip g1 q t r .ellipsis := q1
  simp only [List.forIn_cons, List.forIn_nil, List.zipIdx_cons, List.zipIdx_nil]
  refine wpAny_bind (wpAny_bind (wpAny_onRaise (?_ : _)))
  show wpAny _ _ (Builtin.SmallTypes.nextOf (.ref a) >>= _) _ _ _
  refine wpAny_bind (K.item (K.itx ha x1.extBut ap.i1z) (K.sqx hl x1.extBut ap.l1z) hu fun g2 a2 x2 => wpAny_pure ?_)
  have r2 : IsPair g2 r y z := x2.extBut _ _ ap.TOi1 (x1.extBut _ _ ap.TOz hr)
  refine wpAny_bind (wpAny_seqItems r2 rfl (wpAny_bind (wpAny_updateSeq_pair r2 fun g3 r3 x3 => ?_)))
  replace r3 : IsPair g3 r u z := r3
  refine wpAny_bind (wpAny_letGo (wpAny_pure (wpAny_bind (wpAny_bind (wpAny_onRaise ?_)))))
  show wpAny _ _ (Builtin.SmallTypes.nextOf (.ref c) >>= _) _ _ _
  refine wpAny_bind (K'.item (K'.itx (K'.itx (K'.itx hc x1.extBut ap.i2z) x2.extBut ap.i12.symm) x3.extBut ap.TOi2.symm) (K'.sqx (K'.sqx (K'.sqx hm x1.extBut ap.l2z) x2.extBut ap.l2i1) x3.extBut ap.l2TO) hv fun g4 c4 x4 => wpAny_pure ?_)
  have r4 : IsPair g4 r u z := x4.extBut _ _ ap.TOi2 r3
  refine wpAny_bind (wpAny_seqItems r4 rfl (wpAny_bind (wpAny_updateSeq_pair r4 fun g5 r5 x5 => ?_)))
  replace r5 : IsPair g5 r u v := r5
  refine wpAny_bind (wpAny_letGo (wpAny_pure (wpAny_pure (wpAny_bind (wpAny_seqItems r5 rfl (wpAny_bind (wpAny_newTuple ?_)))))))
  have sz : g5.objs.size = s.heap.objs.size := by rw [x5.1, x4.1, x3.1, x2.1, x1.1]
  have q5 : IsZip g5 q t r .ellipsis := x5.extBut _ _ ap.TOz.symm (x4.extBut _ _ ap.i2z.symm (x3.extBut _ _ ap.TOz.symm (x2.extBut _ _ ap.i1z.symm q1)))
  have keep : ∀ b o, b ≠ q → b ≠ r → b ≠ a → b ≠ c → s.heap.get? b = some o → g5.get? b = some o := fun b o n1 n2 n3 n4 e => x5.extBut _ _ n2 (x4.extBut _ _ n4 (x3.extBut _ _ n2 (x2.extBut _ _ n3 (x1.extBut _ _ n1 e))))
  have a5 : k.It g5 a l (i + 1) := K.itx (K.itx (K.itx a2 x3.extBut ap.TOi1.symm) x4.extBut ap.i12) x5.extBut ap.TOi1.symm
  have c5 : k'.It g5 c m (j + 1) := K'.itx c4 x5.extBut ap.TOi2.symm
  have lq : q < g5.objs.size := Heap.lt_size q5
  show wpAny _ _ (Builtin.SmallTypes.ownedTupleHandOut (.ref q) (.ref g5.objs.size) >>= _) _ _ _
  refine wpAny_bind ?_
  unfold Builtin.SmallTypes.ownedTupleHandOut <;> skip
  have q6 : IsZip (g5.push { cls := .type "tuple", data := .seq #[u, v] }) q t r .ellipsis := Heap.get?_push_of_some _ q5
  refine wpAny_bind (wpAny_setField_rec q6 (by simp) fun g7 q7 x7 => ?_)
  replace q7 : IsZip g7 q t r (rawInt g5.objs.size) := q7
  refine wpAny_setField_rec q7 (by simp) fun g8 q8 x8 => wpAny_pure ⟨_, rfl, ?_⟩
  replace q8 : IsZip g8 q t r (rawInt g5.objs.size) := q8
  have up : ∀ b o, b ≠ q → g5.get? b = some o → g8.get? b = some o := fun b o n1 e => x8.extBut _ _ n1 (x7.extBut _ _ n1 (Heap.get?_push_of_some _ e))
  have p8 : IsPair g8 g5.objs.size u v := x8.extBut _ _ (Nat.ne_of_gt lq) (x7.extBut _ _ (Nat.ne_of_gt lq) (Heap.get?_push_size _ rfl))
  have s8 : g8.objs.size = g5.objs.size + 1 := by rw [x8.1, x7.1, Heap.size_push]
  rw [sz] at q8 p8 s8
  show Q (.ref g5.objs.size) _
  rw [sz]
  exact go g8 q8 (up _ _ ap.TOz r5) (K.itat a5 fun o e => up _ o ap.i1z e) (K'.itat c5 fun o e => up _ o ap.i2z e) p8 s8 fun b o n1 n2 n3 n4 e => up b o n1 (keep b o n1 n2 n3 n4 e)
theorem next_end (K : KdOk k) (K' : KdOk k') {q t r a c l m : Addr} {i j : Nat} {us vs : Array Value} {y z : Value} {Q : Fin → Shared → Prop} (hh : A.handled = none) (ap : ZipApart q t r a c l m)
    (hq : IsZip s.heap q t r .none) (ht : IsPair s.heap t (.ref a) (.ref c)) (hr : IsPair s.heap r y z) (ha : k.It s.heap a l i) (hc : k'.It s.heap c m j) (hl : k.Sq s.heap l us) (hm : k'.Sq s.heap m vs) (hn : us[i]? = none ∨ vs[j]? = none)
    (go : ∀ g e, (∀ b o, b ≠ q → b ≠ r → b ≠ a → b ≠ c → s.heap.get? b = some o → g.get? b = some o) → (∃ o, g.get? e = some o ∧ o.cls = .type "StopIteration") → E (.ref e) { s with heap := g }) :
    wpAny (model prog w) A (Builtin.«zip.__next__» ⟨[.ref q], []⟩) Q E s := by
  show wpAny _ _ (field (.ref q) 2 >>= _) _ _ _
  refine wpAny_bind (wpAny_field hq rfl (x := .bool false) rfl ?_)
  show wpAny _ _ (field (.ref q) 3 >>= _) _ _ _
  refine wpAny_bind (wpAny_field hq rfl (x := .ref t) rfl (wpAny_bind (wpAny_seqItems ht rfl ?_)))
  show wpAny _ _ (Builtin.SmallTypes.ownedTupleIsFree (.ref q) >>= _) _ _ _
  refine wpAny_bind ?_
  unfold Builtin.SmallTypes.ownedTupleIsFree <;> skip
  refine wpAny_bind (wpAny_field hq rfl (x := .none) rfl (wpAny_pure ?_))
  rw [if_pos rfl]
  refine wpAny_bind (wpAny_rule (wpAny_bind (wpAny_field hq rfl (x := .ref r) rfl ?_)))
  refine wpAny_bind (wpAny_setField_rec hq (by simp) fun g1 q1 x1 => wpAny_bind ?_)
  replace q1 : IsZip g1 q t r .ellipsis := q1
  simp only [List.forIn_cons, List.forIn_nil, List.zipIdx_cons, List.zipIdx_nil]
  refine wpAny_bind (wpAny_bind (wpAny_onRaise (?_ : _)))
  show wpAny _ _ (Builtin.SmallTypes.nextOf (.ref a) >>= _) _ _ _
  have ha1 := K.itx ha x1.extBut ap.i1z
  have hl1 := K.sqx hl x1.extBut ap.l1z
  cases hu : us[i]? with
  | none =>
    refine wpAny_bind (K.fin hh ha1 hl1 hu fun g2 e x2 ⟨oe, he, ce⟩ => ?_)
    have q2 : IsZip g2 q t r .ellipsis := x2 _ _ ap.i1z.symm q1
    have ne : e ≠ q := fun x => by subst x; rw [q2] at he; cases he; simp at ce
    exact wpAny_setField_rec q2 (by simp) fun g3 _ x3 => go g3 e (fun b o n1 _ n3 _ x => x3.extBut _ _ n1 (x2 _ _ n3 (x1.extBut _ _ n1 x))) ⟨oe, x3.extBut _ _ ne he, ce⟩
  | some u =>
    have hv : vs[j]? = none := hn.resolve_left fun h => by rw [hu] at h; cases h
    refine wpAny_bind (K.item ha1 hl1 hu fun g2 a2 x2 => wpAny_pure ?_)
    have r2 : IsPair g2 r y z := x2.extBut _ _ ap.TOi1 (x1.extBut _ _ ap.TOz hr)
    refine wpAny_bind (wpAny_seqItems r2 rfl (wpAny_bind (wpAny_updateSeq_pair r2 fun g3 r3 x3 => ?_)))
    refine wpAny_bind (wpAny_letGo (wpAny_pure (wpAny_bind (wpAny_bind (wpAny_onRaise ?_)))))
    show wpAny _ _ (Builtin.SmallTypes.nextOf (.ref c) >>= _) _ _ _
    refine wpAny_bind (K'.fin hh (K'.itx (K'.itx (K'.itx hc x1.extBut ap.i2z) x2.extBut ap.i12.symm) x3.extBut ap.TOi2.symm) (K'.sqx (K'.sqx (K'.sqx hm x1.extBut ap.l2z) x2.extBut ap.l2i1) x3.extBut ap.l2TO) hv fun g4 e x4 ⟨oe, he, ce⟩ => ?_)
    have q4 : IsZip g4 q t r .ellipsis := x4 _ _ ap.i2z.symm (x3.extBut _ _ ap.TOz.symm (x2.extBut _ _ ap.i1z.symm q1))
    have ne : e ≠ q := fun x => by subst x; rw [q4] at he; cases he; simp at ce
    exact wpAny_setField_rec q4 (by simp) fun g5 _ x5 => go g5 e (fun b o n1 n2 n3 n4 x => x5.extBut _ _ n1 (x4 _ _ n4 (x3.extBut _ _ n2 (x2.extBut _ _ n3 (x1.extBut _ _ n1 x))))) ⟨oe, x5.extBut _ _ ne he, ce⟩
theorem py_item (K : KdOk k) (K' : KdOk k') {q t r a c l m : Addr} {i j : Nat} {us vs : Array Value} {u v y z : Value} {Q : Option Value → Shared → Prop} (ap : ZipApart q t r a c l m)
    (hq : IsZip s.heap q t r .none) (ht : IsPair s.heap t (.ref a) (.ref c)) (hr : IsPair s.heap r y z) (ha : k.It s.heap a l i) (hc : k'.It s.heap c m j) (hl : k.Sq s.heap l us) (hm : k'.Sq s.heap m vs) (hu : us[i]? = some u) (hv : vs[j]? = some v)
    (go : ∀ g, IsZip g q t r (rawInt s.heap.objs.size) → IsPair g r u v → k.It g a l (i + 1) → k'.It g c m (j + 1) → IsPair g s.heap.objs.size u v → g.objs.size = s.heap.objs.size + 1 →
      (∀ b o, b ≠ q → b ≠ r → b ≠ a → b ≠ c → s.heap.get? b = some o → g.get? b = some o) → Q (some (.ref s.heap.objs.size)) { s with heap := g }) :
    wpAny (model prog w) A (pyNext (.ref q)) Q E s := by
  have ty : s.TypeIs (.ref q) "zip" := ⟨_, hq, rfl⟩
  unfold pyNext
  exact wpAny_bind (wpAny_attempt (wpAny_callSpecial?_slot (name := Str.ofString "__next__") ty F.slot_zip_next (wpAny_call_entry F.slot_zip_next ty F.entry_zip_next (next_item K K' ap hq ht hr ha hc hl hm hu hv fun g z1 z2 z3 z4 z5 z6 z7 => wpAny_pure (go g z1 z2 z3 z4 z5 z6 z7)) (F.args_zip_next_1 _))))
theorem py_end (K : KdOk k) (K' : KdOk k') {q t r a c l m : Addr} {i j : Nat} {us vs : Array Value} {y z : Value} {Q : Option Value → Shared → Prop} (hh : A.handled = none) (ap : ZipApart q t r a c l m)
    (hq : IsZip s.heap q t r .none) (ht : IsPair s.heap t (.ref a) (.ref c)) (hr : IsPair s.heap r y z) (ha : k.It s.heap a l i) (hc : k'.It s.heap c m j) (hl : k.Sq s.heap l us) (hm : k'.Sq s.heap m vs) (hn : us[i]? = none ∨ vs[j]? = none)
    (go : ∀ g, (∀ b o, b ≠ q → b ≠ r → b ≠ a → b ≠ c → s.heap.get? b = some o → g.get? b = some o) → Q none { s with heap := g }) : wpAny (model prog w) A (pyNext (.ref q)) Q E s := by
  have ty : s.TypeIs (.ref q) "zip" := ⟨_, hq, rfl⟩
  unfold pyNext
  refine wpAny_bind (wpAny_attempt (wpAny_callSpecial?_slot (name := Str.ofString "__next__") ty F.slot_zip_next (wpAny_call_entry F.slot_zip_next ty F.entry_zip_next (next_end K K' hh ap hq ht hr ha hc hl hm hn fun g e hk ⟨o, ho, hc⟩ => ?_) (F.args_zip_next_1 _))))
  exact wpAny_bind (wpAny_isInstance (T := "StopIteration") (b := true) ⟨o, ho, hc⟩ isSubtype_stop (wpAny_pure (go _ hk)))
end
/-! ### a zip of a tuple and a list is made -/
abbrev mH1 (h : Heap) (l : Addr) : Heap := h.push { cls := .type "tuple_iterator", data := .fields #[.ref l, .int 0 0] }
abbrev mH2 (h : Heap) (l m : Addr) : Heap := (mH1 h l).push { cls := .type "list_iterator", data := .fields #[.ref m, .int 0 0] }
abbrev mH3 (h : Heap) (l m : Addr) : Heap := (mH2 h l m).push { cls := .type "tuple", data := .seq #[.ref h.objs.size, .ref (mH1 h l).objs.size] }
abbrev mH4 (h : Heap) (l m : Addr) : Heap := (mH3 h l m).push { cls := .type "tuple", data := .seq #[.none, .none] }
abbrev mH5 (h : Heap) (l m : Addr) : Heap := (mH4 h l m).push { cls := .type "zip", data := .fields #[.none, .bool false, .bool false, .ref (mH2 h l m).objs.size, .ref (mH3 h l m).objs.size] }
theorem made (l m : Addr) (us vs : Array Value) :
    Meets (Builtin.«zip.__new__» ⟨[.type "zip", .ref l, .ref m], []⟩) (fun _ R s => s.heap.IsTuple l us ∧ s.heap.IsList m vs ∧ R (.ok (.ret (.ref (mH4 s.heap l m).objs.size))) { s with heap := mH5 s.heap l m }) :=
  .of_wp fun prog w A R s h => by
    obtain ⟨hp, ge, dr, tk, os⟩ := s; obtain ⟨h1, h2, h⟩ := h
    have sub := sub_zip
    have e1 : Heap.IsTuple (Shared.heap ⟨hp, ge, dr, tk, os⟩) l us := h1
    have e2 : Heap.IsList (Shared.heap ⟨hp.push { cls := .type "tuple_iterator", data := .fields #[.ref l, .int 0 0] }, ge, dr, tk, os⟩) m vs := Heap.IsList.push h2 _
    wp_walk using wpAny_pyIter_tuple e1, wpAny_pyIter_list e2
    exact ⟨_, rfl, h⟩
section
variable {prog : Program} {w : World} {A : Around} {E : Value → Shared → Prop} {s : Shared}
theorem call_mix {l m : Addr} {us vs : Array Value} {Q : Value → Shared → Prop} (hl : s.heap.IsTuple l us) (hm : s.heap.IsList m vs)
    (go : ∀ g, IsZip g (s.heap.objs.size + 4) (s.heap.objs.size + 2) (s.heap.objs.size + 3) .none → IsPair g (s.heap.objs.size + 2) (.ref s.heap.objs.size) (.ref (s.heap.objs.size + 1)) → IsPair g (s.heap.objs.size + 3) .none .none →
      g.IsTupleIter s.heap.objs.size l 0 → g.IsListIter (s.heap.objs.size + 1) m 0 → g.objs.size = s.heap.objs.size + 5 → (∀ c o, s.heap.get? c = some o → g.get? c = some o) → Q (.ref (s.heap.objs.size + 4)) { s with heap := g }) :
    wpAny (model prog w) A (call (.type "zip") [.ref l, .ref m]) Q E s := by
  refine callType_new F.called_zip (by decide) (F.typeCall_zip_2 _ _) (F.newCall_zip_2 _ _) (fun o => F.args_object_init_3 o _ _) F.entry_zip_new (made l m us vs) ⟨hl, hm, ?_⟩
  have n1 : (mH1 s.heap l).objs.size = s.heap.objs.size + 1 := Heap.size_push ..
  have n2 : (mH2 s.heap l m).objs.size = s.heap.objs.size + 2 := by rw [Heap.size_push, n1]
  have n3 : (mH3 s.heap l m).objs.size = s.heap.objs.size + 3 := by rw [Heap.size_push, n2]
  have n4 : (mH4 s.heap l m).objs.size = s.heap.objs.size + 4 := by rw [Heap.size_push, n3]
  have n5 : (mH5 s.heap l m).objs.size = s.heap.objs.size + 5 := by rw [Heap.size_push, n4]
  have w5 : (mH5 s.heap l m).get? (mH4 s.heap l m).objs.size = some _ := Heap.get?_push_size _ rfl
  have w4 : (mH5 s.heap l m).get? (mH3 s.heap l m).objs.size = some _ := Heap.get?_push_of_some _ (Heap.get?_push_size _ rfl)
  have w3 : (mH5 s.heap l m).get? (mH2 s.heap l m).objs.size = some _ := Heap.get?_push_of_some _ (Heap.get?_push_of_some _ (Heap.get?_push_size _ rfl))
  have w2 : (mH5 s.heap l m).get? (mH1 s.heap l).objs.size = some _ := Heap.get?_push_of_some _ (Heap.get?_push_of_some _ (Heap.get?_push_of_some _ (Heap.get?_push_size _ rfl)))
  have w1 : (mH5 s.heap l m).get? s.heap.objs.size = some _ := Heap.get?_push_of_some _ (Heap.get?_push_of_some _ (Heap.get?_push_of_some _ (Heap.get?_push_of_some _ (Heap.get?_push_size _ rfl))))
  show _ ∧ _
  rw [n2, n3, n4] at w5
  rw [n1, n2] at w3
  rw [n3] at w4
  rw [n1] at w2
  rw [n4]
  exact ⟨⟨_, w5, rfl⟩, go _ w5 w3 w4 ⟨_, w1, rfl, rfl⟩ ⟨_, w2, rfl, rfl⟩ n5 fun c o x => Heap.get?_push_of_some _ (Heap.get?_push_of_some _ (Heap.get?_push_of_some _ (Heap.get?_push_of_some _ (Heap.get?_push_of_some _ x))))⟩
end
/-! ### walked -/
open PySem.Spec PyProof.Rows L2
/-- the tuple at a and the list at b as they stand at each turn -/
def ItM (K : PySem.W.Frag) (a b : Addr) : It where
  go := fun i H => ∃ (us vs : List V) (u v : V), SqT K H a us ∧ SqL K H b vs ∧ us[i]? = some u ∧ vs[i]? = some v
  yld := fun i H n H' => ∃ T u v, n = .ref T ∧ H T = none ∧ H' = upd H T (.tup [u, v]) ∧ (∀ us, SqT K H a us → us[i]? = some u) ∧ ∀ vs, SqL K H b vs → vs[i]? = some v
  stop := fun i H => ∃ us vs : List V, SqT K H a us ∧ SqL K H b vs ∧ (us.length ≤ i ∨ vs.length ≤ i)
theorem five {P : Addr → Prop} {q t r a c : Addr} (h1 : P q) (h2 : P t) (h3 : P r) (h4 : P a) (h5 : P c) : ∀ b ∈ [q, t, r, a, c], P b := fun b hb => by
  simp only [List.mem_cons, List.not_mem_nil, or_false] at hb
  rcases hb with e | e | e | e | e <;> rw [e] <;> assumption
theorem turn_mix {P : Program} {w : World} {K : PySem.W.Frag} {elts : List Expr} {kk : Nat} {tp : Pos} {l m q t r a c : Addr} (ap : ZipApart q t r a c l m) :
    Turn P w K (.Tuple elts kk tp) (ItM K l m) [q, t, r, a, c] q (fun i h => IsZip h q t r .none ∧ IsPair h t (.ref a) (.ref c) ∧ (∃ y z, IsPair h r y z) ∧ h.IsTupleIter a l i ∧ h.IsListIter c m i) where
  mem := List.mem_cons_self ..
  obj := fun i h ⟨z1, z2, ⟨y, z, z3⟩, ⟨o1, e1, _, d1⟩, ⟨o2, e2, _, d2⟩⟩ => five ⟨_, z1, fun _ n => nomatch n⟩ ⟨_, z2, fun _ n => nomatch n⟩ ⟨_, z3, fun _ n => nomatch n⟩ ⟨o1, e1, fun _ n => by rw [d1] at n; cases n⟩ ⟨o2, e2, fun _ n => by rw [d2] at n; cases n⟩
  keep := fun i h h' ⟨z1, z2, ⟨y, z, z3⟩, z4, z5⟩ k => ⟨k q (by simp) _ z1, k t (by simp) _ z2, ⟨y, z, k r (by simp) _ z3⟩, z4.at fun o n => k a (by simp) o n, z5.at fun o n => k c (by simp) o n⟩
  item := by
    intro X eP ew eK hc i pins s σ H E I free ⟨z1, z2, ⟨y, z, z3⟩, z4, z5⟩ ⟨us, vs, u, v, hl, hm, hu, hv⟩
    subst eP ew eK
    obtain ⟨its, rl, pl, _⟩ := I.tuple hl
    obtain ⟨jts, rm, pm, _⟩ := I.list hm
    obtain ⟨x1, hx1, r1⟩ := rl.get hu
    obtain ⟨x2, hx2, r2⟩ := rm.get hv
    have lq : q < s.heap.objs.size := Heap.lt_size z1
    refine py_item kT_ok kL_ok ap z1 z2 z3 z4 z5 (us := its.toArray) (vs := jts.toArray) pl pm.isList (u := x1) (v := x2) (by simpa using hx1) (by simpa using hx2) fun g w1 w3 w4 w5 wT _ keep => ?_
    refine ⟨_, rfl, wpAny_letOwnedTupleGo_zip (s := { s with heap := g }) w1 fun g' w1' sb => ?_⟩
    have isT : g'.get? s.heap.objs.size = some { cls := .type "tuple", data := .seq #[x1, x2] } := (sb.2 _ (Nat.ne_of_gt lq)).trans wT
    have I' : Inv X pins σ (upd H s.heap.objs.size (.tup [u, v])) { s with heap := g' } :=
      I.turnedNew (t' := s.toks) (ch := [q, t, r, a, c]) (fun b o nb e => (sb.2 b (fun n => nb (by simp [n]))).trans (keep b o (fun n => nb (by simp [n])) (fun n => nb (by simp [n])) (fun n => nb (by simp [n])) (fun n => nb (by simp [n])) e)) free (Nat.le_refl _) ⟨by show 2 ≤ sizeLine; decide, [x1, x2], .cons r1 (.cons r2 .nil), ⟨_, isT, rfl, _, rfl⟩⟩
    refine ⟨.ref s.heap.objs.size, _, I', rfl, ⟨_, u, v, rfl, I.hok.fresh (Nat.le_refl _), rfl, fun us' h => (I.tuple_inj h hl).symm ▸ hu, fun vs' h => (I.list_inj h hm).symm ▸ hv⟩, ⟨w1', (sb.2 _ ap.TIz).trans (keep _ _ ap.TIz ap.TITO ap.TIi1 ap.TIi2 z2), ⟨x1, x2, (sb.2 _ ap.TOz).trans w3⟩, w4.at fun o n => (sb.2 _ ap.i1z).trans n, w5.at fun o n => (sb.2 _ ap.i2z).trans n⟩, fun b hb => ?_⟩
    have lt : b < s.heap.objs.size := five (P := fun b => b < s.heap.objs.size) lq (Heap.lt_size z2) (Heap.lt_size z3) (by obtain ⟨_, e, _⟩ := z4; exact Heap.lt_size e) (by obtain ⟨_, e, _⟩ := z5; exact Heap.lt_size e) b hb
    rw [upd_ne (Nat.ne_of_lt lt)]
    exact (free b hb).1
  done := by
    intro X eP ew eK hc i pins s σ H E I free ⟨z1, z2, ⟨y, z, z3⟩, z4, z5⟩ ⟨us, vs, hl, hm, hn⟩
    subst eP ew eK
    obtain ⟨its, rl, pl, _⟩ := I.tuple hl
    obtain ⟨jts, rm, pm, _⟩ := I.list hm
    have n1 := rl.length
    have n2 := rm.length
    exact py_end kT_ok kL_ok (I.ok.hd hc) ap z1 z2 z3 z4 z5 (us := its.toArray) (vs := jts.toArray) pl pm.isList (hn.imp (fun n => by simp; omega) (fun n => by simp; omega)) fun g keep => ⟨rfl, I.turnedL (t' := s.toks) (ch := [q, t, r, a, c]) (fun b o nb e => keep b o (fun n => nb (by simp [n])) (fun n => nb (by simp [n])) (fun n => nb (by simp [n])) (fun n => nb (by simp [n])) e) free⟩
  self := fun A i s Q E st h => wpAny_pyIter_zip st.1 h
def iMix (K : PySem.W.Frag) (ta : TA) : TI := fun σ H R => ta σ H fun ws H1 => ∃ a b us vs, ws = [.ref a, .ref b] ∧ ((SqL K H1 a us ∧ SqL K H1 b vs ∧ R (Itz K a b) H1) ∨ (SqT K H1 a us ∧ SqT K H1 b vs ∧ R (ItzT K a b) H1) ∨ (SqT K H1 a us ∧ SqL K H1 b vs ∧ R (ItM K a b) H1))
theorem pi_mix {X : Cx} {e1 e2 : Expr} {ta : TA} {p pos tp : Pos} {elts : List Expr} {kk : Nat} (hg : Gl X "zip") (hm : X.mg "zip" = none) (ha : PA X [e1, e2] ta)
    (hs : starEach [e1, e2] X.env = (false, eval e1 X.env) :: starEach [e2] X.env := by rfl) (hpl : (backTo pos (starEach [e2] X.env)).any (·.1) = false := by rfl) :
    PI X (.Tuple elts kk tp) (.Call (.Name "zip" p) [e1, e2] [] pos) (iMix X.K ta) := by
  refine ⟨fun pins s σ H R I h => Call_ (ld_blt I hg hm PyProof.Rows.boot_zip (PyProof.Rows.callWith_type1 (thn (ha.run pos pins s σ H _ I h) fun us s1 ⟨vs, H1, I1, r1, q1⟩ => ?_) hs hpl))⟩
  obtain ⟨a, b, xs, ys, ex, q1⟩ := q1
  subst ex
  obtain _ | ⟨r, rr⟩ := r1
  obtain _ | ⟨r', rr⟩ := rr
  cases rr; cases r; cases r'
  have fr : ∀ c, s1.heap.objs.size ≤ c → FpOk X pins H1 c := fun c hc => I1.fpOk hc (I1.hok.fresh hc)
  have fresh : ∀ c ∈ [s1.heap.objs.size + 4, s1.heap.objs.size + 2, s1.heap.objs.size + 3, s1.heap.objs.size, s1.heap.objs.size + 1], FpOk X pins H1 c := five (fr _ (by omega)) (fr _ (by omega)) (fr _ (by omega)) (fr _ (by omega)) (fr _ (by omega))
  rcases q1 with ⟨hx, hy, q⟩ | ⟨hx, hy, q⟩ | ⟨hx, hy, q⟩
  · obtain ⟨its, _, p1, _⟩ := I1.list hx
    obtain ⟨jts, _, p2, _⟩ := I1.list hy
    exact call_zip_2 p1.isList p2.isList fun g z1 z2 z3 z4 z5 _ hk => wpAny_pyIter_zip z1 ⟨_, _, _, _, H1, rfl, I1.kept (t' := s1.toks) hk, turn_zip (PySem.W.ktu_apart s1.heap.objs.size a b p1.lt p2.lt), ⟨z1, z2, ⟨_, _, z3⟩, z4, z5⟩, fresh, q⟩
  · obtain ⟨its, _, p1, _⟩ := I1.tuple hx
    obtain ⟨jts, _, p2, _⟩ := I1.tuple hy
    obtain ⟨o1, ho1, _⟩ := id p1
    obtain ⟨o2, ho2, _⟩ := id p2
    exact call_zipT (show s1.heap.IsTuple a its.toArray from p1) (show s1.heap.IsTuple b jts.toArray from p2) fun g z1 z2 z3 z4 z5 _ hk => wpAny_pyIter_zip z1 ⟨_, _, _, _, H1, rfl, I1.kept (t' := s1.toks) hk, turn_zipT (PySem.W.ktu_apart s1.heap.objs.size a b (Heap.lt_size ho1) (Heap.lt_size ho2)), ⟨z1, z2, ⟨_, _, z3⟩, z4, z5⟩, fresh, q⟩
  · obtain ⟨its, _, p1, _⟩ := I1.tuple hx
    obtain ⟨jts, _, p2, _⟩ := I1.list hy
    obtain ⟨o1, ho1, _⟩ := id p1
    exact call_mix (show s1.heap.IsTuple a its.toArray from p1) p2.isList fun g z1 z2 z3 z4 z5 _ hk => wpAny_pyIter_zip z1 ⟨_, _, _, _, H1, rfl, I1.kept (t' := s1.toks) hk, turn_mix (PySem.W.ktu_apart s1.heap.objs.size a b (Heap.lt_size ho1) p2.lt), ⟨z1, z2, ⟨_, _, z3⟩, z4, z5⟩, fresh, q⟩
end Cl.Zp
set_option autoImplicit false
set_option Elab.async false
set_option linter.all false
set_option maxRecDepth 100000
set_option maxHeartbeats 4000000
/-! What loops and comprehensions walk. -/
namespace Cl
open PySem PySem.Spec PyProof.Rows L2
theorem _root_.L2.PI.imp {X : Cx} {tg e : Expr} {t t' : TI} (h : PI X tg e t) (f : ∀ σ H Q, t' σ H Q → t σ H Q) : PI X tg e t' := ⟨fun pins s σ H Q I q => h.run pins s σ H Q I (f σ H Q q)⟩
/-- no row is longer than the line -/
def LenOk (K : PySem.W.Frag) (H : Hp) : Prop := (∀ a xs, SqL K H a xs → xs.length ≤ LIM) ∧ ∀ a xs, SqT K H a xs → xs.length ≤ LIM
theorem lenOk {X : Cx} {pins : List (Addr × Obj)} {σ : L2.St} {H : Hp} {s : Shared} (I : Inv X pins σ H s) : LenOk X.K H :=
  ⟨fun a xs h => by obtain ⟨_, _, _, z⟩ := I.list h; rw [← sizeLim]; exact z, fun a xs h => by obtain ⟨_, _, _, z⟩ := I.tuple h; rw [← sizeLim]; exact z⟩
theorem _root_.L2.PA.lens {X : Cx} {es : List Expr} {t : TA} (h : PA X es t) : PA X es (fun σ H Q => t σ H fun vs H1 => LenOk X.K H1 → Q vs H1) :=
  ⟨fun pos pins s σ H Q I q => thn (h.run pos pins s σ H _ I q) fun us s1 ⟨vs, H1, I1, r, q1⟩ => ⟨vs, H1, I1, r, q1 (lenOk I1)⟩⟩
theorem _root_.L2.PE.lens {X : Cx} {e : Expr} {t : TE} (h : PE X e t) : PE X e (fun σ H Q => t σ H fun v H1 => LenOk X.K H1 → Q v H1) :=
  ⟨fun pins s σ H Q I q => thn (h.run pins s σ H _ I q) fun us s1 ⟨v, H1, I1, r, q1⟩ => ⟨v, H1, I1, r, q1 (lenOk I1)⟩⟩

/-- the walked things, from the world S on -/
def WJ (G : Gl0) (R : Rp) (S : Hp) (J : It) (ds : List D) : Prop := ∀ S' H' b i, Same S S' → Wd G R S' H' b →
  (∀ d, ds[i]? = some d → J.go i H' ∧ ∀ x H2, J.yld i H' x H2 → ∃ S2, Gr R S' H' S2 H2 ∧ Wd G R S2 H2 b ∧ Rep G.K R S2 d x) ∧ (ds[i]? = none → J.stop i H')
section
variable {G : Gl0} {L : Lv} {X : Cx} {R : Rp} {S : Hp} {a c : Addr} {ds es : List D} {vs us : List V}
theorem RepL.none {K : PySem.W.Frag} {i : Nat} (r : RepL K R S ds vs) (h : ds[i]? = none) : vs.length ≤ i := by
  have := r.len
  have := List.getElem?_eq_none_iff.mp h
  omega
theorem wj_list (h : S a = some (.lst vs)) (r : RepL G.K R S ds vs) : WJ G R S (Itl G.K a) ds := fun S' H' b i hs w => by
  have q : SqL G.K H' a vs := .inl (.inl (w.sub _ _ (hs _ _ h)))
  refine ⟨fun d hd => ?_, fun hd => ⟨vs, q, r.none hd⟩⟩
  obtain ⟨v, hv, rv⟩ := r.get hd
  refine ⟨⟨vs, v, q, hv⟩, fun x H2 ⟨e, y⟩ => ?_⟩
  subst e
  have := y vs q
  rw [hv] at this
  cases this
  exact ⟨S', Gr.refl R S' H2, w, Rep.same hs _ _ rv⟩
theorem wj_tup (h : SqT G.K S a vs) (r : RepL G.K R S ds vs) : WJ G R S (Itt G.K a) ds := fun S' H' b i hs w => by
  have q : SqT G.K H' a vs := SqT.same w.sub (SqT.same hs h)
  refine ⟨fun d hd => ?_, fun hd => ⟨vs, q, r.none hd⟩⟩
  obtain ⟨v, hv, rv⟩ := r.get hd
  refine ⟨⟨vs, v, q, hv⟩, fun x H2 ⟨e, y⟩ => ?_⟩
  subst e
  have := y vs q
  rw [hv] at this
  cases this
  exact ⟨S', Gr.refl R S' H2, w, Rep.same hs _ _ rv⟩
theorem wj_rng (lo hi : Int) : WJ G R S (Itr lo (hi - lo).toNat) (rng lo hi) := fun S' H' b i hs w => by
  refine ⟨fun d hd => ?_, fun hd => ?_⟩
  · unfold rng at hd
    rw [List.getElem?_map] at hd
    cases e : (List.range (hi - lo).toNat)[i]? with
    | none => rw [e] at hd; cases hd
    | some k =>
      rw [e] at hd
      obtain ⟨h1, h2⟩ := List.getElem?_eq_some_iff.mp e
      have h3 : i < (hi - lo).toNat := by simpa using h1
      simp at h2
      subst h2
      cases hd
      refine ⟨h3, fun x H2 ⟨e1, e2⟩ => ?_⟩
      subst e1 e2
      exact ⟨S', Gr.refl R S' H2, w, rfl⟩
  · have := List.getElem?_eq_none_iff.mp hd
    unfold rng at this
    simp at this
    show (hi - lo).toNat ≤ i
    omega
/-- a new pair -/
theorem pair_new {S' H' : Hp} {b : Nat} {T : Addr} {d e : D} {x y : V} (w : Wd G R S' H' b) (hT : H' T = none) (r1 : Rep G.K R S' d x) (r2 : Rep G.K R S' e y) :
    Gr R S' H' (upd S' T (.tup [x, y])) (upd H' T (.tup [x, y])) ∧ Wd G R (upd S' T (.tup [x, y])) (upd H' T (.tup [x, y])) b ∧ Rep G.K R (upd S' T (.tup [x, y])) (.tup [d, e]) (.ref T) :=
  ⟨gr_updF hT w.sub, w.newF hT (fun _ z => by cases z), rep_tup w ⟨x, [y], rfl, r1, y, [], rfl, r2, rfl⟩ hT⟩
theorem enum_get {ds : List D} {i : Nat} : (ds.zipIdx.map fun p => D.tup [.int p.2, p.1])[i]? = ds[i]?.map fun d => D.tup [.int (i : Nat), d] := by
  rw [List.getElem?_map, List.getElem?_zipIdx]
  cases ds[i]? with
  | none => rfl
  | some d => simp
theorem wj_enum (h : S a = some (.lst vs)) (r : RepL G.K R S ds vs) : WJ G R S (Ite G.K a) (ds.zipIdx.map fun p => .tup [.int p.2, p.1]) := fun S' H' b i hs w => by
  have q : SqL G.K H' a vs := .inl (.inl (w.sub _ _ (hs _ _ h)))
  rw [enum_get]
  cases hd : ds[i]? with
  | none => exact ⟨fun d z => by simp at z, fun _ => ⟨vs, q, r.none hd⟩⟩
  | some d0 =>
    refine ⟨fun d z => ?_, fun z => by simp at z⟩
    simp only [Option.map_some, Option.some.injEq] at z
    subst z
    obtain ⟨v, hv, rv⟩ := r.get hd
    refine ⟨⟨vs, v, q, hv⟩, fun x H2 ⟨T, y, e1, hT, e2, hy⟩ => ?_⟩
    subst e1 e2
    have := hy vs q
    rw [hv] at this
    cases this
    exact ⟨_, pair_new w hT rfl (Rep.same hs _ _ rv)⟩
/-- enumerate of a tuple -/
def IteT (K : PySem.W.Frag) (a : Addr) : It :=
  ⟨fun i H => ∃ (xs : List V) (x : V), SqT K H a xs ∧ xs[i]? = some x, fun i H v H' => ∃ T x, v = .ref T ∧ H T = none ∧ H' = upd H T (.tup [.int (i : Nat), x]) ∧ ∀ xs, SqT K H a xs → xs[i]? = some x, fun i H => ∃ xs : List V, SqT K H a xs ∧ xs.length ≤ i⟩
theorem wj_enumT (h : SqT G.K S a vs) (r : RepL G.K R S ds vs) : WJ G R S (IteT G.K a) (ds.zipIdx.map fun p => .tup [.int p.2, p.1]) := fun S' H' b i hs w => by
  have q : SqT G.K H' a vs := SqT.same w.sub (SqT.same hs h)
  rw [enum_get]
  cases hd : ds[i]? with
  | none => exact ⟨fun d z => by simp at z, fun _ => ⟨vs, q, r.none hd⟩⟩
  | some d0 =>
    refine ⟨fun d z => ?_, fun z => by simp at z⟩
    simp only [Option.map_some, Option.some.injEq] at z
    subst z
    obtain ⟨v, hv, rv⟩ := r.get hd
    refine ⟨⟨vs, v, q, hv⟩, fun x H2 ⟨T, y, e1, hT, e2, hy⟩ => ?_⟩
    subst e1 e2
    have := hy vs q
    rw [hv] at this
    cases this
    exact ⟨_, pair_new w hT rfl (Rep.same hs _ _ rv)⟩
theorem zip_get : ∀ {ds es : List D} {i : Nat}, ((ds.zip es).map fun p => D.tup [p.1, p.2])[i]? = (ds[i]?).bind fun d => (es[i]?).map fun e => D.tup [d, e]
  | [], es, i => by simp
  | d :: ds, [], i => by cases h : (d :: ds)[i]? <;> simp
  | d :: ds, e :: es, 0 => rfl
  | d :: ds, e :: es, i + 1 => by simpa using zip_get (ds := ds) (es := es) (i := i)
theorem zip_cases {i : Nat} {P : Prop} (h0 : ds[i]? = none ∨ es[i]? = none → P) (h1 : ∀ d e, ds[i]? = some d → es[i]? = some e → P) : P := by
  cases hd : ds[i]? with
  | none => exact h0 (.inl hd)
  | some d =>
    cases he : es[i]? with
    | none => exact h0 (.inr he)
    | some e => exact h1 d e hd he
theorem wj_zip (h : S a = some (.lst vs)) (r : RepL G.K R S ds vs) (h' : S c = some (.lst us)) (r' : RepL G.K R S es us) : WJ G R S (Itz G.K a c) ((ds.zip es).map fun p => .tup [p.1, p.2]) := fun S' H' b i hs w => by
  have q : SqL G.K H' a vs := .inl (.inl (w.sub _ _ (hs _ _ h)))
  have q' : SqL G.K H' c us := .inl (.inl (w.sub _ _ (hs _ _ h')))
  rw [zip_get]
  refine zip_cases (ds := ds) (es := es) (i := i) (fun z => ?_) (fun d0 e0 hd he => ?_)
  · refine ⟨fun d y => ?_, fun _ => ⟨vs, us, q, q', z.imp r.none r'.none⟩⟩
    rcases z with z | z
    · simp [z] at y
    · simp [z] at y
  · rw [hd, he]
    refine ⟨fun d z => ?_, fun z => by simp at z⟩
    simp at z
    subst z
    obtain ⟨v, hv, rv⟩ := r.get hd
    obtain ⟨u, hu, ru⟩ := r'.get he
    refine ⟨⟨vs, us, v, u, q, q', hv, hu⟩, fun x H2 ⟨T, y1, y2, e1, hT, e2, hy1, hy2⟩ => ?_⟩
    subst e1 e2
    have z1 := hy1 vs q
    have z2 := hy2 us q'
    rw [hv] at z1
    rw [hu] at z2
    cases z1
    cases z2
    exact ⟨_, pair_new w hT (Rep.same hs _ _ rv) (Rep.same hs _ _ ru)⟩
theorem wj_zipT (h : SqT G.K S a vs) (r : RepL G.K R S ds vs) (h' : SqT G.K S c us) (r' : RepL G.K R S es us) : WJ G R S (RZ.ItzT G.K a c) ((ds.zip es).map fun p => .tup [p.1, p.2]) := fun S' H' b i hs w => by
  have q : SqT G.K H' a vs := SqT.same w.sub (SqT.same hs h)
  have q' : SqT G.K H' c us := SqT.same w.sub (SqT.same hs h')
  rw [zip_get]
  refine zip_cases (ds := ds) (es := es) (i := i) (fun z => ?_) (fun d0 e0 hd he => ?_)
  · refine ⟨fun d y => ?_, fun _ => ⟨vs, us, q, q', z.imp r.none r'.none⟩⟩
    rcases z with z | z
    · simp [z] at y
    · simp [z] at y
  · rw [hd, he]
    refine ⟨fun d z => ?_, fun z => by simp at z⟩
    simp at z
    subst z
    obtain ⟨v, hv, rv⟩ := r.get hd
    obtain ⟨u, hu, ru⟩ := r'.get he
    refine ⟨⟨vs, us, v, u, q, q', hv, hu⟩, fun x H2 ⟨T, y1, y2, e1, hT, e2, hy1, hy2⟩ => ?_⟩
    subst e1 e2
    have z1 := hy1 vs q
    have z2 := hy2 us q'
    rw [hv] at z1
    rw [hu] at z2
    cases z1
    cases z2
    exact ⟨_, pair_new w hT (Rep.same hs _ _ rv) (Rep.same hs _ _ ru)⟩
theorem wj_zipM (h : SqT G.K S a vs) (r : RepL G.K R S ds vs) (h' : S c = some (.lst us)) (r' : RepL G.K R S es us) : WJ G R S (Cl.Zp.ItM G.K a c) ((ds.zip es).map fun p => .tup [p.1, p.2]) := fun S' H' b i hs w => by
  have q : SqT G.K H' a vs := SqT.same w.sub (SqT.same hs h)
  have q' : SqL G.K H' c us := .inl (.inl (w.sub _ _ (hs _ _ h')))
  rw [zip_get]
  refine zip_cases (ds := ds) (es := es) (i := i) (fun z => ?_) (fun d0 e0 hd he => ?_)
  · refine ⟨fun d y => ?_, fun _ => ⟨vs, us, q, q', z.imp r.none r'.none⟩⟩
    rcases z with z | z
    · simp [z] at y
    · simp [z] at y
  · rw [hd, he]
    refine ⟨fun d z => ?_, fun z => by simp at z⟩
    simp at z
    subst z
    obtain ⟨v, hv, rv⟩ := r.get hd
    obtain ⟨u, hu, ru⟩ := r'.get he
    refine ⟨⟨vs, us, v, u, q, q', hv, hu⟩, fun x H2 ⟨T, y1, y2, e1, hT, e2, hy1, hy2⟩ => ?_⟩
    subst e1 e2
    have z1 := hy1 vs q
    have z2 := hy2 us q'
    rw [hv] at z1
    rw [hu] at z2
    cases z1
    cases z2
    exact ⟨_, pair_new w hT (Rep.same hs _ _ rv) (Rep.same hs _ _ ru)⟩
end
/-! ### iter of a list or a tuple -/
section
variable {X : Cx} {tg : Expr}
def iSeq (K : PySem.W.Frag) (tl : TE) : TI := fun σ H Rk => tl σ H fun x H1 => LenOk K H1 → ∃ a, x = .ref a ∧ ((∃ xs, SqL K H1 a xs) ∧ Rk (Itl K a) H1 ∨ (∃ xs, SqT K H1 a xs) ∧ Rk (Itt K a) H1)
/-- one new object, an iterator -/
theorem pie_new {pins : List (Addr × Obj)} {σ : L2.St} {H : Hp} {s : Shared} {Rk : It → Hp → Prop} {J : It} {tn : Nat → Heap → Prop} {o : Obj} (I : Inv X pins σ H s) (T : Turn X.prog X.w X.K tg J [s.heap.objs.size] s.heap.objs.size tn)
    (t0 : tn 0 (s.heap.push o)) (q : Rk J H) : PIE X pins σ tg Rk (.ref s.heap.objs.size) { s with heap := s.heap.push o } := by
  refine ⟨s.heap.objs.size, [s.heap.objs.size], tn, J, H, rfl, ?_, T, t0, ?_, q⟩
  · exact I.kept (t' := s.toks) fun x y z => Heap.get?_push_of_some _ z
  · intro x hx
    obtain rfl : x = s.heap.objs.size := List.mem_singleton.mp hx
    exact I.fpOk (Nat.le_refl _) (I.hok.fresh (Nat.le_refl _))
theorem si_any {l : Expr} {tl : TE} (hl : PE X l tl) : PI X tg l (iSeq X.K tl) := by
  constructor
  intro pins s σ H Rk I h
  refine thn (hl.run pins s σ H _ I h) fun v s1 ⟨x, H1, I1, r1, q1⟩ => ?_
  obtain ⟨p, ep, q2⟩ := q1 (lenOk I1)
  subst ep
  cases r1
  rcases q2 with ⟨⟨xs, hq⟩, k⟩ | ⟨⟨xs, hq⟩, k⟩
  · obtain ⟨its, _, pl, _⟩ := I1.list hq
    exact wpAny_pyIter_list pl.isList (pie_new I1 (turn_list p _) ⟨_, Heap.get?_push_size _ rfl, rfl, rfl⟩ k)
  · obtain ⟨its, _, pt, _⟩ := I1.tuple hq
    exact wpAny_pyIter_tuple (show s1.heap.IsTuple p its.toArray from pt) (pie_new I1 (turn_tuple p _) ⟨_, Heap.get?_push_size _ rfl, rfl, rfl⟩ k)
end
end Cl
set_option autoImplicit false
set_option Elab.async false
set_option linter.all false
set_option maxRecDepth 100000
set_option maxHeartbeats 4000000
/-! enumerate of a tuple. -/
namespace Cl
open PySem PySem.Spec PyProof.Rows L2
open AutoSeq1 (wpAny_loadPart')
theorem enumNew {v : Value} {o : Obj} {Hy : Heap → Prop} (B : Begins v o Hy) :
    Meets (Builtin.«enumerate.__new__» ⟨[.type "enumerate", v], []⟩) (fun _ R s => Hy s.heap ∧
      R (.ok (.ret (.ref (s.heap.push o).objs.size))) { s with heap := (s.heap.push o).push { cls := .type "enumerate", data := .fields #[.none, .bool false, .ref s.heap.objs.size, rawInt 0, .none, .none] } }) :=
  .of_wp fun prog w A Rt s hh => by
    obtain ⟨hp, gs, dr, tk, os⟩ := s
    obtain ⟨y1, hh⟩ := hh
    have hsub := sub_enumerate
    have step : ∀ {A' : Around} {Ex : Value → Shared → Prop} {Qv : Value → Shared → Prop}, Qv (.ref hp.objs.size) ⟨hp.push o, gs, dr, tk, os⟩ → wpAny (model prog w) A' (pyIter v) Qv Ex ⟨hp, gs, dr, tk, os⟩ :=
      fun q => B.iter prog w _ _ ⟨hp, gs, dr, tk, os⟩ _ y1 q
    wp_walk using step
    refine wpAny_stack_any fun st => wpAny_pure ?_
    split
    · rename_i cl _ _ _ _ _
      cases (cl == Value.type "enumerate") <;> (wp_walk using step; exact ⟨_, rfl, hh⟩)
    · wp_walk using step
      exact ⟨_, rfl, hh⟩
theorem enum_make {prog : Program} {w : World} {A : Around} {Ex : Value → Shared → Prop} {s : Shared} {v : Value} {o : Obj} {Hy : Heap → Prop} {Qv : Value → Shared → Prop} (B : Begins v o Hy) (y : Hy s.heap)
    (k : ∀ h', IsEnum h' (s.heap.objs.size + 1) s.heap.objs.size 0 .none → h'.get? s.heap.objs.size = some o → (∀ b z, s.heap.get? b = some z → h'.get? b = some z) → Qv (.ref (s.heap.objs.size + 1)) { s with heap := h' }) :
    wpAny (model prog w) A (call (.type "enumerate") [v]) Qv Ex s := by
  refine callType_new F.called_enumerate (by decide) (F.typeCall_enumerate_1 _) (F.newCall_enumerate_1 _) (fun obj => F.args_object_init_2 obj _) F.entry_enumerate_new (enumNew B) ⟨y, ?_⟩
  have sz : (s.heap.push o).objs.size = s.heap.objs.size + 1 := Heap.size_push ..
  show _ ∧ _
  rw [sz]
  have ie : IsEnum ((s.heap.push o).push { cls := .type "enumerate", data := .fields #[.none, .bool false, .ref s.heap.objs.size, rawInt 0, .none, .none] }) (s.heap.objs.size + 1) s.heap.objs.size 0 .none := by
    have z := Heap.get?_push_size (s.heap.push o) (o := { cls := .type "enumerate", data := .fields #[.none, .bool false, .ref s.heap.objs.size, rawInt 0, .none, .none] }) rfl
    rwa [sz] at z
  exact ⟨⟨_, ie, rfl⟩, k _ ie (Heap.get?_push_of_some _ (Heap.get?_push_size _ B.free)) fun b z x => Heap.get?_push_of_some _ (Heap.get?_push_of_some _ x)⟩
/-- at the end nothing is drawn -/
theorem drawn_out {prog : Program} {w : World} {A : Around} {it t : Addr} {items : Array Value} {i : Nat} (hh : A.handled = none) (z : items[i]? = none) :
    Draws prog w A it [it, t] i (fun _ _ => True) (fun j h => j = i ∧ h.IsTupleIter it t i ∧ h.IsTuple t items) where
  live := fun _ _ st => let ⟨o, ho, _⟩ := st.2.1; ⟨o, ho⟩
  frame := fun _ _ _ st hk => ⟨st.1, st.2.1.at fun o e => hk it (List.mem_cons_self ..) o e, st.2.2.at fun o e => hk t (List.mem_cons_of_mem _ (List.mem_cons_self ..)) o e⟩
  item := fun j s Q E hj st => absurd st.1 (by omega)
  done := fun s Q E st k => wpAny_nextOf_tuple_end hh st.2.1 st.2.2 z k
/-- its turns -/
theorem turn_enumTup {P : Program} {w : World} {K : PySem.W.Frag} {elts : List Expr} {kk : Nat} {tpos : Pos} (p e it : Addr) :
    Turn P w K (.Tuple elts kk tpos) (IteT K p) [e, it] e (fun i h => (∃ old, IsEnum h e it ((i : Nat) : Int) old) ∧ h.IsTupleIter it p i ∧ e ≠ it ∧ p ≠ it ∧ p ≠ e) where
  mem := List.mem_cons_self ..
  obj := fun i h st c hc => by
    obtain ⟨⟨old, ie⟩, ⟨o, io, _, id'⟩, _⟩ := st
    rcases List.mem_cons.mp hc with z | z
    · subst z
      exact ⟨_, ie, fun v q => nomatch q⟩
    · obtain rfl := List.mem_singleton.mp z
      exact ⟨o, io, fun v q => by rw [id'] at q; cases q⟩
  keep := fun i h h2 ⟨⟨old, ie⟩, ht, n1, n2⟩ k => ⟨⟨old, k e (List.mem_cons_self ..) _ ie⟩, ht.at fun o q => k it (List.mem_cons_of_mem _ (List.mem_cons_self ..)) o q, n1, n2⟩
  item := by
    intro X hP hw hK hc i pins s σ H E I hf st hg
    subst hP hw hK
    obtain ⟨⟨old, ie⟩, ht, n1, n2, n3⟩ := st
    obtain ⟨xs, x, hq, hx⟩ := hg
    obtain ⟨its, rv, pt, _⟩ := I.tuple hq
    obtain ⟨u, hu, ru⟩ := rv.get hx
    have e_lt : e < s.heap.objs.size := Heap.lt_size ie
    have hl : i < its.toArray.size := by
      have := (List.getElem?_eq_some_iff.mp hu).1
      simpa using this
    have Dr := Draws.tuple (prog := X.prog) (w := X.w) (A := X.A.in1) (show X.A.in1.handled = none from I.ok.hd hc) it p n2 its.toArray
    have pIs : s.heap.IsTuple p its.toArray := pt
    have nin : e ∉ [it, p] := fun z => by
      rcases List.mem_cons.mp z with z | z
      · exact n1 z
      · exact n3 (List.mem_singleton.mp z).symm
    refine wpAny_pyNext_enum_itemD Dr ie ⟨ht, pIs⟩ hl n1 nin fun u' h1 tk hP io st1 hT hsz hk => ?_
    have eu : u' = u := by
      have : its.toArray[i]? = some u := by simpa using hu
      rw [this] at hP
      exact (Option.some.inj hP).symm
    subst eu
    refine ⟨_, rfl, wpAny_letOwnedTupleGo_enum (s := { s with heap := h1, toks := tk + 1 }) io fun h2 ie2 sb => ?_⟩
    have hT2 : h2.get? s.heap.objs.size = some { cls := .type "tuple", data := .seq #[.int i tk, u'] } := (sb.2 _ (Nat.ne_of_gt e_lt)).trans hT
    have ok : ObjOk X.prog X.w (upd H s.heap.objs.size (.tup [.int (i : Nat), x])) h2 s.heap.objs.size (.tup [.int (i : Nat), x]) :=
      ⟨by show 2 ≤ sizeLine; decide, [.int i tk, u'], .cons ⟨_, rfl⟩ (.cons ru .nil), ⟨_, hT2, rfl, _, rfl⟩⟩
    have I2 : Inv X pins σ (upd H s.heap.objs.size (.tup [.int (i : Nat), x])) { s with heap := h2, toks := tk + 1 } :=
      I.turnedNew (ch := [e, it]) (fun c ob hb q => (sb.2 c (fun z => hb (by simp [z]))).trans (hk c ob (fun z => hb (by simp [z])) (fun z => hb (by simp [z])) q)) hf (Nat.le_refl _) ok
    refine ⟨.ref s.heap.objs.size, _, I2, rfl, ⟨_, x, rfl, I.hok.fresh (Nat.le_refl _), rfl, fun ys hy => by rw [I.tuple_inj hy hq]; exact hx⟩, ⟨⟨u', ?_⟩, st1.1.at fun o q => (sb.2 it (Ne.symm n1)).trans q, n1, n2, n3⟩, fun c hcm => ?_⟩
    · have e1 : ((i + 1 : Nat) : Int) = (i : Int) + 1 := by omega
      rw [e1]
      exact ie2
    · have hlt : c < s.heap.objs.size := by
        rcases List.mem_cons.mp hcm with z | z
        · rw [z]; exact e_lt
        · obtain ⟨o, io, _⟩ := ht
          rw [List.mem_singleton.mp z]
          exact Heap.lt_size io
      rw [upd_ne (Nat.ne_of_lt hlt)]
      exact (hf c hcm).1
  done := by
    intro X hP hw hK hc i pins s σ H E I hf st hg
    subst hP hw hK
    obtain ⟨⟨old, ie⟩, ht, n1, n2, n3⟩ := st
    obtain ⟨xs, hq, hx⟩ := hg
    obtain ⟨its, rv, pt, _⟩ := I.tuple hq
    have hl := rv.length
    have pIs : s.heap.IsTuple p its.toArray := pt
    have z : its.toArray[i]? = none := by simp; omega
    refine wpAny_pyNext_enum_endD (drawn_out (show X.A.in1.handled = none from I.ok.hd hc) (it := it) (t := p) z) ie ⟨rfl, ht, pIs⟩ fun h2 eb => ⟨rfl, ?_⟩
    obtain ⟨f0, f1, f2, f3, f4, f5⟩ := hf it (List.mem_cons_of_mem _ (List.mem_cons_self ..))
    exact I.turned (t' := s.toks) (fun c o hb q => eb c o hb q) f0 f1 f3 f4 f5
  self := fun A i s Q E st h => by
    obtain ⟨⟨old, ie⟩, _⟩ := st
    exact wpAny_pyIter_enum ie h
section
variable {X : Cx}
/-- enumerate(e): e a list or a tuple -/
def iEnumA (K : PySem.W.Frag) (ta : TA) : TI := fun σ H Rk => ta σ H fun vs H1 => ∃ a, vs = [.ref a] ∧ (((∃ xs, SqL K H1 a xs) ∧ Rk (Ite K a) H1) ∨ ((∃ xs, SqT K H1 a xs) ∧ Rk (IteT K a) H1))
theorem si_enum {e : Expr} {ta : TA} {p pos tpos : Pos} {elts : List Expr} {kk : Nat} (hg : L2.Gl X "enumerate") (hm : X.mg "enumerate" = none) (ha : PA X [e] ta) (hs : starEach [e] X.env = [(false, eval e X.env)]) :
    PI X (.Tuple elts kk tpos) (.Call (.Name "enumerate" p) [e] [] pos) (iEnumA X.K ta) := by
  constructor
  intro pins s σ H Rk I h
  refine Call_ (ld_blt I hg hm boot_enumerate (PyProof.Rows.callWith_type1 (thn (ha.run pos pins s σ H _ I h) fun us s1 ⟨vs, H1, I1, r1, q1⟩ => ?_) hs rfl))
  obtain ⟨a, ev, q2⟩ := q1
  subst ev
  obtain ⟨u, rfl, ru⟩ := vals1 r1
  cases ru
  have new : ∀ b ∈ [s1.heap.objs.size + 1, s1.heap.objs.size], FpOk X pins H1 b := fun b hb => by
    have hle : s1.heap.objs.size ≤ b := by
      rcases List.mem_cons.mp hb with z | z
      · rw [z]; exact Nat.le_succ _
      · rw [List.mem_singleton.mp z]; exact Nat.le_refl _
    exact I1.fpOk hle (I1.hok.fresh hle)
  rcases q2 with ⟨⟨xs, hq⟩, k⟩ | ⟨⟨xs, hq⟩, k⟩
  · obtain ⟨its, _, pl, _⟩ := I1.list hq
    refine enum_make (begins_list a its.toArray) pl.isList fun h' ie hi hk => wpAny_pyIter_enum ie ?_
    exact ⟨_, _, _, _, H1, rfl, I1.kept (t' := s1.toks) hk, L2.turn_enum a (s1.heap.objs.size + 1) s1.heap.objs.size, ⟨⟨.none, ie⟩, ⟨_, hi, rfl, rfl⟩, Nat.succ_ne_self _⟩, new, k⟩
  · obtain ⟨its, _, pt, _⟩ := I1.tuple hq
    have pIs : s1.heap.IsTuple a its.toArray := pt
    have alt : a < s1.heap.objs.size := by obtain ⟨o, ho, _⟩ := pIs; exact Heap.lt_size ho
    refine enum_make (begins_tuple a its.toArray) pIs fun h' ie hi hk => wpAny_pyIter_enum ie ?_
    exact ⟨_, _, _, _, H1, rfl, I1.kept (t' := s1.toks) hk, turn_enumTup a (s1.heap.objs.size + 1) s1.heap.objs.size, ⟨⟨.none, ie⟩, ⟨_, hi, rfl, rfl⟩, Nat.succ_ne_self _, Nat.ne_of_lt alt, Nat.ne_of_lt (Nat.lt_succ_of_lt alt)⟩, new, k⟩
end
end Cl
set_option autoImplicit false
set_option Elab.async false
set_option linter.all false
set_option maxRecDepth 100000
set_option maxHeartbeats 4000000
/-! Sources of loops, by values; targets. -/
namespace Cl
open PySem PySem.Spec PyProof.Rows L2
theorem walk_cases (w : Wk) (d : D) : walkV w d = .stuck ∨ ∃ xs, walkV w d = .ok xs := by
  unfold walkV
  repeat' split
  all_goals first | exact .inl rfl | exact .inr ⟨_, rfl⟩
theorem walk_wp {w : Wk} {d : D} {Q : List D → Prop} {Ef : Nat → D → Prop} (h : wp (walkV w d) Q Ef) : ∃ xs, walkV w d = .ok xs ∧ Q xs := by
  rcases walk_cases w d with e | ⟨xs, e⟩
  · rw [e] at h; exact h.elim
  · rw [e] at h; exact ⟨xs, e, h⟩
/-- a source's reading -/
def rdI (G : Gl0) (L : Lv) (w : Wk) (e : E) : TI := fun σ H Rk => ∃ R ρ H0 S b, Here G L R ρ σ H0 S H b ∧ b + wgt L.k L.kh L.t e ≤ BIG ∧
  wp ((evE L.F L.tm e ρ).bind (walkV w)) (fun xs => ∀ J S' H' b', Behind G R S H b (wgt L.k L.kh L.t e) S' H' b' → WJ G R S' J xs → xs.length ≤ LIM → Rk J H') (wishX G L R σ S H b (wgt L.k L.kh L.t e))
section
variable {G : Gl0} {L : Lv} {X : Cx} {tg : Expr} {a b : E} {ea eb : Expr} {pos p2 : Pos}
theorem rdI_one {w : Wk} {σ : L2.St} {H : Hp} {Rk : It → Hp → Prop} {Z : VK} (h : rdI G L w a σ H Rk)
    (z : ∀ R S' H' n d v xs, Wd G R S' H' n → VR G R H S' H' (md a) d v → walkV w d = .ok xs → (∀ J, WJ G R S' J xs → xs.length ≤ LIM → Rk J H') → Z v H') : rdE G L a σ H Z := by
  obtain ⟨R, ρ, H0, S, n, hh, hb, hp⟩ := h
  refine ⟨R, ρ, H0, S, n, hh, hb, wp_mono (fun d hd v S' H' b' hq hv => ?_) (fun _ _ x => x) (wp_bind hp)⟩
  obtain ⟨xs, e, q⟩ := walk_wp hd
  exact z R S' H' b' d v xs hq.wd hv e (fun J wj hl => q J S' H' b' hq wj hl)
theorem rdI_row {w : Wk} {σ : L2.St} {H : Hp} {Rk : It → Hp → Prop} {Z : List V → Hp → Prop} (hm : ∀ m ∈ mds a, m = .f) (hrow : ∀ d xs, walkV w d = .ok xs → ∃ ds, d = .tup ds) (h : rdI G L w a σ H Rk)
    (z : ∀ R S' H' n ds vs xs, Wd G R S' H' n → RepL G.K R S' ds vs → walkV w (.tup ds) = .ok xs → (∀ J, WJ G R S' J xs → xs.length ≤ LIM → Rk J H') → Z vs H') : rdA G L a σ H Z := by
  obtain ⟨R, ρ, H0, S, n, hh, hb, hp⟩ := h
  refine ⟨R, ρ, H0, S, n, hh, hb, wp_mono (fun d hd => ?_) (fun _ _ x => x) (wp_bind hp)⟩
  obtain ⟨xs, e, q⟩ := walk_wp hd
  obtain ⟨ds, rfl⟩ := hrow d xs e
  exact ⟨ds, rfl, fun vs S' H' b' hq hv => z R S' H' b' ds vs xs hq.wd (hv.frozen hm) e (fun J wj hl => q J S' H' b' hq wj hl)⟩
theorem si_seq (hK : X.K = G.K) (hm : md a = .f) (ha : PE X ea (rdE G L a)) : PI X tg ea (rdI G L .seq a) := (si_any ha).imp fun σ H Rk h => by
  refine rdI_one h fun R S' H' n d v xs w r e k => ?_
  rw [hm] at r
  intro lo
  rw [hK] at lo ⊢
  cases d with
  | tup ds =>
    cases e
    obtain ⟨p, vs, rfl, sp, rp⟩ := r.tup
    have sp' := SqT.same w.sub sp
    refine ⟨p, rfl, .inr ⟨⟨vs, sp'⟩, k _ (wj_tup sp rp) ?_⟩⟩
    rw [← rp.len]
    exact lo.2 p vs sp'
  | lst ds =>
    cases e
    obtain ⟨p, vs, rfl, sp, rp⟩ := r
    have sp' : SqL G.K H' p vs := .inl (.inl (w.sub _ _ sp))
    refine ⟨p, rfl, .inl ⟨⟨vs, sp'⟩, k _ (wj_list sp rp) ?_⟩⟩
    rw [← rp.len]
    exact lo.1 p vs sp'
  | _ => cases e
theorem len_rng (lo hi : Int) : (rng lo hi).length = (hi - lo).toNat := by simp [rng]
theorem si_rng1 {p pos : Pos} (hm : md a = .f) (hg : L2.Gl X "range") (hx : X.mg "range" = none) (ha : PA X [ea] (rdA G L (.cons a .nil))) (hs : starEach [ea] X.env = [(false, eval ea X.env)]) :
    PI X tg (.Call (.Name "range" p) [ea] [] pos) (rdI G L .rng1 (.cons a .nil)) := (pi_range1 hg hx ha hs).imp fun σ H Rk h => by
  refine rdI_row (fun m hmm => ?_) (fun d xs e => ?_) h fun R S' H' n ds vs xs w r e k => ?_
  · simp only [mds, List.mem_cons, List.not_mem_nil, or_false] at hmm
    rw [hmm, hm]
  · cases d with
    | tup ds => exact ⟨ds, rfl⟩
    | _ => cases e
  · cases ds with
    | nil => cases e
    | cons d ds =>
      cases ds with
      | cons _ _ => cases d <;> cases e
      | nil =>
        cases d with
        | int i =>
          simp only [walkV] at e
          split at e
          · rename_i hz
            cases e
            obtain ⟨v, u, rfl, rv, ru⟩ := r
            cases ru
            cases rv
            have := rgok1 hz
            unfold RgOk at this
            refine ⟨i, rfl, by omega, by omega, ?_⟩
            have q := k (Itr 0 (i - 0).toNat) (wj_rng 0 i) (by rw [len_rng]; have := hz.1; omega)
            simpa using q
          · cases e
        | _ => cases e
theorem si_rng2 {p pos : Pos} (hm : md a = .f) (hm' : md b = .f) (hg : L2.Gl X "range") (hx : X.mg "range" = none) (ha : PA X [ea, eb] (rdA G L (.cons a (.cons b .nil)))) (hs : starEach [ea, eb] X.env = [(false, eval ea X.env), (false, eval eb X.env)]) (hs2 : starEach [eb] X.env = [(false, eval eb X.env)]) :
    PI X tg (.Call (.Name "range" p) [ea, eb] [] pos) (rdI G L .rng2 (.cons a (.cons b .nil))) := (pi_range2 hg hx ha hs hs2).imp fun σ H Rk h => by
  refine rdI_row (fun m hmm => ?_) (fun d xs e => ?_) h fun R S' H' n ds vs xs w r e k => ?_
  · simp only [mds, List.mem_cons, List.not_mem_nil, or_false] at hmm
    rcases hmm with h | h <;> rw [h] <;> assumption
  · cases d with
    | tup ds => exact ⟨ds, rfl⟩
    | _ => cases e
  · cases ds with
    | nil => cases e
    | cons d ds =>
      cases ds with
      | nil => cases d <;> cases e
      | cons d2 ds =>
        cases ds with
        | cons _ _ => cases d <;> cases d2 <;> cases e
        | nil =>
          cases d with
          | int i =>
            cases d2 with
            | int j =>
              simp only [walkV] at e
              split at e
              · rename_i hz
                cases e
                obtain ⟨v, u, rfl, rv, v2, u2, rfl, rv2, ru⟩ := r
                cases ru
                cases rv
                cases rv2
                have := rgok2 hz
                unfold RgOk at this
                exact ⟨i, j, rfl, by omega, k (Itr i (j - i).toNat) (wj_rng i j) (by rw [len_rng]; have := hz.1; omega)⟩
              · cases e
            | _ => cases e
          | _ => cases d2 <;> cases e
theorem si_enu (hK : X.K = G.K) {p pos tpos : Pos} {elts : List Expr} {kk : Nat} (hm : md a = .f) (hg : L2.Gl X "enumerate") (hx : X.mg "enumerate" = none) (ha : PA X [ea] (rdA G L (.cons a .nil))) (hs : starEach [ea] X.env = [(false, eval ea X.env)]) :
    PI X (.Tuple elts kk tpos) (.Call (.Name "enumerate" p) [ea] [] pos) (rdI G L .enum (.cons a .nil)) := (si_enum hg hx ha.lens hs).imp fun σ H Rk h => by
  refine rdI_row (fun m hmm => ?_) (fun d xs e => ?_) h fun R S' H' n ds vs xs w r e k => ?_
  · simp only [mds, List.mem_cons, List.not_mem_nil, or_false] at hmm
    rw [hmm, hm]
  · cases d with
    | tup ds => exact ⟨ds, rfl⟩
    | _ => cases e
  · intro lo
    rw [hK] at lo ⊢
    cases ds with
    | nil => cases e
    | cons d ds =>
      cases ds with
      | cons _ _ => cases d <;> cases e
      | nil =>
        obtain ⟨v, u, rfl, rv, ru⟩ := r
        cases ru
        cases d with
        | tup ds =>
          cases e
          obtain ⟨q, us, rfl, sp, rp⟩ := rv
          have sp' := SqT.same w.sub sp
          refine ⟨q, rfl, .inr ⟨⟨us, sp'⟩, k _ (wj_enumT sp rp) ?_⟩⟩
          have := lo.2 q us sp'
          have := rp.len
          simp
          omega
        | lst ds =>
          cases e
          obtain ⟨q, us, rfl, sp, rp⟩ := rv
          have sp' : SqL G.K H' q us := .inl (.inl (w.sub _ _ sp))
          refine ⟨q, rfl, .inl ⟨⟨us, sp'⟩, k _ (wj_enum sp rp) ?_⟩⟩
          have := lo.1 q us sp'
          have := rp.len
          simp
          omega
        | _ => cases e
theorem si_zip (hK : X.K = G.K) {p pos tpos : Pos} {elts : List Expr} {kk : Nat} (hm : md a = .f) (hm' : md b = .f) (hg : L2.Gl X "zip") (hx : X.mg "zip" = none) (ha : PA X [ea, eb] (rdA G L (.cons a (.cons b .nil)))) (hs : starEach [ea, eb] X.env = (false, eval ea X.env) :: starEach [eb] X.env) (hs2 : starEach [eb] X.env = [(false, eval eb X.env)]) :
    PI X (.Tuple elts kk tpos) (.Call (.Name "zip" p) [ea, eb] [] pos) (rdI G L .zip (.cons a (.cons b .nil))) := (Cl.Zp.pi_mix hg hx ha.lens hs (by rw [hs2]; rfl)).imp fun σ H Rk h => by
  refine rdI_row (fun m hmm => ?_) (fun d xs e => ?_) h fun R S' H' n ds vs xs w r e k => ?_
  · simp only [mds, List.mem_cons, List.not_mem_nil, or_false] at hmm
    rcases hmm with h | h <;> rw [h] <;> assumption
  · cases d with
    | tup ds => exact ⟨ds, rfl⟩
    | _ => cases e
  · intro lo
    rw [hK] at lo ⊢
    cases ds with
    | nil => cases e
    | cons d ds =>
      cases ds with
      | nil => cases d <;> cases e
      | cons d2 ds =>
        cases ds with
        | cons _ _ => cases d <;> cases d2 <;> cases e
        | nil =>
          obtain ⟨v, u, rfl, rv, v2, u2, rfl, rv2, ru⟩ := r
          cases ru
          cases d with
          | tup ds =>
            cases d2 with
            | tup es =>
              cases e
              obtain ⟨q, us, rfl, sp, rp⟩ := rv
              obtain ⟨q2, us2, rfl, sp2, rp2⟩ := rv2
              have sp' := SqT.same w.sub sp
              refine ⟨q, q2, us, us2, rfl, .inr (.inl ⟨sp', SqT.same w.sub sp2, k _ (wj_zipT sp rp sp2 rp2) ?_⟩)⟩
              have := lo.2 q us sp'
              have := rp.len
              simp
              omega
            | lst es =>
              cases e
              obtain ⟨q, us, rfl, sp, rp⟩ := rv
              obtain ⟨q2, us2, rfl, sp2, rp2⟩ := rv2
              have sp' := SqT.same w.sub sp
              refine ⟨q, q2, us, us2, rfl, .inr (.inr ⟨sp', .inl (.inl (w.sub _ _ sp2)), k _ (wj_zipM sp rp sp2 rp2) ?_⟩)⟩
              have := lo.2 q us sp'
              have := rp.len
              simp
              omega
            | _ => cases e
          | lst ds =>
            cases d2 with
            | lst es =>
              cases e
              obtain ⟨q, us, rfl, sp, rp⟩ := rv
              obtain ⟨q2, us2, rfl, sp2, rp2⟩ := rv2
              have sp' : SqL G.K H' q us := .inl (.inl (w.sub _ _ sp))
              refine ⟨q, q2, us, us2, rfl, .inl ⟨sp', .inl (.inl (w.sub _ _ sp2)), k _ (wj_zip sp rp sp2 rp2) ?_⟩⟩
              have := lo.1 q us sp'
              have := rp.len
              simp
              omega
            | _ => cases e
          | _ => cases d2 <;> cases e
end
end Cl
set_option autoImplicit false
set_option Elab.async false
set_option linter.all false
set_option maxRecDepth 100000
set_option maxHeartbeats 4000000
/-! Names: stores by values. -/
namespace Cl
open PySem PySem.Spec PyProof.Rows L2
theorem putAt_len : ∀ (ρ : Env) (i : Nat) (v : Option (D × Bool)), (putAt ρ i v).length = ρ.length
  | [], _, _ => rfl
  | _ :: _, 0, _ => rfl
  | _ :: r, i + 1, v => by simp [putAt, putAt_len r i v]
theorem at_put_ne : ∀ {ρ : Env} {i j : Nat} {v : Option (D × Bool)}, i ≠ j → (putAt ρ i v).at j = ρ.at j
  | [], _, _, _, _ => rfl
  | _ :: _, 0, 0, _, h => absurd rfl h
  | _ :: _, 0, j + 1, _, _ => rfl
  | _ :: _, i + 1, 0, _, _ => rfl
  | _ :: r, i + 1, j + 1, v, h => at_put_ne (ρ := r) (i := i) (j := j) (v := v) (by omega)
theorem at_put_same : ∀ {ρ : Env} {i : Nat} {v p : Option (D × Bool)}, (putAt ρ i v).at i = p → p = none ∨ (p = v ∧ i < ρ.length)
  | [], _, _, _, h => .inl (by rw [← h]; rfl)
  | _ :: _, 0, v, p, h => .inr ⟨h.symm, by simp⟩
  | _ :: r, i + 1, v, p, h => by
    rcases at_put_same (ρ := r) (i := i) (v := v) (p := p) h with z | ⟨z, l⟩
    · exact .inl z
    · exact .inr ⟨z, by simp only [List.length_cons]; omega⟩
theorem wipe_len (ρ : Env) : ∀ is : List Nat, (wipe ρ is).length = ρ.length
  | [] => rfl
  | i :: is => by rw [wipe, putAt_len, wipe_len ρ is]
theorem at_wipe {ρ : Env} {j : Nat} {p : D × Bool} : ∀ {is : List Nat}, (wipe ρ is).at j = some p → ρ.at j = some p ∧ j ∉ is
  | [], h => ⟨h, by simp⟩
  | i :: is, h => by
    by_cases e : i = j
    · subst e
      rcases at_put_same h with z | ⟨z, _⟩ <;> cases z
    · rw [wipe, at_put_ne e] at h
      obtain ⟨a, b⟩ := at_wipe (is := is) h
      exact ⟨a, by simp only [List.mem_cons, not_or]; exact ⟨fun z => e z.symm, b⟩⟩
section
variable {G : Gl0} {R : Rp} {H0 S H : Hp} {ρ ρ' : Env} {σ σ' : L2.St}
/-- less is known -/
theorem Ev.sub (h : Ev G R H0 ρ σ S H) (len : σ'.length = ρ'.length) (k : ∀ i p, ρ'.at i = some p → ρ.at i = some p ∧ σ'[i]? = σ[i]?) : Ev G R H0 ρ' σ' S H where
  len := len
  frz := fun i d e => by
    obtain ⟨a, b⟩ := k i _ e
    rw [b]
    exact h.frz i d a
  own := fun i d e => by
    obtain ⟨a, b⟩ := k i _ e
    rw [b]
    exact h.own i d a
  dst := fun i j d e a hi hj h1 h2 => by
    obtain ⟨a1, b1⟩ := k i _ hi
    obtain ⟨a2, b2⟩ := k j _ hj
    rw [b1] at h1
    rw [b2] at h2
    exact h.dst i j d e a a1 a2 h1 h2
  dom := h.dom
theorem Ev.kill (h : Ev G R H0 ρ σ S H) (is : List Nat) : Ev G R H0 (wipe ρ is) σ S H :=
  h.sub (by rw [wipe_len, h.len]) fun i p e => ⟨(at_wipe e).1, rfl⟩
theorem Ev.wipe (h : Ev G R H0 ρ σ S H) (is : List Nat) : Ev G R H0 (wipe ρ is) (L2.wipe σ is) S H :=
  h.sub (by rw [wipe_len, wipe_length, h.len]) fun i p e => ⟨(at_wipe e).1, wipe_out (at_wipe e).2⟩
/-- a frozen value at a name -/
theorem Ev.put (h : Ev G R H0 ρ σ S H) {i : Nat} {d : D} {v : V} (r : Rep G.K R S d v) : Ev G R H0 (putAt ρ i (some (d, false))) (σ.set i (some v)) S H where
  len := by rw [putAt_len, List.length_set, h.len]
  frz := fun j e q => by
    by_cases z : i = j
    · subst z
      rcases at_put_same q with y | ⟨y, l⟩
      · cases y
      · cases y
        exact ⟨v, by rw [List.getElem?_set_self (by rw [h.len]; exact l)], r⟩
    · rw [at_put_ne z] at q
      rw [List.getElem?_set_ne z]
      exact h.frz j e q
  own := fun j e q => by
    by_cases z : i = j
    · subst z
      rcases at_put_same q with y | ⟨y, l⟩ <;> cases y
    · rw [at_put_ne z] at q
      rw [List.getElem?_set_ne z]
      exact h.own j e q
  dst := fun j k e f a q1 q2 h1 h2 => by
    have z : i ≠ j := fun z => by
      subst z
      rcases at_put_same q1 with y | ⟨y, _⟩ <;> cases y
    have z2 : i ≠ k := fun z => by
      subst z
      rcases at_put_same q2 with y | ⟨y, _⟩ <;> cases y
    rw [at_put_ne z] at q1
    rw [at_put_ne z2] at q2
    rw [List.getElem?_set_ne z] at h1
    rw [List.getElem?_set_ne z2] at h2
    exact h.dst j k e f a q1 q2 h1 h2
  dom := h.dom
/-- an own list at a name that no name has -/
theorem Ev.putO (h : Ev G R H0 ρ σ S H) {i : Nat} {ds : List D} {a : Addr} {vs : List V} (hs : S a = none) (hh : H a = some (.lst vs)) (hn : ¬ R.st a) (r : RepL G.K R S ds vs) (h0 : H0 a = none)
    (ap : ∀ j e, j ≠ i → ρ.at j = some (e, true) → σ[j]? ≠ some (some (.ref a))) : Ev G R H0 (putAt ρ i (some (.lst ds, true))) (σ.set i (some (.ref a))) S H where
  len := by rw [putAt_len, List.length_set, h.len]
  frz := fun j e q => by
    by_cases z : i = j
    · subst z
      rcases at_put_same q with y | ⟨y, l⟩ <;> cases y
    · rw [at_put_ne z] at q
      rw [List.getElem?_set_ne z]
      exact h.frz j e q
  own := fun j e q => by
    by_cases z : i = j
    · subst z
      rcases at_put_same q with y | ⟨y, l⟩
      · cases y
      · cases y
        exact ⟨ds, a, vs, rfl, by rw [List.getElem?_set_self (by rw [h.len]; exact l)], hs, hh, hn, r, h0⟩
    · rw [at_put_ne z] at q
      rw [List.getElem?_set_ne z]
      exact h.own j e q
  dst := fun j k e f c q1 q2 h1 h2 => by
    by_cases z : i = j
    · by_cases z2 : i = k
      · exact z.symm.trans z2
      · subst z
        rw [at_put_ne z2] at q2
        rw [List.getElem?_set_ne z2] at h2
        rcases at_put_same q1 with y | ⟨y, l⟩
        · cases y
        · rw [List.getElem?_set_self (by rw [h.len]; exact l)] at h1
          cases h1
          exact absurd h2 (ap k f (fun w => z2 w.symm) q2)
    · rw [at_put_ne z] at q1
      rw [List.getElem?_set_ne z] at h1
      by_cases z2 : i = k
      · subst z2
        rcases at_put_same q2 with y | ⟨y, l⟩
        · cases y
        · rw [List.getElem?_set_self (by rw [h.len]; exact l)] at h2
          cases h2
          exact absurd h1 (ap j e (fun w => z w.symm) q1)
      · rw [at_put_ne z2] at q2
        rw [List.getElem?_set_ne z2] at h2
        exact h.dst j k e f c q1 q2 h1 h2
  dom := h.dom
end
/-! ### targets -/
theorem wipe_set_mem {σ : L2.St} {i : Nat} {v : Option V} : ∀ {is : List Nat}, i ∈ is → L2.wipe (σ.set i v) is = L2.wipe σ is
  | j :: is, h => by
    by_cases e : i ∈ is
    · show (L2.wipe (σ.set i v) is).set j none = (L2.wipe σ is).set j none
      rw [wipe_set_mem e]
    · have : j = i := by
        rcases List.mem_cons.mp h with z | z
        · exact z.symm
        · exact absurd z e
      subst this
      show (L2.wipe (σ.set j v) is).set j none = (L2.wipe σ is).set j none
      have : ∀ is : List Nat, j ∉ is → L2.wipe (σ.set j v) is = (L2.wipe σ is).set j v := fun is => by
        induction is with
        | nil => exact fun _ => rfl
        | cons k is ih =>
          intro hk
          simp only [List.mem_cons, not_or] at hk
          show (L2.wipe (σ.set j v) is).set k none = ((L2.wipe σ is).set k none).set j v
          rw [ih hk.2, List.set_comm _ _ hk.1]
      rw [this is e, List.set_set]
/-- behind a store -/
abbrev Stored (G : Gl0) (R : Rp) (H0 : Hp) (ρ' : Env) (σ : L2.St) (S H : Hp) (sl : List Nat) (Q : L2.St → Hp → Prop) : Prop := ∀ σ', Ev G R H0 ρ' σ' S H → (∀ vs : List Nat, (∀ i ∈ sl, i ∈ vs) → L2.wipe σ' vs = L2.wipe σ vs) → Q σ' H
def rdG (G : Gl0) (t : Tg) : TG := fun x σ H Q => ∃ R ρ H0 S b d ρ', Wd G R S H b ∧ Ev G R H0 ρ σ S H ∧ Rep G.K R S d x ∧ asg t d ρ = some ρ' ∧ Stored G R H0 ρ' σ S H t.slots Q
def rdGs (G : Gl0) (t : Tg) : TGs := fun xs σ H Q => ∃ R ρ H0 S b ds ρ', Wd G R S H b ∧ Ev G R H0 ρ σ S H ∧ RepL G.K R S ds xs ∧ (asg t (.tup ds) ρ = some ρ' ∨ asg t (.lst ds) ρ = some ρ') ∧ Stored G R H0 ρ' σ S H t.slots Q
theorem _root_.L2.PG.imp {X : Cx} {e : Expr} {t t' : TG} (h : PG X e t) (f : ∀ x σ H Q, t' x σ H Q → t x σ H Q) : PG X e t' := ⟨fun pins s σ H v u Q I r q => h.run pins s σ H v u Q I r (f v σ H Q q)⟩
theorem _root_.L2.PGs.imp {X : Cx} {e : List Expr} {t t' : TGs} (h : PGs X e t) (f : ∀ x σ H Q, t' x σ H Q → t x σ H Q) : PGs X e t' := ⟨fun pins s σ H v u Q I r q => h.run pins s σ H v u Q I r (f v σ H Q q)⟩
theorem _root_.L2.PG.or {X : Cx} {e : Expr} {t t' : TG} (h : PG X e t) (h' : PG X e t') : PG X e (fun x σ H Q => t x σ H Q ∨ t' x σ H Q) :=
  ⟨fun pins s σ H v u Q I r q => q.elim (h.run pins s σ H v u Q I r) (h'.run pins s σ H v u Q I r)⟩
section
variable {G : Gl0} {X : Cx} {e : Expr} {es : List Expr} {t u : Tg} {pos : Pos}
theorem sg_name {i : Nat} {x : Str} (hN : X.N.Nodup) (hi : X.N[i]? = some x) (hx : Loc X.env.scope x) (hf : X.fn x = true ∨ X.env.scope.names.lookup x = some .local) : PG X (.Name x pos) (rdG G (.v i)) :=
  (pg_name hN hi hx hf).imp fun x σ H Q h => by
    obtain ⟨R, ρ, H0, S, b, d, ρ', w, ev, r, ea, q⟩ := h
    cases ea
    exact q _ (ev.put r) fun vs hv => wipe_set_mem (hv i (by simp [Tg.slots]))
theorem sgs_nil : PGs X [] (rdGs G .nil) := pgs_nil.imp fun xs σ H Q h => by
  obtain ⟨R, ρ, H0, S, b, ds, ρ', w, ev, r, ea, q⟩ := h
  cases ds with
  | nil =>
    cases r
    have : ρ' = ρ := by rcases ea with z | z <;> (cases z; rfl)
    subst this
    exact ⟨rfl, q σ ev fun _ _ => rfl⟩
  | cons d ds => rcases ea with z | z <;> cases z
theorem sgs_cons (h1 : PG X e (rdG G t)) (h2 : PGs X es (rdGs G u)) (hs : (assignEach (e :: es) X.env).map (·.2) = assign e X.env :: (assignEach es X.env).map (·.2)) : PGs X (e :: es) (rdGs G (.cons t u)) := (pgs_cons h1 h2 hs).imp fun xs σ H Q h => by
  obtain ⟨R, ρ, H0, S, b, ds, ρ', w, ev, r, ea, q⟩ := h
  cases ds with
  | nil => rcases ea with z | z <;> cases z
  | cons d ds =>
    obtain ⟨v, vs, rfl, rv, rvs⟩ := r
    have key : ∃ ρ1, asg t d ρ = some ρ1 ∧ (asg u (.tup ds) ρ1 = some ρ' ∨ asg u (.lst ds) ρ1 = some ρ') := by
      rcases ea with z | z
      · simp only [asg] at z
        obtain ⟨ρ1, h1, h2⟩ := Option.bind_eq_some_iff.mp z
        exact ⟨ρ1, h1, .inl h2⟩
      · simp only [asg] at z
        obtain ⟨ρ1, h1, h2⟩ := Option.bind_eq_some_iff.mp z
        exact ⟨ρ1, h1, .inr h2⟩
    obtain ⟨ρ1, k1, k2⟩ := key
    refine ⟨v, vs, rfl, R, ρ, H0, S, b, d, ρ1, w, ev, rv, k1, fun σ1 ev1 w1 => ?_⟩
    refine ⟨R, ρ1, H0, S, b, ds, ρ', w, ev1, rvs, k2, fun σ2 ev2 w2 => ?_⟩
    refine q σ2 ev2 fun is his => ?_
    rw [w2 is fun i hi => his i (List.mem_append_right _ hi), w1 is fun i hi => his i (List.mem_append_left _ hi)]
/-- (a, b, ..): a tuple or a list is taken apart -/
theorem sg_tup (hK : X.K = G.K) {k : Nat} (hc : X.calm = true) (h : PGs X es (rdGs G t)) (hn : ∀ d ρ ρ', asg t d ρ = some ρ' → ∃ ds, (d = .tup ds ∨ d = .lst ds) ∧ ds.length = (assignEach es X.env).length)
    (hst : (assignEach es X.env).findIdx? (·.1) = none) : PG X (.Tuple es k pos) (rdG G t) :=
  ((pg_tup hc h rfl hst).or (pg_unl hc h rfl hst)).imp fun x σ H Q h => by
    obtain ⟨R, ρ, H0, S, b, d, ρ', w, ev, r, ea, q⟩ := h
    obtain ⟨ds, hd, hl⟩ := hn d ρ ρ' ea
    rw [hK]
    rcases hd with rfl | rfl
    · obtain ⟨p, vs, rfl, sp, rp⟩ := r
      exact .inl ⟨p, vs, rfl, SqT.same w.sub sp, rp.len.trans hl, R, ρ, H0, S, b, ds, ρ', w, ev, rp, .inl ea, q⟩
    · obtain ⟨p, vs, rfl, sp, rp⟩ := r
      exact .inr ⟨p, vs, rfl, .inl (.inl (w.sub _ _ sp)), rp.len.trans hl, R, ρ, H0, S, b, ds, ρ', w, ev, rp, .inr ea, q⟩
end
end Cl
set_option autoImplicit false
set_option Elab.async false
set_option linter.all false
set_option maxRecDepth 100000
set_option maxHeartbeats 4000000
/-! List comprehensions by values. -/
namespace Cl
open PySem PySem.Spec PyProof.Rows L2
/-- nothing is wished of errors -/
def Lv.nox (L : Lv) : Lv := { L with W := fun _ _ _ _ => False }
abbrev turn1 (L : Lv) (own : List Nat) (t : Tg) (c elt : E) (ρ : Env) : D → M (Option D) := fun x => match asg t x (wipe ρ own) with
  | some env1 => M.nox ((evE L.F L.tm c env1).bind fun b => match b with
    | .bl true => (evE L.F L.tm elt env1).bind fun y => .ok (some y)
    | .bl false => .ok none
    | _ => .stuck)
  | none => .stuck
section
variable {G : Gl0} {L : Lv}
theorem rd_con_true : ∀ {σ : L2.St} {H : Hp} {Q : Bool → Hp → Prop}, rdT G L (.con (.bl true)) σ H Q → Q true H := fun h => by
  obtain ⟨R, ρ, H0, S, b, hh, hb, hp⟩ := h
  obtain ⟨c, e, q⟩ := hp
  cases e
  exact q S _ b (Behind.refl hh.wd)
/-- tables stay where another object changes -/
theorem tabs_put {T C : List (Addr × Str)} {H : Hp} {p : Addr} {o : HO} (h : Tabs2 T C H) (n : ∀ ps, H p ≠ some (.tbl ps)) (n2 : ∀ f, H p ≠ some (.ext f)) : Tabs2 T C (upd H p o) := by
  refine ⟨fun q hq => ?_, fun q hq => by rw [upd_ne (fun z => n2 _ (by rw [← z]; exact h.c q hq))]; exact h.c q hq⟩
  obtain ⟨ps, h1, h2, h3⟩ := h.t q hq
  refine ⟨ps, ?_, h2, fun pos cv hc => ?_⟩
  · rw [upd_ne (fun z => n ps (by rw [← z]; exact h1))]
    exact h1
  · obtain ⟨c, e1, e2⟩ := h3 pos cv hc
    refine ⟨c, e1, ?_⟩
    rw [upd_ne (fun z => n2 _ (by rw [← z]; exact e2))]
    exact e2
/-- where a comprehension's turns stand: from (S1, H1) on, the list at Dl -/
structure CSt (G : Gl0) (R : Rp) (S1 H1 : Hp) (Dl : Addr) (S H : Hp) (b : Nat) (ys : List D) : Prop where
  gr : Gr R S1 H1 S H
  wd : Wd G R S H b
  dl : ∃ vs, H Dl = some (.lst vs) ∧ RepL G.K R S ys vs
  sn : S Dl = none
  nst : ¬ R.st Dl
theorem CSt.step {R : Rp} {S1 H1 S H S' H' : Hp} {b b' : Nat} {Dl : Addr} {ys : List D} (c : CSt G R S1 H1 Dl S H b ys) (g : Gr R S H S' H') (w : Wd G R S' H' b') : CSt G R S1 H1 Dl S' H' b' ys := by
  obtain ⟨vs, d1, d2⟩ := c.dl
  exact ⟨c.gr.trans g, w, ⟨vs, g.hh Dl _ d1 c.nst (fun _ z => by cases z), RepL.same g.ss _ _ d2⟩, (g.fr Dl _ d1).trans c.sn, c.nst⟩
theorem CSt.app {R : Rp} {S1 H1 S' H' : Hp} {b' : Nat} {Dl : Addr} {ys : List D} (c : CSt G R S1 H1 Dl S' H' b' ys) (hn : H1 Dl = none) {d : D} {v : V} (r : Rep G.K R S' d v) :
    ∃ acc, H' Dl = some (.lst acc) ∧ acc.length = ys.length ∧ CSt G R S1 H1 Dl S' (upd H' Dl (.lst (acc ++ [v]))) b' (ys ++ [d]) := by
  obtain ⟨vs, h1', r2⟩ := c.dl
  have w := c.wd
  have G2 := c.gr
  have ne : ∀ {a o}, H1 a = some o → a ≠ Dl := fun e z => by rw [z, hn] at e; cases e
  refine ⟨vs, h1', r2.len, ⟨G2.ss, fun a o e s t => by rw [upd_ne (ne e)]; exact G2.hh a o e s t, G2.fr, fun a o e => by rw [upd_ne (ne e)]; exact G2.dom a o e⟩, ⟨fun a o e => ?_, w.nst, w.ntb, ?_, ?_⟩, ⟨_, upd_same, RepL.app r2 ⟨v, [], rfl, r, rfl⟩⟩, c.sn, c.nst⟩
  · have : a ≠ Dl := fun z => by rw [z, c.sn] at e; cases e
    rw [upd_ne this]
    exact w.sub a o e
  · refine ⟨fun on => ?_, w.st.ne⟩
    obtain ⟨z, s1, s2, s3, rr⟩ := w.st.ex on
    have q1 : R.sp.1 ≠ Dl := fun z => c.nst ⟨on, .inl z.symm⟩
    have q2 : R.sc ≠ Dl := fun z => c.nst ⟨on, .inr (.inl z.symm)⟩
    have q3 : R.sl ≠ Dl := fun z => c.nst ⟨on, .inr (.inr z.symm)⟩
    exact ⟨z, by rw [upd_ne q1]; exact s1, by rw [upd_ne q2]; exact s2, by rw [upd_ne q3]; exact s3, rr⟩
  · exact tabs_put w.tb (fun ps z => by rw [h1'] at z; cases z) (fun ps z => by rw [h1'] at z; cases z)
theorem wipe_wipe : ∀ (is : List Nat) (σ : L2.St), L2.wipe (L2.wipe σ is) is = L2.wipe σ is := fun is => by
  induction is with
  | nil => exact fun _ => rfl
  | cons j is ih =>
    intro σ
    show (L2.wipe ((L2.wipe σ is).set j none) is).set j none = (L2.wipe σ is).set j none
    by_cases e : j ∈ is
    · rw [wipe_set_mem e, ih]
    · have key : ∀ (js : List Nat) (τ : L2.St), L2.wipe (τ.set j none) js = (L2.wipe τ js).set j none := fun js => by
        induction js with
        | nil => exact fun _ => rfl
        | cons k js ihj =>
          intro τ
          show (L2.wipe (τ.set j none) js).set k none = ((L2.wipe τ js).set k none).set j none
          rw [ihj]
          by_cases z : j = k
          · rw [z]
          · rw [List.set_comm _ _ z]
      rw [key, ih, List.set_set]
theorem drop_cons {α : Type} {xs : List α} {i : Nat} {x : α} (h : xs[i]? = some x) : xs.drop i = x :: xs.drop (i + 1) := by
  obtain ⟨hl, e⟩ := List.getElem?_eq_some_iff.mp h
  rw [List.drop_eq_getElem_cons hl, e]
theorem rd_comp {own : List Nat} {w : Wk} {it : E} {t : Tg} {c elt : E} {σ : L2.St} {H : Hp} {Q : VK} {tt : TT} (hms : md elt = .f) (ht : ∀ i ∈ t.slots, i ∈ own) (htt : ∀ σ H Q, rdT G L.nox c σ H Q → tt σ H Q)
    (h : rdE G L (.comp own w it t c elt) σ H Q) : tLc (rdI G L w it) (rdG G t) tt (rdE G L.nox elt) own σ H Q := by
  obtain ⟨R, ρ, H0, S0, b0, hh, hb, hp⟩ := h
  have hw : wgt L.k L.kh L.t (.comp own w it t c elt) = wgt L.k L.kh L.t it + LIM * (wgt L.k L.kh L.t c + wgt L.k L.kh L.t elt) := rfl
  rw [hw] at hb hp
  generalize hkw : wgt L.k L.kh L.t c + wgt L.k L.kh L.t elt = kw at hb hp
  refine ⟨R, ρ, H0, S0, b0, hh, by omega, ?_⟩
  have hev : evE L.F L.tm (.comp own w it t c elt) ρ = ((evE L.F L.tm it ρ).bind (walkV w)).bind fun xs => (compL (turn1 L own t c elt ρ) xs).bind fun ys => .ok (.lst ys) := by
    rw [bind_assoc]
    rfl
  rw [hev] at hp
  refine wp_mono (fun xs hx J S1 H1 b1 q1 wj lx => ?_) (fun cc d hc dx S' H' b' q => hc dx S' H' b' (q.more (by omega))) (wp_bind hp)
  have ev1 := hh.ev.step q1.gr
  intro Dl hD
  have b1le : b1 ≤ b0 + wgt L.k L.kh L.t it := q1.le
  let fin : List D → Prop := fun ys => ∀ v S' H' b', Behind G R S0 H b0 (wgt L.k L.kh L.t it + LIM * kw) S' H' b' → VR G R H S' H' .o (.lst ys) v → Q v H'
  refine ⟨fun i m H => m = xs.length - i ∧ i ≤ xs.length ∧ ∃ S b ys, CSt G R S1 H1 Dl S H b ys ∧ b ≤ b1 + i * kw ∧ ys.length ≤ i ∧ wp (compL (turn1 L own t c elt ρ) (xs.drop i)) (fun zs => fin (ys ++ zs)) (fun _ _ => True), ⟨xs.length, by simp, Nat.zero_le _, S1, b1, [], ?_, by simp, Nat.le_refl _, ?_⟩, ?_⟩
  · have S1n : S1 Dl = none := by
      cases e : S1 Dl with
      | none => rfl
      | some u =>
        have := q1.wd.sub _ _ e
        rw [hD] at this
        cases this
    exact ⟨gr_upd hD, q1.wd.new hD, ⟨[], upd_same, rfl⟩, S1n, q1.wd.nstOf hD⟩
  · simp only [List.drop_zero, List.nil_append]
    exact wp_mono (fun zs z => z) (fun _ _ _ => trivial) (wp_bind hx)
  rintro i m H2 ⟨rfl, hi, S, b, ys, cs, cle, cyl, hwp⟩
  have wjs := wj S H2 b i cs.gr.ss cs.wd
  cases hx : xs[i]? with
  | none =>
    left
    refine ⟨wjs.2 hx, ?_⟩
    have : xs.drop i = [] := List.drop_eq_nil_of_le (List.getElem?_eq_none_iff.mp hx)
    rw [this] at hwp
    have q : fin (ys ++ []) := hwp
    rw [List.append_nil] at q
    obtain ⟨vs, d1, d2⟩ := cs.dl
    refine q (.ref Dl) S H2 b ⟨q1.gr.trans cs.gr, cs.wd, ?_⟩ (.inr ⟨ys, Dl, vs, rfl, rfl, cs.sn, d1, cs.nst, d2, ?_⟩)
    · have : i * kw ≤ LIM * kw := Nat.mul_le_mul_right _ (by omega)
      omega
    · exact fresh_of q1.gr.dom hD
  | some x =>
    right
    obtain ⟨go, yl⟩ := wjs.1 x hx
    have il : i < xs.length := (List.getElem?_eq_some_iff.mp hx).1
    have hmul : (i + 1) * kw = i * kw + kw := by rw [Nat.add_mul, Nat.one_mul]
    have hmul2 : (i + 1) * kw ≤ LIM * kw := Nat.mul_le_mul_right _ (by omega)
    rw [drop_cons hx] at hwp
    refine ⟨go, fun H' => ∃ S' b' ys', CSt G R S1 H1 Dl S' H' b' ys' ∧ b' ≤ b1 + (i + 1) * kw ∧ ys'.length ≤ i + 1 ∧ wp (compL (turn1 L own t c elt ρ) (xs.drop (i + 1))) (fun zs => fin (ys' ++ zs)) (fun _ _ => True), fun H' z => ⟨xs.length - (i + 1), by omega, rfl, il, z⟩, fun v H3 yv => ?_⟩
    obtain ⟨S3, g3, w3, r3⟩ := yl v H3 yv
    have hwp2 := wp_bind hwp
    cases ea : asg t x (wipe ρ own) with
    | none => simp only [turn1, ea] at hwp2; exact hwp2.elim
    | some env1 =>
      simp only [turn1, ea] at hwp2
      refine ⟨R, wipe ρ own, H0, S3, b, x, env1, w3, (((ev1.step cs.gr).step g3).wipe own), r3, ea, fun σ2 ev2 hwipe => ⟨?_, ?_⟩⟩
      · rw [hwipe own ht, wipe_wipe]
      · refine htt _ _ _ ⟨R, env1, H0, S3, b, ⟨hh.fA, hh.th, hh.ex, w3, ev2⟩, by show b + wgt L.k L.kh L.t c ≤ BIG; omega, ?_⟩
        refine wp_mono (fun k hk => ?_) (fun cc d z => z.elim) (wp_bind (wp_nox (E' := fun _ _ => False) hwp2))
        cases k with
        | bl kb =>
          refine ⟨kb, rfl, fun S4 H4 b4 q4 => ?_⟩
          have le4 : b4 ≤ b + wgt L.k L.kh L.t c := q4.le
          cases kb with
          | false =>
            show ∃ S' b' ys', _ ∧ _
            have hk' : wp (compL (turn1 L own t c elt ρ) (xs.drop (i + 1))) (fun zs => fin (ys ++ zs)) (fun _ _ => True) := by
              have z : wp (M.bind (compL (turn1 L own t c elt ρ) (xs.drop (i + 1))) fun zs => M.ok zs) (fun zs => fin (ys ++ zs)) (fun _ _ => True) := hk
              exact wp_bind z
            exact ⟨S4, b4, ys, cs.step (g3.trans q4.gr) q4.wd, by omega, by omega, hk'⟩
          | true =>
            show rdE G L.nox elt σ2 H4 _
            refine ⟨R, env1, H0, S4, b4, ⟨hh.fA, hh.th, hh.ex, q4.wd, ev2.step q4.gr⟩, by show b4 + wgt L.k L.kh L.t elt ≤ BIG; omega, ?_⟩
            have hk2 : wp ((evE L.F L.tm elt env1).bind fun y => M.ok (some y)) _ _ := hk
            refine wp_mono (fun y hy v5 S5 H5 b5 q5 r5 => ?_) (fun cc d z => z.elim) (wp_bind hk2)
            have le5 : b5 ≤ b4 + wgt L.k L.kh L.t elt := q5.le
            have hy' : wp (compL (turn1 L own t c elt ρ) (xs.drop (i + 1))) (fun zs => fin ((ys ++ [y]) ++ zs)) (fun _ _ => True) := by
              refine wp_mono (fun zs q => ?_) (fun _ _ _ => trivial) (wp_bind hy)
              rw [List.append_assoc]
              exact q
            rw [hms] at r5
            obtain ⟨acc, a1, a2, a3⟩ := (cs.step (g3.trans (q4.gr.trans q5.gr)) q5.wd).app hD r5
            refine ⟨acc, a1, ?_, S5, b5, ys ++ [y], a3, by omega, by simp; omega, hy'⟩
            rw [sizeLim]
            omega
        | _ => exact hk.elim
theorem se_comp {X : Cx} {own : List (Str × Nat)} {w : Wk} {it : E} {t : Tg} {c elt : E} {ee tg iter : Expr} {ifs : List Expr} {scope : Scope} {pos : Pos} {tt : TT} (hc : X.calm = true) (hN : X.N.Nodup) (ok : BlkOk X.N X.env.scope scope own)
    (hms : md elt = .f) (ht : ∀ i ∈ t.slots, i ∈ own.map (·.2)) (htt : ∀ σ H Q, rdT G L.nox c σ H Q → tt σ H Q) (hi : PI X tg iter (rdI G L w it)) (hf : ∀ x, foldedSetIterable iter X.env x = pure x)
    (hg : ∀ (s : Shared) (H : Hp) (C : Addr) (cl : List (Str × Addr)) (fp : List Addr), PG (X.blk s H scope (compEnvC scope cl C X.env) fp) tg (rdG G t))
    (hts : ∀ (s : Shared) (H : Hp) (C : Addr) (cl : List (Str × Addr)) (fp : List Addr), PTs (X.blk s H scope (compEnvC scope cl C X.env) fp) ifs tt)
    (he : ∀ (s : Shared) (H : Hp) (C : Addr) (cl : List (Str × Addr)) (fp : List Addr), PE (X.blk s H scope (compEnvC scope cl C X.env) fp) ee (rdE G L.nox elt)) :
    PE X (.ListComp ee [⟨tg, iter, ifs, 0⟩] scope pos) (rdE G L (.comp (own.map (·.2)) w it t c elt)) :=
  (pe_lc hc hN hi ok hg hts he hf).imp fun σ H Q h => rd_comp hms ht htt h
end
end Cl
set_option autoImplicit false
set_option Elab.async false
set_option linter.all false
set_option maxRecDepth 100000
set_option maxHeartbeats 4000000
/-! Calls of the text's defs. -/
namespace Cl
open PySem PySem.Spec PyProof.Rows L2
/-- what a def keeps, in a stack without guards -/
structure FnG (P : Program) (w : World) (K : PySem.W.Frag) (mg : Str → Option Value) (base : Heap) (k : Nat) (f : Addr) (fd : FuncData) (ps : List Str) (sp : Sp) : Prop where
  run : ∀ (A : Around) (outer : List PySem.Env) (s : Shared) (H : Hp) (args : Args) (us : List Value) (vs : List V) (Q : VK) (Ef : XK), A.guards = some [] → Room k A → Env0 P w K mg base A outer s H → BindsTo s fd args (ps.zip us) → Vals vs us → vs.length = ps.length → sp vs H Q Ef →
    codeAny (model P w) A (.call (.ref f) args) (CR (L2.CX P w) outer P w H s Q Ef) s
theorem FnG.mono {P : Program} {w : World} {K : PySem.W.Frag} {mg : Str → Option Value} {base : Heap} {j k : Nat} {f : Addr} {fd : FuncData} {ps : List Str} {sp : Sp} (F : FnG P w K mg base j f fd ps sp) (h : j ≤ k) : FnG P w K mg base k f fd ps sp :=
  ⟨fun A outer s H args us vs Q Ef hg hr => F.run A outer s H args us vs Q Ef hg (hr.mono h)⟩
/-- a def by its body -/
theorem fnG_of {P : Program} {w : World} {K : PySem.W.Frag} {mg : Str → Option Value} {base : Heap} {k : Nat} {f : Addr} {name qual : Str} {params : Arguments} {body : List Stmt} {scope : Scope} {dV kV doc pm cdv ct oc : Value} {an od : Option Addr}
    {osl : Array (Option Value)} {N ps : List Str} {sp : Sp} (lk : K.lookup f = some ⟨oc, od, .func (PySem.W.fnOf name qual params body scope dV kV doc pm an cdv ct), osl⟩) (hcd : PySem.W.codeIn K cdv qual = true) (S : FnScope N ps scope)
    (hbody : ∀ (A : Around) (outer : List PySem.Env) (s : Shared) (H : Hp) (vs : List V) (Q : VK) (Ef : XK), A.guards = some [] → Room k (A.deeper (envOfC qual scope s.heap.objs.size f cdv)) → sp vs H Q Ef →
      ∃ t, PSs (cxOf (L2.CX P w) P w K mg base N qual scope f cdv A outer s H Ef) body t ∧ t { nx := fun _ H' => Q .non H', rt := Q } (start N vs) H) :
    FnG P w K mg base (k + 1) f (PySem.W.fnOf name qual params body scope dV kV doc pm an cdv ct) ps sp := by
  constructor
  intro A outer s H args us vs Q Ef hg hr e0 hb r hl hsp
  have inK : K.In s.heap := e0.mod.kin.keeps fun x y z => (e0.bs x y z).1
  have nolim : s.heap.NoLimit := e0.mod.nolimit.keeps fun x y z => (e0.bs x y z).1
  refine codeAny_call_function hr.depth (inK _ _ lk) rfl S.co S.gen rfl (PySem.W.codeRec_of inK hcd) (hb _ _ _ _ (wpAny_newFunctionEnv_cells S.kind (fun y hy => ?_) fun env he s1 x => ?_))
  · obtain ⟨n, v⟩ := y
    exact (S.par n (List.of_mem_zip hy).1).elim .inl fun q => .inr ⟨q, PySem.W.cellsFrom_some _ _ _ (.inl q)⟩
  · subst he
    refine ⟨nolim.keeps x.toInCall.keep, codeAny_func ?_⟩
    obtain ⟨t, ht, hq⟩ := hbody A outer s H vs Q Ef hg (hr.deeper _) hsp
    refine wpAny_mono (ht.run [] s1 (start N vs) H _ (inv_start S hr.hd e0 hl r x) hq) (fun fl s2 hs => ?_) fun _ _ hs => hs
    cases fl with
    | next =>
      obtain ⟨σ2, H2, J, q⟩ := hs
      exact ⟨V.non, H2, J.os, J.bare, J.base, J.hok, rfl, q⟩
    | ret u =>
      obtain ⟨v, σ2, H2, J, rv, q⟩ := hs
      exact ⟨v, H2, J.os, J.bare, J.base, J.hok, rv, q⟩
    | brk =>
      obtain ⟨_, _, _, q⟩ := hs
      exact q.elim
    | cont =>
      obtain ⟨_, _, _, q⟩ := hs
      exact q.elim
section
variable {X : Cx} {k : Nat} {f : Addr} {fd : FuncData} {ps : List Str} {sp : Sp} {Ef : XK} {W : WX}
theorem run_G {pins : List (Addr × Obj)} {σ : L2.St} {H : Hp} {s : Shared} {Q : VK} {args : Args} {us : List Value} {vs : List V} (F : FnG X.prog X.w X.K X.mg X.base k f fd ps sp) (hgd : X.A.guards = some []) (hr : Room k X.A) (tk : Takes X W) (hW : ∀ cls d H', Ef cls d H' → W cls d σ H')
    (I : Inv X pins σ H s) (hb : BindsTo s fd args (ps.zip us)) (r : Vals vs us) (hl : vs.length = ps.length) (h : sp vs H Q Ef) : codeAny (model X.prog X.w) X.A (.call (.ref f) args) (fun r s' => match r with | .ok (.ret v) => EP X pins σ Q v s' | .ok _ => False | .error e => X.xe e s') s := by
  refine codeAny_mono (F.run X.A X.stack s H args us vs Q Ef hgd hr I.env0 hb r hl h) fun r s2 hq => ?_
  cases r with
  | error e => exact tk _ _ (XE.of_call I hW hq)
  | ok fl =>
    cases fl with
    | ret u => exact I.after hq
    | next => exact False.elim hq
    | brk => exact False.elim hq
    | cont => exact False.elim hq
end
/-- a clean function's promise -/
def spF (G : Gl0) (n f np kw : Nat) : Sp := fun vs H Q Ef => vs.length = np ∧ ∃ R S b ds, R.fA = G.fA ∧ Wd G R S H b ∧ RepL G.K R S ds vs ∧ b + kw ≤ BIG ∧
  wp (run G.T n f .stuck ds) (fun d => ∀ v S' H' b', Behind G R S H b kw S' H' b' → Rep G.K R S' d v → Q v H') (fun c d => ∀ dx S' H' b', Behind G R S H b kw S' H' b' → ExcAt G R S' H' c d dx → Ef (.ref (G.cA c)) dx H')
/-- a call by names binds so -/
def KBd (fd : FuncData) (ps : List Str) (n : Nat) (ks : List Str) (perm : List Nat) : Prop := ∀ us ws zs : List Value, us.length = n → ws.length = ks.length → pick (us ++ ws) perm = some zs → bindArgs fd ⟨us, ks.zip ws⟩ = pure (ps.zip zs)
/-- one function's facts -/
structure Fn1 (P : Program) (w : World) (K : PySem.W.Frag) (mg : Str → Option Value) (base : Heap) (G : Gl0) (n kw k f : Nat) (F : Fn) : Prop where
  ex : ∃ (fd : FuncData) (ps : List Str), FnG P w K mg base k (G.fA f) fd ps (spF G n f F.np kw) ∧ ps.length = F.np ∧ L2.Binds K fd ps [] ∧ ∀ q ∈ G.kl, q.1 = f → KBd fd ps q.2.1 q.2.2.1 q.2.2.2
  kp : PySem.W.keepIn K (.ref (G.fA f)) = true
/-- all of a level -/
def Fns (P : Program) (w : World) (K : PySem.W.Frag) (mg : Str → Option Value) (base : Heap) (G : Gl0) (n kw k : Nat) : Prop := ∀ f F, G.T f = some F → Fn1 P w K mg base G n kw k f F
section
variable {G : Gl0} {L : Lv} {X : Cx} {a : E} {e : Expr} {es : List Expr} {pos p : Pos} {x : Str} {n f : Nat}
/-- the context's side of calls -/
structure CallOk (G : Gl0) (L : Lv) (X : Cx) (n : Nat) : Prop where
  hF : L.F = run G.T n
  fr : ∃ k, Fns X.prog X.w X.K X.mg X.base G n L.k k ∧ Room k X.A
  gd : X.A.guards = some []
  tk : Takes X L.W
theorem run_np {T : Tab} {n f : Nat} {th : M D} {ds : List D} {Q : D → Prop} {Ef : Nat → D → Prop} (h : wp (run T n f th ds) Q Ef) : ∃ F, T f = some F ∧ ds.length = F.np := by
  cases n with
  | zero => exact h.elim
  | succ n =>
    rw [run] at h
    cases e : T f with
    | none => rw [e] at h; exact h.elim
    | some F =>
      rw [e] at h
      simp only at h
      split at h
      · exact ⟨F, rfl, by assumption⟩
      · exact h.elim
/-- the arguments, then the function -/
theorem rd_call {σ : L2.St} {H : Hp} {Q : VK} (hm : ∀ m ∈ mds a, m = .f) (hF : L.F = run G.T n) (h : rdE G L (.call f a) σ H Q) :
    rdA G L a σ H fun vs H1 => ∃ F, G.T f = some F ∧ vs.length = F.np ∧ spF G n f F.np L.k vs H1 Q (fun cls dx H' => L.W cls dx σ H') := by
  obtain ⟨R, ρ, H0, S, b, hh, hb, hp⟩ := h
  simp only [wgt] at hb hp
  refine ⟨R, ρ, H0, S, b, hh, by omega, ?_⟩
  simp only [evE] at hp
  refine wp_mono (fun d hd => ?_) (fun c d hc dx S' H' b' q => hc dx S' H' b' (q.more (by omega))) (wp_bind hp)
  cases d with
  | tup ds =>
    refine ⟨ds, rfl, fun vs S1 H1 b1 q1 r1 => ?_⟩
    simp only at hd
    rw [hF] at hd
    obtain ⟨F, hT, hl⟩ := run_np hd
    have rl := r1.frozen hm
    have le1 := q1.le
    refine ⟨F, hT, rl.len.trans hl, rl.len.trans hl, R, S1, b1, ds, hh.fA, q1.wd, rl, by omega, ?_⟩
    refine wp_mono (fun d hd2 v S' H' b' q2 r2 => hd2 v S' H' b' (q1.trans q2) r2) (fun c d hc dx S' H' b' q2 hx => hc dx S' H' b' (q1.trans q2) hx) hd
  | _ => exact hd.elim
theorem se_call (C : CallOk G L X n) (hg : L2.Gl X x) (hm : X.mg x = some (.ref (G.fA f))) (hdb : (x == ("__debug__" : Str)) = false) (ha : PA X (e :: es) (rdA G L a)) (hmd : ∀ m ∈ mds a, m = .f) (he : starEach (e :: es) X.env = (false, eval e X.env) :: starEach es X.env) (hpl : (backTo pos (starEach es X.env)).any (·.1) = false)
    (hF : ∃ F, G.T f = some F) : PE X (.Call (.Name x p) (e :: es) [] pos) (rdE G L (.call f a)) := by
  constructor
  intro pins s σ H Q I h
  obtain ⟨F0, hF0⟩ := hF
  obtain ⟨kf, fns, room⟩ := C.fr
  refine wpAny_Call_Name_kw (ld_glob I hg hm ?_ hdb)
  refine PySem.W.callWith_K (h₀ := X.base) I.ok.mod.kin (fns f F0 hF0).kp (thn (ha.run pos pins s σ H _ I (rd_call hmd C.hF h)) fun us s1 ⟨vs, H1, I1, r, F, hT, hl, q⟩ => ⟨I1.kIn, ?_⟩) he hpl
  obtain ⟨fd, ps, FG, hps, hb, _⟩ := (fns f F hT).ex
  have hus : (us ++ ([] : List Value)).length = ps.length := by rw [List.append_nil, ← r.length, hl, hps]
  have hb' := hb s1 us I1.kIn hus
  rw [List.append_nil] at hb'
  refine wpAny_call (codeAny_mono (run_G FG C.gd room C.tk (fun _ _ _ z => z) I1 hb' r (by rw [hl, hps]) q) fun r s2 hq => ?_)
  cases r with
  | error e => exact hq
  | ok fl => cases fl <;> first | exact hq | exact hq.elim
/-- no arguments -/
theorem se_call0 (C : CallOk G L X n) (hg : L2.Gl X x) (hm : X.mg x = some (.ref (G.fA f))) (hdb : (x == ("__debug__" : Str)) = false) (hF : ∃ F, G.T f = some F) : PE X (.Call (.Name x p) [] [] pos) (rdE G L (.call f .nil)) := by
  constructor
  intro pins s σ H Q I h
  obtain ⟨F0, hF0⟩ := hF
  obtain ⟨kf, fns, room⟩ := C.fr
  refine wpAny_Call_Name_kw (ld_glob I hg hm ?_ hdb)
  refine PySem.W.callWith_K0 I.kIn (fns f F0 hF0).kp ?_
  have h2 := rd_call (a := .nil) (fun m hm => by cases hm) C.hF h
  obtain ⟨R, ρ, H0, S, b, hh, hb, hp⟩ := h2
  obtain ⟨ds, e1, q⟩ := hp
  cases e1
  obtain ⟨F, hT, hl, q⟩ := q [] S H b (Behind.refl hh.wd) .nil
  obtain ⟨fd, ps, FG, hps, hb, _⟩ := (fns f F hT).ex
  have hus : (([] : List Value) ++ ([] : List Value)).length = ps.length := by rw [hps, ← hl]; rfl
  refine wpAny_call (codeAny_mono (run_G (us := []) FG C.gd room C.tk (fun _ _ _ z => z) I (hb s [] I.kIn hus) .nil (by rw [hl, hps]) q) fun r s2 hq => ?_)
  cases r with
  | error e => exact hq
  | ok fl => cases fl <;> first | exact hq | exact hq.elim
/-- a local name that holds a function -/
theorem se_callv {i : Nat} (C : CallOk G L X n) (hN : X.N[i]? = some x) (hv : Vis X.env.scope x) (hdb : (x == ("__debug__" : Str)) = false) (hcd : (x == ("__classdict__" : Str)) = false) (ha : PA X (e :: es) (rdA G L a)) (hmd : ∀ m ∈ mds a, m = .f) (he : starEach (e :: es) X.env = (false, eval e X.env) :: starEach es X.env)
    (hpl : (backTo pos (starEach es X.env)).any (·.1) = false) (hkp : ∀ f, PySem.W.keepIn X.K (.ref (G.fA f)) = true) : PE X (.Call (.Name x p) (e :: es) [] pos) (rdE G L (.callv i a)) := by
  constructor
  intro pins s σ H Q I h
  obtain ⟨kf, fns, room⟩ := C.fr
  obtain ⟨R, ρ, H0, S, b, hh, hb, hp⟩ := h
  have hp' := hp
  simp only [evE] at hp'
  cases ev : ρ.at i with
  | none => rw [ev] at hp'; exact hp'.elim
  | some q =>
    obtain ⟨d, o⟩ := q
    rw [ev] at hp'
    cases d with
    | fn f =>
      cases o with
      | true => exact hp'.elim
      | false =>
        obtain ⟨v, hs, hr⟩ := hh.ev.frz i _ ev
        have ev1 : v = .ref (G.fA f) := by rw [← hh.fA]; exact hr
        subst ev1
        have h2 : rdE G L (.call f a) σ H Q := ⟨R, ρ, H0, S, b, hh, hb, by simp only [evE]; exact hp'⟩
        refine wpAny_Call_Name_kw (thn ((pe_var (pos := p) hN hv hdb hcd).run pins s σ H (fun v H1 => v = .ref (G.fA f) ∧ H1 = H) I ⟨_, hs, rfl, rfl⟩) fun u s1 ⟨v, H1, I1, r1, q1⟩ => ?_)
        obtain ⟨rfl, rfl⟩ := q1
        cases r1
        refine PySem.W.callWith_K (h₀ := X.base) I.ok.mod.kin (hkp f) (thn (ha.run pos pins s1 σ _ _ I1 (rd_call hmd C.hF h2)) fun us s2 ⟨vs, H2, I2, r, F, hT, hl, q⟩ => ⟨I2.kIn, ?_⟩) he hpl
        obtain ⟨fd, ps, FG, hps, hb, _⟩ := (fns f F hT).ex
        have hus : (us ++ ([] : List Value)).length = ps.length := by rw [List.append_nil, ← r.length, hl, hps]
        have hb' := hb s2 us I2.kIn hus
        rw [List.append_nil] at hb'
        refine wpAny_call (codeAny_mono (run_G FG C.gd room C.tk (fun _ _ _ z => z) I2 hb' r (by rw [hl, hps]) q) fun r s3 hq => ?_)
        cases r with
        | error e => exact hq
        | ok fl => cases fl <;> first | exact hq | exact hq.elim
    | _ => cases o <;> exact hp'.elim
/-! ### calls by names -/
theorem pick_vals {vs : List V} {us : List Value} (r : Vals vs us) : ∀ {perm : List Nat} {xs : List V}, pick vs perm = some xs → ∃ zs, pick us perm = some zs ∧ Vals xs zs
  | [], xs, h => by
    cases h
    exact ⟨[], rfl, .nil⟩
  | i :: is, xs, h => by
    unfold pick at h
    cases e1 : vs[i]? with
    | none => rw [e1] at h; cases h
    | some v =>
      cases e2 : pick vs is with
      | none => rw [e1, e2] at h; cases h
      | some rest =>
        rw [e1, e2] at h
        cases h
        obtain ⟨zs, z1, z2⟩ := pick_vals r e2
        obtain ⟨u, u1, u2⟩ : ∃ u, us[i]? = some u ∧ RelV v u := by
          clear e2 z1 z2
          induction r generalizing i with
          | nil => simp at e1
          | cons h _ ih =>
            cases i with
            | zero => simp at e1; subst e1; exact ⟨_, rfl, h⟩
            | succ i => exact ih i (by simpa using e1)
        exact ⟨u :: zs, by unfold pick; rw [u1, z1], .cons u2 z2⟩
theorem pick_rep {R : Rp} {S : Hp} {ds : List D} {vs : List V} (r : RepL G.K R S ds vs) : ∀ {perm : List Nat} {xs : List D}, pick ds perm = some xs → ∃ zs, pick vs perm = some zs ∧ RepL G.K R S xs zs
  | [], xs, h => by
    cases h
    exact ⟨[], rfl, rfl⟩
  | i :: is, xs, h => by
    unfold pick at h
    cases e1 : ds[i]? with
    | none => rw [e1] at h; cases h
    | some v =>
      cases e2 : pick ds is with
      | none => rw [e1, e2] at h; cases h
      | some rest =>
        rw [e1, e2] at h
        cases h
        obtain ⟨zs, z1, z2⟩ := pick_rep r e2
        obtain ⟨u, u1, u2⟩ := r.get e1
        exact ⟨u :: zs, by unfold pick; rw [u1, z1], u, zs, rfl, u2, z2⟩
abbrev LenIs (a : E) (m : Nat) : Prop := ∀ (F : Nat → M D → List D → M D) (tm : M D) (ρ : Env) (Q : D → Prop) (Ef : Nat → D → Prop), wp (evE F tm a ρ) Q Ef → wp (evE F tm a ρ) (fun d => Q d ∧ ∃ ds, d = .tup ds ∧ ds.length = m) Ef
theorem rd_callk {perm : List Nat} {k : E} {na nk : Nat} {σ : L2.St} {H : Hp} {Q : VK} (hm : ∀ m ∈ mds a, m = .f) (hmk : ∀ m ∈ mds k, m = .f) (hF : L.F = run G.T n) (hla : LenIs a na) (hlk : LenIs k nk) (h : rdE G L (.callk f perm a k) σ H Q) :
    rdA G L a σ H fun vs H1 => rdA G L k σ H1 fun ws H2 => vs.length = na ∧ ws.length = nk ∧ ∃ F us, G.T f = some F ∧ us.length = F.np ∧ pick (vs ++ ws) perm = some us ∧ spF G n f F.np L.k us H2 Q (fun cls dx H' => L.W cls dx σ H') := by
  obtain ⟨R, ρ, H0, S, b, hh, hb, hp⟩ := h
  have hwt : wgt L.k L.kh L.t (.callk f perm a k) = wgt L.k L.kh L.t a + wgt L.k L.kh L.t k + L.k := rfl
  rw [hwt] at hb hp
  simp only [evE] at hp
  refine ⟨R, ρ, H0, S, b, hh, by omega, wp_mono (fun d hd => ?_) (fun c d hc dx S' H' b' q => hc dx S' H' b' (q.more (by omega))) (hla _ _ _ _ _ (wp_bind hp))⟩
  obtain ⟨hd, ds, rfl, hl1⟩ := hd
  refine ⟨ds, rfl, fun vs S1 H1 b1 q1 r1 => ?_⟩
  have le1 := q1.le
  have rl := r1.frozen hm
  refine ⟨R, ρ, H0, S1, b1, hh.step q1, by omega, wp_mono (fun d2 hd2 => ?_) (fun c d hc dx S' H' b' q => hc dx S' H' b' ((q1.trans q).more (by omega))) (hlk _ _ _ _ _ (wp_bind hd))⟩
  obtain ⟨hd2, ds2, rfl, hl2⟩ := hd2
  refine ⟨ds2, rfl, fun ws S2 H2 b2 q2 r2 => ?_⟩
  have le2 := q2.le
  have rl2 := r2.frozen hmk
  simp only at hd2
  cases ep : pick (ds ++ ds2) perm with
  | none => rw [ep] at hd2; exact hd2.elim
  | some xs =>
    rw [ep] at hd2
    simp only at hd2
    rw [hF] at hd2
    obtain ⟨F, hT, hl⟩ := run_np hd2
    obtain ⟨us, u1, u2⟩ := pick_rep (RepL.app (RepL.same q2.gr.ss _ _ rl) rl2) ep
    refine ⟨rl.len.trans hl1, rl2.len.trans hl2, F, us, hT, u2.len.trans hl, u1, u2.len.trans hl, R, S2, b2, xs, hh.fA, q2.wd, u2, by omega, ?_⟩
    refine wp_mono (fun d hd3 v S' H' b' q3 r3 => hd3 v S' H' b' (((q1.trans q2).trans q3).more (by omega)) r3) (fun c d hc dx S' H' b' q3 hx => hc dx S' H' b' (((q1.trans q2).trans q3).more (by omega)) hx) hd2
theorem kw_all {env : PySem.Env} {pos : Pos} : ∀ {kws : List Keyword}, kws.all (·.arg.isSome) = true → (backToKw pos (keywordEach kws env)).all (·.1.isSome) = true ∧ (backToKw pos (keywordEach kws env)).any (·.1.isNone) = false ∧ (backToKw pos (keywordEach kws env)).filterMap (·.1) = kws.filterMap (·.arg) ∧ (kws.filterMap (·.arg)).length = kws.length
  | [], _ => ⟨rfl, rfl, rfl, rfl⟩
  | ⟨kn, e, kp⟩ :: kws, h => by
    simp only [List.all_cons, Bool.and_eq_true] at h
    obtain ⟨a1, a2, a3, a4⟩ := kw_all (env := env) (pos := pos) h.2
    cases kn with
    | none => cases h.1
    | some z =>
      refine ⟨?_, ?_, ?_, ?_⟩
      · show (true && (backToKw pos (keywordEach kws env)).all (·.1.isSome)) = true
        rw [a1]
        rfl
      · show (false || (backToKw pos (keywordEach kws env)).any (·.1.isNone)) = false
        rw [a2]
        rfl
      · show z :: (backToKw pos (keywordEach kws env)).filterMap (·.1) = z :: kws.filterMap (·.arg)
        rw [a3]
      · show (z :: kws.filterMap (·.arg)).length = kws.length + 1
        rw [List.length_cons, a4]
theorem se_callk {perm : List Nat} {k : E} {es : List Expr} {kws : List Keyword} (C : CallOk G L X n) (hg : L2.Gl X x) (hm : X.mg x = some (.ref (G.fA f))) (hdb : (x == ("__debug__" : Str)) = false) (ha : PA X es (rdA G L a)) (hk : PK X kws (rdA G L k)) (hmd : ∀ m ∈ mds a, m = .f) (hmk : ∀ m ∈ mds k, m = .f)
    (he : ∀ e r, es = e :: r → starEach (e :: r) X.env = (false, eval e X.env) :: starEach r X.env) (hpl : (backTo pos (starEach es X.env)).any (·.1) = false) (hall : kws.all (·.arg.isSome) = true) (hF : ∃ F, G.T f = some F) (hkl : (f, es.length, kws.filterMap (·.arg), perm) ∈ G.kl) (hla : LenIs a es.length) (hlk : LenIs k kws.length) (hnil : es = [] → a = .nil) :
    PE X (.Call (.Name x p) es kws pos) (rdE G L (.callk f perm a k)) := by
  constructor
  intro pins s σ H Q I h
  obtain ⟨F0, hF0⟩ := hF
  obtain ⟨kf, fns, room⟩ := C.fr
  obtain ⟨k1, k2, k3, k4⟩ := kw_all (env := X.env) (pos := pos) hall
  have h2 := rd_callk hmd hmk C.hF hla hlk h
  have hpl2 : ((backTo pos (starEach es X.env)).any (·.1) || (backToKw pos (keywordEach kws X.env)).any (·.1.isNone)) = false := by rw [hpl, k2]; rfl
  have fin : ∀ (us ws : List Value) (vs zs : List V) (s2 : Shared) (H2 : Hp), Inv X pins σ H2 s2 → Vals vs us → Vals zs ws → (vs.length = es.length ∧ zs.length = kws.length ∧ ∃ F us, G.T f = some F ∧ us.length = F.np ∧ pick (vs ++ zs) perm = some us ∧ spF G n f F.np L.k us H2 Q (fun cls dx H' => L.W cls dx σ H')) →
      X.K.In s2.heap ∧ wpAny (model X.prog X.w) X.A (PySem.call (.ref (G.fA f)) us (((backToKw pos (keywordEach kws X.env)).filterMap (·.1)).zip ws)) (EP X pins σ Q) X.xe s2 := fun us ws vs zs s2 H2 I2 r rz q => by
    obtain ⟨l1, l2, F, xs, hT, hl, hpk, q⟩ := q
    refine ⟨I2.kIn, ?_⟩
    rw [k3]
    obtain ⟨fd, ps, FG, hps, hb, hkb⟩ := (fns f F hT).ex
    obtain ⟨ys, y1, y2⟩ := pick_vals (r.append rz) hpk
    have hb' := hkb _ hkl rfl us ws ys (r.length.symm.trans l1) ((rz.length.symm.trans l2).trans k4.symm) y1
    refine wpAny_call (codeAny_mono (run_G FG C.gd room C.tk (fun _ _ _ z => z) I2 (.of_eq hb') y2 (by rw [hl, hps]) q) fun r s3 hq => ?_)
    cases r with
    | error e => exact hq
    | ok fl => cases fl <;> first | exact hq | exact hq.elim
  refine wpAny_Call_Name_kw (ld_glob I hg hm ?_ hdb)
  cases es with
  | nil =>
    refine PySem.W.callWith_KW0 (h₀ := X.base) I.ok.mod.kin (fns f F0 hF0).kp k1 ?_ hpl2
    cases hnil rfl
    obtain ⟨R, ρ, H0, S, b, hh, hb, hp⟩ := h2
    obtain ⟨ds, e1, q0⟩ := hp
    cases e1
    exact thn (hk.run pos pins s σ H _ I (q0 [] S H b (Behind.refl hh.wd) .nil)) fun ws s2 ⟨zs, H2, I2, rz, q⟩ => fin [] ws [] zs s2 H2 I2 .nil rz q
  | cons e r =>
    refine PySem.W.callWith_KW (h₀ := X.base) I.ok.mod.kin (fns f F0 hF0).kp k1 (thn (ha.run pos pins s σ H _ I h2) fun us s1 ⟨vs, H1, I1, r1, q1⟩ => ?_) hpl2 (he e r rfl)
    exact thn (hk.run pos pins s1 σ H1 _ I1 q1) fun ws s2 ⟨zs, H2, I2, rz, q⟩ => fin us ws vs zs s2 H2 I2 r1 rz q
/-! ### draws -/
/-- a draw below a number -/
def spDraw (G : Gl0) : Sp := fun vs H Q _ => ∃ R S b n, vs = [.ref R.sp.1, .int n] ∧ R.sp.2 = true ∧ R.fA = G.fA ∧ 0 < n ∧ n < 2 ^ 9000 ∧ Wd G R S H b ∧ b + 1 ≤ BIG ∧ ∀ v : Nat, v < n.toNat → ∀ S' H' b', Behind G R S H b 1 S' H' b' → Q (.int (v : Int)) H'
structure DrawOk (G : Gl0) (X : Cx) : Prop where
  ex : ∃ (f : Addr) (fd : FuncData) (ps : List Str), X.mg "_law_draw" = some (.ref f) ∧ PySem.W.keepIn X.K (.ref f) = true ∧ FnG X.prog X.w X.K X.mg X.base 2 f fd ps (spDraw G) ∧ ps.length = 2 ∧ L2.Binds X.K fd ps []
  room : Room 2 X.A
theorem se_draw {a b : E} {ea eb : Expr} {p pos : Pos} (Dk : DrawOk G X) (hgd : X.A.guards = some []) (tk : Takes X L.W) (hg : L2.Gl X "_law_draw") (ha : PE X ea (rdE G L a)) (hb : PE X eb (rdE G L b)) (s1 : starEach [ea, eb] X.env = (false, eval ea X.env) :: starEach [eb] X.env) (s2 : starEach [eb] X.env = (false, eval eb X.env) :: starEach [] X.env) :
    PE X (.Call (.Name "_law_draw" p) [ea, eb] [] pos) (rdE G L (.draw a b)) := by
  constructor
  intro pins s σ H Q I h
  obtain ⟨f, fd, ps, hm, hkp, FG, hps, hbd⟩ := Dk.ex
  have hwt : wgt L.k L.kh L.t (.draw a b) = wgt L.k L.kh L.t a + wgt L.k L.kh L.t b + 1 := rfl
  have h2 : rdE G L a σ H fun x H1 => rdE G L b σ H1 fun y H2 => spDraw G [x, y] H2 Q fun _ _ _ => False := by
    obtain ⟨R, ρ, H0, S, n, hh, hb, hp⟩ := h
    rw [hwt] at hb hp
    simp only [evE] at hp
    refine ⟨R, ρ, H0, S, n, hh, by omega, wp_mono (fun d hd v S1 H1 b1 q1 hv => ?_) (fun c d hc dx S' H' b' hq => hc dx S' H' b' (hq.more (by omega))) (wp_bind hp)⟩
    have le1 := q1.le
    refine ⟨R, ρ, H0, S1, b1, hh.step q1, by omega, wp_mono (fun d2 hd2 v2 S2 H2 b2 q2 hv2 => ?_) (fun c d hc dx S' H' b' hq => hc dx S' H' b' ((q1.trans hq).more (by omega))) (wp_bind hd)⟩
    have le2 := q2.le
    cases d with
    | st =>
      cases d2 with
      | int m =>
        simp only at hd2
        split at hd2
        · rename_i hz
          have e1 : v = .ref R.sp.1 ∧ R.sp.2 = true := hv.frozen (d := .st) rfl
          obtain ⟨rfl, on⟩ := e1
          cases hv2.int
          refine ⟨R, S2, b2, m, rfl, on, hh.fA, hz.1, hz.2, q2.wd, by omega, fun u hu S' H' b' q3 => ?_⟩
          exact hd2 u hu _ S' H' b' ((q1.trans q2).trans q3) rfl
        · exact hd2.elim
      | _ => exact hd2.elim
    | _ => cases d2 <;> exact hd2.elim
  refine wpAny_Call_Name_kw (ld_glob I hg hm ?_ (by decide))
  refine PySem.W.callWith_K (h₀ := X.base) I.ok.mod.kin hkp (thn ((pa_cons ha (pa_cons hb pa_nil s2) s1).run pos pins s σ H (fun vs H2 => spDraw G vs H2 Q fun _ _ _ => False) I h2) fun us s1 ⟨vs, H1, I1, r, q⟩ => ⟨I1.kIn, ?_⟩) s1 (by rw [s2]; rfl)
  have hl : vs.length = 2 := by
    obtain ⟨R, S, b, n, rfl, _⟩ := q
    rfl
  have hus : (us ++ ([] : List Value)).length = ps.length := by rw [List.append_nil, ← r.length, hl, hps]
  have hb' := hbd s1 us I1.kIn hus
  rw [List.append_nil] at hb'
  refine wpAny_call (codeAny_mono (run_G FG hgd Dk.room tk (fun _ _ _ z => z.elim) I1 hb' r (by rw [hl, hps]) q) fun r s2 hq => ?_)
  cases r with
  | error e => exact hq
  | ok fl => cases fl <;> first | exact hq | exact hq.elim
end
end Cl
set_option autoImplicit false
set_option Elab.async false
set_option linter.all false
set_option maxRecDepth 100000
set_option maxHeartbeats 4000000
/-! Statements: the readings; the plain ones. -/
namespace Cl
open PySem PySem.Spec PyProof.Rows L2
section
variable (k : Nat) (kh : Nat → Nat) (t : Nat)
def wgtS : S → Nat
  | .kill _ r | .frz _ r | .pass r => wgtS r
  | .set _ _ e r | .sets _ e r | .mset _ e r | .app _ e r | .ext _ e r | .rem _ e r | .apop _ _ e r | .expr e r => wgt k kh t e + wgtS r
  | .setix _ a b r | .ins _ a b r => wgt k kh t a + wgt k kh t b + wgtS r
  | .ite c a b r => wgt k kh t c + wgtS a + wgtS b + wgtS r
  | .for_ _ it _ b r => wgt k kh t it + LIM * wgtS b + wgtS r
  | .whl c b r => LIM * (wgt k kh t c + wgtS b) + wgtS r
  | .ret e => wgt k kh t e
  | .raise _ e => wgt k kh t e
  | .try_ b h r => wgtS b + wgtS h + wgtS r
  | .hand _ _ b r => wgtS b + wgtS r
  | _ => 0
end
/-- growth where own lists of the names may have changed: what stood at the entry (H0) stays -/
structure Gs (R : Rp) (H0 S H S' H' : Hp) : Prop where
  ss : Same S S'
  hh : ∀ a o o0, H0 a = some o0 → H a = some o → ¬ R.st a → (∀ ps, o ≠ .tbl ps) → H' a = some o
  fr : ∀ a o0, H0 a = some o0 → S' a = S a
  dom : ∀ a o, H a = some o → ∃ o', H' a = some o'
theorem Gs.refl (R : Rp) (H0 S H : Hp) : Gs R H0 S H S H := ⟨Same.refl S, fun _ _ _ _ h _ _ => h, fun _ _ _ => rfl, fun _ o h => ⟨o, h⟩⟩
theorem Gs.trans {R : Rp} {H0 S H S1 H1 S2 H2 : Hp} (a : Gs R H0 S H S1 H1) (b : Gs R H0 S1 H1 S2 H2) : Gs R H0 S H S2 H2 :=
  ⟨a.ss.trans b.ss, fun c o o0 h0 h n m => b.hh c o o0 h0 (a.hh c o o0 h0 h n m) n m, fun c o0 h0 => (b.fr c o0 h0).trans (a.fr c o0 h0), fun c o h => by
    obtain ⟨o', h'⟩ := a.dom c o h
    exact b.dom c o' h'⟩
theorem Gr.gs {R : Rp} {H0 S H S' H' : Hp} (g : Gr R S H S' H') (dom : ∀ a o, H0 a = some o → ∃ o', H a = some o') : Gs R H0 S H S' H' :=
  ⟨g.ss, fun a o _ _ h n m => g.hh a o h n m, fun a o0 h0 => by
    obtain ⟨o', h'⟩ := dom a o0 h0
    exact g.fr a o' h', g.dom⟩
/-- back at the entry's heap -/
theorem Gs.gr {R : Rp} {S H S' H' : Hp} (g : Gs R H S H S' H') : Gr R S H S' H' := ⟨g.ss, fun a o h => g.hh a o o h h, fun a o h => g.fr a o h, g.dom⟩
/-- names that are known through a block: how many there are, and of some of them the slot, the value -/
structure FK where
  n : Nat
  l : List (Nat × D × V)
def FK.at (φ : FK) (i : Nat) : Option Unit := if φ.l.any (fun p => p.1 == i) then some () else none
theorem FK.off {φ : FK} {i : Nat} (h : φ.at i = none) : ∀ p ∈ φ.l, p.1 ≠ i := fun p hp e => by
  unfold FK.at at h
  rw [if_pos (List.any_eq_true.mpr ⟨p, hp, by simp [e]⟩)] at h
  cases h
theorem FK.of_off {φ : FK} {i : Nat} (h : ∀ p ∈ φ.l, p.1 ≠ i) : φ.at i = none := by
  unfold FK.at
  rw [if_neg]
  intro z
  obtain ⟨p, hp, e⟩ := List.any_eq_true.mp z
  exact h p hp (by simpa using e)
structure FEv (G : Gl0) (R : Rp) (ρA : FK) (σ : L2.St) (S : Hp) : Prop where
  len : σ.length = ρA.n
  at_ : ∀ p ∈ ρA.l, p.2.1.pure = true ∧ σ[p.1]? = some (some p.2.2) ∧ Rep G.K R S p.2.1 p.2.2
structure Pst (G : Gl0) (L : Lv) (R : Rp) (H0 : Hp) (ρA : FK) (ρ : Env) (σ : L2.St) (S H : Hp) (b : Nat) : Prop where
  here : Here G L R ρ σ H0 S H b
  fev : FEv G R ρA σ S
theorem FEv.step {G : Gl0} {R : Rp} {ρA : FK} {σ : L2.St} {S S' : Hp} (h : FEv G R ρA σ S) (s : Same S S') : FEv G R ρA σ S' :=
  ⟨h.len, fun p e => ⟨(h.at_ p e).1, (h.at_ p e).2.1, Rep.same s _ _ (h.at_ p e).2.2⟩⟩
theorem FEv.set {G : Gl0} {R : Rp} {ρA : FK} {σ : L2.St} {S : Hp} {i : Nat} {v : Option V} (h : FEv G R ρA σ S) (n : ρA.at i = none) : FEv G R ρA (σ.set i v) S :=
  ⟨by rw [List.length_set]; exact h.len, fun p e => by
    rw [List.getElem?_set_ne (Ne.symm (FK.off n p e))]
    exact h.at_ p e⟩
theorem Pst.step {G : Gl0} {L : Lv} {R : Rp} {H0 : Hp} {ρA : FK} {ρ : Env} {σ : L2.St} {S H S' H' : Hp} {b w b' : Nat} (h : Pst G L R H0 ρA ρ σ S H b) (q : Behind G R S H b w S' H' b') : Pst G L R H0 ρA ρ σ S' H' b' :=
  ⟨h.here.step q, h.fev.step q.gr.ss⟩
/-- what is wished of a block's ends -/
def okS (G : Gl0) (L : Lv) (R : Rp) (H0 : Hp) (ρA : FK) (S H : Hp) (b w : Nat) (D : Ends) : Env × Fl → Prop := fun p => match p.2 with
  | .nx => ∀ σ' S' H' b', Gs R H0 S H S' H' → b' ≤ b + w → Pst G L R H0 ρA p.1 σ' S' H' b' → D.nx σ' H'
  | .bk => ∀ σ' S' H' b', Gs R H0 S H S' H' → b' ≤ b + w → Pst G L R H0 ρA p.1 σ' S' H' b' → D.bk σ' H'
  | .ct => ∀ σ' S' H' b', Gs R H0 S H S' H' → b' ≤ b + w → Pst G L R H0 ρA p.1 σ' S' H' b' → D.ct σ' H'
  | .rt d => ∀ v S' H' b', Gs R H0 S H S' H' → b' ≤ b + w → Wd G R S' H' b' → Rep G.K R S' d v → D.rt v H'
def badS (G : Gl0) (L : Lv) (R : Rp) (H0 : Hp) (ρA : FK) (S H : Hp) (b w : Nat) : Nat → D → Prop := fun c d =>
  ∀ dx σ' S' H' b', Gs R H0 S H S' H' → b' ≤ b + w → Wd G R S' H' b' → FEv G R ρA σ' S' → ExcAt G R S' H' c d dx → L.W (.ref (G.cA c)) dx σ' H'
/-- a block's reading -/
def rdS (G : Gl0) (L : Lv) (s : S) : TS := fun D σ H => ∃ R ρ ρA H0 S b, Pst G L R H0 ρA ρ σ S H b ∧ (∀ i ∈ asgS s, ρA.at i = none) ∧ b + wgtS L.k L.kh L.t s ≤ BIG ∧
  wp (exS L.F L.tm s ρ) (okS G L R H0 ρA S H b (wgtS L.k L.kh L.t s) D) (badS G L R H0 ρA S H b (wgtS L.k L.kh L.t s))
section
variable {G : Gl0} {L : Lv} {X : Cx} {e : E} {r : S} {ee : Expr} {rest : List Stmt} {pos p2 : Pos}
/-- further on -/
theorem okS.move {R : Rp} {H0 S H S1 H1 : Hp} {ρA : FK} {b b1 w w1 : Nat} {D : Ends} {p : Env × Fl} (h : okS G L R H0 ρA S H b w D p) (g : Gs R H0 S H S1 H1) (hb : b1 + w1 ≤ b + w) : okS G L R H0 ρA S1 H1 b1 w1 D p := by
  obtain ⟨ρ', f⟩ := p
  cases f with
  | nx => exact fun σ' S' H' b' g' hb' q => h σ' S' H' b' (g.trans g') (by omega) q
  | bk => exact fun σ' S' H' b' g' hb' q => h σ' S' H' b' (g.trans g') (by omega) q
  | ct => exact fun σ' S' H' b' g' hb' q => h σ' S' H' b' (g.trans g') (by omega) q
  | rt d => exact fun v S' H' b' g' hb' w r => h v S' H' b' (g.trans g') (by omega) w r
theorem badS.move {R : Rp} {H0 S H S1 H1 : Hp} {ρA : FK} {b b1 w w1 : Nat} {c : Nat} {d : D} (h : badS G L R H0 ρA S H b w c d) (g : Gs R H0 S H S1 H1) (hb : b1 + w1 ≤ b + w) : badS G L R H0 ρA S1 H1 b1 w1 c d :=
  fun dx σ' S' H' b' g' hb' wd f ex => h dx σ' S' H' b' (g.trans g') (by omega) wd f ex
/-- a block's wish of errors, for one expression of it -/
theorem badS.wish {R : Rp} {H0 S H : Hp} {ρA : FK} {ρ : Env} {σ : L2.St} {b w w1 : Nat} {c : Nat} {d : D} (h : badS G L R H0 ρA S H b w c d) (p : Pst G L R H0 ρA ρ σ S H b) (hw : w1 ≤ w) : wishX G L R σ S H b w1 c d :=
  fun dx S' H' b' q ex => h dx σ S' H' b' (q.gr.gs p.here.ev.dom) (by have := q.le; omega) q.wd (p.fev.step q.gr.ss) ex
/-- an expression, then the rest -/
theorem rdS_E {s : S} {Dn : Ends} {σ : L2.St} {H : Hp} {f : D → Env → M (Env × Fl)} {w' : Nat} {Z : VK} (h : rdS G L s Dn σ H) (he : ∀ ρ, exS L.F L.tm s ρ = (evE L.F L.tm e ρ).bind fun d => f d ρ) (hw : wgtS L.k L.kh L.t s = wgt L.k L.kh L.t e + w')
    (z : ∀ R ρ ρA H0 S' H' b' d v, Pst G L R H0 ρA ρ σ S' H' b' → (∀ i ∈ asgS s, ρA.at i = none) → b' + w' ≤ BIG → VR G R H S' H' (md e) d v → (∀ j d a, ρ.at j = some (d, true) → σ[j]? = some (some (.ref a)) → ∃ o, H a = some o) → (∀ a o, H0 a = some o → ∃ o', H a = some o') →
      wp (f d ρ) (okS G L R H0 ρA S' H' b' w' Dn) (badS G L R H0 ρA S' H' b' w') → Z v H') : rdE G L e σ H Z := by
  obtain ⟨R, ρ, ρA, H0, S, b, p, ha, hb, hp⟩ := h
  rw [hw] at hb hp
  rw [he] at hp
  refine ⟨R, ρ, H0, S, b, p.here, by omega, wp_mono (fun d hd v S' H' b' q r => ?_) (fun c d hc => hc.wish p (by omega)) (wp_bind hp)⟩
  have le := q.le
  refine z R ρ ρA H0 S' H' b' d v (p.step q) ha (by omega) r (fun j d a h1 h2 => ?_) p.here.ev.dom (wp_mono (fun x hx => hx.move (q.gr.gs p.here.ev.dom) (by omega)) (fun c d hc => hc.move (q.gr.gs p.here.ev.dom) (by omega)) hd)
  obtain ⟨ds, a', vs, _, e2, _, e4, _⟩ := p.here.ev.own j d h1
  rw [h2] at e2
  cases e2
  exact ⟨_, e4⟩
theorem _root_.L2.PS.imp {X : Cx} {st : Stmt} {t t' : TS} (h : PS X st t) (f : ∀ D σ H, t' D σ H → t D σ H) : PS X st t' := ⟨fun pins s σ H D I q => h.run pins s σ H D I (f D σ H q)⟩
theorem _root_.L2.PSs.imp {X : Cx} {st : List Stmt} {t t' : TS} (h : PSs X st t) (f : ∀ D σ H, t' D σ H → t D σ H) : PSs X st t' := ⟨fun pins s σ H D I q => h.run pins s σ H D I (f D σ H q)⟩
theorem ss_done : PSs X [] (rdS G L .done) := pss_nil.imp fun D σ H h => by
  obtain ⟨R, ρ, ρA, H0, S, b, p, ha, hb, hp⟩ := h
  exact hp σ S H b (Gs.refl R H0 S H) (by omega) p
theorem ss_brk : PSs X [.Break pos] (rdS G L .brk) := (pss_one ps_break).imp fun D σ H h => by
  obtain ⟨R, ρ, ρA, H0, S, b, p, ha, hb, hp⟩ := h
  exact hp σ S H b (Gs.refl R H0 S H) (by omega) p
theorem ss_cnt : PSs X [.Continue pos] (rdS G L .cnt) := (pss_one ps_continue).imp fun D σ H h => by
  obtain ⟨R, ρ, ρA, H0, S, b, p, ha, hb, hp⟩ := h
  exact hp σ S H b (Gs.refl R H0 S H) (by omega) p
theorem ss_pass (hr : PSs X rest (rdS G L r)) : PSs X (.Pass pos :: rest) (rdS G L (.pass r)) := (pss_cons ps_pass hr).imp fun D σ H h => h
theorem ss_doc {x : Str} {j : Nat} (hr : PSs X rest (rdS G L r)) : PSs X (.Expr (.Constant (.str x) j pos) p2 :: rest) (rdS G L (.pass r)) := (pss_cons ps_doc hr).imp fun D σ H h => h
/-- dead names -/
theorem ss_kill {is : List Nat} (hr : PSs X rest (rdS G L r)) : PSs X rest (rdS G L (.kill is r)) := hr.imp fun D σ H h => by
  obtain ⟨R, ρ, ρA, H0, S, b, p, ha, hb, hp⟩ := h
  exact ⟨R, wipe ρ is, ρA, H0, S, b, ⟨⟨p.here.fA, p.here.th, p.here.ex, p.here.wd, p.here.ev.kill is⟩, p.fev⟩, ha, hb, hp⟩
theorem ss_ret (hm : md e = .f) (he : PE X ee (rdE G L e)) : PSs X [.Return (some ee) pos] (rdS G L (.ret e)) := (pss_one (ps_ret he)).imp fun D σ H h =>
  rdS_E (w' := 0) h (f := fun d ρ => .ok (ρ, .rt d)) (fun ρ => by rw [exS]) rfl fun R ρ ρA H0 S' H' b' d v p ha hb r _ _ hp => by
    rw [hm] at r
    exact hp v S' H' b' (Gs.refl R H0 S' H') (by omega) p.here.wd r
theorem ss_retN : PSs X [.Return none pos] (rdS G L (.ret (.con .non))) := (pss_one ps_retN).imp fun D σ H h => by
  obtain ⟨R, ρ, ρA, H0, S, b, p, ha, hb, hp⟩ := h
  exact hp .non S H b (Gs.refl R H0 S H) (by omega) p.here.wd rfl
theorem ss_expr (he : PE X ee (rdE G L e)) (hs : swapsWith ee none pos.line X.env = pure false) (hr : PSs X rest (rdS G L r)) : PSs X (.Expr ee pos :: rest) (rdS G L (.expr e r)) := (pss_cons (ps_expr he hs) hr).imp fun D σ H h =>
  rdS_E (w' := wgtS L.k L.kh L.t r) h (f := fun _ ρ => exS L.F L.tm r ρ) (fun ρ => by rw [exS]) rfl fun R ρ ρA H0 S' H' b' d v p ha hb r _ _ hp => ⟨R, ρ, ρA, H0, S', b', p, ha, hb, hp⟩
end
end Cl
set_option autoImplicit false
set_option Elab.async false
set_option linter.all false
set_option maxRecDepth 100000
set_option maxHeartbeats 4000000
/-! Statements: stores, if, for. -/
namespace Cl
open PySem PySem.Spec PyProof.Rows L2
section
variable {G : Gl0} {L : Lv} {X : Cx} {e c it : E} {r a b : S} {t : Tg} {ee tg : Expr} {sa sb rest : List Stmt} {st : Stmt} {pos p2 : Pos} {i : Nat} {x : Str}
theorem Here.names {R : Rp} {ρ ρ' : Env} {σ σ' : L2.St} {H0 S H : Hp} {n : Nat} (h : Here G L R ρ σ H0 S H n) (ev : Ev G R H0 ρ' σ' S H) : Here G L R ρ' σ' H0 S H n := ⟨h.fA, h.th, h.ex, h.wd, ev⟩
/-- name = frozen value -/
theorem ss_set (hm : md e = .f) (hp : PS X st (tAsg (rdE G L e) (gName i))) (hr : PSs X rest (rdS G L r)) : PSs X (st :: rest) (rdS G L (.set i false e r)) := (pss_cons hp hr).imp fun Dn σ H h =>
  rdS_E (w' := wgtS L.k L.kh L.t r) h (f := fun d ρ => exS L.F L.tm r (putAt ρ i (some (d, false)))) (fun ρ => by rw [exS]; simp only [Bool.false_and]) rfl fun R ρ ρA H0 S' H' b' d v p ha hb rv _ _ hp => by
    rw [hm] at rv
    exact ⟨R, _, ρA, H0, S', b', ⟨p.here.names (p.here.ev.put rv), p.fev.set (ha i (List.mem_cons_self ..))⟩, fun j hj => ha j (List.mem_cons_of_mem _ hj), hb, hp⟩
/-- name = new list -/
theorem ss_setO (hm : md e = .o) (hp : PS X st (tAsg (rdE G L e) (gName i))) (hr : PSs X rest (rdS G L r)) : PSs X (st :: rest) (rdS G L (.set i true e r)) := (pss_cons hp hr).imp fun Dn σ H h =>
  rdS_E (w' := wgtS L.k L.kh L.t r) h (f := fun d ρ => exS L.F L.tm r (putAt ρ i (some (d, d.isL)))) (fun ρ => by rw [exS]; simp only [Bool.true_and]) rfl fun R ρ ρA H0 S' H' b' d v p ha hb rv ow dm hp => by
    rw [hm] at rv
    have fv := p.fev.set (v := some v) (ha i (List.mem_cons_self ..))
    have ha' : ∀ j ∈ asgS r, ρA.at j = none := fun j hj => ha j (List.mem_cons_of_mem _ hj)
    rcases rv with ⟨n, rv⟩ | ⟨ds, q, vs, e1, e2, e3, e4, e5, e6, e7⟩
    · rw [n] at hp
      exact ⟨R, _, ρA, H0, S', b', ⟨p.here.names (p.here.ev.put rv), fv⟩, ha', hb, hp⟩
    · subst e1 e2
      refine ⟨R, _, ρA, H0, S', b', ⟨p.here.names (p.here.ev.putO e3 e4 e5 e6 (fresh_of dm e7) fun j d _ h1 h2 => ?_), fv⟩, ha', hb, hp⟩
      obtain ⟨o, z⟩ := ow j d _ h1 h2
      rw [e7] at z
      cases z
/-- (a, b) = .. -/
theorem asg_frame {σ σ' : L2.St} {is : List Nat} (h : ∀ vs : List Nat, (∀ i ∈ is, i ∈ vs) → L2.wipe σ' vs = L2.wipe σ vs) {j : Nat} (hj : j ∉ is) : σ'[j]? = σ[j]? := by
  have z := congrArg (fun l : L2.St => l[j]?) (h is fun _ q => q)
  simp only [wipe_out hj] at z
  exact z
theorem FEv.asg {R : Rp} {ρA : FK} {σ σ' : L2.St} {S : Hp} {is : List Nat} (f : FEv G R ρA σ S) (h : ∀ vs : List Nat, (∀ i ∈ is, i ∈ vs) → L2.wipe σ' vs = L2.wipe σ vs) (n : ∀ i ∈ is, ρA.at i = none) : FEv G R ρA σ' S := by
  refine ⟨?_, fun p e => ?_⟩
  · have z := congrArg List.length (h is fun _ q => q)
    simp only [wipe_length] at z
    rw [z]
    exact f.len
  · have : p.1 ∉ is := fun q => FK.off (n p.1 q) p e rfl
    rw [asg_frame h this]
    exact f.at_ p e
theorem ss_sets (hm : md e = .f) (hp : PS X st (tAsg (rdE G L e) (rdG G t))) (hr : PSs X rest (rdS G L r)) : PSs X (st :: rest) (rdS G L (.sets t e r)) := (pss_cons hp hr).imp fun Dn σ H h =>
  rdS_E (w' := wgtS L.k L.kh L.t r) h (f := fun d ρ => match asg t d ρ with | some env' => exS L.F L.tm r env' | none => .stuck) (fun ρ => by rw [exS] <;> rfl) rfl fun R ρ ρA H0 S' H' b' d v p ha hb rv _ _ hp => by
    rw [hm] at rv
    cases ea : asg t d ρ with
    | none => simp only [ea] at hp; exact hp.elim
    | some ρ' =>
      simp only [ea] at hp
      exact ⟨R, ρ, H0, S', b', d, ρ', p.here.wd, p.here.ev, rv, ea, fun σ' ev' fr => ⟨R, ρ', ρA, H0, S', b', ⟨p.here.names ev', p.fev.asg fr fun j hj => ha j (List.mem_append_left _ hj)⟩, fun j hj => ha j (List.mem_append_right _ hj), hb, hp⟩⟩
/-! ### if -/
theorem wp_then {m : M (Env × Fl)} {k : Env → M (Env × Fl)} {Q : Env × Fl → Prop} {Ef : Nat → D → Prop} (h : wp (thenS m k) Q Ef) : wp m (fun p => match p.2 with | .nx => wp (k p.1) Q Ef | f => Q (p.1, f)) Ef := by
  refine wp_mono (fun p hp => ?_) (fun _ _ z => z) (wp_bind h)
  obtain ⟨ρ, f⟩ := p
  cases f <;> exact hp
/-- a block within, its ends taken up by the block behind it -/
theorem inner {R : Rp} {H0 S H : Hp} {ρA : FK} {n w w1 : Nat} {Dn : Ends} {q : Env × Fl} (hr : ∀ j ∈ asgS r, ρA.at j = none) (hw : w1 + wgtS L.k L.kh L.t r ≤ w) (hb : n + w ≤ BIG)
    (h : match q.2 with | .nx => wp (exS L.F L.tm r q.1) (okS G L R H0 ρA S H n w Dn) (badS G L R H0 ρA S H n w) | f => okS G L R H0 ρA S H n w Dn (q.1, f)) :
    okS G L R H0 ρA S H n w1 { Dn with nx := rdS G L r Dn } q := by
  obtain ⟨ρ', f⟩ := q
  cases f with
  | nx => exact fun σ' S' H' b' g hb' p => ⟨R, ρ', ρA, H0, S', b', p, hr, by omega, wp_mono (fun x hx => okS.move hx g (by omega)) (fun c d hc => badS.move hc g (by omega)) h⟩
  | bk => exact fun σ' S' H' b' g hb' p => h σ' S' H' b' g (by omega) p
  | ct => exact fun σ' S' H' b' g hb' p => h σ' S' H' b' g (by omega) p
  | rt d => exact fun v S' H' b' g hb' wd rv => h v S' H' b' g (by omega) wd rv
theorem ss_if (hc : PT X ee (rdT G L c)) (ha : PSs X sa (rdS G L a)) (hb : PSs X sb (rdS G L b)) (hr : PSs X rest (rdS G L r)) : PSs X (.If ee sa sb pos :: rest) (rdS G L (.ite c a b r)) := (pss_cons (ps_if hc ha hb) hr).imp fun Dn σ H h => by
  obtain ⟨R, ρ, ρA, H0, S, n, p, hA, hn, hp⟩ := h
  have hw : wgtS L.k L.kh L.t (.ite c a b r) = wgt L.k L.kh L.t c + wgtS L.k L.kh L.t a + wgtS L.k L.kh L.t b + wgtS L.k L.kh L.t r := rfl
  rw [hw] at hn hp
  rw [exS] at hp
  have Aa : ∀ j ∈ asgS a, ρA.at j = none := fun j hj => hA j (List.mem_append_left _ (List.mem_append_left _ hj))
  have Ab : ∀ j ∈ asgS b, ρA.at j = none := fun j hj => hA j (List.mem_append_left _ (List.mem_append_right _ hj))
  have Ar : ∀ j ∈ asgS r, ρA.at j = none := fun j hj => hA j (List.mem_append_right _ hj)
  refine ⟨R, ρ, H0, S, n, p.here, by omega, wp_mono (fun d hd => ?_) (fun cc d hc => hc.wish p (by omega)) (wp_bind hp)⟩
  cases d with
  | bl k =>
    refine ⟨k, rfl, fun S1 H1 b1 q1 => ?_⟩
    have le := q1.le
    have gs := q1.gr.gs p.here.ev.dom
    cases k with
    | true =>
      refine ⟨R, ρ, ρA, H0, S1, b1, p.step q1, Aa, by omega, ?_⟩
      refine wp_mono (fun q hq => ?_) (fun cc d hc => hc.move gs (by omega)) (wp_then hd)
      have : okS G L R H0 ρA S1 H1 b1 (wgtS L.k L.kh L.t a) { Dn with nx := rdS G L r Dn } q := by
        refine inner (w := wgtS L.k L.kh L.t a + wgtS L.k L.kh L.t r) Ar (by omega) (by omega) ?_
        obtain ⟨ρ', f⟩ := q
        cases f with
        | nx => exact wp_mono (fun x hx => okS.move hx gs (by omega)) (fun cc d hc => badS.move hc gs (by omega)) hq
        | bk => exact okS.move hq gs (by omega)
        | ct => exact okS.move hq gs (by omega)
        | rt d => exact okS.move hq gs (by omega)
      exact this
    | false =>
      refine ⟨R, ρ, ρA, H0, S1, b1, p.step q1, Ab, by omega, ?_⟩
      refine wp_mono (fun q hq => ?_) (fun cc d hc => hc.move gs (by omega)) (wp_then hd)
      have : okS G L R H0 ρA S1 H1 b1 (wgtS L.k L.kh L.t b) { Dn with nx := rdS G L r Dn } q := by
        refine inner (w := wgtS L.k L.kh L.t b + wgtS L.k L.kh L.t r) Ar (by omega) (by omega) ?_
        obtain ⟨ρ', f⟩ := q
        cases f with
        | nx => exact wp_mono (fun x hx => okS.move hx gs (by omega)) (fun cc d hc => badS.move hc gs (by omega)) hq
        | bk => exact okS.move hq gs (by omega)
        | ct => exact okS.move hq gs (by omega)
        | rt d => exact okS.move hq gs (by omega)
      exact this
  | _ => exact hd.elim
end
end Cl
set_option autoImplicit false
set_option Elab.async false
set_option linter.all false
set_option maxRecDepth 100000
set_option maxHeartbeats 4000000
/-! Statements: for, while. -/
namespace Cl
open PySem PySem.Spec PyProof.Rows L2
section
variable {G : Gl0} {L : Lv} {X : Cx} {e c it : E} {r a b : S} {t : Tg} {ee tg iter : Expr} {sa sb rest : List Stmt} {pos p2 : Pos} {w : Wk}
abbrev turnS (L : Lv) (t : Tg) (b : S) : D → Env → M (Env × Fl) := fun x env => match asg t x env with
  | some env' => exS L.F L.tm b env'
  | none => .stuck
/-- what is wished behind a loop -/
def endS (G : Gl0) (L : Lv) (R : Rp) (H0 : Hp) (ρA : FK) (S H : Hp) (b w : Nat) (r : Cl.S) (Dn : Ends) : Env × Fl → Prop := fun p => match p.2 with
  | .nx => wp (exS L.F L.tm r p.1) (okS G L R H0 ρA S H b w Dn) (badS G L R H0 ρA S H b w)
  | f => okS G L R H0 ρA S H b w Dn (p.1, f)
theorem endS.move {R : Rp} {H0 S H S1 H1 : Hp} {ρA : FK} {b b1 w w1 : Nat} {r : Cl.S} {Dn : Ends} {p : Env × Fl} (h : endS G L R H0 ρA S H b w r Dn p) (g : Gs R H0 S H S1 H1) (hb : b1 + w1 ≤ b + w) : endS G L R H0 ρA S1 H1 b1 w1 r Dn p := by
  obtain ⟨ρ', f⟩ := p
  cases f with
  | nx => exact wp_mono (fun x hx => okS.move hx g hb) (fun cc d hc => badS.move hc g hb) h
  | bk => exact okS.move (p := (ρ', .bk)) h g hb
  | ct => exact okS.move (p := (ρ', .ct)) h g hb
  | rt d => exact okS.move (L := L) (ρA := ρA) (p := (ρ', .rt d)) h g hb
/-- on with the rest -/
theorem endS.go {R : Rp} {H0 S H : Hp} {ρA : FK} {ρ' : Env} {b w : Nat} {σ : L2.St} {Dn : Ends} (h : endS G L R H0 ρA S H b w r Dn (ρ', .nx)) (p : Pst G L R H0 ρA ρ' σ S H b) (hr : ∀ j ∈ asgS r, ρA.at j = none) (hw : wgtS L.k L.kh L.t r ≤ w) (hb : b + wgtS L.k L.kh L.t r ≤ BIG)
    (e : w = wgtS L.k L.kh L.t r) : rdS G L r Dn σ H := by
  subst e
  exact ⟨R, ρ', ρA, H0, S, b, p, hr, hb, h⟩
theorem ss_for (hq : PassesOwn (model X.prog X.w) X.A X.env X.xe) (hc : X.calm = true) (hi : PI X tg iter (rdI G L w it)) (hf : ∀ x, foldedSetIterable iter X.env x = pure x) (hg : PG X tg (rdG G t)) (hb : PSs X sb (rdS G L b)) (hr : PSs X rest (rdS G L r)) :
    PSs X (.For tg iter sb [] pos :: rest) (rdS G L (.for_ w it t b r)) := (pss_cons (ps_for hq hc hi hg hb hf) hr).imp fun Dn σ H h => by
  obtain ⟨R, ρ, ρA, H0, S, n, p, hA, hn, hp⟩ := h
  have hw : wgtS L.k L.kh L.t (.for_ w it t b r) = wgt L.k L.kh L.t it + LIM * wgtS L.k L.kh L.t b + wgtS L.k L.kh L.t r := rfl
  rw [hw] at hn hp
  have At : ∀ j ∈ t.slots, ρA.at j = none := fun j hj => hA j (List.mem_append_left _ (List.mem_append_left _ hj))
  have Ab : ∀ j ∈ asgS b, ρA.at j = none := fun j hj => hA j (List.mem_append_left _ (List.mem_append_right _ hj))
  have Ar : ∀ j ∈ asgS r, ρA.at j = none := fun j hj => hA j (List.mem_append_right _ hj)
  generalize hwb : wgtS L.k L.kh L.t b = wb at hn hp
  generalize hwr : wgtS L.k L.kh L.t r = wr at hn hp
  have hex : exS L.F L.tm (.for_ w it t b r) ρ = ((evE L.F L.tm it ρ).bind (walkV w)).bind fun xs => thenS (forL (turnS L t b) xs ρ) (exS L.F L.tm r) := by
    rw [exS, bind_assoc] <;> rfl
  rw [hex] at hp
  refine ⟨R, ρ, H0, S, n, p.here, by omega, wp_mono (fun xs hx J S1 H1 b1 q1 wj lx => ?_) (fun cc d hc => hc.wish p (by omega)) (wp_bind hp)⟩
  have le1 := q1.le
  have gs1 := q1.gr.gs p.here.ev.dom
  let W0 := LIM * wb + wr
  let Qf : Env × Fl → Prop := endS G L R H0 ρA S1 H1 b1 W0 r Dn
  have hx1 : wp (forL (turnS L t b) xs ρ) Qf (badS G L R H0 ρA S1 H1 b1 W0) := by
    refine wp_mono (fun q hq => ?_) (fun cc d hc => badS.move hc gs1 (by show b1 + (LIM * wb + wr) ≤ _; omega)) (wp_then hx)
    have : endS G L R H0 ρA S H n (wgt L.k L.kh L.t it + LIM * wb + wr) r Dn q := by
      obtain ⟨ρ', f⟩ := q
      cases f <;> exact hq
    exact this.move gs1 (by show b1 + (LIM * wb + wr) ≤ _; omega)
  -- the rest, from any later state
  have onward : ∀ {ρ' : Env} {σ' : L2.St} {S' H' : Hp} {b' : Nat}, Qf (ρ', .nx) → Gs R H0 S1 H1 S' H' → b' ≤ b1 + LIM * wb → Pst G L R H0 ρA ρ' σ' S' H' b' → rdS G L r Dn σ' H' := fun {ρ' σ' S' H' b'} hQ g hb' p' =>
    ⟨R, ρ', ρA, H0, S', b', p', Ar, by rw [hwr]; omega, by rw [hwr]; exact wp_mono (fun x hx => okS.move hx g (by show _ ≤ b1 + (LIM * wb + wr); omega)) (fun cc d hc => badS.move hc g (by show _ ≤ b1 + (LIM * wb + wr); omega)) hQ⟩
  refine ⟨fun i m σ H => m = xs.length - i ∧ i ≤ xs.length ∧ ∃ ρ' S b', Gs R H0 S1 H1 S H ∧ Pst G L R H0 ρA ρ' σ S H b' ∧ b' ≤ b1 + i * wb ∧ wp (forL (turnS L t b) (xs.drop i) ρ') Qf (badS G L R H0 ρA S1 H1 b1 W0),
    ⟨xs.length, by simp, Nat.zero_le _, ρ, S1, b1, Gs.refl R H0 S1 H1, p.step q1, by simp, by simpa using hx1⟩, ?_⟩
  rintro i m σ2 H2 ⟨rfl, hi, ρ', S2, b2, g2, p2, le2, hwp⟩
  have wjs := wj S2 H2 b2 i g2.ss p2.here.wd
  have hmi : i * wb ≤ LIM * wb := Nat.mul_le_mul_right _ (by omega)
  cases hxi : xs[i]? with
  | none =>
    left
    refine ⟨wjs.2 hxi, ?_⟩
    have : xs.drop i = [] := List.drop_eq_nil_of_le (List.getElem?_eq_none_iff.mp hxi)
    rw [this] at hwp
    exact onward hwp g2 (by omega) p2
  | some x =>
    right
    obtain ⟨go, yl⟩ := wjs.1 x hxi
    have il : i < xs.length := (List.getElem?_eq_some_iff.mp hxi).1
    have hmul : (i + 1) * wb = i * wb + wb := by rw [Nat.add_mul, Nat.one_mul]
    have hmul2 : (i + 1) * wb ≤ LIM * wb := Nat.mul_le_mul_right _ (by omega)
    rw [drop_cons hxi] at hwp
    refine ⟨go, fun σ' H' => ∃ ρ' S b', Gs R H0 S1 H1 S H' ∧ Pst G L R H0 ρA ρ' σ' S H' b' ∧ b' ≤ b1 + (i + 1) * wb ∧ wp (forL (turnS L t b) (xs.drop (i + 1)) ρ') Qf (badS G L R H0 ρA S1 H1 b1 W0), fun σ' H' z => ⟨xs.length - (i + 1), by omega, rfl, il, z⟩, fun v H3 yv => ?_⟩
    obtain ⟨S3, g3, w3, r3⟩ := yl v H3 yv
    have gs3 := g2.trans (g3.gs p2.here.ev.dom)
    have p3 : Pst G L R H0 ρA ρ' σ2 S3 H3 b2 := ⟨⟨p2.here.fA, p2.here.th, p2.here.ex, w3, p2.here.ev.step g3⟩, p2.fev.step g3.ss⟩
    have hwp2 := wp_bind hwp
    cases ea : asg t x ρ' with
    | none => simp only [turnS, ea] at hwp2; exact hwp2.elim
    | some ρ3 =>
      simp only [turnS, ea] at hwp2
      refine ⟨R, ρ', H0, S3, b2, x, ρ3, w3, p3.here.ev, r3, ea, fun σ4 ev4 fr4 => ?_⟩
      have p4 : Pst G L R H0 ρA ρ3 σ4 S3 H3 b2 := ⟨p3.here.names ev4, p3.fev.asg fr4 At⟩
      refine ⟨R, ρ3, ρA, H0, S3, b2, p4, Ab, by rw [hwb]; omega, ?_⟩
      rw [hwb]
      refine wp_mono (fun q hq => ?_) (fun cc d hc => badS.move hc gs3 (by show _ ≤ b1 + (LIM * wb + wr); omega)) hwp2
      obtain ⟨ρ5, f⟩ := q
      cases f with
      | nx => exact fun σ' S' H' b' g hb' p' => ⟨ρ5, S', b', gs3.trans g, p', by omega, hq⟩
      | ct => exact fun σ' S' H' b' g hb' p' => ⟨ρ5, S', b', gs3.trans g, p', by omega, hq⟩
      | bk => exact fun σ' S' H' b' g hb' p' => onward hq (gs3.trans g) (by omega) p'
      | rt d =>
        have hq' : okS G L R H0 ρA S1 H1 b1 W0 Dn (ρ5, .rt d) := hq
        exact fun v S' H' b' g hb' wd rv => hq' v S' H' b' (gs3.trans g) (by show _ ≤ b1 + (LIM * wb + wr); omega) wd rv
end
end Cl
set_option autoImplicit false
set_option Elab.async false
set_option linter.all false
set_option maxRecDepth 100000
set_option maxHeartbeats 4000000
/-! Statements: while. -/
namespace Cl
open PySem PySem.Spec PyProof.Rows L2
section
variable {G : Gl0} {L : Lv} {X : Cx} {c : E} {b r : S} {ce : Expr} {sb rest : List Stmt} {pos : Pos}
theorem ss_whl (hq : PassesOwn (model X.prog X.w) X.A X.env X.xe) (hc : PT X ce (rdT G L c)) (hb : PSs X sb (rdS G L b)) (hr : PSs X rest (rdS G L r)) :
    PSs X (.While ce sb [] pos :: rest) (rdS G L (.whl c b r)) := (pss_cons (ps_while hq hc hb) hr).imp fun Dn σ H h => by
  obtain ⟨R, ρ, ρA, H0, S, n, p, hA, hn, hp⟩ := h
  have hw : wgtS L.k L.kh L.t (.whl c b r) = LIM * (wgt L.k L.kh L.t c + wgtS L.k L.kh L.t b) + wgtS L.k L.kh L.t r := rfl
  rw [hw] at hn hp
  have Ab : ∀ j ∈ asgS b, ρA.at j = none := fun j hj => hA j (List.mem_append_left _ hj)
  have Ar : ∀ j ∈ asgS r, ρA.at j = none := fun j hj => hA j (List.mem_append_right _ hj)
  generalize hwb : wgtS L.k L.kh L.t b = wb at hn hp
  generalize hwc : wgt L.k L.kh L.t c = wc at hn hp
  generalize hwr : wgtS L.k L.kh L.t r = wr at hn hp
  rw [exS] at hp
  let W0 := LIM * (wc + wb) + wr
  let Qf : Env × Fl → Prop := endS G L R H0 ρA S H n W0 r Dn
  have hx1 : wp (whlL (evE L.F L.tm c) (exS L.F L.tm b) LIM ρ) Qf (badS G L R H0 ρA S H n W0) := by
    refine wp_mono (fun q hq => ?_) (fun cc d hc => hc) (wp_then hp)
    have : endS G L R H0 ρA S H n (LIM * (wc + wb) + wr) r Dn q := by
      obtain ⟨ρ', f⟩ := q
      cases f <;> exact hq
    exact this
  have onward : ∀ {ρ' : Env} {σ' : L2.St} {S' H' : Hp} {b' : Nat}, Qf (ρ', .nx) → Gs R H0 S H S' H' → b' ≤ n + LIM * (wc + wb) → Pst G L R H0 ρA ρ' σ' S' H' b' → rdS G L r Dn σ' H' := fun {ρ' σ' S' H' b'} hQ g hb' p' =>
    ⟨R, ρ', ρA, H0, S', b', p', Ar, by rw [hwr]; omega, by rw [hwr]; exact wp_mono (fun x hx => okS.move hx g (by show _ ≤ n + (LIM * (wc + wb) + wr); omega)) (fun cc d hc => badS.move hc g (by show _ ≤ n + (LIM * (wc + wb) + wr); omega)) hQ⟩
  refine ⟨fun m σ H' => m ≤ LIM ∧ ∃ ρ' S' b', Gs R H0 S H S' H' ∧ Pst G L R H0 ρA ρ' σ S' H' b' ∧ b' ≤ n + (LIM - m) * (wc + wb) ∧ wp (whlL (evE L.F L.tm c) (exS L.F L.tm b) m ρ') Qf (badS G L R H0 ρA S H n W0),
    ⟨LIM, Nat.le_refl _, ρ, S, n, Gs.refl R H0 S H, p, by simp, hx1⟩, ?_⟩
  rintro m σ2 H2 ⟨hm, ρ', S2, b2, g2, p2, le2, hwp⟩
  cases m with
  | zero => exact hwp.elim
  | succ m =>
    have hmul : (LIM - m) * (wc + wb) = (LIM - (m + 1)) * (wc + wb) + (wc + wb) := by
      rw [show LIM - m = (LIM - (m + 1)) + 1 by omega, Nat.add_mul, Nat.one_mul]
    have hmul2 : (LIM - m) * (wc + wb) ≤ LIM * (wc + wb) := Nat.mul_le_mul_right _ (by omega)
    rw [whlL] at hwp
    refine ⟨R, ρ', H0, S2, b2, p2.here, by rw [hwc]; omega, ?_⟩
    rw [hwc]
    refine wp_mono (fun d hd => ?_) (fun cc d hc => ?_) (wp_bind hwp)
    · cases d with
      | bl k =>
        refine ⟨k, rfl, fun S3 H3 b3 q3 => ?_⟩
        have le := q3.le
        have gs3 := g2.trans (q3.gr.gs p2.here.ev.dom)
        have p3 := p2.step q3
        cases k with
        | false =>
          dsimp only
          rw [if_neg Bool.false_ne_true]
          exact onward hd gs3 (by omega) p3
        | true =>
          dsimp only
          rw [if_pos rfl]
          refine ⟨fun σ' H' => ∃ ρ' S' b', Gs R H0 S H S' H' ∧ Pst G L R H0 ρA ρ' σ' S' H' b' ∧ b' ≤ n + (LIM - m) * (wc + wb) ∧ wp (whlL (evE L.F L.tm c) (exS L.F L.tm b) m ρ') Qf (badS G L R H0 ρA S H n W0), fun σ' H' z => ⟨m, by omega, by omega, z⟩, ?_⟩
          refine ⟨R, ρ', ρA, H0, S3, b3, p3, Ab, by rw [hwb]; omega, ?_⟩
          rw [hwb]
          refine wp_mono (fun q hq => ?_) (fun cc d hc => badS.move hc gs3 (by show _ ≤ n + (LIM * (wc + wb) + wr); omega)) (wp_bind hd)
          obtain ⟨ρ5, f⟩ := q
          cases f with
          | nx => exact fun σ' S' H' b' g hb' p' => ⟨ρ5, S', b', gs3.trans g, p', by omega, hq⟩
          | ct => exact fun σ' S' H' b' g hb' p' => ⟨ρ5, S', b', gs3.trans g, p', by omega, hq⟩
          | bk => exact fun σ' S' H' b' g hb' p' => onward hq (gs3.trans g) (by omega) p'
          | rt d =>
            have hq' : okS G L R H0 ρA S H n W0 Dn (ρ5, .rt d) := hq
            exact fun v S' H' b' g hb' wd rv => hq' v S' H' b' (gs3.trans g) (by show _ ≤ n + (LIM * (wc + wb) + wr); omega) wd rv
      | _ => exact hd.elim
    · exact badS.wish (badS.move hc g2 (b1 := b2) (w1 := wc) (by show _ ≤ n + (LIM * (wc + wb) + wr); omega)) p2 (Nat.le_refl _)
end
end Cl
set_option autoImplicit false
set_option Elab.async false
set_option linter.all false
set_option maxRecDepth 100000
set_option maxHeartbeats 4000000
/-! Statements: own lists change; own lists are frozen. -/
namespace Cl
open PySem PySem.Spec PyProof.Rows L2
section
variable {G : Gl0} {L : Lv} {X : Cx} {e e2 : E} {r : S} {ee eb : Expr} {rest : List Stmt} {pos p2 p3 apos : Pos} {i : Nat} {x : Str}
theorem own_of {ρ : Env} {α : Type} {f : List D → M α} {Q : α → Prop} {Ef : Nat → D → Prop} (h : wp ((ownL ρ i).bind f) Q Ef) : ∃ ds, ρ.at i = some (.lst ds, true) ∧ wp (f ds) Q Ef := by
  unfold ownL at h
  cases q : ρ.at i with
  | none => rw [q] at h; exact h.elim
  | some p =>
    obtain ⟨d, o⟩ := p
    rw [q] at h
    cases d with
    | lst ds => cases o with
      | true => exact ⟨ds, rfl, h⟩
      | false => exact h.elim
    | _ => exact h.elim
/-- a tracked list of a name has other items -/
theorem mut_ok {R : Rp} {H0 S H : Hp} {ρA : FK} {ρ : Env} {σ : L2.St} {b : Nat} {ds ds' : List D} {a : Addr} {vs vs' : List V} (p : Pst G L R H0 ρA ρ σ S H b) (hi : ρ.at i = some (.lst ds, true)) (hσ : σ[i]? = some (some (.ref a))) (hH : H a = some (.lst vs)) (sn : S a = none) (nst : ¬ R.st a) (h0 : H0 a = none)
    (rv : RepL G.K R S ds' vs') : Gs R H0 S H S (upd H a (.lst vs')) ∧ Pst G L R H0 ρA (putAt ρ i (some (.lst ds', true))) σ S (upd H a (.lst vs')) b := by
  have w := p.here.wd
  have ev := p.here.ev
  have dm : ∀ c o, H c = some o → ∃ o', upd H a (.lst vs') c = some o' := fun c o e => by
    by_cases z : c = a
    · subst z
      exact ⟨_, upd_same⟩
    · exact ⟨o, by rw [upd_ne z]; exact e⟩
  refine ⟨⟨Same.refl S, fun c o o0 z0 e _ _ => ?_, fun _ _ _ => rfl, dm⟩, ⟨⟨p.here.fA, p.here.th, p.here.ex, ⟨fun c u e => ?_, w.nst, w.ntb, ?_, ?_⟩, ?_⟩, p.fev⟩⟩
  · have : c ≠ a := fun z => by rw [z, h0] at z0; cases z0
    rw [upd_ne this]
    exact e
  · have : c ≠ a := fun z => by rw [z, sn] at e; cases e
    rw [upd_ne this]
    exact w.sub c u e
  · refine ⟨fun on => ?_, w.st.ne⟩
    obtain ⟨z, s1, s2, s3, rr⟩ := w.st.ex on
    have q1 : R.sp.1 ≠ a := fun z => nst ⟨on, .inl z.symm⟩
    have q2 : R.sc ≠ a := fun z => nst ⟨on, .inr (.inl z.symm)⟩
    have q3 : R.sl ≠ a := fun z => nst ⟨on, .inr (.inr z.symm)⟩
    exact ⟨z, by rw [upd_ne q1]; exact s1, by rw [upd_ne q2]; exact s2, by rw [upd_ne q3]; exact s3, rr⟩
  · exact tabs_put w.tb (fun ps z => by rw [hH] at z; cases z) (fun ps z => by rw [hH] at z; cases z)
  · constructor
    · rw [putAt_len]; exact ev.len
    · intro j d q
      by_cases z : i = j
      · subst z
        rcases at_put_same q with y | ⟨y, _⟩ <;> cases y
      · rw [at_put_ne z] at q
        exact ev.frz j d q
    · intro j d q
      by_cases z : i = j
      · subst z
        rcases at_put_same q with y | ⟨y, _⟩
        · cases y
        · cases y
          exact ⟨ds', a, vs', rfl, hσ, sn, upd_same, nst, rv, h0⟩
      · rw [at_put_ne z] at q
        obtain ⟨es, c, us, h1, h2, h3, h4, h5, h6, h7⟩ := ev.own j d q
        have : c ≠ a := fun w => z (ev.dst i j _ _ a hi q hσ (by rw [h2, w]))
        exact ⟨es, c, us, h1, h2, h3, by rw [upd_ne this]; exact h4, h5, h6, h7⟩
    · intro j k d f c q1 q2 h1 h2
      have w1 : ∃ d', ρ.at j = some (d', true) := by
        by_cases z : i = j
        · exact ⟨_, z ▸ hi⟩
        · rw [at_put_ne z] at q1
          exact ⟨_, q1⟩
      have w2 : ∃ d', ρ.at k = some (d', true) := by
        by_cases z : i = k
        · exact ⟨_, z ▸ hi⟩
        · rw [at_put_ne z] at q2
          exact ⟨_, q2⟩
      obtain ⟨_, w1⟩ := w1
      obtain ⟨_, w2⟩ := w2
      exact ev.dst j k _ _ c w1 w2 h1 h2
    · intro c o z
      obtain ⟨o', z'⟩ := ev.dom c o z
      exact dm c o' z'
/-- x.append(e) -/
theorem ss_app (hN : X.N[i]? = some x) (hv : Vis X.env.scope x) (hd : (x == ("__debug__" : Str)) = false) (hcd : (x == ("__classdict__" : Str)) = false) (hm : md e = .f) (he : PE X ee (rdE G L e)) (hr : PSs X rest (rdS G L r))
    (hs : starEach [ee] X.env = (false, eval ee X.env) :: starEach [] X.env) (hline : (apos.endLine == p2.line) = true)
    (hfew : ((backTo p2 (starEach [ee] X.env)).all (fun x => !x.1) && (backToKw p2 (keywordEach [] X.env)).all (fun x => x.1.isSome) && decide ([ee].length + ([] : List Keyword).length + (if ([] : List Keyword).isEmpty then 0 else 1) < 30)) = true)
    (hsw : swapsWith (.Call (.Attribute (.Name x p3) "append" apos) [ee] [] p2) none pos.line X.env = pure false) :
    PSs X (.Expr (.Call (.Attribute (.Name x p3) "append" apos) [ee] [] p2) pos :: rest) (rdS G L (.app i e r)) :=
  (pss_cons (ps_expr (pe_bm F.plainAttrs_list F.slot_list_append F.type_list_append mt_append (pe_var hN hv hd hcd) (pa_cons he pa_nil hs) rfl hfew hline hs rfl) hsw) hr).imp fun Dn σ H h => by
    obtain ⟨R, ρ, ρA, H0, S, n, p, hA, hn, hp⟩ := h
    have hw : wgtS L.k L.kh L.t (.app i e r) = wgt L.k L.kh L.t e + wgtS L.k L.kh L.t r := rfl
    rw [hw] at hn hp
    rw [exS] at hp
    obtain ⟨ds, hi, hp⟩ := own_of hp
    obtain ⟨_, a, vs, ed, hσ, h1, h2, h3, h4, h5⟩ := p.here.ev.own i _ hi
    refine ⟨_, hσ, .inl ⟨rfl, vs, .inl (.inl h2)⟩, ⟨R, ρ, H0, S, n, p.here, by omega, wp_mono (fun d hd v S1 H1 b1 q rv => ?_) (fun c d hc => hc.wish p (by omega)) (wp_bind hp)⟩⟩
    rw [hm] at rv
    have p1 := p.step q
    have le := q.le
    obtain ⟨_, a', vs', ed', hσ', h1', h2', h3', h4', h5'⟩ := p1.here.ev.own i _ hi
    rw [hσ] at hσ'
    cases hσ'
    cases ed'
    by_cases hz : ds.length < LIM
    · rw [if_pos hz] at hd
      obtain ⟨g2, p2'⟩ := mut_ok p1 hi hσ h2' h1' h3' h5' (RepL.app h4' (show RepL G.K R S1 [d] [v] from ⟨v, [], rfl, rv, rfl⟩))
      have gs := (q.gr.gs p.here.ev.dom).trans g2
      refine ⟨a, vs', v, rfl, rfl, h2', by rw [sizeLim, h4'.len]; exact hz, ?_⟩
      exact ⟨R, _, ρA, H0, S1, b1, p2', fun j hj => hA j (List.mem_cons_of_mem _ hj), by omega, wp_mono (fun y hy => okS.move hy gs (by omega)) (fun c d hc => badS.move hc gs (by omega)) hd⟩
    · rw [if_neg hz] at hd
      exact hd.elim
/-! ### freezing -/
theorem frzAt_len : ∀ (ρ : Env) (i : Nat), (frzAt ρ i).length = ρ.length
  | [], _ => rfl
  | _ :: _, 0 => rfl
  | _ :: r, i + 1 => by simp [frzAt, frzAt_len r i]
theorem frzAt_ne : ∀ {ρ : Env} {i j : Nat}, i ≠ j → (frzAt ρ i).at j = ρ.at j
  | [], _, _, _ => rfl
  | _ :: _, 0, 0, h => absurd rfl h
  | _ :: _, 0, j + 1, _ => rfl
  | _ :: _, i + 1, 0, _ => rfl
  | _ :: r, i + 1, j + 1, h => frzAt_ne (ρ := r) (i := i) (j := j) (by omega)
theorem frzAt_same : ∀ {ρ : Env} {i : Nat} {p : D × Bool}, (frzAt ρ i).at i = some p → p.2 = false ∧ ∃ o, ρ.at i = some (p.1, o)
  | [], _, _, h => by cases h
  | x :: r, 0, p, h => by
    cases x with
    | none => cases h
    | some q =>
      obtain ⟨d, o⟩ := q
      cases h
      exact ⟨rfl, o, rfl⟩
  | _ :: r, i + 1, p, h => frzAt_same (ρ := r) (i := i) (p := p) h
theorem frz_one {R : Rp} {H0 S H : Hp} {ρA : FK} {ρ : Env} {σ : L2.St} {b : Nat} (i : Nat) (p : Pst G L R H0 ρA ρ σ S H b) : ∃ S', Gs R H0 S H S' H ∧ Pst G L R H0 ρA (frzAt ρ i) σ S' H b := by
  have ev := p.here.ev
  by_cases hi : ∃ d, ρ.at i = some (d, true)
  · obtain ⟨d, hi⟩ := hi
    obtain ⟨ds, a, vs, ed, hσ, h1, h2, h3, h4, h5⟩ := ev.own i d hi
    have ss : Same S (upd S a (.lst vs)) := same_updS h1
    refine ⟨upd S a (.lst vs), ⟨ss, fun c o _ _ e _ _ => e, fun c o0 z => ?_, fun c o e => ⟨o, e⟩⟩, ⟨⟨p.here.fA, p.here.th, p.here.ex, p.here.wd.freeze h2 h3, ?_⟩, p.fev.step ss⟩⟩
    · have : c ≠ a := fun w => by rw [w, h5] at z; cases z
      rw [upd_ne this]
    · constructor
      · rw [frzAt_len]; exact ev.len
      · intro j f q
        by_cases z : i = j
        · subst z
          obtain ⟨_, o, q2⟩ := frzAt_same q
          rw [hi] at q2
          cases q2
          simp only at ed
          exact ⟨_, hσ, by rw [ed]; exact rep_frz (H := H) h1 h4⟩
        · rw [frzAt_ne z] at q
          obtain ⟨v, q1, q2⟩ := ev.frz j f q
          exact ⟨v, q1, Rep.same ss _ _ q2⟩
      · intro j f q
        by_cases z : i = j
        · subst z
          obtain ⟨e, _⟩ := frzAt_same q
          cases e
        · rw [frzAt_ne z] at q
          obtain ⟨es, c, us, g1, g2, g3, g4, g5, g6, g7⟩ := ev.own j f q
          have : c ≠ a := fun w => z (ev.dst i j _ _ a hi q hσ (by rw [g2, w]))
          exact ⟨es, c, us, g1, g2, by rw [upd_ne this]; exact g3, g4, g5, RepL.same ss _ _ g6, g7⟩
      · intro j k f g c q1 q2 e1 e2
        have n1 : i ≠ j := fun z => by
          subst z
          obtain ⟨e, _⟩ := frzAt_same q1
          cases e
        have n2 : i ≠ k := fun z => by
          subst z
          obtain ⟨e, _⟩ := frzAt_same q2
          cases e
        rw [frzAt_ne n1] at q1
        rw [frzAt_ne n2] at q2
        exact ev.dst j k f g c q1 q2 e1 e2
      · exact ev.dom
  · refine ⟨S, Gs.refl R H0 S H, p.here.names (ev.sub (by rw [frzAt_len]; exact ev.len) fun j q e => ⟨?_, rfl⟩), p.fev⟩
    by_cases z : i = j
    · subst z
      obtain ⟨e1, o, e2⟩ := frzAt_same e
      cases o with
      | true => exact (hi ⟨_, e2⟩).elim
      | false =>
        rw [e2]
        obtain ⟨d, o⟩ := q
        cases e1
        rfl
    · rw [frzAt_ne z] at e
      exact e
theorem frz_all {R : Rp} {H0 H : Hp} {ρA : FK} {ρ : Env} {σ : L2.St} {b : Nat} : ∀ {is : List Nat} {S : Hp}, Pst G L R H0 ρA ρ σ S H b → ∃ S', Gs R H0 S H S' H ∧ Pst G L R H0 ρA (freeze ρ is) σ S' H b
  | [], S, p => ⟨S, Gs.refl R H0 S H, p⟩
  | i :: is, S, p => by
    obtain ⟨S1, g1, p1⟩ := frz_all (is := is) p
    obtain ⟨S2, g2, p2⟩ := frz_one i p1
    exact ⟨S2, g1.trans g2, p2⟩
theorem ss_frz {is : List Nat} (hr : PSs X rest (rdS G L r)) : PSs X rest (rdS G L (.frz is r)) := hr.imp fun D σ H h => by
  obtain ⟨R, ρ, ρA, H0, S, b, p, ha, hb, hp⟩ := h
  obtain ⟨S', g, p'⟩ := frz_all (is := is) p
  exact ⟨R, freeze ρ is, ρA, H0, S', b, p', ha, hb, wp_mono (fun x hx => okS.move hx g (Nat.le_refl _)) (fun c d hc => badS.move hc g (Nat.le_refl _)) hp⟩
end
end Cl
set_option autoImplicit false
set_option Elab.async false
set_option linter.all false
set_option maxRecDepth 100000
set_option maxHeartbeats 4000000
/-! What the rules ask of the text's form. -/
namespace Cl
open PySem PySem.Spec PyProof.Rows L2
def nst : Expr → Bool
  | .Starred .. => false
  | _ => true
theorem star_cons {e : Expr} {es : List Expr} {env : PySem.Env} (h : nst e = true) : starEach (e :: es) env = (false, eval e env) :: starEach es env := by
  cases e <;> first | (cases h; done) | rfl
theorem star_all {env : PySem.Env} {pos : Pos} : ∀ {es : List Expr}, es.all nst = true → (backTo pos (starEach es env)).any (·.1) = false
  | [], _ => rfl
  | e :: es, h => by
    simp only [List.all_cons, Bool.and_eq_true] at h
    rw [star_cons h.1]
    show (false || (backTo pos (starEach es env)).any (·.1)) = false
    rw [star_all h.2]
    rfl
theorem star_few {env : PySem.Env} {pos : Pos} {e : Expr} (h : nst e = true) :
    ((backTo pos (starEach [e] env)).all (fun x => !x.1) && (backToKw pos (keywordEach [] env)).all (fun x => x.1.isSome) && decide ([e].length + ([] : List Keyword).length + (if ([] : List Keyword).isEmpty then 0 else 1) < 30)) = true := by
  rw [star_cons h]
  rfl
/-- expressions whose test is their value's truth -/
def plT : Expr → Bool
  | .Name .. => true
  | .Call .. => true
  | .Subscript .. => true
  | .Attribute .. => true
  | .Constant .. => true
  | _ => false
theorem plT_ok {e : Expr} {env : PySem.Env} (h : plT e = true) : ∀ whole, isTrue e env whole = (do let v ← whole; standAt e.pos; holding [v] (truthy v)) := fun whole => by
  cases e <;> first | (cases h; done) | rfl
/-- indices -/
def plI : Expr → Bool
  | .Name .. => true
  | .Call .. => true
  | .Subscript .. => true
  | .Constant .. => true
  | .BinOp .. => true
  | .UnaryOp .. => true
  | .IfExp .. => true
  | _ => false
theorem plI_ok {e : Expr} (h : plI e = true) : PlainIx e := fun o i => by
  cases e <;> first | (cases h; done) | rfl
def nsw : Expr → Bool
  | .ListComp .. => false
  | .SetComp .. => false
  | .DictComp .. => false
  | _ => true
theorem nsw_ok {e : Expr} {t : Option Expr} {l : Nat} {env : PySem.Env} (h : nsw e = true) : swapsWith e t l env = pure false := by
  cases e <;> first | (cases h; done) | rfl
/-- whether a comprehension goes straight to its name -/
def swB (e : Expr) (y : Str) (py : Pos) (sc : Scope) : Bool := match e with
  | .ListComp _ _ s _ => (sc.names.lookup y == some .local) && py.line == e.pos.line && !(s.names.any fun (n, k) => n == y && (k == .local || k == .cell))
  | _ => false
theorem swB_false {e : Expr} {y : Str} {py : Pos} {l : Nat} {env : PySem.Env} (hk : env.scope.kind = .function) (hn : nsw e = true ∨ ∃ a b s p, e = .ListComp a b s p) (h : swB e y py env.scope = false) : swapsWith e (some (.Name y py)) l env = pure false := by
  rcases hn with hn | ⟨a, b, s, p, rfl⟩
  · exact nsw_ok hn
  · have : swapsWith (.ListComp a b s p) (some (.Name y py)) l env = pure (env.blockKind == .function && env.kindOf y == some .local && py.line == (Expr.ListComp a b s p).pos.line && !(s.names.any fun (n, k) => n == y && (k == .local || k == .cell))) := rfl
    rw [this]
    have e1 : (env.blockKind == ScopeKind.function) = true := by simp [Env.blockKind, hk]
    rw [e1, Bool.true_and]
    exact congrArg pure h
theorem swB_true {elt : Expr} {gs : List Comprehension} {s : Scope} {p : Pos} {y : Str} {py : Pos} {l : Nat} {env : PySem.Env} (hk : env.scope.kind = .function) (h : swB (.ListComp elt gs s p) y py env.scope = true) : swapsWith (.ListComp elt gs s p) (some (.Name y py)) l env = pure true ∧ env.scope.names.lookup y = some .local := by
  simp only [swB, Bool.and_eq_true, Bool.not_eq_true'] at h
  obtain ⟨⟨h1, h2⟩, h3⟩ := h
  have h1' : env.scope.names.lookup y = some .local := eq_of_beq h1
  exact ⟨sw_true hk h1' h2 h3, h1'⟩
def nfo : Expr → Bool
  | .Set .. => false
  | _ => true
theorem nfo_ok {e : Expr} {env : PySem.Env} (h : nfo e = true) : ∀ x, foldedSetIterable e env x = pure x := fun x => by
  cases e <;> first | (cases h; done) | rfl
def notTup : Expr → Bool
  | .Tuple .. => false
  | _ => true
theorem nss_ok {t e : Expr} {env : PySem.Env} (h : notTup e = true) : swappedStores [t] e env = pure none := by
  cases e <;> first | (cases h; done) | (cases t <;> rfl)
theorem asg_cons {e : Expr} {es : List Expr} {env : PySem.Env} (h : nst e = true) : assignEach (e :: es) env = (false, assign e env) :: assignEach es env := by
  cases e <;> first | (cases h; done) | rfl
theorem asg_all {env : PySem.Env} : ∀ {es : List Expr}, es.all nst = true → (assignEach es env).length = es.length ∧ (assignEach es env).findIdx? (·.1) = none
  | [], _ => ⟨rfl, rfl⟩
  | e :: es, h => by
    simp only [List.all_cons, Bool.and_eq_true] at h
    obtain ⟨a, b⟩ := asg_all (env := env) h.2
    rw [asg_cons h.1]
    refine ⟨by simp [a], ?_⟩
    rw [List.findIdx?_cons]
    simp [b]
end Cl
set_option autoImplicit false
set_option Elab.async false
set_option linter.all false
set_option maxRecDepth 100000
set_option maxHeartbeats 4000000
/-! Statements: extend, several stores at once. -/
namespace Cl
open PySem PySem.Spec PyProof.Rows L2
section
variable {G : Gl0} {L : Lv} {X : Cx} {e e2 : E} {r : S} {ee eb : Expr} {rest : List Stmt} {pos p2 p3 apos : Pos} {i : Nat} {x : Str}
/-- x.extend(e), e a list -/
theorem ss_ext (hN : X.N[i]? = some x) (hv : Vis X.env.scope x) (hd : (x == ("__debug__" : Str)) = false) (hcd : (x == ("__classdict__" : Str)) = false) (he : PE X ee (rdE G L e)) (hr : PSs X rest (rdS G L r))
    (hs : starEach [ee] X.env = (false, eval ee X.env) :: starEach [] X.env) (hline : (apos.endLine == p2.line) = true)
    (hfew : ((backTo p2 (starEach [ee] X.env)).all (fun x => !x.1) && (backToKw p2 (keywordEach [] X.env)).all (fun x => x.1.isSome) && decide ([ee].length + ([] : List Keyword).length + (if ([] : List Keyword).isEmpty then 0 else 1) < 30)) = true)
    (hsw : swapsWith (.Call (.Attribute (.Name x p3) "extend" apos) [ee] [] p2) none pos.line X.env = pure false) :
    PSs X (.Expr (.Call (.Attribute (.Name x p3) "extend" apos) [ee] [] p2) pos :: rest) (rdS G L (.ext i e r)) :=
  (pss_cons (ps_expr (pe_bm F.plainAttrs_list F.slot_list_extend F.type_list_extend mt_extend (pe_var hN hv hd hcd) (pa_cons he pa_nil hs) rfl hfew hline hs rfl) hsw) hr).imp fun Dn σ H h => by
    obtain ⟨R, ρ, ρA, H0, S, n, p, hA, hn, hp⟩ := h
    have hw : wgtS L.k L.kh L.t (.ext i e r) = wgt L.k L.kh L.t e + wgtS L.k L.kh L.t r := rfl
    rw [hw] at hn hp
    rw [exS] at hp
    obtain ⟨ds, hi, hp⟩ := own_of hp
    obtain ⟨_, a, vs, ed, hσ, h1, h2, h3, h4, h5⟩ := p.here.ev.own i _ hi
    refine ⟨_, hσ, .inl ⟨rfl, vs, .inl (.inl h2)⟩, ⟨R, ρ, H0, S, n, p.here, by omega, wp_mono (fun d hd v S1 H1 b1 q rv => ?_) (fun c d hc => hc.wish p (by omega)) (wp_bind hp)⟩⟩
    have p1 := p.step q
    have le := q.le
    obtain ⟨_, a', vs', ed', hσ', h1', h2', h3', h4', h5'⟩ := p1.here.ev.own i _ hi
    rw [hσ] at hσ'
    cases hσ'
    cases ed'
    cases d with
    | lst es =>
      obtain ⟨c, us, rfl, hc, rc⟩ := rv.lst p1.here.wd.sub
      by_cases hz : ds.length + es.length ≤ LIM
      · simp only [hz, if_true] at hd
        obtain ⟨g2, p2'⟩ := mut_ok p1 hi hσ h2' h1' h3' h5' (RepL.app h4' rc)
        have gs := (q.gr.gs p.here.ev.dom).trans g2
        refine ⟨a, c, vs', us, rfl, rfl, h2', hc, by rw [sizeLim, h4'.len, rc.len]; exact hz, ?_⟩
        exact ⟨R, _, ρA, H0, S1, b1, p2', fun j hj => hA j (List.mem_cons_of_mem _ hj), by omega, wp_mono (fun y hy => okS.move hy gs (by omega)) (fun c d hc => badS.move hc gs (by omega)) hd⟩
      · simp only [hz, if_false] at hd
        exact hd.elim
    | _ => exact hd.elim
/-! ### a, b = x, y -/
theorem rdS_A {s : S} {Dn : Ends} {σ : L2.St} {H : Hp} {f : D → Env → M (Env × Fl)} {w' : Nat} {Z : List V → Hp → Prop} (hm : ∀ m ∈ mds e, m = .f) (h : rdS G L s Dn σ H) (he : ∀ ρ, exS L.F L.tm s ρ = (evE L.F L.tm e ρ).bind fun d => f d ρ) (hw : wgtS L.k L.kh L.t s = wgt L.k L.kh L.t e + w')
    (hrow : ∀ d ρ (Q : Env × Fl → Prop) Ef, wp (f d ρ) Q Ef → ∃ ds, d = .tup ds)
    (z : ∀ R ρ ρA H0 S' H' b' ds vs, Pst G L R H0 ρA ρ σ S' H' b' → (∀ i ∈ asgS s, ρA.at i = none) → b' + w' ≤ BIG → RepL G.K R S' ds vs →
      wp (f (.tup ds) ρ) (okS G L R H0 ρA S' H' b' w' Dn) (badS G L R H0 ρA S' H' b' w') → Z vs H') : rdA G L e σ H Z := by
  obtain ⟨R, ρ, ρA, H0, S, b, p, ha, hb, hp⟩ := h
  rw [hw] at hb hp
  rw [he] at hp
  refine ⟨R, ρ, H0, S, b, p.here, by omega, wp_mono (fun d hd => ?_) (fun c d hc => hc.wish p (by omega)) (wp_bind hp)⟩
  obtain ⟨ds, rfl⟩ := hrow d ρ _ _ hd
  refine ⟨ds, rfl, fun vs S' H' b' q r => ?_⟩
  have le := q.le
  exact z R ρ ρA H0 S' H' b' ds vs (p.step q) ha (by omega) (r.frozen hm) (wp_mono (fun x hx => hx.move (q.gr.gs p.here.ev.dom) (by omega)) (fun c d hc => hc.move (q.gr.gs p.here.ev.dom) (by omega)) hd)
theorem asg_tup {t : Tg} {d : D} {ρ ρ' : Env} {a b : Tg} (ht : t = .cons a b) (h : asg t d ρ = some ρ') : (∃ ds, d = .tup ds) ∨ ∃ ds, d = .lst ds := by
  subst ht
  cases d with
  | tup ds => exact .inl ⟨ds, rfl⟩
  | lst ds => exact .inr ⟨ds, rfl⟩
  | _ => cases h
/-- rows told -/
def isRow : E → Bool
  | .nil => true
  | .cons _ r => isRow r
  | _ => false
theorem row_tup {F : Nat → M D → List D → M D} {tm : M D} {ρ : Env} {Q : D → Prop} {Ef : Nat → D → Prop} (h : isRow e = true) (hp : wp (evE F tm e ρ) Q Ef) : wp (evE F tm e ρ) (fun d => Q d ∧ ∃ ds, d = .tup ds) Ef := by
  cases e with
  | nil => exact ⟨hp, [], rfl⟩
  | cons a r =>
    simp only [evE] at hp ⊢
    refine wp_bind' (wp_mono (fun x hx => ?_) (fun _ _ z => z) (wp_bind hp))
    refine wp_bind' (wp_mono (fun xs hxs => ?_) (fun _ _ z => z) (wp_bind hx))
    cases xs with
    | tup ys => exact ⟨hxs, _, rfl⟩
    | _ => exact hxs.elim
  | _ => cases h
theorem ss_par2 {i j : Nat} {a b : E} {st : Stmt} (hm : md a = .f) (hm' : md b = .f) (hij : i ≠ j) (hp : PS X st (tPar i j (rdA G L (.cons a (.cons b .nil))))) (hr : PSs X rest (rdS G L r)) :
    PSs X (st :: rest) (rdS G L (.sets (.cons (.v i) (.cons (.v j) .nil)) (.cons a (.cons b .nil)) r)) := (pss_cons hp hr).imp fun Dn σ H h => by
  obtain ⟨R, ρ, ρA, H0, S, n, p, hA, hn, hp⟩ := h
  rw [exS] at hp
  have hw : wgtS L.k L.kh L.t (.sets (.cons (.v i) (.cons (.v j) .nil)) (.cons a (.cons b .nil)) r) = wgt L.k L.kh L.t (.cons a (.cons b .nil)) + wgtS L.k L.kh L.t r := rfl
  rw [hw] at hn hp
  refine ⟨R, ρ, H0, S, n, p.here, by omega, wp_mono (fun d hd => ?_) (fun c d hc => hc.wish p (by omega)) (row_tup rfl (wp_bind hp))⟩
  obtain ⟨hd, ds, rfl⟩ := hd
  refine ⟨ds, rfl, fun vs S' H' b' q rv => ?_⟩
  have le := q.le
  have gs := q.gr.gs p.here.ev.dom
  have p1 := p.step q
  have rl := rv.frozen (by intro m hm2; simp only [mds, List.mem_cons, List.not_mem_nil, or_false] at hm2; rcases hm2 with h | h <;> rw [h] <;> assumption)
  have hl := rl.len
  match ds, vs, rl, hd with
  | [d1, d2], vs, rl, hd =>
    obtain ⟨v1, w1, rfl, r1, v2, w2, rfl, r2, rfl⟩ := rl
    refine ⟨v1, v2, rfl, R, _, ρA, H0, S', b', ⟨p1.here.names ((p1.here.ev.put r1).put r2), (p1.fev.set (hA i (by simp [asgS, Tg.slots]))).set (hA j (by simp [asgS, Tg.slots]))⟩, fun k hk => hA k (by simp only [asgS, List.mem_append]; exact .inr hk), by omega, ?_⟩
    exact wp_mono (fun y hy => okS.move hy gs (by omega)) (fun c d hc => badS.move hc gs (by omega)) hd
  | [], _, _, hd => exact hd.elim
  | [_], _, _, hd => exact hd.elim
  | _ :: _ :: _ :: _, _, _, hd => exact hd.elim
/-- a value at its name: frozen, or a new list that is the name's own -/
theorem Ev.putV {R : Rp} {H0 Hc S H : Hp} {ρ : Env} {σ : L2.St} {o : Bool} {d : D} {v : V} {i : Nat} (h : Ev G R H0 ρ σ S H) (hv : VR G R Hc S H (if o then .o else .f) d v) (hc : ∀ c u, H0 c = some u → ∃ u', Hc c = some u')
    (hold : ∀ j e a, j ≠ i → ρ.at j = some (e, true) → σ[j]? = some (some (.ref a)) → ∃ u, Hc a = some u) : Ev G R H0 (putAt ρ i (some (d, o && d.isL))) (σ.set i (some v)) S H := by
  cases o with
  | false => exact h.put hv
  | true =>
    rcases hv with ⟨n, rv⟩ | ⟨ds, q, vs, e1, e2, e3, e4, e5, e6, e7⟩
    · rw [n]
      exact h.put rv
    · subst e1 e2
      refine h.putO e3 e4 e5 e6 (fresh_of hc e7) fun j e hj h1 h2 => ?_
      obtain ⟨u, z⟩ := hold j e q hj h1 h2
      rw [e7] at z
      cases z
/-- a, b = x, y where lists of one's own may be made -/
theorem ss_mset2 {i j : Nat} {o1 o2 : Bool} {a b : E} {st : Stmt} (hm : md a = if o1 then .o else .f) (hm' : md b = if o2 then .o else .f) (hp : PS X st (tPar i j (rdA G L (.cons a (.cons b .nil))))) (hr : PSs X rest (rdS G L r)) :
    PSs X (st :: rest) (rdS G L (.mset [(i, o1), (j, o2)] (.cons a (.cons b .nil)) r)) := (pss_cons hp hr).imp fun Dn σ H h => by
  obtain ⟨R, ρ, ρA, H0, S, n, p, hA, hn, hp⟩ := h
  rw [exS] at hp
  have hw : wgtS L.k L.kh L.t (.mset [(i, o1), (j, o2)] (.cons a (.cons b .nil)) r) = wgt L.k L.kh L.t (.cons a (.cons b .nil)) + wgtS L.k L.kh L.t r := rfl
  rw [hw] at hn hp
  refine ⟨R, ρ, H0, S, n, p.here, by omega, wp_mono (fun d hd => ?_) (fun c d hc => hc.wish p (by omega)) (row_tup rfl (wp_bind hp))⟩
  obtain ⟨hd, ds, rfl⟩ := hd
  refine ⟨ds, rfl, fun vs S' H' b' q rv => ?_⟩
  have le := q.le
  have gs := q.gr.gs p.here.ev.dom
  have p1 := p.step q
  have old : ∀ j d a, ρ.at j = some (d, true) → σ[j]? = some (some (.ref a)) → ∃ o, H a = some o := fun j d a h1 h2 => by
    obtain ⟨ds, a', vs, _, e2, _, e4, _⟩ := p.here.ev.own j d h1
    rw [h2] at e2
    cases e2
    exact ⟨_, e4⟩
  have hl := rv.len
  match ds, vs, rv, hd with
  | [d1, d2], vs, rv, hd =>
    cases rv with
    | @cons _ H1 _ _ _ _ v1 vs1 h1 f1 n1 rv2 =>
    cases rv2 with
    | @cons _ H2 _ _ _ _ v2 vs2 h2 f2 n2 rv3 =>
    cases rv3
    rw [hm] at h1 n1
    rw [hm'] at h2
    have E1 := p1.here.ev.putV (i := i) h1 p.here.ev.dom fun k e c _ z1 z2 => old k e c z1 z2
    have E2 := E1.putV (i := j) h2 (fun c u z => by
      obtain ⟨u', z'⟩ := p.here.ev.dom c u z
      exact f1 c u' z') fun k e c hk z1 z2 => by
      by_cases hki : i = k
      · subst hki
        rcases at_put_same z1 with y | ⟨y, l⟩
        · cases y
        · simp only [Option.some.injEq, Prod.mk.injEq] at y
          have yo : o1 = true ∧ d1.isL = true := by simpa using y.2.symm
          rw [List.getElem?_set_self (by rw [p1.here.ev.len]; exact l)] at z2
          exact n1 c (Option.some.inj (Option.some.inj z2)) (by rw [yo.1]; rfl) yo.2
      · rw [at_put_ne hki] at z1
        rw [List.getElem?_set_ne hki] at z2
        obtain ⟨u', z'⟩ := old k e c z1 z2
        exact f1 c u' z'
    simp only [List.length_cons, List.length_nil, if_true] at hd
    refine ⟨v1, v2, rfl, R, _, ρA, H0, S', b', ⟨p1.here.names E2, (p1.fev.set (hA i (by simp [asgS]))).set (hA j (by simp [asgS]))⟩, fun k hk => hA k (by simp only [asgS, List.mem_append]; exact .inr hk), by omega, ?_⟩
    exact wp_mono (fun y hy => okS.move hy gs (by omega)) (fun c d hc => badS.move hc gs (by omega)) hd
  | [], _, _, hd => exact (by simp at hd; exact hd.elim)
  | [_], _, _, hd => exact (by simp at hd; exact hd.elim)
  | _ :: _ :: _ :: _, _, _, hd => exact (by simp at hd; exact hd.elim)
theorem ss_par3 {i j l : Nat} {a b c : E} {st : Stmt} (hm : md a = .f) (hm' : md b = .f) (hm2 : md c = .f) (hp : PS X st (tPar3 i j l (rdA G L (.cons a (.cons b (.cons c .nil)))))) (hr : PSs X rest (rdS G L r)) :
    PSs X (st :: rest) (rdS G L (.sets (.cons (.v i) (.cons (.v j) (.cons (.v l) .nil))) (.cons a (.cons b (.cons c .nil))) r)) := (pss_cons hp hr).imp fun Dn σ H h => by
  obtain ⟨R, ρ, ρA, H0, S, n, p, hA, hn, hp⟩ := h
  rw [exS] at hp
  have hw : wgtS L.k L.kh L.t (.sets (.cons (.v i) (.cons (.v j) (.cons (.v l) .nil))) (.cons a (.cons b (.cons c .nil))) r) = wgt L.k L.kh L.t (.cons a (.cons b (.cons c .nil))) + wgtS L.k L.kh L.t r := rfl
  rw [hw] at hn hp
  refine ⟨R, ρ, H0, S, n, p.here, by omega, wp_mono (fun d hd => ?_) (fun c d hc => hc.wish p (by omega)) (row_tup rfl (wp_bind hp))⟩
  obtain ⟨hd, ds, rfl⟩ := hd
  refine ⟨ds, rfl, fun vs S' H' b' q rv => ?_⟩
  have le := q.le
  have gs := q.gr.gs p.here.ev.dom
  have p1 := p.step q
  have rl := rv.frozen (by intro m hm3; simp only [mds, List.mem_cons, List.not_mem_nil, or_false] at hm3; rcases hm3 with h | h | h <;> rw [h] <;> assumption)
  match ds, vs, rl, hd with
  | [d1, d2, d3], vs, rl, hd =>
    obtain ⟨v1, w1, rfl, r1, v2, w2, rfl, r2, v3, w3, rfl, r3, rfl⟩ := rl
    refine ⟨v1, v2, v3, rfl, R, _, ρA, H0, S', b', ⟨p1.here.names (((p1.here.ev.put r1).put r2).put r3), ((p1.fev.set (hA i (by simp [asgS, Tg.slots]))).set (hA j (by simp [asgS, Tg.slots]))).set (hA l (by simp [asgS, Tg.slots]))⟩, fun k hk => hA k (by simp only [asgS, List.mem_append]; exact .inr hk), by omega, ?_⟩
    exact wp_mono (fun y hy => okS.move hy gs (by omega)) (fun c d hc => badS.move hc gs (by omega)) hd
  | [], _, _, hd => exact hd.elim
  | [_], _, _, hd => exact hd.elim
  | [_, _], _, _, hd => exact hd.elim
  | _ :: _ :: _ :: _ :: _, _, _, hd => exact hd.elim
/-! ### whether the stores are swapped -/
def locE (sc : Scope) : Expr → Bool
  | .Name x _ => sc.names.lookup x == some .local
  | _ => false
def posL : Expr → Nat := fun e => e.pos.line
/-- swapped for sure -/
def swY (ts vs : List Expr) : Bool := !(vs.all (foldedForSure 8)) && !(vs.all (constantsAlone 8)) && vs.all nst
theorem sw2 {env : PySem.Env} {x y : Str} {px py pt pt2 : Pos} {kt k2 : Nat} {a b : Expr} (hk : env.scope.kind = .function) (hx : env.scope.names.lookup x = some .local) (hy : env.scope.names.lookup y = some .local) (hl : (py.line == px.line) = true) (hxy : x ≠ y) (h : swY [] [a, b] = true) :
    swappedStores [.Tuple [.Name x px, .Name y py] kt pt] (.Tuple [a, b] k2 pt2) env = pure (some [x, y]) := by
  simp only [swY, Bool.and_eq_true, Bool.not_eq_true'] at h
  obtain ⟨⟨h1, h2⟩, h3⟩ := h
  simp only [List.all_cons, List.all_nil, Bool.and_true, Bool.and_eq_true] at h3
  have e1 : env.kindOf x = some .local := hx
  have e2 : env.kindOf y = some .local := hy
  have e3 : (y == x) = false := beq_false_of_ne (Ne.symm hxy)
  have e4 : (env.blockKind != ScopeKind.function) = false := by simp [Env.blockKind, hk]
  unfold swappedStores
  simp only [List.length_cons, List.length_nil, e4, h1, h2]
  simp [e1, e2, hl, List.filterMap, Expr.pos, List.eraseDups, List.eraseDupsBy, List.eraseDupsBy.loop, e3]
  intro z
  rcases z with z | z
  · cases a <;> first | (cases z; done) | (cases h3.1; done)
  · cases b <;> first | (cases z; done) | (cases h3.2; done)
theorem sw3 {env : PySem.Env} {x y z : Str} {px py pz pt pt2 : Pos} {kt k2 : Nat} {a b c : Expr} (hk : env.scope.kind = .function) (hx : env.scope.names.lookup x = some .local) (hy : env.scope.names.lookup y = some .local) (hz : env.scope.names.lookup z = some .local)
    (hl : (py.line == px.line) = true) (hl2 : (pz.line == px.line) = true) (hxy : x ≠ y) (hxz : x ≠ z) (hyz : y ≠ z) (h : swY [] [a, b, c] = true) :
    swappedStores [.Tuple [.Name x px, .Name y py, .Name z pz] kt pt] (.Tuple [a, b, c] k2 pt2) env = pure (some [x, y, z]) := by
  simp only [swY, Bool.and_eq_true, Bool.not_eq_true'] at h
  obtain ⟨⟨h1, h2⟩, h3⟩ := h
  simp only [List.all_cons, List.all_nil, Bool.and_true, Bool.and_eq_true] at h3
  have e1 : env.kindOf x = some .local := hx
  have e2 : env.kindOf y = some .local := hy
  have e5 : env.kindOf z = some .local := hz
  have e3 : (y == x) = false := beq_false_of_ne (Ne.symm hxy)
  have e6 : (z == x) = false := beq_false_of_ne (Ne.symm hxz)
  have e7 : (z == y) = false := beq_false_of_ne (Ne.symm hyz)
  have e4 : (env.blockKind != ScopeKind.function) = false := by simp [Env.blockKind, hk]
  unfold swappedStores
  simp only [List.length_cons, List.length_nil, e4, h1, h2]
  simp [e1, e2, e5, hl, hl2, List.filterMap, Expr.pos, List.eraseDups, List.eraseDupsBy, List.eraseDupsBy.loop, e3, e6, e7]
  intro w
  rcases w with w | w | w
  · cases a <;> first | (cases w; done) | (cases h3.1; done)
  · cases b <;> first | (cases w; done) | (cases h3.2.1; done)
  · cases c <;> first | (cases w; done) | (cases h3.2.2; done)
/-- not swapped: a target that is no plain local, or constants alone -/
def swN (sc : Scope) (ts vs : List Expr) : Bool := decide (ts.length ≠ vs.length) || (!(ts.length == 2 || ts.length == 3)) || (vs.any fun | .Starred .. => true | _ => false) || ts.any (fun e => !locE sc e) || vs.all (foldedForSure 8)
theorem fm_all {f : Expr → Option Str} : ∀ {ts : List Expr}, (ts.filterMap f).length = ts.length → ∀ e ∈ ts, (f e).isSome = true
  | [], _, e, he => by cases he
  | t :: ts, h, e, he => by
    cases q : f t with
    | none =>
      rw [List.filterMap_cons_none q] at h
      have := List.length_filterMap_le f ts
      simp at h
      omega
    | some y =>
      rw [List.filterMap_cons_some q] at h
      simp only [List.length_cons, Nat.add_right_cancel_iff] at h
      rcases List.mem_cons.mp he with z | z
      · rw [z, q]; rfl
      · exact fm_all h e z
theorem swN_ok {env : PySem.Env} {ts vs : List Expr} {kt k2 : Nat} {pt pt2 : Pos} (h : swN env.scope ts vs = true) : swappedStores [.Tuple ts kt pt] (.Tuple vs k2 pt2) env = pure none := by
  unfold swappedStores
  dsimp only
  split
  · rfl
  split
  · rfl
  split
  · rfl
  rename_i h1 h2 h3
  simp only [Bool.or_eq_true, not_or, Bool.not_eq_true, bne_iff_ne, ne_eq, Decidable.not_not] at h1 h3
  obtain ⟨⟨h1a, h1b⟩, h1c⟩ := h1
  obtain ⟨h3a, h3b⟩ := h3
  simp only [swN, Bool.or_eq_true, decide_eq_true_eq] at h
  rcases h with (((h | h) | h) | h) | h
  · exact absurd h1b.symm h
  · rw [h] at h1a; cases h1a
  · exact absurd h h2
  · exfalso
    obtain ⟨e, he, hl⟩ := List.any_eq_true.mp h
    have z := fm_all h3a e he
    simp only [Bool.not_eq_true'] at hl
    cases e <;> first | (cases z; done) | skip
    rename_i id pos
    simp only [locE] at hl
    have hl' : (env.kindOf id == some NameKind.local) = false := hl
    simp only [hl', Bool.false_and, Bool.false_eq_true, if_false] at z
    cases z
  · rw [h]
    rfl
end
end Cl
set_option autoImplicit false
set_option Elab.async false
set_option linter.all false
set_option maxRecDepth 100000
set_option maxHeartbeats 4000000
/-! a, b, .. = x, y, .. by way of a tuple; lists of one's own among the values. -/
namespace Cl
open PySem PySem.Spec PyProof.Rows L2
def setsV : L2.St → List Nat → List V → L2.St
  | σ, i :: is, v :: vs => setsV (σ.set i (some v)) is vs
  | σ, _, _ => σ
def tRow (is : List Nat) (ta : TA) : TS := fun D σ H => ta σ H fun vs H1 => vs.length = is.length ∧ D.nx (setsV σ is vs) H1
/-- a target's names, each stored to -/
def gsOf : List Nat → TGs
  | [] => gNil
  | i :: is => gCons (gName i) (gsOf is)
theorem gs_of : ∀ (is : List Nat) (vs : List V) (σ : L2.St) (H : Hp) (Q : L2.St → Hp → Prop), vs.length = is.length → Q (setsV σ is vs) H → gsOf is vs σ H Q
  | [], [], σ, H, Q, _, h => ⟨rfl, h⟩
  | i :: is, v :: vs, σ, H, Q, hl, h => ⟨v, vs, rfl, gs_of is vs (σ.set i (some v)) H Q (by simpa using hl) h⟩
  | [], _ :: _, _, _, _, hl, _ => by cases hl
  | _ :: _, [], _, _, _, hl, _ => by cases hl
def allN : List Expr → Bool
  | [] => true
  | .Name _ _ :: es => allN es
  | _ => false
theorem names_each {env : PySem.Env} : ∀ {es : List Expr}, allN es = true → (assignEach es env).length = es.length ∧ (assignEach es env).findIdx? (·.1) = none
  | [], _ => ⟨rfl, rfl⟩
  | .Name x p :: es, h => by
    obtain ⟨h1, h2⟩ := names_each (env := env) (es := es) h
    have e : assignEach (.Name x p :: es) env = (false, assign (.Name x p) env) :: assignEach es env := rfl
    rw [e]
    refine ⟨by simp [h1], ?_⟩
    rw [List.findIdx?_cons]
    simp [h2]
section
variable {G : Gl0} {L : Lv} {X : Cx} {e : E} {r : S} {rest : List Stmt} {pos : Pos}
theorem ps_row {is : List Nat} {tes es : List Expr} {ta : TA} {kt k2 : Nat} {pt pt2 : Pos} (hc : X.calm = true) (ha : PA X es ta) (hg : PGs X tes (gsOf is)) (hn : allN tes = true) (hl : tes.length = is.length) (hsz : es.length ≤ LIM) (hle : es.length = is.length)
    (hw : swappedStores [.Tuple tes kt pt] (.Tuple es k2 pt2) X.env = pure none) (hs : swapsWithSole [.Tuple tes kt pt] (.Tuple es k2 pt2) pos.line X.env = pure false) :
    PS X (.Assign [.Tuple tes kt pt] (.Tuple es k2 pt2) pos) (tRow is ta) := by
  refine ⟨fun pins s σ H D I h => ?_⟩
  refine wpAny_Assign_stores (Tuple_ (thn (ha.run _ pins s σ H _ I h) fun us s1 ⟨vs, H1, I1, r1, q1, q2⟩ => ?_)) hs hw
  have hlen : us.length = vs.length := r1.length.symm
  refine wpAny_newObj_type ?_ (by show us.toArray.size ≤ sizeLine; rw [List.size_toArray, hlen, q1, ← hle, sizeLim]; exact hsz)
  have I2 : Inv X pins σ H1 { s1 with heap := s1.heap.push { cls := .type "tuple", data := .seq us.toArray } } := I1.kept (t' := s1.toks) fun b o e => Heap.get?_push_of_some _ e
  obtain ⟨h1, h2⟩ := names_each (env := X.env) hn
  show wpAny _ _ (assign (.Tuple tes kt pt) X.env (.ref s1.heap.objs.size)) _ _ _
  refine assign_Tuple_tuple (items := us.toArray) (I.ok.hd hc) (IsTup.new s1.heap _) (by rw [h1, hl, List.size_toArray, hlen, q1]) h2 fun h' hx => ?_
  have I3 := I2.kept (h' := h') (t' := s1.toks) fun b o e => hx b o (Nat.ne_of_lt (Heap.lt_size e)) e
  exact wpAny_mono (hg.run pins _ σ H1 vs us (fun σ' H' => D.nx σ' H') I3 (by simpa using r1) (gs_of is vs σ H1 _ q1 q2)) (fun _ _ x => x) fun _ _ x => x
/-- values at their names, one after the other -/
theorem Ev.putsV {R : Rp} {H0 S H : Hp} : ∀ {ts : List (Nat × Bool)} {ds : List D} {vs : List V} {Hc : Hp} {ρ : Env} {σ : L2.St}, Ev G R H0 ρ σ S H → VRs G R S H Hc (ts.map fun t => if t.2 then .o else .f) ds vs → (∀ c u, H0 c = some u → ∃ u', Hc c = some u') →
    (∀ j e a, ρ.at j = some (e, true) → σ[j]? = some (some (.ref a)) → ∃ u, Hc a = some u) → Ev G R H0 (putAll ρ ts ds) (setsV σ (ts.map (·.1)) vs) S H
  | [], ds, vs, Hc, ρ, σ, h, rv, hc, old => by
    cases rv
    exact h
  | (i, o) :: ts, ds, vs, Hc, ρ, σ, h, rv, hc, old => by
    cases rv with
    | @cons _ H1 _ _ d ds v vs h1 f1 n1 rv2 =>
    have E1 := h.putV (i := i) (o := o) h1 hc fun k e c _ z1 z2 => old k e c z1 z2
    refine Ev.putsV (ts := ts) (Hc := H1) E1 rv2 (fun c u z => ?_) fun k e c z1 z2 => ?_
    · obtain ⟨u', z'⟩ := hc c u z
      exact f1 c u' z'
    · by_cases hki : i = k
      · subst hki
        rcases at_put_same z1 with y | ⟨y, l⟩
        · cases y
        · simp only [Option.some.injEq, Prod.mk.injEq] at y
          have yo : o = true ∧ d.isL = true := by simpa using y.2.symm
          rw [List.getElem?_set_self (by rw [h.len]; exact l)] at z2
          exact n1 c (Option.some.inj (Option.some.inj z2)) (by rw [yo.1]; rfl) yo.2
      · rw [at_put_ne hki] at z1
        rw [List.getElem?_set_ne hki] at z2
        obtain ⟨u', z'⟩ := old k e c z1 z2
        exact f1 c u' z'
theorem FEv.setsV {R : Rp} {ρA : FK} {S : Hp} : ∀ {is : List Nat} {vs : List V} {σ : L2.St}, FEv G R ρA σ S → (∀ i ∈ is, ρA.at i = none) → FEv G R ρA (setsV σ is vs) S
  | [], vs, σ, h, _ => by cases vs <;> exact h
  | i :: is, [], σ, h, _ => h
  | i :: is, v :: vs, σ, h, n => FEv.setsV (is := is) (vs := vs) (h.set (n i List.mem_cons_self)) fun j hj => n j (List.mem_cons_of_mem _ hj)
theorem ss_mset {ts : List (Nat × Bool)} {st : Stmt} (hrow : isRow e = true) (hm : mds e = ts.map fun t => if t.2 then .o else .f) (hp : PS X st (tRow (ts.map (·.1)) (rdA G L e))) (hr : PSs X rest (rdS G L r)) :
    PSs X (st :: rest) (rdS G L (.mset ts e r)) := (pss_cons hp hr).imp fun Dn σ H h => by
  obtain ⟨R, ρ, ρA, H0, S, n, p, hA, hn, hp⟩ := h
  rw [exS] at hp
  have hw : wgtS L.k L.kh L.t (.mset ts e r) = wgt L.k L.kh L.t e + wgtS L.k L.kh L.t r := rfl
  rw [hw] at hn hp
  refine ⟨R, ρ, H0, S, n, p.here, by omega, wp_mono (fun d hd => ?_) (fun c d hc => hc.wish p (by omega)) (row_tup hrow (wp_bind hp))⟩
  obtain ⟨hd, ds, rfl⟩ := hd
  refine ⟨ds, rfl, fun vs S' H' b' q rv => ?_⟩
  have le := q.le
  have gs := q.gr.gs p.here.ev.dom
  have p1 := p.step q
  have hl := rv.len
  dsimp only at hd
  split at hd
  · rename_i hlen
    rw [hm] at rv
    have E2 := p1.here.ev.putsV rv p.here.ev.dom fun j d a h1 h2 => by
      obtain ⟨ds, a', vs, _, e2, _, e4, _⟩ := p.here.ev.own j d h1
      rw [h2] at e2
      cases e2
      exact ⟨_, e4⟩
    refine ⟨by simp [hl, hlen], R, _, ρA, H0, S', b', ⟨p1.here.names E2, p1.fev.setsV fun i hi => hA i (by simp only [asgS, List.mem_append]; exact .inl hi)⟩, fun k hk => hA k (by simp only [asgS, List.mem_append]; exact .inr hk), by omega, ?_⟩
    exact wp_mono (fun y hy => okS.move hy gs (by omega)) (fun c d hc => badS.move hc gs (by omega)) hd
  · exact hd.elim
theorem ss_mset3 {i j l : Nat} {o1 o2 o3 : Bool} {a b c : E} {st : Stmt} (hm : mds (.cons a (.cons b (.cons c .nil))) = [if o1 then .o else .f, if o2 then .o else .f, if o3 then .o else .f]) (hp : PS X st (tPar3 i j l (rdA G L (.cons a (.cons b (.cons c .nil)))))) (hr : PSs X rest (rdS G L r)) :
    PSs X (st :: rest) (rdS G L (.mset [(i, o1), (j, o2), (l, o3)] (.cons a (.cons b (.cons c .nil))) r)) := (pss_cons hp hr).imp fun Dn σ H h => by
  obtain ⟨R, ρ, ρA, H0, S, n, p, hA, hn, hp⟩ := h
  rw [exS] at hp
  have hw : wgtS L.k L.kh L.t (.mset [(i, o1), (j, o2), (l, o3)] (.cons a (.cons b (.cons c .nil))) r) = wgt L.k L.kh L.t (.cons a (.cons b (.cons c .nil))) + wgtS L.k L.kh L.t r := rfl
  rw [hw] at hn hp
  refine ⟨R, ρ, H0, S, n, p.here, by omega, wp_mono (fun d hd => ?_) (fun c d hc => hc.wish p (by omega)) (row_tup rfl (wp_bind hp))⟩
  obtain ⟨hd, ds, rfl⟩ := hd
  refine ⟨ds, rfl, fun vs S' H' b' q rv => ?_⟩
  have le := q.le
  have gs := q.gr.gs p.here.ev.dom
  have p1 := p.step q
  have hl := rv.len
  dsimp only at hd
  split at hd
  · rename_i hlen
    rw [hm] at rv
    have E2 := p1.here.ev.putsV (ts := [(i, o1), (j, o2), (l, o3)]) rv p.here.ev.dom fun j d a h1 h2 => by
      obtain ⟨ds, a', vs, _, e2, _, e4, _⟩ := p.here.ev.own j d h1
      rw [h2] at e2
      cases e2
      exact ⟨_, e4⟩
    have hv : vs.length = 3 := by rw [hl, hlen]; rfl
    match vs, hv with
    | [v1, v2, v3], _ =>
      refine ⟨v1, v2, v3, rfl, R, _, ρA, H0, S', b', ⟨p1.here.names E2, p1.fev.setsV (is := [i, j, l]) (vs := [v1, v2, v3]) fun i hi => hA i (by simp only [asgS, List.mem_append]; exact .inl hi)⟩, fun k hk => hA k (by simp only [asgS, List.mem_append]; exact .inr hk), by omega, ?_⟩
      exact wp_mono (fun y hy => okS.move hy gs (by omega)) (fun c d hc => badS.move hc gs (by omega)) hd
  · exact hd.elim
end
end Cl
set_option autoImplicit false
set_option Elab.async false
set_option linter.all false
set_option maxRecDepth 100000
set_option maxHeartbeats 4000000
/-! The first place of a value in a list; how often it stands there. -/
namespace Cl
open PySem PySem.Spec PyProof.Rows L2
section
variable {G : Gl0} {L : Lv} {X : Cx} {a b : E} {ea eb : Expr} {pos apos : Pos}
/-- it is a list -/
def tyLst (K : PySem.W.Frag) (x : V) (H : Hp) : Prop := ∃ (p : Addr) (xs : List V), x = .ref p ∧ SqL K H p xs
theorem ty_lst : TyOk X "list" (tyLst X.K) := by
  intro pins σ H s x v I r ty
  obtain ⟨p, xs, rfl, hq⟩ := ty
  cases r
  obtain ⟨its, _, pl, _⟩ := I.list hq
  refine ⟨pl.isList.typeIs, fun a e => ?_⟩
  cases e
  obtain ⟨o, n, e, c, hd, _⟩ := pl
  exact ⟨o, e, hd⟩
def rCountL (K : PySem.W.Frag) : V → List V → Hp → VK → Prop := fun x xs H Q => ∃ (a : Addr) (y : V) (d : PyData) (ds : List PyData), x = V.ref a ∧ xs = [y] ∧ Dp K H (V.ref a) (.list ds) ∧ Dp K H y d ∧
  SeqAt.shaped (.list ds) = true ∧ SeqAt.shaped d = true ∧ Q (.int ((ds.countP fun z => PyData.eqv z d : Nat) : Int)) H
theorem mt_countL (hu : X.A.units + 65 < cLine) : MtR X "list.count" (rCountL X.K) := by
  intro pins s σ H x xs v us Q I rx rxs h
  obtain ⟨a, y, d, ds, rfl, rfl, hl, hy, sl, sd, q⟩ := h
  cases rx
  cases rxs with
  | cons ry rt =>
    rename_i uy ut
    cases rt
    obtain ⟨bs, r1⟩ := Dp.reads I d y uy hy ry
    have hxs : PyData.canLayAll0 ds = true := SeqAt.canLay_of_shaped sl
    have hroom : X.A.units + 1 + min (PyData.depthAll ds) d.depth < cLine := room_in_shaped sd hu
    cases hl with
    | lst hs ha =>
      obtain ⟨its, rv, ⟨⟨cls, dd, data, sls⟩, n, ho, hc, hdn, hdt⟩, hlen⟩ := I.list hs
      simp only at hc hdt
      subst hc hdt
      obtain ⟨as, h4⟩ := Dp.readsAll I ds _ its ha rv
      have hmap : its.map (SeqAt.readOf s.heap) = ds := SeqAt.readsAll_map ds its as hxs h4
      refine call_meets PySem.F.slot_list_count ⟨_, ho, rfl⟩ PySem.F.entry_list_count (PySem.F.args_list_count_2 _ _)
        (SeqAt.list_countAt a its.toArray n dd sls uy (fun u => PyData.eqv (SeqAt.readOf s.heap u) d)) ⟨ho, SeqAt.items_eqAt (vs := its.toArray) (show ReadsAll s.heap its.toArray.toList ds as from h4) r1 hxs (SeqAt.canLay_of_shaped sd) hroom, ?_⟩
      have e : its.toArray.toList.countP (fun u => PyData.eqv (SeqAt.readOf s.heap u) d) = ds.countP fun z => PyData.eqv z d := by
        rw [← hmap, List.countP_map]
        rfl
      rw [e]
      exact ⟨.int _, H, I.tok _, ⟨_, rfl⟩, q⟩
theorem count_eqv {x : D} {n m : Nat} (fx : D.fit m x = true) : ∀ {ds : List D}, D.fits n ds = true → ((toPys ds).countP fun z => PyData.eqv z (toPy x)) = ds.countP fun z => D.eqv z x
  | [], _ => rfl
  | d :: ds, f => by
    simp only [D.fits, Bool.and_eq_true] at f
    rw [toPys, List.countP_cons, List.countP_cons, fit_eqv d x n m f.1 fx, count_eqv fx f.2]
theorem find_at {x : D} : ∀ {ds : List D} {o k : Nat}, findD x ds o = some k → o ≤ k ∧ (∃ z, ds[k - o]? = some z ∧ D.eqv z x = true) ∧ ∀ (i : Nat) (z : D), i < k - o → ds[i]? = some z → D.eqv z x = false
  | [], o, k, h => by cases h
  | y :: ds, o, k, h => by
    unfold findD at h
    split at h
    · rename_i e
      cases h
      refine ⟨Nat.le_refl _, ⟨y, by rw [Nat.sub_self]; rfl, e⟩, fun i z hi _ => by omega⟩
    · rename_i e
      obtain ⟨h1, ⟨z, h2, h3⟩, h4⟩ := find_at h
      refine ⟨by omega, ⟨z, ?_, h3⟩, fun i w hi hw => ?_⟩
      · rw [show k - o = (k - (o + 1)) + 1 by omega]
        simpa using h2
      · cases i with
        | zero =>
          simp at hw
          subst hw
          simpa using e
        | succ i => exact h4 i w (by omega) (by simpa using hw)
theorem toPys_get {ds : List D} {i : Nat} : (toPys ds)[i]? = ds[i]?.map toPy := by rw [toPys_map, List.getElem?_map]
theorem fits_get {n : Nat} : ∀ {ds : List D} {i : Nat} {z : D}, D.fits n ds = true → ds[i]? = some z → D.fit n z = true
  | [], i, z, _, h => by simp at h
  | d :: ds, 0, z, f, h => by
    simp only [D.fits, Bool.and_eq_true] at f
    simp at h
    subst h
    exact f.1
  | d :: ds, i + 1, z, f, h => by
    simp only [D.fits, Bool.and_eq_true] at f
    exact fits_get f.2 (by simpa using h)
def mtName : Mt → Str
  | .index => "index"
  | .count => "count"
def mtId : Mt → String
  | .index => "list.index"
  | .count => "list.count"
def rMt (K : PySem.W.Frag) : Mt → V → List V → Hp → VK → Prop
  | .index => rIndexD K
  | .count => rCountL K
theorem mt_ok (hu : X.A.units + 65 < cLine) : ∀ m : Mt, MtR X (mtId m) (rMt X.K m)
  | .index => mt_indexD hu
  | .count => mt_countL hu
/-- a list's method, by what stands there -/
theorem mt_out (hK : X.K = G.K) {R : Rp} {H0 H1 S H : Hp} {n : Nat} {m1 m2 : Md} {m : Mt} {xs : List D} {d : D} {v u : V} {Q : VK} {Ef : Nat → D → Prop} (w : Wd G R S H n) (r1 : VR G R H0 S H m1 (.lst xs) v) (r2 : VR G R H1 S H m2 d u)
    (o : wp (methV m (.lst xs) d) (Out G R H0 S H n .f Q) Ef) : rMt X.K m v [u] H Q := by
  obtain ⟨p, vs, rfl, sp, rp⟩ := r1.lst w.sub
  have fits_up : D.fits 60 xs = true → D.fit 61 (.lst xs) = true := fun f => by simpa only [D.fit] using f
  cases m with
  | count =>
    have o' : wp (if D.fits 60 xs && D.fit 60 d then M.ok (D.int ((xs.countP fun y => D.eqv y d : Nat) : Int)) else .stuck) (Out G R H0 S H n .f Q) Ef := o
    split at o'
    · rename_i hz
      rw [Bool.and_eq_true] at hz
      have hd := r1.dp w.sub (fits_up hz.1)
      refine ⟨p, u, toPy d, toPys xs, rfl, rfl, by rw [hK]; simpa only [toPy] using hd, by rw [hK]; exact r2.dp w.sub hz.2, by simpa only [toPy] using fit_shaped (fits_up hz.1) (by omega), fit_shaped hz.2 (by omega), ?_⟩
      rw [count_eqv hz.2 hz.1]
      exact out_same o' w rfl rfl
    · exact o'.elim
  | index =>
    have o' : wp (if D.fits 60 xs && D.fit 60 d then (match findD d xs 0 with | some n => M.ok (D.int (n : Nat)) | none => .stuck) else .stuck) (Out G R H0 S H n .f Q) Ef := o
    split at o'
    · rename_i hz
      rw [Bool.and_eq_true] at hz
      have hd := r1.dp w.sub (fits_up hz.1)
      cases e : findD d xs 0 with
      | none => rw [e] at o'; exact o'.elim
      | some k =>
        rw [e] at o'
        obtain ⟨_, ⟨z, h2, h3⟩, h4⟩ := find_at e
        rw [Nat.sub_zero] at h2 h4
        refine ⟨p, u, toPy d, toPys xs, k, toPy z, rfl, rfl, by rw [hK]; simpa only [toPy] using hd, by rw [hK]; exact r2.dp w.sub hz.2, by simpa only [toPy] using fit_shaped (fits_up hz.1) (by omega), fit_shaped hz.2 (by omega), by rw [toPys_get, h2]; rfl, ?_, fun i z' hi hz' => ?_, out_same o' w rfl rfl⟩
        · rw [fit_eqv z d 60 60 (fits_get hz.1 h2) hz.2]
          exact h3
        · rw [toPys_get] at hz'
          cases ey : xs[i]? with
          | none => rw [ey] at hz'; cases hz'
          | some y =>
            rw [ey] at hz'
            cases hz'
            rw [fit_eqv y d 60 60 (fits_get hz.1 ey) hz.2]
            exact h4 i y hi ey
    · exact o'.elim
/-- what a receiver may be, so that its name is looked up at once -/
def baseB : Expr → Bool
  | .Call (.Name _ _) [] [] _ => false
  | _ => true
theorem base_ok {o : Expr} {name : Str} {env : PySem.Env} {whole : Sem Value} (h : baseB o = true) : attributeBase o name env whole = whole := by
  unfold attributeBase
  split
  · cases h
  · rfl
theorem rd_meth {m : Mt} {σ : L2.St} {H : Hp} {Q : VK} (hK : X.K = G.K) (h : rdE G L (.meth m a b) σ H Q) : tMG (tyLst X.K) (rMt X.K m) (rdE G L a) (tCons (rdE G L b) tNil) σ H Q := by
  obtain ⟨R, ρ, H0, S, n, hh, hb, hp⟩ := h
  simp only [wgt] at hb
  simp only [evE] at hp
  refine ⟨R, ρ, H0, S, n, hh, by omega, ?_⟩
  refine wp_mono (fun d hd v S1 H1 b1 q1 hv => ?_) (fun c d hc dx S' H' b' hq => hc dx S' H' b' (hq.more (by simp only [wgt]; omega))) (wp_bind hp)
  cases d with
  | lst xs =>
    have hd' := wp_bind hd
    refine ⟨?_, R, ρ, H0, S1, b1, hh.step q1, by have := q1.le; omega, ?_⟩
    · obtain ⟨p, vs, rfl, sp, rp⟩ := hv.lst q1.wd.sub
      exact ⟨p, vs, rfl, .inl (.inl sp)⟩
    refine wp_mono (fun d2 hd2 v2 S2 H2 b2 q2 hv2 => ?_) (fun c d hc dx S' H' b' hq => hc dx S' H' b' (by simp only [wgt]; exact q1.trans hq)) hd'
    exact mt_out hK q2.wd (hv.step q2.gr) hv2 (wp_mono (fun d' q v' S3 H3 g w3 r3 => q v' S3 H3 b2 ⟨(q1.gr.trans q2.gr).trans g, w3, by simp only [wgt]; have := q1.le; have := q2.le; omega⟩ r3) (fun _ _ x => x) hd2)
  | _ => exact hd.elim
theorem se_meth {m : Mt} (hK : X.K = G.K) (hu : X.A.units + 65 < cLine) (ha : PE X ea (rdE G L a)) (hb : PE X eb (rdE G L b)) (hbs : baseB ea = true) (hs : starEach [eb] X.env = (false, eval eb X.env) :: starEach [] X.env) (hline : (apos.endLine == pos.line) = true) :
    PE X (.Call (.Attribute ea (mtName m) apos) [eb] [] pos) (rdE G L (.meth m a b)) := by
  have key : PE X (.Call (.Attribute ea (mtName m) apos) [eb] [] pos) (tMG (tyLst X.K) (rMt X.K m) (rdE G L a) (tCons (rdE G L b) tNil)) := by
    cases m with
    | index => exact pe_mG ty_lst PySem.F.plainAttrs_list PySem.F.slot_list_index PySem.F.type_list_index (mt_ok hu .index) ha (pa_cons hb pa_nil hs) (hbase := base_ok hbs) (hfew := by rw [hs]; rfl) (hline := hline) (hs := hs) (hplain := rfl)
    | count => exact pe_mG ty_lst PySem.F.plainAttrs_list PySem.F.slot_list_count PySem.F.type_list_count (mt_ok hu .count) ha (pa_cons hb pa_nil hs) (hbase := base_ok hbs) (hfew := by rw [hs]; rfl) (hline := hline) (hs := hs) (hplain := rfl)
  exact key.imp fun σ H Q h => rd_meth hK h
end
end Cl
set_option autoImplicit false
set_option Elab.async false
set_option linter.all false
set_option maxRecDepth 100000
set_option maxHeartbeats 4000000
/-! sorted: a list of whole numbers, of rows that agree place by place. -/
namespace Cl
open PySem PySem.Spec PyProof.Rows L2
open PySem.W (alike alikeAll keyToks keyToksAll dataLt dataLe EachIs AllAlike Sortable)
/-! ### the order -/
mutual
theorem ok_lt : ∀ (a b : D) (s : Shp), Shp.ok a s = true → Shp.ok b s = true → D.lt a b = some (dataLt (toPy a) (toPy b)) ∧ alike (toPy a) (toPy b) = true ∧ D.eqv a b = PyData.eqv (toPy a) (toPy b) ∧ (D.eqv a b = true → a = b)
  | .int x, b, s, ha, hb => by
    cases s with
    | i =>
      cases b with
      | int y =>
        refine ⟨?_, ?_, ?_, ?_⟩
        · simp only [D.lt, toPy, PySem.W.dataLt_int]
        · simp only [toPy, alike]
        · simp [D.eqv, toPy, PyData.eqv, Bool.beq_eq_decide_eq]
        · intro h
          simp [D.eqv] at h
          rw [h]
      | _ => simp [Shp.ok] at hb
    | _ => simp [Shp.ok] at ha
  | .tup xs, b, s, ha, hb => by
    cases s with
    | row ss =>
      cases b with
      | tup ys =>
        simp only [Shp.ok] at ha hb
        obtain ⟨h1, h2, h3, h4⟩ := oks_lt xs ys ss ha hb
        refine ⟨?_, ?_, ?_, ?_⟩
        · simp only [D.lt, toPy, PySem.W.dataLt_tuple]
          exact h1
        · simp only [toPy, alike]
          exact h2
        · simp only [D.eqv, toPy, PyData.eqv]
          exact h3
        · intro h
          simp only [D.eqv] at h
          rw [h4 h]
      | _ => simp [Shp.ok] at hb
    | _ => simp [Shp.ok] at ha
  | .non, _, s, ha, _ => by cases s <;> simp [Shp.ok] at ha
  | .bl _, _, s, ha, _ => by cases s <;> simp [Shp.ok] at ha
  | .str _, _, s, ha, _ => by cases s <;> simp [Shp.ok] at ha
  | .lst _, _, s, ha, _ => by cases s <;> simp [Shp.ok] at ha
  | .rep _, _, s, ha, _ => by cases s <;> simp [Shp.ok] at ha
  | .fn _, _, s, ha, _ => by cases s <;> simp [Shp.ok] at ha
  | .st, _, s, ha, _ => by cases s <;> simp [Shp.ok] at ha
  | .thk, _, s, ha, _ => by cases s <;> simp [Shp.ok] at ha
  | .exc _ _, _, s, ha, _ => by cases s <;> simp [Shp.ok] at ha
theorem oks_lt : ∀ (as bs : List D) (ss : List Shp), Shp.oks as ss = true → Shp.oks bs ss = true → D.lts as bs = some (PyProof.Rows.lexLt PyProof.Rows.itemOrd (keyToksAll (toPys as)) (keyToksAll (toPys bs))) ∧ alikeAll (toPys as) (toPys bs) = true ∧
    D.eqvs as bs = PyData.eqvAll (toPys as) (toPys bs) ∧ (D.eqvs as bs = true → as = bs)
  | [], [], _, _, _ => by
    refine ⟨?_, ?_, ?_, fun _ => rfl⟩
    · simp only [D.lts, toPys, keyToksAll]
      rfl
    · simp only [toPys, alikeAll]
    · simp [D.eqvs, toPys, PyData.eqvAll]
  | [], b :: bs, _, _, _ => by
    refine ⟨?_, ?_, ?_, fun h => by simp [D.eqvs] at h⟩
    · simp only [D.lts, toPys, keyToksAll]
      rfl
    · simp only [toPys, alikeAll]
    · simp [D.eqvs, toPys, PyData.eqvAll]
  | a :: as, [], _, _, _ => by
    refine ⟨?_, ?_, ?_, fun h => by simp [D.eqvs] at h⟩
    · simp only [D.lts, toPys, keyToksAll]
      rfl
    · simp only [toPys, alikeAll]
    · simp [D.eqvs, toPys, PyData.eqvAll]
  | a :: as, b :: bs, [], ha, _ => by simp [Shp.oks] at ha
  | a :: as, b :: bs, s :: ss, ha, hb => by
    simp only [Shp.oks, Bool.and_eq_true] at ha hb
    obtain ⟨g1, g2, g3, g4⟩ := ok_lt a b s ha.1 hb.1
    obtain ⟨h1, h2, h3, h4⟩ := oks_lt as bs ss ha.2 hb.2
    refine ⟨?_, ?_, ?_, ?_⟩
    · simp only [D.lts, toPys]
      rw [PySem.W.dataLt_cons g2, ← g3, g1, h1]
      split <;> rfl
    · simp only [toPys, alikeAll, Bool.and_eq_true]
      exact ⟨g2, h2⟩
    · simp only [D.eqvs, toPys, PyData.eqvAll]
      rw [g3, h3]
    · intro h
      simp only [D.eqvs, Bool.and_eq_true] at h
      rw [g4 h.1, h4 h.2]
end
def dLe (a b : D) : Bool := dataLe false toPy a b
/-- all of one shape -/
def One (xs : List D) : Prop := ∃ s, ∀ x ∈ xs, Shp.ok x s = true
theorem one_sortOk {xs : List D} (h : sortOk xs = true) : One xs := by
  unfold sortOk at h
  rw [Bool.or_eq_true] at h
  rcases h with h | h
  · refine ⟨.i, fun x hx => ?_⟩
    have := List.all_eq_true.mp h x hx
    cases x <;> first | rfl | cases this
  · rw [Bool.and_eq_true] at h
    exact ⟨_, fun x hx => List.all_eq_true.mp h.2 x hx⟩
theorem sortable_of {xs : List D} (h : sortOk xs = true) : Sortable (xs.map toPy) := by
  unfold sortOk at h
  rw [Bool.or_eq_true] at h
  rcases h with h | h
  · refine .inr fun d hd => ?_
    obtain ⟨x, hx, rfl⟩ := List.mem_map.mp hd
    have := List.all_eq_true.mp h x hx
    cases x <;> first | (cases this; done) | skip
    simp [toPy]
  · rw [Bool.and_eq_true] at h
    refine .inl fun d hd => ?_
    obtain ⟨x, hx, rfl⟩ := List.mem_map.mp hd
    have := List.all_eq_true.mp h.1 x hx
    cases x with
    | tup l =>
      cases l with
      | nil => cases this
      | cons y r => exact ⟨toPy y, toPys r, by simp only [toPy, toPys]⟩
    | _ => cases this
theorem alike_of {xs : List D} (h : One xs) : AllAlike (xs.map toPy) := by
  obtain ⟨s, h⟩ := h
  intro d hd d' hd'
  obtain ⟨x, hx, rfl⟩ := List.mem_map.mp hd
  obtain ⟨y, hy, rfl⟩ := List.mem_map.mp hd'
  exact (ok_lt x y s (h x hx) (h y hy)).2.1
theorem dle_trans (a b c : D) (h1 : dLe a b = true) (h2 : dLe b c = true) : dLe a c = true := by
  unfold dLe at *
  rw [PySem.W.dataLe_eq] at *
  simp only [cond_false, Bool.not_eq_true', dataLt] at *
  cases h : PyProof.Rows.lexLt PyProof.Rows.itemOrd (keyToks (toPy c)) (keyToks (toPy a)) with
  | false => rfl
  | true =>
    rcases PyProof.Rows.lex_negTrans _ (keyToks (toPy b)) _ h with q | q
    · rw [q] at h2; cases h2
    · rw [q] at h1; cases h1
theorem dle_total (a b : D) : (dLe a b || dLe b a) = true := by
  unfold dLe
  rw [PySem.W.dataLe_eq]
  simp only [cond_false, dataLt]
  cases h : PyProof.Rows.lexLt PyProof.Rows.itemOrd (keyToks (toPy b)) (keyToks (toPy a)) with
  | false => rfl
  | true =>
    cases h' : PyProof.Rows.lexLt PyProof.Rows.itemOrd (keyToks (toPy a)) (keyToks (toPy b)) with
    | false => rfl
    | true =>
      have := PyProof.Rows.lex_trans _ _ _ h h'
      rw [PyProof.Rows.lex_irrefl] at this
      cases this
theorem toks_same {a b : D} {s : Shp} (ha : Shp.ok a s = true) (hb : Shp.ok b s = true) (h1 : dLe a b = true) (h2 : dLe b a = true) : a = b := by
  obtain ⟨g1, g2, g3, g4⟩ := ok_lt a b s ha hb
  unfold dLe at h1 h2
  rw [PySem.W.dataLe_eq] at h1 h2
  simp only [cond_false, Bool.not_eq_true'] at h1 h2
  refine g4 ?_
  rw [g3]
  cases e : PyData.eqv (toPy a) (toPy b) with
  | true => rfl
  | false =>
    have t := PyProof.Rows.lex_total _ _ h2 h1
    have := (PySem.W.toks_eqv (toPy a) (toPy b) g2).2 e [.inl 0] [.inl 1]
    have h2' : PyProof.Rows.lexLt PyProof.Rows.itemOrd (keyToks (toPy a)) (keyToks (toPy b)) = false := h2
    rw [h2', t, PySem.W.lex_pre] at this
    exact absurd this (by decide)
theorem ins_ok {s : Shp} {x : D} (hx : Shp.ok x s = true) : ∀ {ys zs : List D}, (∀ y ∈ ys, Shp.ok y s = true) → ys.Pairwise (fun a b => dLe a b = true) → insD x ys = some zs → zs.Perm (x :: ys) ∧ zs.Pairwise (fun a b => dLe a b = true)
  | [], zs, _, _, h => by
    cases h
    exact ⟨List.Perm.refl _, List.pairwise_singleton _ _⟩
  | y :: ys, zs, hy, hp, h => by
    have ho := hy y List.mem_cons_self
    have hl := (ok_lt x y s hx ho).1
    rw [insD, hl] at h
    rw [List.pairwise_cons] at hp
    cases hd : dataLt (toPy x) (toPy y) with
    | true =>
      rw [hd] at h
      cases h
      refine ⟨List.Perm.refl _, List.pairwise_cons.mpr ⟨fun z hz => ?_, List.pairwise_cons.mpr hp⟩⟩
      have hxy : dLe x y = true := by
        have := dle_total x y
        have hyx : dLe y x = false := by
          unfold dLe
          rw [PySem.W.dataLe_eq]
          simp only [cond_false, hd, Bool.not_true]
        rw [hyx, Bool.or_false] at this
        exact this
      rcases List.mem_cons.mp hz with rfl | hz
      · exact hxy
      · exact dle_trans _ _ _ hxy (hp.1 z hz)
    | false =>
      rw [hd] at h
      cases e : insD x ys with
      | none => rw [e] at h; cases h
      | some ws =>
        rw [e] at h
        cases h
        obtain ⟨p1, p2⟩ := ins_ok hx (fun z hz => hy z (List.mem_cons_of_mem _ hz)) hp.2 e
        refine ⟨(p1.cons y).trans (List.Perm.swap _ _ _), List.pairwise_cons.mpr ⟨fun z hz => ?_, p2⟩⟩
        have hz' := p1.mem_iff.mp hz
        rcases List.mem_cons.mp hz' with rfl | hz'
        · unfold dLe
          rw [PySem.W.dataLe_eq]
          simp only [cond_false, hd, Bool.not_false]
        · exact hp.1 z hz'
theorem sort_ok {s : Shp} : ∀ {xs zs : List D}, (∀ y ∈ xs, Shp.ok y s = true) → sortD xs = some zs → zs.Perm xs ∧ zs.Pairwise (fun a b => dLe a b = true)
  | [], zs, _, h => by
    cases h
    exact ⟨List.Perm.refl _, List.Pairwise.nil⟩
  | x :: xs, zs, hy, h => by
    rw [sortD] at h
    cases e : sortD xs with
    | none => rw [e] at h; cases h
    | some ws =>
      rw [e] at h
      obtain ⟨p1, p2⟩ := sort_ok (fun z hz => hy z (List.mem_cons_of_mem _ hz)) e
      obtain ⟨q1, q2⟩ := ins_ok (hy x List.mem_cons_self) (fun z hz => hy z (List.mem_cons_of_mem _ (p1.mem_iff.mp hz))) p2 h
      exact ⟨q1.trans (p1.cons x), q2⟩
theorem sort_merge {xs zs : List D} (h : One xs) (e : sortD xs = some zs) : zs = xs.mergeSort dLe := by
  obtain ⟨s, h⟩ := h
  obtain ⟨p1, p2⟩ := sort_ok h e
  refine List.Perm.eq_of_pairwise (le := fun a b => dLe a b = true) (fun a b ha hb h1 h2 => toks_same (h a (p1.mem_iff.mp ha)) (h b ?_) h1 h2) p2 (List.pairwise_mergeSort dle_trans dle_total xs) (p1.trans (List.mergeSort_perm xs dLe).symm)
  exact (List.mergeSort_perm xs dLe).mem_iff.mp hb
end Cl
namespace Cl
open PySem PySem.Spec PyProof.Rows L2
open PySem.W (dataLe EachIs AllAlike Sortable)
section
variable {G : Gl0} {X : Cx}
def sEnc (b : V × D) : PyData := toPy b.2
def rSortedD (K : PySem.W.Frag) : List V → Hp → VK → Prop := fun vs H Q => ∃ (a : Addr) (bs : List (V × D)), vs = [V.ref a] ∧ SqL K H a (bs.map Prod.fst) ∧ (∀ b ∈ bs, Dp K H b.1 (toPy b.2)) ∧ AllAlike (bs.map sEnc) ∧ Sortable (bs.map sEnc) ∧
  (∀ b ∈ bs, (toPy b.2).depth ≤ 64) ∧ ∀ p : Addr, H p = none → Q (.ref p) (upd H p (.lst ((bs.mergeSort (dataLe false sEnc)).map Prod.fst)))
theorem vals_each : ∀ {bs : List (V × D)} {its : List Value}, Vals (bs.map Prod.fst) its → EachIs (fun v (b : V × D) => RelV b.1 v) its bs
  | [], _, r => by
    cases r
    exact .nil
  | b :: bs, _, r => by
    cases r with
    | cons h t => exact .cons h (vals_each t)
theorem each_vals : ∀ {bs : List (V × D)} {its : List Value}, EachIs (fun v (b : V × D) => RelV b.1 v) its bs → Vals (bs.map Prod.fst) its
  | _, _, .nil => .nil
  | _, _, .cons h t => .cons h (each_vals t)
theorem each_with {R R' : Value → V × D → Prop} : ∀ {bs : List (V × D)} {its : List Value}, EachIs R its bs → (∀ b ∈ bs, ∀ v, R v b → R' v b) → EachIs R' its bs
  | _, _, .nil, _ => .nil
  | _, _, .cons h t, f => .cons (f _ List.mem_cons_self _ h) (each_with t fun b hb => f b (List.mem_cons_of_mem _ hb))
theorem call_sortedD (hu : X.A.units + 70 < cLine) : CallR X (.builtin "sorted") (rSortedD X.K) := by
  intro pins s σ H vs us Q I r h
  obtain ⟨a, bs, rfl, hs, hd, hal, hk, hdp, q⟩ := h
  obtain ⟨its, rv, hl, hz⟩ := I.list hs
  rw [Vals.ref1 r]
  have ev := vals_each rv
  have er : EachIs (fun v b => ∃ as, Reads s.heap v (sEnc b) as) its bs := each_with ev fun b hb v hv => Dp.reads I _ _ _ (hd b hb) hv
  have hlen0 : bs.length ≤ sizeLine := by rw [List.length_map] at hz; exact hz
  refine PySem.W.sorted_data (R := fun v b => RelV b.1 v) hl.isList ev er hal hk hlen0 (fun b hb => by have := hdp b hb; show X.A.units + 2 + (toPy b.2).depth < cLine; omega) fun out h1 h2 => ?_
  obtain ⟨ep, he'⟩ := PyProof.Rows.sortedAll_at s.heap its out.toArray
  have hlen : ((bs.mergeSort (dataLe false sEnc)).map Prod.fst).length ≤ sizeLine := by
    rw [List.length_map, List.length_mergeSort]
    exact hlen0
  exact ⟨.ref _, upd H (s.heap.objs.size + 1) (.lst _), I.laid (t' := s.toks) (fun _ _ => PyProof.Rows.sortedAll_old) (Nat.le_succ _) ⟨hlen, out, ep, each_vals h2, he'⟩, rfl, q _ (I.hok.fresh (Nat.le_succ _))⟩
theorem repL_zip {K : PySem.W.Frag} {R : Rp} {S : Hp} : ∀ {ds : List D} {vs : List V}, RepL K R S ds vs → (vs.zip ds).map Prod.fst = vs ∧ (vs.zip ds).map Prod.snd = ds ∧ ∀ b ∈ vs.zip ds, Rep K R S b.2 b.1
  | [], vs, r => by
    have e : vs = [] := r
    subst e
    exact ⟨rfl, rfl, fun b hb => by cases hb⟩
  | d :: ds, vs, r => by
    obtain ⟨v, us, rfl, h, t⟩ := r
    obtain ⟨e1, e2, e3⟩ := repL_zip t
    refine ⟨by simp [e1], by simp [e2], fun b hb => ?_⟩
    rcases List.mem_cons.mp hb with rfl | hb
    · exact h
    · exact e3 b hb
theorem zip_repL {K : PySem.W.Frag} {R : Rp} {S : Hp} : ∀ {bs : List (V × D)}, (∀ b ∈ bs, Rep K R S b.2 b.1) → RepL K R S (bs.map Prod.snd) (bs.map Prod.fst)
  | [], _ => rfl
  | b :: bs, h => ⟨_, _, rfl, h b List.mem_cons_self, zip_repL fun c hc => h c (List.mem_cons_of_mem _ hc)⟩
theorem fits_mem {n : Nat} : ∀ {ds : List D}, D.fits n ds = true → ∀ d ∈ ds, D.fit n d = true
  | d :: ds, f, x, hx => by
    simp only [D.fits, Bool.and_eq_true] at f
    rcases List.mem_cons.mp hx with rfl | hx
    · exact f.1
    · exact fits_mem f.2 x hx
theorem cc_sorted (hK : X.K = G.K) (hu : X.A.units + 70 < cLine) : CalC G X (.builtin "sorted") (primV .sorted) .o := by
  intro R H0 S H n ms ds vs Q Ef hf w dom r o
  obtain ⟨d, rfl⟩ := one_of (d := .non) o (fun l h => by cases l with | nil => rfl | cons x r => cases r with | nil => exact (h rfl).elim | cons y q => cases x <;> rfl)
  obtain ⟨v, m, rfl, hv⟩ := r.one
  cases d with
  | lst xs =>
    obtain ⟨p, us, rfl, sp, rp⟩ := hv.lst w.sub
    have o : wp (if D.fits 60 xs && sortOk xs then oM ((sortD xs).map D.lst) else .stuck) (Out G R H0 S H n .o Q) Ef := o
    split at o
    · rename_i hz
      rw [Bool.and_eq_true] at hz
      cases e : sortD xs with
      | none => rw [e] at o; exact o.elim
      | some zs =>
        rw [e] at o
        have o : Out G R H0 S H n .o Q (.lst zs) := o
        obtain ⟨e1, e2, e3⟩ := repL_zip rp
        have em : (us.zip xs).map sEnc = xs.map toPy := by
          conv => rhs; rw [← e2]
          rw [List.map_map]
          rfl
        have mem2 : ∀ b ∈ us.zip xs, b.2 ∈ xs := fun b hb => by
          rw [← e2]
          exact List.mem_map.mpr ⟨b, hb, rfl⟩
        have sm := sort_merge (one_sortOk hz.2) e
        have ms : ((us.zip xs).mergeSort (dataLe false sEnc)).map Prod.snd = zs := by
          rw [sm]
          conv => rhs; rw [← e2]
          exact List.map_mergeSort (r := dataLe false sEnc) (s := dLe) fun a _ b _ => rfl
        refine ⟨_, call_sortedD hu, p, us.zip xs, rfl, by rw [e1]; exact .inl (.inl sp), fun b hb => ?_, by rw [em]; exact alike_of (one_sortOk hz.2), by rw [em]; exact sortable_of hz.2, fun b hb => ?_, fun q hq => ?_⟩
        · rw [hK]
          exact fit_dp _ _ _ (fits_mem hz.1 _ (mem2 b hb)) (Rep.same w.sub _ _ (e3 b hb))
        · exact Nat.le_trans (fit_depth _ _ (fits_mem hz.1 _ (mem2 b hb))).1 (by decide)
        · have rz : RepL G.K R S zs (((us.zip xs).mergeSort (dataLe false sEnc)).map Prod.fst) := by
            rw [← ms]
            exact zip_repL fun b hb => e3 b ((List.mergeSort_perm _ _).mem_iff.mp hb)
          exact out_lst o w dom rz hq
    · exact o.elim
  | _ => exact o.elim
end
end Cl
set_option autoImplicit false
set_option Elab.async false
set_option linter.all false
set_option maxRecDepth 100000
set_option maxHeartbeats 4000000
/-! List comprehensions of two for-parts. -/
namespace Cl
open PySem PySem.Spec PyProof.Rows L2
abbrev turnI (L : Lv) (own1 : List Nat) (t1 : Tg) (c1 elt : E) (env1 : Env) : D → M (Option D) := fun x1 => match asg t1 x1 (wipe env1 own1) with
  | some env2 => (evE L.F L.tm c1 env2).bind fun b => (match b with
    | .bl true => (evE L.F L.tm elt env2).bind fun y => .ok (some y)
    | .bl false => .ok none
    | _ => .stuck)
  | none => .stuck
abbrev turn2 (L : Lv) (own : List Nat) (t : Tg) (c : E) (own1 : List Nat) (w1 : Wk) (it1 : E) (t1 : Tg) (c1 elt : E) (ρ : Env) : Nat → D → M (List D) := fun k x => match asg t x (wipe ρ own) with
  | some env1 => M.nox ((evE L.F L.tm c env1).bind fun b => match b with
    | .bl true => ((evE L.F L.tm it1 env1).bind (walkV w1)).bind fun xs1 => if k + xs1.length ≤ LIM then compL (turnI L own1 t1 c1 elt env1) xs1 else .stuck
    | .bl false => .ok []
    | _ => .stuck)
  | none => .stuck
section
variable {G : Gl0} {L : Lv}
/-- a name that is a list of one's own is no target -/
theorem asg_ow : ∀ (t : Tg) (d : D) (ρ ρ' : Env) (i : Nat) (e : D), asg t d ρ = some ρ' → ρ'.at i = some (e, true) → ρ.at i = some (e, true) ∧ i ∉ t.slots
  | .v j, d, ρ, ρ', i, e, h, h1 => by
    cases h
    by_cases ij : j = i
    · subst ij
      rcases at_put_same h1 with z | ⟨z, _⟩ <;> cases z
    · rw [at_put_ne ij] at h1
      exact ⟨h1, fun z => ij (List.mem_singleton.mp z).symm⟩
  | .nil, .tup [], ρ, ρ', i, e, h, h1 => by cases h; exact ⟨h1, fun z => nomatch z⟩
  | .nil, .lst [], ρ, ρ', i, e, h, h1 => by cases h; exact ⟨h1, fun z => nomatch z⟩
  | .cons a b, .tup (x :: xs), ρ, ρ', i, e, h, h1 => by
    have h : (asg a x ρ).bind (fun e => asg b (.tup xs) e) = some ρ' := h
    cases ea : asg a x ρ with
    | none => rw [ea] at h; cases h
    | some ρ1 =>
      rw [ea] at h
      obtain ⟨k1, k2⟩ := asg_ow b _ _ _ i e h h1
      obtain ⟨k3, k4⟩ := asg_ow a _ _ _ i e ea k1
      exact ⟨k3, fun z => (List.mem_append.mp z).elim k4 k2⟩
  | .cons a b, .lst (x :: xs), ρ, ρ', i, e, h, h1 => by
    have h : (asg a x ρ).bind (fun e => asg b (.lst xs) e) = some ρ' := h
    cases ea : asg a x ρ with
    | none => rw [ea] at h; cases h
    | some ρ1 =>
      rw [ea] at h
      obtain ⟨k1, k2⟩ := asg_ow b _ _ _ i e h h1
      obtain ⟨k3, k4⟩ := asg_ow a _ _ _ i e ea k1
      exact ⟨k3, fun z => (List.mem_append.mp z).elim k4 k2⟩
/-- names stay where one other list changes -/
theorem Ev.but {R : Rp} {H0 S H S' H' : Hp} {ρ : Env} {σ : L2.St} {p : Addr} (h : Ev G R H0 ρ σ S H) (n : ∀ i d a, ρ.at i = some (d, true) → σ[i]? = some (some (.ref a)) → a ≠ p) (ss : Same S S') (hh : ∀ a o, a ≠ p → H a = some o → ¬ R.st a → (∀ ps, o ≠ .tbl ps) → H' a = some o) (fr : ∀ a o, H a = some o → S' a = S a) (dom : ∀ a o, H a = some o → ∃ o', H' a = some o') : Ev G R H0 ρ σ S' H' where
  len := h.len
  frz := fun i d e => by
    obtain ⟨v, a, b⟩ := h.frz i d e
    exact ⟨v, a, Rep.same ss _ _ b⟩
  own := fun i d e => by
    obtain ⟨ds, a, vs, h1, h2, h3, h4, h5, h6, h7⟩ := h.own i d e
    exact ⟨ds, a, vs, h1, h2, (fr a _ h4).trans h3, hh a _ (n i d a e h2) h4 h5 (fun _ z => by cases z), h5, RepL.same ss _ _ h6, h7⟩
  dst := h.dst
  dom := fun a o e => by
    obtain ⟨o', k⟩ := h.dom a o e
    exact dom a o' k
theorem rd_comp2 {own own1 : List Nat} {w w1 : Wk} {it it1 : E} {t t1 : Tg} {c c1 elt : E} {σ : L2.St} {H : Hp} {Q : VK} {tt tt1 : TT} (hms : md elt = .f) (ht : ∀ i ∈ t.slots, i ∈ own) (ht1 : ∀ i ∈ t1.slots, i ∈ own1) (htt : ∀ σ H Q, rdT G L.nox c σ H Q → tt σ H Q) (htt1 : ∀ σ H Q, rdT G L.nox c1 σ H Q → tt1 σ H Q)
    (h : rdE G L (.comp2 own w it t c own1 w1 it1 t1 c1 elt) σ H Q) : tLc2 (rdI G L w it) (rdG G t) tt (rdI G L.nox w1 it1) (rdG G t1) tt1 (rdE G L.nox elt) own own1 σ H Q := by
  obtain ⟨R, ρ, H0, S0, b0, hh, hb, hp⟩ := h
  have hw : wgt L.k L.kh L.t (.comp2 own w it t c own1 w1 it1 t1 c1 elt) = wgt L.k L.kh L.t it + LIM * (wgt L.k L.kh L.t c + wgt L.k L.kh L.t it1 + LIM * (wgt L.k L.kh L.t c1 + wgt L.k L.kh L.t elt)) := rfl
  rw [hw] at hb hp
  generalize hkv : wgt L.k L.kh L.t c1 + wgt L.k L.kh L.t elt = kv at hb hp
  generalize hkw : wgt L.k L.kh L.t c + wgt L.k L.kh L.t it1 + LIM * kv = kw at hb hp
  refine ⟨R, ρ, H0, S0, b0, hh, by omega, ?_⟩
  have hev : evE L.F L.tm (.comp2 own w it t c own1 w1 it1 t1 c1 elt) ρ = ((evE L.F L.tm it ρ).bind (walkV w)).bind fun xs => (compL2 (turn2 L own t c own1 w1 it1 t1 c1 elt ρ) 0 xs).bind fun ys => .ok (.lst ys) := by
    rw [bind_assoc]
    rfl
  rw [hev] at hp
  refine wp_mono (fun xs hx J S1 H1 b1 q1 wj lx => ?_) (fun cc d hc dx S' H' b' q => hc dx S' H' b' (q.more (by omega))) (wp_bind hp)
  have ev1 := hh.ev.step q1.gr
  intro Dl hD
  have b1le : b1 ≤ b0 + wgt L.k L.kh L.t it := q1.le
  let fin : List D → Prop := fun ys => ∀ v S' H' b', Behind G R S0 H b0 (wgt L.k L.kh L.t it + LIM * kw) S' H' b' → VR G R H S' H' .o (.lst ys) v → Q v H'
  refine ⟨fun i m H => m = xs.length - i ∧ i ≤ xs.length ∧ ∃ S b ys, CSt G R S1 H1 Dl S H b ys ∧ b ≤ b1 + i * kw ∧ ys.length ≤ LIM ∧ wp (compL2 (turn2 L own t c own1 w1 it1 t1 c1 elt ρ) ys.length (xs.drop i)) (fun zs => fin (ys ++ zs)) (fun _ _ => True), ⟨xs.length, by simp, Nat.zero_le _, S1, b1, [], ?_, by simp, Nat.zero_le _, ?_⟩, ?_⟩
  · have S1n : S1 Dl = none := by
      cases e : S1 Dl with
      | none => rfl
      | some u =>
        have := q1.wd.sub _ _ e
        rw [hD] at this
        cases this
    exact ⟨gr_upd hD, q1.wd.new hD, ⟨[], upd_same, rfl⟩, S1n, q1.wd.nstOf hD⟩
  · simp only [List.drop_zero, List.nil_append]
    exact wp_mono (fun zs z => z) (fun _ _ _ => trivial) (wp_bind hx)
  rintro i m H2 ⟨rfl, hi, S, b, ys, cs, cle, cyl, hwp⟩
  have wjs := wj S H2 b i cs.gr.ss cs.wd
  cases hx : xs[i]? with
  | none =>
    left
    refine ⟨wjs.2 hx, ?_⟩
    have : xs.drop i = [] := List.drop_eq_nil_of_le (List.getElem?_eq_none_iff.mp hx)
    rw [this] at hwp
    have q : fin (ys ++ []) := hwp
    rw [List.append_nil] at q
    obtain ⟨vs, d1, d2⟩ := cs.dl
    refine q (.ref Dl) S H2 b ⟨q1.gr.trans cs.gr, cs.wd, ?_⟩ (.inr ⟨ys, Dl, vs, rfl, rfl, cs.sn, d1, cs.nst, d2, ?_⟩)
    · have : i * kw ≤ LIM * kw := Nat.mul_le_mul_right _ (by omega)
      omega
    · exact fresh_of q1.gr.dom hD
  | some x =>
    right
    obtain ⟨go, yl⟩ := wjs.1 x hx
    have il : i < xs.length := (List.getElem?_eq_some_iff.mp hx).1
    have hmul : (i + 1) * kw = i * kw + kw := by rw [Nat.add_mul, Nat.one_mul]
    have hmul2 : (i + 1) * kw ≤ LIM * kw := Nat.mul_le_mul_right _ (by omega)
    rw [drop_cons hx] at hwp
    refine ⟨go, fun H' => ∃ S' b' ys', CSt G R S1 H1 Dl S' H' b' ys' ∧ b' ≤ b1 + (i + 1) * kw ∧ ys'.length ≤ LIM ∧ wp (compL2 (turn2 L own t c own1 w1 it1 t1 c1 elt ρ) ys'.length (xs.drop (i + 1))) (fun zs => fin (ys' ++ zs)) (fun _ _ => True), fun H' z => ⟨xs.length - (i + 1), by omega, rfl, il, z⟩, fun v H3 yv => ?_⟩
    obtain ⟨S3, g3, w3, r3⟩ := yl v H3 yv
    have hwp2 := wp_bind hwp
    cases ea : asg t x (wipe ρ own) with
    | none => simp only [turn2, ea] at hwp2; exact hwp2.elim
    | some env1 =>
      simp only [turn2, ea] at hwp2
      refine ⟨R, wipe ρ own, H0, S3, b, x, env1, w3, (((ev1.step cs.gr).step g3).wipe own), r3, ea, fun σ2 ev2 hwipe => ⟨?_, ?_⟩⟩
      · rw [hwipe own ht, wipe_wipe]
      · refine htt _ _ _ ⟨R, env1, H0, S3, b, ⟨hh.fA, hh.th, hh.ex, w3, ev2⟩, by show b + wgt L.k L.kh L.t c ≤ BIG; omega, ?_⟩
        refine wp_mono (fun k hk => ?_) (fun cc d z => z.elim) (wp_bind (wp_nox (E' := fun _ _ => False) hwp2))
        cases k with
        | bl kb =>
          refine ⟨kb, rfl, fun S4 H4 b4 q4 => ?_⟩
          have le4 : b4 ≤ b + wgt L.k L.kh L.t c := q4.le
          cases kb with
          | false =>
            show ∃ S' b' ys', _ ∧ _
            have hk' : wp (compL2 (turn2 L own t c own1 w1 it1 t1 c1 elt ρ) ys.length (xs.drop (i + 1))) (fun zs => fin (ys ++ zs)) (fun _ _ => True) := by
              have z : wp (M.bind (compL2 (turn2 L own t c own1 w1 it1 t1 c1 elt ρ) (ys.length + 0) (xs.drop (i + 1))) fun zs => M.ok zs) (fun zs => fin (ys ++ zs)) (fun _ _ => True) := hk
              exact wp_bind z
            exact ⟨S4, b4, ys, cs.step (g3.trans q4.gr) q4.wd, by omega, by omega, hk'⟩
          | true =>
            show rdI G L.nox w1 it1 σ2 H4 _
            refine ⟨R, env1, H0, S4, b4, ⟨hh.fA, hh.th, hh.ex, q4.wd, ev2.step q4.gr⟩, by show b4 + wgt L.k L.kh L.t it1 ≤ BIG; omega, ?_⟩
            have hk2 : wp (((evE L.F L.tm it1 env1).bind (walkV w1)).bind fun xs1 => if ys.length + xs1.length ≤ LIM then compL (turnI L own1 t1 c1 elt env1) xs1 else .stuck) _ (fun _ _ => False) := hk
            refine wp_mono (fun xs1 hx1 J1 S5 H5 b5 q5 wj1 lx1 => ?_) (fun cc d z => z.elim) (wp_bind hk2)
            have le5 : b5 ≤ b4 + wgt L.k L.kh L.t it1 := q5.le
            split at hx1
            · rename_i hlen
              have ev5 := (ev2.step q4.gr).step q5.gr
              have cs5 := cs.step (g3.trans (q4.gr.trans q5.gr)) q5.wd
              have nDl : ∀ i d a, env1.at i = some (d, true) → σ2[i]? = some (some (.ref a)) → a ≠ Dl := fun i d a e1 e2 => by
                obtain ⟨k1, k2⟩ := asg_ow t x _ _ i d ea e1
                obtain ⟨k3, k4⟩ := at_wipe k1
                have k5 : σ2[i]? = σ[i]? := by
                  have := hwipe own ht
                  have z1 : (L2.wipe σ2 own)[i]? = σ2[i]? := wipe_out k4
                  have z2 : (L2.wipe (L2.wipe σ own) own)[i]? = σ[i]? := (wipe_out k4).trans (wipe_out k4)
                  rw [← z1, this, z2]
                obtain ⟨ds, a', vs, _, h2, _, h4, _⟩ := ev1.own i d k3
                rw [k5, h2] at e2
                cases e2
                intro z
                rw [z, hD] at h4
                cases h4
              refine ⟨fun j m H => m = xs1.length - j ∧ j ≤ xs1.length ∧ ∃ S b zs, CSt G R S1 H1 Dl S H b (ys ++ zs) ∧ Same S5 S ∧ Ev G R H0 env1 σ2 S H ∧ b ≤ b5 + j * kv ∧ zs.length ≤ j ∧ wp (compL (turnI L own1 t1 c1 elt env1) (xs1.drop j)) (fun us => wp (compL2 (turn2 L own t c own1 w1 it1 t1 c1 elt ρ) (ys.length + (zs ++ us).length) (xs.drop (i + 1))) (fun ws => fin (ys ++ ((zs ++ us) ++ ws))) (fun _ _ => True)) (fun _ _ => False), ⟨xs1.length, by simp, Nat.zero_le _, S5, b5, [], ?_, ?_, ev5, by simp, Nat.zero_le _, ?_⟩, ?_⟩
              · simpa using cs5
              · exact fun a o z => z
              · simp only [List.drop_zero, List.nil_append]
                refine wp_mono (fun us z => ?_) (fun _ _ z => z) hx1
                exact wp_mono (fun ws z => z) (fun _ _ _ => trivial) (wp_bind z)
              rintro j m1 H6 ⟨rfl, hj, S6, b6, zs, cs6, same6, ev6, cle6, czl, hwp6⟩
              have wjs1 := wj1 S6 H6 b6 j same6 cs6.wd
              have hkv : LIM * kv ≤ LIM * kv := Nat.le_refl _
              cases hx1' : xs1[j]? with
              | none =>
                left
                refine ⟨wjs1.2 hx1', ?_⟩
                have : xs1.drop j = [] := List.drop_eq_nil_of_le (List.getElem?_eq_none_iff.mp hx1')
                rw [this] at hwp6
                have q : wp (compL2 (turn2 L own t c own1 w1 it1 t1 c1 elt ρ) (ys.length + (zs ++ []).length) (xs.drop (i + 1))) (fun ws => fin (ys ++ ((zs ++ []) ++ ws))) (fun _ _ => True) := hwp6
                rw [List.append_nil, ← List.length_append] at q
                have hjk : j * kv ≤ LIM * kv := Nat.mul_le_mul_right _ (by omega)
                exact ⟨S6, b6, ys ++ zs, cs6, by omega, by simp; omega, wp_mono (fun ws z => by rw [List.append_assoc]; exact z) (fun _ _ z => z) q⟩
              | some x1 =>
                right
                obtain ⟨go1, yl1⟩ := wjs1.1 x1 hx1'
                have il1 : j < xs1.length := (List.getElem?_eq_some_iff.mp hx1').1
                have hm1 : (j + 1) * kv = j * kv + kv := by rw [Nat.add_mul, Nat.one_mul]
                have hm2 : (j + 1) * kv ≤ LIM * kv := Nat.mul_le_mul_right _ (by omega)
                rw [drop_cons hx1'] at hwp6
                refine ⟨go1, fun H => ∃ S b zs, CSt G R S1 H1 Dl S H b (ys ++ zs) ∧ Same S5 S ∧ Ev G R H0 env1 σ2 S H ∧ b ≤ b5 + (j + 1) * kv ∧ zs.length ≤ j + 1 ∧ wp (compL (turnI L own1 t1 c1 elt env1) (xs1.drop (j + 1))) (fun us => wp (compL2 (turn2 L own t c own1 w1 it1 t1 c1 elt ρ) (ys.length + (zs ++ us).length) (xs.drop (i + 1))) (fun ws => fin (ys ++ ((zs ++ us) ++ ws))) (fun _ _ => True)) (fun _ _ => False), fun H' z => ⟨xs1.length - (j + 1), by omega, rfl, il1, z⟩, fun v1 H7 yv1 => ?_⟩
                obtain ⟨S7, g7, w7, r7⟩ := yl1 v1 H7 yv1
                have hwp7 := wp_bind hwp6
                cases ea1 : asg t1 x1 (wipe env1 own1) with
                | none => simp only [turnI, ea1] at hwp7; exact hwp7.elim
                | some env2 =>
                  simp only [turnI, ea1] at hwp7
                  refine ⟨R, wipe env1 own1, H0, S7, b6, x1, env2, w7, ((ev6.step g7).wipe own1), r7, ea1, fun σ3 ev3 hwipe1 => ⟨?_, ?_⟩⟩
                  · rw [hwipe1 own1 ht1, wipe_wipe]
                  · refine htt1 _ _ _ ⟨R, env2, H0, S7, b6, ⟨hh.fA, hh.th, hh.ex, w7, ev3⟩, by show b6 + wgt L.k L.kh L.t c1 ≤ BIG; omega, ?_⟩
                    refine wp_mono (fun k1 hk1 => ?_) (fun cc d z => z.elim) (wp_bind hwp7)
                    cases k1 with
                    | bl kb1 =>
                      refine ⟨kb1, rfl, fun S8 H8 b8 q8 => ?_⟩
                      have le8 : b8 ≤ b6 + wgt L.k L.kh L.t c1 := q8.le
                      have ev8 := (ev6.step g7).step q8.gr
                      have cs8 := cs6.step (g7.trans q8.gr) q8.wd
                      have sm8 : Same S5 S8 := same6.trans (g7.trans q8.gr).ss
                      cases kb1 with
                      | false =>
                        show ∃ S b zs, _ ∧ _
                        have hk' : wp (M.bind (compL (turnI L own1 t1 c1 elt env1) (xs1.drop (j + 1))) fun zs => M.ok zs) (fun us => wp (compL2 (turn2 L own t c own1 w1 it1 t1 c1 elt ρ) (ys.length + (zs ++ us).length) (xs.drop (i + 1))) (fun ws => fin (ys ++ ((zs ++ us) ++ ws))) (fun _ _ => True)) (fun _ _ => False) := hk1
                        exact ⟨S8, b8, zs, cs8, sm8, ev8, by omega, by omega, wp_bind hk'⟩
                      | true =>
                        show rdE G L.nox elt σ3 H8 _
                        refine ⟨R, env2, H0, S8, b8, ⟨hh.fA, hh.th, hh.ex, q8.wd, ev3.step q8.gr⟩, by show b8 + wgt L.k L.kh L.t elt ≤ BIG; omega, ?_⟩
                        have hk3 : wp ((evE L.F L.tm elt env2).bind fun y => M.ok (some y)) _ (fun _ _ => False) := hk1
                        refine wp_mono (fun y hy v9 S9 H9 b9 q9 r9 => ?_) (fun cc d z => z.elim) (wp_bind hk3)
                        have le9 : b9 ≤ b8 + wgt L.k L.kh L.t elt := q9.le
                        have hy' : wp (compL (turnI L own1 t1 c1 elt env1) (xs1.drop (j + 1))) (fun us => wp (compL2 (turn2 L own t c own1 w1 it1 t1 c1 elt ρ) (ys.length + ((zs ++ [y]) ++ us).length) (xs.drop (i + 1))) (fun ws => fin (ys ++ (((zs ++ [y]) ++ us) ++ ws))) (fun _ _ => True)) (fun _ _ => False) := by
                          refine wp_mono (fun us q => ?_) (fun _ _ z => z) (wp_bind hy)
                          rw [List.append_assoc zs]
                          exact q
                        rw [hms] at r9
                        have cs9 := cs8.step q9.gr q9.wd
                        have ev9 := ev8.step q9.gr
                        obtain ⟨acc, a1, a2, a3⟩ := cs9.app hD r9
                        refine ⟨acc, a1, ?_, S9, b9, zs ++ [y], by rw [← List.append_assoc]; exact a3, sm8.trans q9.gr.ss, ?_, by omega, by simp; omega, hy'⟩
                        · rw [List.length_append] at a2
                          rw [sizeLim]
                          omega
                        · exact Ev.but ev9 nDl (fun a o z => z) (fun a o n e _ _ => by rw [upd_ne n]; exact e) (fun _ _ _ => rfl) (fun a o e => by
                            by_cases z : a = Dl
                            · rw [z]; exact ⟨_, upd_same⟩
                            · exact ⟨o, by rw [upd_ne z]; exact e⟩)
                    | _ => exact hk1.elim
            · exact hx1.elim
        | _ => exact hk.elim
end
end Cl
set_option autoImplicit false
set_option Elab.async false
set_option linter.all false
set_option maxRecDepth 100000
set_option maxHeartbeats 4000000
/-! Statements: an item is put in, an item is changed. -/
namespace Cl
open PySem PySem.Spec PyProof.Rows L2
section
variable {G : Gl0} {L : Lv} {X : Cx} {e e2 a b : E} {r : S} {ee eb ea : Expr} {rest : List Stmt} {pos p2 p3 apos : Pos} {i : Nat} {x : Str}
/-- x.insert(a, b) -/
theorem ss_ins (hN : X.N[i]? = some x) (hv : Vis X.env.scope x) (hd : (x == ("__debug__" : Str)) = false) (hcd : (x == ("__classdict__" : Str)) = false) (hm : md b = .f) (ha : PE X ea (rdE G L a)) (hb : PE X eb (rdE G L b)) (hr : PSs X rest (rdS G L r))
    (hs : starEach [ea, eb] X.env = (false, eval ea X.env) :: starEach [eb] X.env) (hs2 : starEach [eb] X.env = (false, eval eb X.env) :: starEach [] X.env) (hline : (apos.endLine == p2.line) = true)
    (hfew : ((backTo p2 (starEach [ea, eb] X.env)).all (fun x => !x.1) && (backToKw p2 (keywordEach [] X.env)).all (fun x => x.1.isSome) && decide ([ea, eb].length + ([] : List Keyword).length + (if ([] : List Keyword).isEmpty then 0 else 1) < 30)) = true) (hpl : (backTo p2 (starEach [eb] X.env)).any (·.1) = false)
    (hsw : swapsWith (.Call (.Attribute (.Name x p3) "insert" apos) [ea, eb] [] p2) none pos.line X.env = pure false) :
    PSs X (.Expr (.Call (.Attribute (.Name x p3) "insert" apos) [ea, eb] [] p2) pos :: rest) (rdS G L (.ins i a b r)) :=
  (pss_cons (ps_expr (pe_bm F.plainAttrs_list F.slot_list_insert F.type_list_insert mt_insert (pe_var hN hv hd hcd) (pa_cons ha (pa_cons hb pa_nil hs2) hs) rfl hfew hline hs hpl) hsw) hr).imp fun Dn σ H h => by
    obtain ⟨R, ρ, ρA, H0, S, n, p, hA, hn, hp⟩ := h
    have hw : wgtS L.k L.kh L.t (.ins i a b r) = wgt L.k L.kh L.t a + wgt L.k L.kh L.t b + wgtS L.k L.kh L.t r := rfl
    rw [hw] at hn hp
    rw [exS] at hp
    obtain ⟨ds, hi, hp⟩ := own_of hp
    obtain ⟨_, q0, vs, ed, hσ, h1, h2, h3, h4, h5⟩ := p.here.ev.own i _ hi
    refine ⟨_, hσ, .inl ⟨rfl, vs, .inl (.inl h2)⟩, ⟨R, ρ, H0, S, n, p.here, by omega, wp_mono (fun k hk v S1 H1 b1 q rv => ?_) (fun c d hc => hc.wish p (by omega)) (wp_bind hp)⟩⟩
    have p1 := p.step q
    have le := q.le
    have gs1 := q.gr.gs p.here.ev.dom
    refine ⟨R, ρ, H0, S1, b1, p1.here, by omega, wp_mono (fun d hd v2 S2 H2 b2 q2 rv2 => ?_) (fun c d hc => (hc.move gs1 (show b1 + (wgt L.k L.kh L.t b + wgtS L.k L.kh L.t r) ≤ _ by omega)).wish p1 (by omega)) (wp_bind hk)⟩
    rw [hm] at rv2
    have p2' := p1.step q2
    have le2 := q2.le
    obtain ⟨_, a', vs', ed', hσ', h1', h2', h3', h4', h5'⟩ := p2'.here.ev.own i _ hi
    rw [hσ] at hσ'
    cases hσ'
    cases ed'
    cases k with
    | int k =>
      cases rv.int
      by_cases hz : ds.length < LIM ∧ 0 ≤ k ∧ k < 2 ^ 62
      · simp only [if_pos hz] at hd
        have rr : RepL G.K R S2 (ds.take k.toNat ++ d :: ds.drop k.toNat) (vs'.take k.toNat ++ [v2] ++ vs'.drop k.toNat) := by
          have := RepL.app (RepL.app (RepL.take k.toNat h4') (show RepL G.K R S2 [d] [v2] from ⟨v2, [], rfl, rv2, rfl⟩)) (RepL.drop k.toNat h4')
          simpa using this
        obtain ⟨g3, p3'⟩ := mut_ok p2' hi hσ h2' h1' h3' h5' rr
        have gs := (gs1.trans (q2.gr.gs p1.here.ev.dom)).trans g3
        refine ⟨q0, vs', k, v2, rfl, rfl, h2', by rw [sizeLim, h4'.len]; exact hz.1, hz.2.1, by have := hz.2.2; omega, ?_⟩
        exact ⟨R, _, ρA, H0, S2, b2, p3', fun j hj => hA j (List.mem_cons_of_mem _ hj), by omega, wp_mono (fun y hy => okS.move hy gs (by omega)) (fun c d hc => badS.move hc gs (by omega)) hd⟩
      · simp only [if_neg hz] at hd
        exact hd.elim
    | _ => exact hd.elim
theorem nss_sub {o j e : Expr} {p : Pos} {env : PySem.Env} : swappedStores [.Subscript o j p] e env = pure none := by
  cases e <;> rfl
/-- x[a] = b -/
theorem ss_setix {px pt : Pos} (hN : X.N[i]? = some x) (hv : Vis X.env.scope x) (hd : (x == ("__debug__" : Str)) = false) (hcd : (x == ("__classdict__" : Str)) = false) (hm : md b = .f) (ha : PE X ea (rdE G L a)) (hb : PE X eb (rdE G L b)) (hr : PSs X rest (rdS G L r))
    (hsw : swapsWithSole [.Subscript (.Name x px) ea pt] eb pos.line X.env = pure false) (hix : ∀ v, assign (.Subscript (.Name x px) ea pt) X.env v = (do
      let ov ← holding [v] (eval (.Name x px) X.env)
      let iv ← holding [v, ov] (eval ea X.env)
      standAt pt
      holding [v, ov, iv] (setItem ov iv v)
      release [v, ov, iv] [])) :
    PSs X (.Assign [.Subscript (.Name x px) ea pt] eb pos :: rest) (rdS G L (.setix i a b r)) :=
  (pss_cons (ps_asg hb (pg_sub (pe_var hN hv hd hcd) ha set_list hix) hsw nss_sub rfl) hr).imp fun Dn σ H h => by
    obtain ⟨R, ρ, ρA, H0, S, n, p, hA, hn, hp⟩ := h
    have hw : wgtS L.k L.kh L.t (.setix i a b r) = wgt L.k L.kh L.t a + wgt L.k L.kh L.t b + wgtS L.k L.kh L.t r := rfl
    rw [hw] at hn hp
    rw [exS] at hp
    refine ⟨R, ρ, H0, S, n, p.here, by omega, wp_mono (fun d hd v S1 H1 b1 q rv => ?_) (fun c d hc => hc.wish p (by omega)) (wp_bind hp)⟩
    rw [hm] at rv
    have p1 := p.step q
    have le := q.le
    have gs1 := q.gr.gs p.here.ev.dom
    obtain ⟨ds, hi, hd⟩ := own_of hd
    obtain ⟨_, q0, vs, ed, hσ, h1, h2, h3, h4, h5⟩ := p1.here.ev.own i _ hi
    refine ⟨_, hσ, R, ρ, H0, S1, b1, p1.here, by omega, wp_mono (fun k hk v2 S2 H2 b2 q2 rv2 => ?_) (fun c d hc => (hc.move gs1 (show b1 + (wgt L.k L.kh L.t a + wgtS L.k L.kh L.t r) ≤ _ by omega)).wish p1 (by omega)) (wp_bind hd)⟩
    have p2' := p1.step q2
    have le2 := q2.le
    obtain ⟨_, a', vs', ed', hσ', h1', h2', h3', h4', h5'⟩ := p2'.here.ev.own i _ hi
    rw [hσ] at hσ'
    cases hσ'
    cases ed'
    cases k with
    | int k =>
      cases rv2.int
      by_cases hz : 0 ≤ k ∧ k < ds.length
      · simp only [if_pos hz] at hk
        have rv' : Rep G.K R S2 d v := Rep.same q2.gr.ss _ _ rv
        obtain ⟨g3, p3'⟩ := mut_ok p2' hi hσ h2' h1' h3' h5' (RepL.set rv' k.toNat h4')
        have gs := (gs1.trans (q2.gr.gs p1.here.ev.dom)).trans g3
        refine ⟨q0, vs', k, k.toNat, rfl, rfl, h2', ?_, ?_⟩
        · unfold ixN
          rw [h4'.len]
          simp [hz.1, hz.2]
        exact ⟨R, _, ρA, H0, S2, b2, p3', fun j hj => hA j (List.mem_cons_of_mem _ hj), by omega, wp_mono (fun y hy => okS.move hy gs (by omega)) (fun c d hc => badS.move hc gs (by omega)) hk⟩
      · simp only [if_neg hz] at hk
        exact hk.elim
    | _ => exact hk.elim
/-- x.append(y.pop(a)) -/
theorem ss_apop {j : Nat} {y : Str} {p4 p5 bpos : Pos} (hN : X.N[i]? = some x) (hv : Vis X.env.scope x) (hd : (x == ("__debug__" : Str)) = false) (hcd : (x == ("__classdict__" : Str)) = false) (hN2 : X.N[j]? = some y) (hv2 : Vis X.env.scope y) (hd2 : (y == ("__debug__" : Str)) = false) (hcd2 : (y == ("__classdict__" : Str)) = false)
    (ha : PE X ea (rdE G L a)) (hr : PSs X rest (rdS G L r)) (hs : starEach [ea] X.env = (false, eval ea X.env) :: starEach [] X.env) (hline : (apos.endLine == p2.line) = true) (hline2 : (bpos.endLine == p5.line) = true)
    (hfew2 : ((backTo p5 (starEach [ea] X.env)).all (fun x => !x.1) && (backToKw p5 (keywordEach [] X.env)).all (fun x => x.1.isSome) && decide ([ea].length + ([] : List Keyword).length + (if ([] : List Keyword).isEmpty then 0 else 1) < 30)) = true) :
    PSs X (.Expr (.Call (.Attribute (.Name x p3) "append" apos) [.Call (.Attribute (.Name y p4) "pop" bpos) [ea] [] p5] [] p2) pos :: rest) (rdS G L (.apop i j a r)) :=
  (pss_cons (ps_expr (pe_bm F.plainAttrs_list F.slot_list_append F.type_list_append mt_append (pe_var hN hv hd hcd) (pa_cons (pe_bm F.plainAttrs_list F.slot_list_pop F.type_list_pop mt_popAt (pe_var hN2 hv2 hd2 hcd2) (pa_cons ha pa_nil hs) rfl hfew2 hline2 hs rfl) pa_nil rfl) rfl rfl hline rfl rfl) rfl) hr).imp fun Dn σ H h => by
    obtain ⟨R, ρ, ρA, H0, S, n, p, hA, hn, hp⟩ := h
    have hw : wgtS L.k L.kh L.t (.apop i j a r) = wgt L.k L.kh L.t a + wgtS L.k L.kh L.t r := rfl
    rw [hw] at hn hp
    rw [exS] at hp
    obtain ⟨ds, hi, hp⟩ := own_of hp
    obtain ⟨es, hj, hp⟩ := own_of hp
    obtain ⟨_, q0, vs, ed, hσ, h1, h2, h3, h4, h5⟩ := p.here.ev.own i _ hi
    obtain ⟨_, q9, us, ed9, hσ9, k1, k2, k3, k4, k5⟩ := p.here.ev.own j _ hj
    refine ⟨_, hσ, .inl ⟨rfl, vs, .inl (.inl h2)⟩, _, hσ9, .inl ⟨rfl, us, .inl (.inl k2)⟩, ⟨R, ρ, H0, S, n, p.here, by omega, wp_mono (fun k hk v S1 H1 b1 q rv => ?_) (fun c d hc => hc.wish p (by omega)) (wp_bind hp)⟩⟩
    have p1 := p.step q
    have le := q.le
    have gs1 := q.gr.gs p.here.ev.dom
    obtain ⟨_, a9, us', ed', hσ', k1', k2', k3', k4', k5'⟩ := p1.here.ev.own j _ hj
    rw [hσ9] at hσ'
    cases hσ'
    cases ed'
    cases k with
    | int k =>
      cases rv.int
      by_cases hz : 0 ≤ k ∧ k < 2 ^ 62 ∧ i ≠ j
      · simp only [if_pos hz] at hk
        cases ey : es[k.toNat]? with
        | none => simp only [ey] at hk; exact hk.elim
        | some y' =>
          simp only [ey] at hk
          obtain ⟨w, ew, rw'⟩ := RepL.get k4' ey
          by_cases hl : ds.length < LIM
          · simp only [if_pos hl] at hk
            have hkl : k.toNat < es.length := (List.getElem?_eq_some_iff.mp ey).1
            have hul := k4'.len
            obtain ⟨g2, p2'⟩ := mut_ok p1 hj hσ9 k2' k1' k3' k5' (RepL.erase k.toNat k4')
            have hi' : (putAt ρ j (some (.lst (es.eraseIdx k.toNat), true))).at i = some (.lst ds, true) := by rw [at_put_ne (fun z => hz.2.2 z.symm)]; exact hi
            obtain ⟨_, a8, vs', ed8, hσ8, h1', h2', h3', h4', h5'⟩ := p2'.here.ev.own i _ hi'
            rw [hσ] at hσ8
            cases hσ8
            cases ed8
            obtain ⟨g3, p3'⟩ := mut_ok p2' hi' hσ h2' h1' h3' h5' (RepL.app h4' (show RepL G.K R S1 [y'] [w] from ⟨w, [], rfl, rw', rfl⟩))
            have gs := (gs1.trans g2).trans g3
            refine ⟨q9, us', k, k.toNat, w, rfl, rfl, k2', by omega, by have := hz.2.1; omega, ?_, ew, ?_⟩
            · unfold seqIndex?
              have n0 : ¬ k < 0 := by omega
              have c : (0 ≤ k ∧ k < (us'.length : Int)) := ⟨hz.1, by omega⟩
              simp [n0, c]
            refine ⟨q0, vs', w, rfl, rfl, h2', by rw [sizeLim, h4'.len]; exact hl, ?_⟩
            exact ⟨R, _, ρA, H0, S1, b1, p3', fun m hm => hA m (List.mem_cons_of_mem _ (List.mem_cons_of_mem _ hm)), by omega, wp_mono (fun y hy => okS.move hy gs (by omega)) (fun c d hc => badS.move hc gs (by omega)) hk⟩
          · simp only [if_neg hl] at hk
            exact hk.elim
      · simp only [if_neg hz] at hk
        exact hk.elim
    | _ => exact hk.elim
end
end Cl
set_option autoImplicit false
set_option Elab.async false
set_option linter.all false
set_option maxRecDepth 100000
set_option maxHeartbeats 4000000
/-! The text's expressions and the clean ones: a check, and what it gives. -/
namespace Cl
open PySem PySem.Spec PyProof.Rows L2
structure Sc where
  sc : Scope
  fb : Str → Bool
  fo : Bool
  dr : Bool
  hd : Bool := false
structure Ck where
  v : Expr → Sc → Bool
  t : Expr → Sc → Bool
  r : List Expr → Sc → Bool
  w : BoolOp → List Expr → Sc → Bool
  wt : BoolOp → List Expr → Sc → Bool
/-- names of the text's top, by their kinds -/
structure Nm where
  fl : List (Str × Nat)
  gl : List (Str × D)
  bl : List Str
  cl : List (Str × Nat) := []
  xl : List (Str × Nat) := []
  hl : List (Str × Nat) := []
  kl : List (Nat × Nat × List Str × List Nat) := []
def tv (v : Expr → Sc → Bool) : Expr → Sc → Bool := fun e c => plT e && v e c
def wv (v : Expr → Sc → Bool) : BoolOp → List Expr → Sc → Bool := fun _ es c => match es with | [e] => v e c | _ => false
def ofV (v : Expr → Sc → Bool) : Ck := ⟨v, tv v, fun _ _ => false, wv v, wv (tv v)⟩
def ofVT (v t : Expr → Sc → Bool) : Ck := ⟨v, t, fun _ _ => false, wv v, wv t⟩
def noC : Ck := ofV fun _ _ => false
def dbg (x : Str) : Bool := !(x == ("__debug__" : Str)) && !(x == ("__classdict__" : Str))
def visB (sc : Scope) (x : Str) : Bool := match sc.names.lookup x with
  | some .local => true
  | some .cell => true
  | some .free => true
  | _ => false
def gloB (sc : Scope) (x : Str) : Bool := match sc.names.lookup x with
  | some .globalImplicit => true
  | _ => false
theorem vis_of {sc : Scope} {x : Str} (h : visB sc x = true) : Vis sc x := by
  unfold visB at h
  split at h
  · exact .inl (by assumption)
  · exact .inr (.inl (by assumption))
  · exact .inr (.inr (by assumption))
  · cases h
theorem glo_of {X : Cx} {sc : Scope} {x : Str} (e : X.env.scope = sc) (h : gloB sc x = true) : L2.Gl X x := by
  unfold gloB at h
  split at h
  · show X.env.scope.names.lookup x = _
    rw [e]
    assumption
  · cases h
theorem dbg_of {x : Str} (h : dbg x = true) : (x == ("__debug__" : Str)) = false ∧ (x == ("__classdict__" : Str)) = false := by
  unfold dbg at h
  simpa using h
def rowLen : E → Option Nat
  | .nil => some 0
  | .cons _ r => (rowLen r).map (· + 1)
  | _ => none
def allF (l : List Md) : Bool := l.all fun m => decide (m = .f)
theorem allF_of {l : List Md} (h : allF l = true) : ∀ m ∈ l, m = .f := fun m hm => of_decide_eq_true (List.all_eq_true.mp h m hm)
theorem row_len {F : Nat → M D → List D → M D} {tm : M D} {ρ : Env} {Q : D → Prop} {Ef : Nat → D → Prop} : ∀ {r : E} {n : Nat}, rowLen r = some n → wp (evE F tm r ρ) Q Ef → wp (evE F tm r ρ) (fun d => Q d ∧ ∃ ds, d = .tup ds ∧ ds.length = n) Ef
  | .nil, n, h, hp => by
    cases h
    exact ⟨hp, [], rfl, rfl⟩
  | .cons a r, n, h, hp => by
    simp only [rowLen, Option.map_eq_some_iff] at h
    obtain ⟨m, h1, rfl⟩ := h
    simp only [evE] at hp ⊢
    refine wp_bind' (wp_mono (fun x hx => ?_) (fun _ _ z => z) (wp_bind hp))
    refine wp_bind' (wp_mono (fun xs hxs => ?_) (fun _ _ z => z) (row_len h1 (wp_bind hx)))
    obtain ⟨q, ds, rfl, hl⟩ := hxs
    exact ⟨q, x :: ds, rfl, by simp [hl]⟩
  | .con _, _, h, _ => by cases h
  | .glo _ _, _, h, _ => by cases h
  | .var _, _, h, _ => by cases h
  | .bor _, _, h, _ => by cases h
  | .list _, _, h, _ => by cases h
  | .frz _, _, h, _ => by cases h
  | .bin _ _ _, _, h, _ => by cases h
  | .neg _, _, h, _ => by cases h
  | .cmp _ _ _, _, h, _ => by cases h
  | .chain _ _ _ _ _, _, h, _ => by cases h
  | .not _, _, h, _ => by cases h
  | .and _ _, _, h, _ => by cases h
  | .or _ _, _, h, _ => by cases h
  | .ite _ _ _, _, h, _ => by cases h
  | .idx _ _, _, h, _ => by cases h
  | .absent, _, h, _ => by cases h
  | .slc _ _ _, _, h, _ => by cases h
  | .rev _, _, h, _ => by cases h
  | .call _ _, _, h, _ => by cases h
  | .callk _ _ _ _, _, h, _ => by cases h
  | .callv _ _, _, h, _ => by cases h
  | .heard _ _, _, h, _ => by cases h
  | .force _, _, h, _ => by cases h
  | .prim _ _, _, h, _ => by cases h
  | .meth _ _ _, _, h, _ => by cases h
  | .comp _ _ _ _ _ _, _, h, _ => by cases h
  | .comp2 _ _ _ _ _ _ _ _ _ _ _, _, h, _ => by cases h
  | .attr _ _, _, h, _ => by cases h
  | .isx _ _, _, h, _ => by cases h
  | .draw _ _, _, h, _ => by cases h

variable (nm : Nm) (N : List Str)
/-! ### each form -/
def vCon (d : D) : Expr → Sc → Bool
  | .Constant (.int i) _ _, _ => D.same d (.int i)
  | .Constant (.bool b) _ _, _ => D.same d (.bl b)
  | .Constant .none _ _, _ => D.same d .non
  | .Constant (.str s) _ _, _ => D.same d (.str s)
  | _, _ => false
def vGlo (x : Str) (d : D) : Expr → Sc → Bool
  | .Name y _, c => decide (y = x) && gloB c.sc x && dbg x && (match nm.gl.lookup x with | some d' => D.same d d' | none => false)
  | _, _ => false
def vVar (i : Nat) : Expr → Sc → Bool
  | .Name y _, c => decide (N[i]? = some y) && visB c.sc y && dbg y
  | _, _ => false
def vRow (r : List Expr → Sc → Bool) (ms : List Md) : Expr → Sc → Bool
  | .Tuple es _ _, c => r es c && allF ms && decide (es.length ≤ LIM)
  | _, _ => false
def rCons (A : Ck) (R : Ck) : List Expr → Sc → Bool
  | e :: es, c => A.v e c && nst e && R.r es c
  | _, _ => false
def vList (R : Ck) (ms : List Md) : Expr → Sc → Bool
  | .List es _, c => R.r es c && allF ms && decide (es.length ≤ LIM)
  | _, _ => false
def vBin (op : Op) (A B : Ck) : Expr → Sc → Bool
  | .BinOp l o r _, c => decide (o = opOf op) && A.v l c && B.v r c
  | _, _ => false
def vNeg (A : Ck) : Expr → Sc → Bool
  | .UnaryOp .USub e _, c => A.v e c
  | _, _ => false
def vCmp (op : Cm) (A B : Ck) : Expr → Sc → Bool
  | .Compare l [o] [r] _, c => decide (o = cmOf op) && A.v l c && B.v r c && !behindInMarks (cmOf op) r
  | _, _ => false
def vChain (op op' : Cm) (A B C : Ck) : Expr → Sc → Bool
  | .Compare l [o, o'] [m, r] _, c => decide (o = cmOf op) && decide (o' = cmOf op') && A.v l c && B.v m c && C.v r c && !lastMarks [cmOf op, cmOf op'] [m, r]
  | _, _ => false
def vMeth (m : Mt) (A B : Ck) : Expr → Sc → Bool
  | .Call (.Attribute e x ap) [f] [] p, c => decide (x = mtName m) && baseB e && (ap.endLine == p.line) && A.v e c && B.v f c && nst f
  | _, _ => false
def vNot (f : Expr → Sc → Bool) : Expr → Sc → Bool
  | .UnaryOp .Not e _, c => f e c
  | _, _ => false
/-- and, or: op b tells which -/
def wBoo (o : BoolOp) (f : Expr → Sc → Bool) (g : BoolOp → List Expr → Sc → Bool) : BoolOp → List Expr → Sc → Bool := fun o' es c => match es with
  | e :: e' :: rest => decide (o' = o) && f e c && g o (e' :: rest) c
  | _ => false
def vBoo (o : BoolOp) (f : Expr → Sc → Bool) (g : BoolOp → List Expr → Sc → Bool) : Expr → Sc → Bool
  | .BoolOp o' es _, c => wBoo o f g o' es c
  | _, _ => false
def orW (f : Expr → Sc → Bool) (g : BoolOp → List Expr → Sc → Bool) : BoolOp → List Expr → Sc → Bool := fun o es c => match es with
  | [e] => f e c
  | _ => g o es c
def vIte (C A B : Ck) (ok : Bool) : Expr → Sc → Bool
  | .IfExp t a b _, c => ok && C.t t c && A.v a c && B.v b c
  | _, _ => false
def vIdx (A B : Ck) : Expr → Sc → Bool
  | .Subscript a b _, c => A.v a c && B.v b c && plI b
  | _, _ => false
def isAbs : E → Bool
  | .absent => true
  | _ => false
def pOk (a : E) (A : Ck) : Option Expr → Sc → Bool
  | none, _ => isAbs a
  | some e, c => !isAbs a && A.v e c
def vSlc (l h : E) (A B C : Ck) : Expr → Sc → Bool
  | .Subscript a (.Slice lo hi none _) _, c => A.v a c && pOk l B lo c && pOk h C hi c
  | _, _ => false
def isNil : E → Bool
  | .nil => true
  | _ => false
def vCall (f : Nat) (a : E) (A : Ck) : Expr → Sc → Bool
  | .Call (.Name x _) [] [] _, c => isNil a && gloB c.sc x && dbg x && decide (nm.fl.lookup x = some f)
  | .Call (.Name x _) (e :: es) [] _, c => A.r (e :: es) c && nst e && es.all nst && allF (mds a) && gloB c.sc x && dbg x && decide (nm.fl.lookup x = some f)
  | _, _ => false
def vDraw (A B : Ck) : Expr → Sc → Bool
  | .Call (.Name x _) [e, f] [] _, c => decide (x = ("_law_draw" : Str)) && gloB c.sc x && c.dr && A.v e c && nst e && B.v f c && nst f
  | _, _ => false
def vCallv (i : Nat) (a : E) (A : Ck) : Expr → Sc → Bool
  | .Call (.Name x _) (e :: es) [] _, c => A.r (e :: es) c && nst e && es.all nst && allF (mds a) && decide (N[i]? = some x) && visB c.sc x && dbg x
  | _, _ => false
/-- a top name that is a built-in one -/
def bltB (c : Sc) (x : Str) : Bool := gloB c.sc x && nm.bl.contains x
def prName : Pr → Option Str
  | .len => some "len"
  | .sum => some "sum"
  | .repr => some "repr"
  | .list => some "list"
  | .tuple => some "tuple"
  | .int => some "int"
  | .min => some "min"
  | .max => some "max"
  | .sorted => some "sorted"
  | _ => none
def isiName : Pr → Option Str
  | .isInt => some "int"
  | .isBool => some "bool"
  | .isTuple => some "tuple"
  | .isList => some "list"
  | _ => none
def rgName : Pr → Option Str
  | .listRange => some "list"
  | .tupleRange => some "tuple"
  | _ => none
def pr2Name : Pr → Option Str
  | .max2 => some "max"
  | .min2 => some "min"
  | _ => none
def keyName : Pr → Option Str
  | .maxD => some "max"
  | .minD => some "min"
  | _ => none
def vKey (z : Option Str) (A B : Ck) : Expr → Sc → Bool
  | .Call (.Name x _) [e] [⟨some k, f, _⟩] _, c => decide (z = some x) && decide (k = ("default" : Str)) && bltB nm c x && A.v e c && nst e && B.v f c
  | _, _ => false
def vPr (z : Option Str) (A : Ck) : Expr → Sc → Bool
  | .Call (.Name x _) [e] [] _, c => decide (z = some x) && bltB nm c x && A.v e c && nst e
  | _, _ => false
def vIsi (z : Option Str) (A : Ck) : Expr → Sc → Bool
  | .Call (.Name x _) [e, .Name y _] [] _, c => decide (x = ("isinstance" : Str)) && bltB nm c x && decide (z = some y) && bltB nm c y && A.v e c && nst e
  | _, _ => false
def vRg1 (z : Option Str) (A : Ck) : Expr → Sc → Bool
  | .Call (.Name x _) [.Call (.Name y _) [e] [] _] [] _, c => decide (z = some x) && bltB nm c x && decide (y = ("range" : Str)) && bltB nm c y && A.v e c && nst e
  | _, _ => false
def vPr2 (z : Option Str) (A B : Ck) : Expr → Sc → Bool
  | .Call (.Name x _) [e, f] [] _, c => decide (z = some x) && bltB nm c x && A.v e c && nst e && B.v f c && nst f
  | _, _ => false
def vRg2 (z : Option Str) (A B : Ck) : Expr → Sc → Bool
  | .Call (.Name x _) [.Call (.Name y _) [e, f] [] _] [] _, c => decide (z = some x) && bltB nm c x && decide (y = ("range" : Str)) && bltB nm c y && A.v e c && nst e && B.v f c && nst f
  | _, _ => false
/-! ### sources, targets, comprehensions -/
def tgB : Tg → Expr → Sc → Bool
  | .v i, .Name x _, c => decide (N[i]? = some x) && (match c.sc.names.lookup x with | some .local => true | some .cell => c.fb x | _ => false)
  | .cons h t, .Tuple (e :: es) _ _, c => tgB h e c && nst e && tgsB t es c
  | _, _, _ => false
where tgsB : Tg → List Expr → Sc → Bool
  | .nil, [], _ => true
  | .cons h t, e :: es, c => tgB h e c && nst e && tgsB t es c
  | _, _, _ => false
/-- a source: its kind, the text; whether the target must be a tuple -/
def wkB (w : Wk) (it : E) (A : Ck) (tg : Expr) : Expr → Sc → Bool := fun ee c => match w with
  | .seq => A.v ee c && decide (md it = .f) && nfo ee
  | .rng1 => (match it, ee with
    | .cons a .nil, .Call (.Name x _) [e] [] _ => decide (x = ("range" : Str)) && bltB nm c x && A.r [e] c && nst e && decide (md a = .f)
    | _, _ => false)
  | .rng2 => (match it, ee with
    | .cons a (.cons b .nil), .Call (.Name x _) [e, f] [] _ => decide (x = ("range" : Str)) && bltB nm c x && A.r [e, f] c && nst e && nst f && decide (md a = .f) && decide (md b = .f)
    | _, _ => false)
  | .enum => (match it, ee with
    | .cons a .nil, .Call (.Name x _) [e] [] _ => decide (x = ("enumerate" : Str)) && bltB nm c x && A.r [e] c && nst e && decide (md a = .f) && !notTup tg
    | _, _ => false)
  | .zip => (match it, ee with
    | .cons a (.cons b .nil), .Call (.Name x _) [e, f] [] _ => decide (x = ("zip" : Str)) && bltB nm c x && A.r [e, f] c && nst e && nst f && decide (md a = .f) && decide (md b = .f) && !notTup tg
    | _, _ => false)
/-- a block's context -/
def Sc.blk (c : Sc) (scope : Scope) : Sc := ⟨relS scope c.sc, fun x => scope.names.lookup x == some .cell, false, c.dr, false⟩
def isTrueE : E → Bool
  | .con (.bl true) => true
  | _ => false
def ifB (c : E) (C : Ck) : List Expr → Sc → Bool
  | [], _ => isTrueE c
  | [e], k => C.t e k
  | _, _ => false
/-- the own names' places by the slots -/
def ownOf (own : List Nat) : Option (List (Str × Nat)) := match own with
  | [] => some []
  | i :: is => match N[i]?, ownOf is with
    | some x, some r => some ((x, i) :: r)
    | _, _ => none
def vComp (own : List Nat) (w : Wk) (it : E) (t : Tg) (cd elt : E) (I C A : Ck) : Expr → Sc → Bool
  | .ListComp ee [⟨tg, iter, ifs, 0⟩] scope _, c => (match ownOf N own with
    | some ow => blkC N c.sc scope ow && decide (md elt = .f) && (t.slots.all fun i => decide (i ∈ own)) && wkB nm w it I tg iter c && nfo iter && tgB N t tg (c.blk scope) && ifB cd C ifs (c.blk scope) && A.v ee (c.blk scope)
    | none => false)
  | _, _ => false
/-- two for-parts -/
def vComp2 (own : List Nat) (w : Wk) (it : E) (t : Tg) (cd : E) (own1 : List Nat) (w1 : Wk) (it1 : E) (t1 : Tg) (cd1 elt : E) (I C I1 C1 A : Ck) : Expr → Sc → Bool
  | .ListComp ee [⟨tg, iter, ifs, 0⟩, ⟨tg1, iter1, ifs1, 0⟩] scope _, c => (match ownOf N own with
    | some ow => blkC N c.sc scope ow && decide (md elt = .f) && (t.slots.all fun i => decide (i ∈ own)) && (t1.slots.all fun i => decide (i ∈ own1)) && (own1.all fun i => decide (i ∈ own)) && wkB nm w it I tg iter c && nfo iter && wkB nm w1 it1 I1 tg1 iter1 (c.blk scope) && nfo iter1 &&
        tgB N t tg (c.blk scope) && tgB N t1 tg1 (c.blk scope) && ifB cd C ifs (c.blk scope) && ifB cd1 C1 ifs1 (c.blk scope) && A.v ee (c.blk scope)
    | none => false)
  | _, _ => false
/-- no parameters -/
def noPar : Arguments → Bool
  | ⟨[], [], none, [], [], none, []⟩ => true
  | _ => false
def lamSc (c : Sc) (scope : Scope) : Sc := ⟨scope, fun _ => false, false, c.dr, false⟩
def vHeard (nm : Nm) (f : Nat) (m : Md) (B : Ck) : Expr → Sc → Bool
  | .Call (.Name x _) [.Lambda params e scope _] [] _, c => c.hd && gloB c.sc x && dbg x && decide (nm.hl.lookup x = some f) && LamX.lamSB c.sc scope && noPar params && decide (m = .f) && B.v e (lamSc c scope)
  | _, _ => false
def vForce (N : List Str) (i : Nat) : Expr → Sc → Bool
  | .Call (.Name x _) [] [] _, c => c.fo && decide (N[i]? = some x) && visB c.sc x && dbg x
  | _, _ => false
/-- a call by names -/
def vCallk (f : Nat) (perm : List Nat) (a k : E) (A K : Ck) : Expr → Sc → Bool
  | .Call (.Name x _) es kws _, c => A.r es c && K.r (kws.map (·.value)) c && es.all nst && allF (mds a) && allF (mds k) && gloB c.sc x && dbg x && decide (nm.fl.lookup x = some f) && kws.all (·.arg.isSome) && nm.kl.contains (f, es.length, kws.filterMap (·.arg), perm)
  | _, _ => false
def chk : E → Ck
  | .con d => ofV (vCon d)
  | .glo x d => ofV (vGlo nm x d)
  | .var i => ofV (vVar N i)
  | .bor i => ofV (vVar N i)
  | .nil => ⟨vRow (fun es _ => es.isEmpty) [], fun _ _ => false, fun es _ => es.isEmpty, fun _ _ _ => false, fun _ _ _ => false⟩
  | .cons a r => ⟨vRow (rCons (chk a) (chk r)) (md a :: mds r), fun _ _ => false, rCons (chk a) (chk r), fun _ _ _ => false, fun _ _ _ => false⟩
  | .list a => ofV (vList (chk a) (mds a))
  | .frz a => ofV fun e c => (chk a).v e c && !decide (md a = .b)
  | .bin op a b => ofV (vBin op (chk a) (chk b))
  | .neg a => ofV (vNeg (chk a))
  | .cmp op a b => ofVT (vCmp op (chk a) (chk b)) (vCmp op (chk a) (chk b))
  | .chain op op' a b c => ofVT (vChain op op' (chk a) (chk b) (chk c)) (vChain op op' (chk a) (chk b) (chk c))
  | .not a => ofVT (vNot (chk a).v) (vNot (chk a).t)
  | .and a b => ⟨vBoo .And (chk a).v (chk b).w, vBoo .And (chk a).t (chk b).wt, fun _ _ => false, orW (vBoo .And (chk a).v (chk b).w) (wBoo .And (chk a).v (chk b).w), orW (vBoo .And (chk a).t (chk b).wt) (wBoo .And (chk a).t (chk b).wt)⟩
  | .or a b => ⟨vBoo .Or (chk a).v (chk b).w, vBoo .Or (chk a).t (chk b).wt, fun _ _ => false, orW (vBoo .Or (chk a).v (chk b).w) (wBoo .Or (chk a).v (chk b).w), orW (vBoo .Or (chk a).t (chk b).wt) (wBoo .Or (chk a).t (chk b).wt)⟩
  | .ite c a b => ofV (vIte (chk c) (chk a) (chk b) (decide (md a = md b)))
  | .idx a b => ofV (vIdx (chk a) (chk b))
  | .slc a l h => ofV (vSlc l h (chk a) (chk l) (chk h))
  | .call f a => ofV (vCall nm f a (chk a))
  | .callv i a => ofV (vCallv N i a (chk a))
  | .callk f perm a k => ofV (vCallk nm f perm a k (chk a) (chk k))
  | .prim p (.cons a .nil) => ofV fun e c => vPr nm (prName p) (chk a) e c || vIsi nm (isiName p) (chk a) e c || vRg1 nm (rgName p) (chk a) e c
  | .prim p (.cons a (.cons b .nil)) => ofV fun e c => vPr2 nm (pr2Name p) (chk a) (chk b) e c || vRg2 nm (rgName p) (chk a) (chk b) e c || vKey nm (keyName p) (chk a) (chk b) e c
  | .draw a b => ofV (vDraw (chk a) (chk b))
  | .meth m a b => ofV (vMeth m (chk a) (chk b))
  | .force i => ofV (vForce N i)
  | .heard f b => ofV (vHeard nm f (md b) (chk b))
  | .comp own w it t c elt => ofV (vComp nm N own w it t c elt (chk it) (chk c) (chk elt))
  | .comp2 own w it t c own1 w1 it1 t1 c1 elt => ofV (vComp2 nm N own w it t c own1 w1 it1 t1 c1 elt (chk it) (chk c) (chk it1) (chk c1) (chk elt))
  | _ => noC
end Cl
set_option autoImplicit false
set_option Elab.async false
set_option linter.all false
set_option maxRecDepth 100000
set_option maxHeartbeats 4000000
/-! An own error's __init__: super().__init__(v), then self.f = v. -/
namespace Cl
open PySem PySem.Spec PyProof.Rows L2 PySem.W PySem.Calls
def superA (vn : Str) (one : Bool) (p4 : Pos) : List Expr := match one with | true => [.Name vn p4] | false => []
def superT (sn vn : Str) (fld : Option Str) (p7 p8 p9 p10 : Pos) : List Stmt := match fld with | some f => [.Assign [.Attribute (.Name sn p7) f p8] (.Name vn p9) p10] | none => []
/-- what the written part says of the class and its __init__ -/
structure ErrC (prog : Program) (K : PySem.W.Frag) (C fI cc cda : Addr) (fd : FuncData) (sn vn : Str) (one : Bool) (fld : Option Str) : Prop where
  ex : ∃ (body : List Stmt) (oc : Value) (od : Option Addr) (osl : Array (Option Value)) (ccl cl : Value) (cdd cld : Option Addr) (ccs csl : Array (Option Value)) (vs : Array Value) (file : Str) (tf : Tok) (cdC : ClassData) (ar : Arg),
    K.lookup fI = some ⟨oc, od, .func fd, osl⟩ ∧ oc = .type "function" ∧ PySem.W.codeIn K (.ref cda) fd.qualname = true ∧ fd.code = .ref cda ∧
    K.lookup cda = some ⟨ccl, cdd, .fields vs, ccs⟩ ∧ vs[2]? = some (.str file tf) ∧ ((prog.main.file : Str) == file) = true ∧ K.lookup cc = some ⟨cl, cld, .cell (some (.ref C)), csl⟩ ∧
    PySem.W.clsIn K C = some cdC ∧ cdC.hasDict = true ∧ PySem.HandSPX.refsVE cdC.mro = true ∧ (fd.params.posonlyargs ++ fd.params.args).head? = some ar ∧ ar.arg = sn ∧
    fd.scope.kind = .function ∧ fd.scope.isCoroutine = false ∧ fd.scope.isGenerator = false ∧ (∀ x ∈ fd.scope.names, x.2 ≠ .cell) ∧ fd.scope.names.lookup ("super" : Str) = some .globalImplicit ∧ fd.scope.names.lookup ("__class__" : Str) = some .free ∧ fd.scope.names.lookup sn = some .local ∧
    (one = true → fd.scope.names.lookup vn = some .local) ∧ sn ≠ vn ∧ dbg sn = true ∧ dbg vn = true ∧ fd.body = .stmts body ∧ fd.closure.lookup ("__class__" : Str) = some cc ∧ fd.globals = mainGlobals ∧ fd.builtins = builtinsNs ∧
    (∃ (p1 p2 p3 p4 p5 p6 p7 p8 p9 p10 : Pos), body = .Expr (.Call (.Attribute (.Call (.Name "super" p1) [] [] p2) "__init__" p3) (superA vn one p4) [] p5) p6 :: superT sn vn fld p7 p8 p9 p10 ∧ (p3.endLine == p5.line) = true) ∧ (fld.isSome = true → one = true)
  mro : PySem.W.mroIn K C (.ref C) = some true
  sup : PySem.W.ks_superIn K C C "__init__" = some (some (.builtin "ValueError.__init__"))
  sub : PySem.W.subIn K (.ref C) (.type "ValueError") = some true
  opq : PySem.W.nsIn K cStatics "thirdparty.any" = some none
  cls : ∃ nm q N bs bm sn sub ab col dd k0 k1 k2 k3 k5, K.lookup C = some (excClassObj nm q C N bs bm true sn sub ab col dd k0 k1 k2 k3 k5 "ValueError.__new__") ∧ PySem.HandSPX.refsVE bm = true
  sa : PySem.W.findIn K (.ref C) "__setattr__" = some (some (.builtin "object.__setattr__"))
  fn : ∀ f, fld = some f → PySem.W.findIn K (.ref C) f = some none
  init : PySem.W.findIn K (.ref C) "__init__" = some (some (.ref fI))
  tI : PySem.W.typeIn K (.ref fI) = some (.type "function")
  exC : PySem.W.subIn K (.ref C) (.type "BaseException") = some true
  tyC : PySem.W.typeIn K (.ref C) = some (.type "type")
  kC : PySem.W.keepIn K (.ref C) = true
  top : (prog.main.scope.names.lookup ("super" : Str)).isSome = false
  bind1 : one = true → ∀ a b : Value, bindArgs fd ⟨[a, b], []⟩ = pure [(sn, a), (vn, b)]
  bind0 : one = false → ∀ a : Value, bindArgs fd ⟨[a], []⟩ = pure [(sn, a)]
abbrev errO (C t1 : Addr) (d : Option Addr) : Obj := { cls := .ref C, dict := d, data := .fields #[.ref t1, .none, .none, .none, .bool false, .none] }
section
variable {prog : Program} {w : World} {A : Around} {Ex : Value → Shared → Prop} {R : Result → Shared → Prop} {hp : Heap} {g : Array GenState} {dr : Drawn} {t : Nat} {os : OsState} {K : PySem.W.Frag} {C fI cc cda e t0 : Addr} {fd : FuncData} {sn vn : Str} {one : Bool} {fld : Option Str} {mg mb : Str → Option Value}
theorem meth_ev {o : Expr} {name : Str} {apos pos : Pos} {args : List Expr} {env : PySem.Env} (hln : (apos.endLine == pos.line) = true) (hf : methodCallForm (args.length + 0) (backTo pos (starEach args env)) [] = true) :
    eval (.Call (.Attribute o name apos) args [] pos) env = (do
      let ov ← attributeBase o name env (eval o env)
      standAt apos.atName
      let (f, first) ← holding [ov] (getMethod ov name (do return (← importBound o env).getD true))
      callWith pos f first (backTo pos (starEach args env)) []) := by
  show (do
    let ov ← attributeBase o name env (eval o env)
    standAt apos.atName
    methodCall o name apos pos env ov (args.length + 0) (backTo pos (starEach args env)) []) = _
  unfold methodCall calleeOf methodCallPos
  simp only [hf, hln, Bool.not_true, Bool.false_or, if_true, pure_bind]
theorem inter_no {env : PySem.Env} (h : env.scope.kind = .function) : interactive env = false := by
  unfold interactive
  rw [h]
  rfl
/-- the bound ValueError.__init__ called: the args are laid anew -/
theorem mw_call {u : Addr} {rest : List Value} {Qv : Value → Shared → Prop} (hC : ∃ nm q N bs bm sn sub ab col dd k0 k1 k2 k3 k5, hp.get? C = some (excClassObj nm q C N bs bm true sn sub ab col dd k0 k1 k2 k3 k5 "ValueError.__new__")) (he : hp.get? e = some (errO C t0 none)) (hu : hp.get? u = some (PySem.W.kxs_mw "ValueError.__init__" e)) (hz : rest.length ≤ sizeLine)
    (k : ∀ h' t1, (∀ b o, b ≠ e → hp.get? b = some o → h'.get? b = some o) → h'.get? e = some (errO C t1 none) → Qv .none ⟨h', g, dr, t, os⟩) : wpAny (model prog w) A (call (.ref u) rest) Qv Ex ⟨hp, g, dr, t, os⟩ := by
  obtain ⟨nm, q, N, bs, bm, sn, sub, ab, col, dd, k0, k1, k2, k3, k5, hC⟩ := hC
  refine wpAny_call (codeAny_of_tree ?_)
  show wpAny _ A.in1 (callAny (.ref u) ⟨rest, []⟩) _ _ _
  simp only [callAny]
  refine wpAny_bind (wpAny_load hu ?_)
  simp only [PySem.W.kxs_mw, show (Value.type "method-wrapper" == Value.type "method" || Value.type "method-wrapper" == Value.type "builtin_function_or_method" || Value.type "method-wrapper" == Value.type "method-wrapper") = true by decide, if_true]
  refine KFB.if_so (by decide) (wpAny_bind (PySem.W.check_bound_init F.excBase_ValueError.toExcCallFacts hC he rfl (wpAny_bind (wpAny_pure (wpAny_pure ?_)))))
  refine ⟨plainId_quiet F.excBase_ValueError.init.plain _, codeAny_builtin F.excBase_ValueError.initEntry ?_⟩
  exact PySem.W.exc_init_tree (cls := .ref C) (t0 := t0) (dv := none) (c2 := .none) (c3 := .none) (b4 := .bool false) he hz fun h' a b _ => k h' _ a b
theorem init_raw (T : ErrC prog K C fI cc cda fd sn vn one fld) (KI : K.In hp) (hg : hp.Ns mainGlobals mg) (hmg : mg "super" = none) (hb : hp.Ns builtinsNs mb) (hmb : mb "super" = bootBuiltins "super") (nl : hp.NoLimit) (room : A.depth < recursionLimit) {u : Value} {us : List Value} (hus : us = if one then [u] else [])
    (he : hp.get? e = some (errO C t0 none)) (ne : e ≠ C) (nK : K.lookup e = none)
    (k : ∀ h' t' d t1, (∀ b o, b ≠ e → hp.get? b = some o → h'.get? b = some o) → (∀ x, d = some x → hp.objs.size ≤ x ∧ x ≠ e) → h'.get? e = some (errO C t1 d) → (match fld with | some f => ∃ x, d = some x ∧ h'.Ns1 x (fun y => if y = f then some u else none) | none => d = none) → R (.ok (.ret .none)) ⟨h', g, dr, t', os⟩) :
    codeAny (model prog w) A (.call (.ref fI) ⟨.ref e :: us, []⟩) R ⟨hp, g, dr, t, os⟩ := by
  obtain ⟨body, oc, od, osl, ccl, cl, cdd, cld, ccs, csl, vs, file, tf, cdC, ar, lkf, rfl, hcd, hco, hcode, hvs, hfile, hcell, hcl, hdc, hmro, har, rfl, k1, k2, k3, k4, k5, k6, k7, k8, k9, k10, k11, hbo, hclo, hgl, hbu, ⟨p1, p2, p3, p4, p5, p6, p7, p8, p9, p10, rfl, hln⟩, k12⟩ := T.ex
  have hbind : ∃ binds : List (Str × Value), BindsTo ⟨hp, g, dr, t, os⟩ fd ⟨.ref e :: us, []⟩ binds ∧ binds = (if one then [(ar.arg, Value.ref e), (vn, u)] else [(ar.arg, Value.ref e)]) ∧ ∀ x ∈ binds, fd.scope.names.lookup x.1 = some .local := by
    cases one with
    | true =>
      refine ⟨_, BindsTo.of_eq (by rw [hus]; exact T.bind1 rfl (.ref e) u), rfl, fun x hx => ?_⟩
      simp only [if_true, List.mem_cons, List.not_mem_nil, or_false] at hx
      rcases hx with hx | hx <;> rw [hx]
      · exact k7
      · exact k8 rfl
    | false =>
      refine ⟨_, BindsTo.of_eq (by rw [hus]; exact T.bind0 rfl (.ref e)), rfl, fun x hx => ?_⟩
      simp only [Bool.false_eq_true, if_false, List.mem_cons, List.not_mem_nil, or_false] at hx
      rw [hx]
      exact k7
  obtain ⟨binds, hbd, hbs, hloc⟩ := hbind
  have m1 : binds.reverse.lookup ar.arg = some (.ref e) := by
    rw [hbs]
    cases one with
    | true => simp [List.lookup, show (ar.arg == vn) = false from beq_false_of_ne k9]
    | false => simp [List.lookup]
  have m2 : one = true → binds.reverse.lookup vn = some u := fun h => by
    rw [hbs, h]
    simp [List.lookup]
  refine ks_codeAny_call_defAt room (KI _ _ lkf) rfl nl (by rw [hco]; exact PySem.W.codeRec_of KI hcd) hbo hbd k4 hloc (fun h0 hns k0 => ?_) k2 k3 k1
  have K0 : K.In h0 := fun a o z => k0 _ _ (KI a o z)
  have hD : ∃ oD, h0.get? C = some oD ∧ oD.data = .cls cdC := by
    unfold PySem.W.clsIn at hcl
    split at hcl
    · rename_i c d cd' sl ho
      cases hcl
      exact ⟨_, K0 _ _ ho, rfl⟩
    · cases hcl
  obtain ⟨oD, hD1, hD2⟩ := hD
  have he0 : h0.get? e = some (errO C t0 none) := k0 _ _ he
  have LI : PySem.W.InstAt h0 e (errO C t0 none) C none := ⟨he0, rfl, rfl, trivial⟩
  have hev : ∃ pl : Sem Bool, eval (.Call (.Attribute (.Call (.Name "super" p1) [] [] p2) "__init__" p3) (superA vn one p4) [] p5) (callEnv fd hp.objs.size fI) = (do
      let ov ← attributeBase (.Call (.Name "super" p1) [] [] p2) "__init__" (callEnv fd hp.objs.size fI) (eval (.Call (.Name "super" p1) [] [] p2) (callEnv fd hp.objs.size fI))
      standAt p3.atName
      let (f, first) ← holding [ov] (getMethod ov "__init__" pl)
      callWith p5 f first (backTo p5 (starEach (superA vn one p4) (callEnv fd hp.objs.size fI))) []) := by
    cases one
    · exact ⟨_, meth_ev hln rfl⟩
    · exact ⟨_, meth_ev hln rfl⟩
  obtain ⟨pl, hev⟩ := hev
  refine ks_wpAt_execs_cons (ks_wpAt_Expr_any (ks_wpAt_MethodCall (pl := pl) (he := hev) (ks_wpAt_super_base k5 k6 (by decide) rfl (K0 _ _ lkf) rfl har hco (K0 _ _ hcode) rfl hvs hfile T.top ?_)) (inter_no k1))
  refine ks_loadName_global k1 k5 (loadGlobal_builtin (by rw [show (callEnv fd hp.objs.size fI).globals = mainGlobals from hgl]; exact hg.keeps k0) hmg (by rw [show (callEnv fd hp.objs.size fI).builtins = builtinsNs from hbu]; exact hb.keeps k0) (hmb.trans (by decide +kernel : bootBuiltins "super" = some (.type "super"))) ⟨rfl, ?_⟩)
  refine wpAny_loadName_free k1 k6 hclo ⟨_, K0 _ _ hcell, rfl⟩ ?_
  refine wpAny_loadName_local k1 k7 hns m1 ?_
  refine ks_wpAny_isType_cls hD1 hD2 ⟨rfl, ?_⟩
  refine ks_wpAny_call_super hD1 hD2 he0 rfl (fun c z => by cases z) (PySem.W.looks_mroIn K0 T.mro) (fun h1 hso kk => ?_)
  have K1 : K.In h1 := fun a o z => kk _ _ (K0 a o z)
  have he1 : h1.get? e = some (errO C t0 none) := kk _ _ he0
  have I1 : PySem.W.InstAt h1 e (errO C t0 none) C none := ⟨he1, rfl, rfl, trivial⟩
  have ha : PySem.W.alongIn K "__init__" ((cdC.mro.dropWhile (· != .ref C)).drop 1) = some (some (.builtin "ValueError.__init__")) := by
    have z := T.sup
    unfold PySem.W.ks_superIn at z
    rw [hcl] at z
    exact z
  refine PySem.W.kxs_getMethod PySem.W.kxs_ValueError hso (looks_opaque K1 T.opq) (l₀ := cdC.mro) (fun A Q E s k q => wpAny_bind ((looks_clsIn K1 hcl) A _ E s k (wpAny_pure q))) rfl K1 ha (I1.type.andThen (looks_subIn K1 T.sub)) ne (by decide) ?_
  have k2' : ∀ b o, hp.get? b = some o → (h1.push (PySem.W.kxs_mw "ValueError.__init__" e)).get? b = some o := fun b o z => Heap.get?_push_of_some _ (kk _ _ (k0 _ _ z))
  have K2 : K.In (h1.push (PySem.W.kxs_mw "ValueError.__init__" e)) := fun a o z => k2' _ _ (KI a o z)
  have hns2 : (h1.push (PySem.W.kxs_mw "ValueError.__init__" e)).Ns hp.objs.size (fun x => binds.reverse.lookup x) := (hns.keeps kk).keeps fun b o z => Heap.get?_push_of_some _ z
  have hu : (h1.push (PySem.W.kxs_mw "ValueError.__init__" e)).get? h1.objs.size = some (PySem.W.kxs_mw "ValueError.__init__" e) := Heap.get?_push_size _ rfl
  have he2 : (h1.push (PySem.W.kxs_mw "ValueError.__init__" e)).get? e = some (errO C t0 none) := k2' _ _ he
  obtain ⟨nm, q, N, bs, bm, sn', sub, ab, col, dd, c0, c1, c2, c3, c5, hC, hbm⟩ := T.cls
  have hC2 := K2 _ _ hC
  have eL : e ≠ hp.objs.size := Nat.ne_of_lt (Heap.lt_size he)
  -- the rest of the body
  have rest : ∀ (h2 : Heap) (tk : Nat) (t1 : Addr), (∀ b o, b ≠ e → (h1.push (PySem.W.kxs_mw "ValueError.__init__" e)).get? b = some o → h2.get? b = some o) → h2.get? e = some (errO C t1 none) →
      wpAny (model prog w) (A.deeper (callEnv fd hp.objs.size fI))
      (execs (superT ar.arg vn fld p7 p8 p9 p10) (callEnv fd hp.objs.size fI))
      (fun f s' => R (.ok (.ret (match f with | .ret v => v | _ => .none))) s') (fun _ _ => False) ⟨h2, g, dr, tk, os⟩ := fun h2 tk t1 kh he3 => by
    have hns3 : h2.Ns hp.objs.size (fun x => binds.reverse.lookup x) := hns2.at fun o z => kh _ _ (Ne.symm eL) z
    have K3 : K.In h2 := fun a o z => by
      refine kh _ _ (fun y => ?_) (K2 a o z)
      rw [y, nK] at z
      cases z
    cases fld with
    | none => exact wpAny_execs_nil (k h2 tk none t1 (fun b o nb z => kh _ _ nb (k2' _ _ z)) (fun x z => by cases z) he3 rfl)
    | some f =>
      have h8 := k8 (k12 rfl)
      have mm2 := m2 (k12 rfl)
      refine wpAny_execs_cons (plainObj_wpAny_Assign_Attribute (wpAny_Name (wpAny_loadName_local k1 h8 hns3 mm2 (wpAny_Name (wpAny_loadName_local k1 k7 hns3 m1 ?_) (dbg_of k10).1)) (dbg_of k11).1) rfl)
      refine PySem.W.set_plain K3 (ox := errO C t1 none) (od := none) ⟨he3, rfl, rfl, trivial⟩ T.sa ?_
      refine PySem.HandSPX.exc_osa K3 he3 hcl hmro hdc (T.fn f rfl) fun h4 tk4 dx kx dn dne hx hn => ?_
      refine wpAny_execs_nil (k h4 tk4 (some dx) t1 (fun b o nb z => kx _ _ nb (kh _ _ nb (k2' _ _ z))) (fun x z => ?_) hx ⟨dx, rfl, hn⟩)
      cases z
      exact ⟨Nat.le_trans (Nat.le_of_lt hns3.lt) dn, dne⟩
  have fin : ∀ rest' : List Value, rest'.length ≤ sizeLine → wpAny (model prog w) (A.deeper (callEnv fd hp.objs.size fI)) (call (.ref h1.objs.size) rest') (fun _ s' => wpAny (model prog w) (A.deeper (callEnv fd hp.objs.size fI))
      (execs (superT ar.arg vn fld p7 p8 p9 p10) (callEnv fd hp.objs.size fI))
      (fun f s' => R (.ok (.ret (match f with | .ret v => v | _ => .none))) s') (fun _ _ => False) s') (fun _ _ => False) ⟨h1.push (PySem.W.kxs_mw "ValueError.__init__" e), g, dr, t + binds.length + 1, os⟩ := fun rest' hz =>
    mw_call ⟨nm, q, N, bs, bm, sn', sub, ab, col, dd, c0, c1, c2, c3, c5, hC2⟩ he2 hu hz fun h2 t1 kh he3 => rest h2 _ t1 kh he3
  have lift : ∀ {α : Type} {m : Sem α} {Q : α → Shared → Prop} {E : Value → Shared → Prop} {A' : Around} {s : Shared}, wpAny (model prog w) A' m Q (fun _ _ => False) s → wpAny (model prog w) A' m Q E s := fun h => wpAny_mono h (fun _ _ z => z) fun _ _ z => z.elim
  cases one with
  | true =>
    refine PySem.W.kxs_callWith (i := "ValueError.__init__") (x := e) rfl (evalArgs_plain (Calls.spliced_cons (wpAny_Name (wpAny_loadName_local k1 (k8 rfl) hns2 (m2 rfl) (Calls.spliced_nil ⟨hu, ?_⟩)) (dbg_of k11).1)))
    refine wpAny_mono (fin [u] (by show 1 ≤ sizeLine; decide)) (fun _ s' z => wpAt_of_wpAny (lift z)) fun _ _ z => z.elim
  | false =>
    refine PySem.W.kxs_callWith (i := "ValueError.__init__") (x := e) rfl (evalArgs_empty ⟨hu, ?_⟩)
    refine wpAny_mono (fin [] (Nat.zero_le _)) (fun _ s' z => wpAt_of_wpAny (lift z)) fun _ _ z => z.elim
end
end Cl
set_option autoImplicit false
set_option Elab.async false
set_option linter.all false
set_option maxRecDepth 100000
set_option maxHeartbeats 4000000
/-! raise of the text's errors. -/
namespace Cl
open PySem PySem.Spec PyProof.Rows L2
section
variable {X : Cx} {C fI cc cda : Addr} {fd : FuncData} {sn vn : Str} {one : Bool} {fld : Option Str} {x f : Str} {p1 p2 : Pos} {ee : Expr} {te : TE} {b : Nat}
/-- the class called: a new error behind it -/
theorem err_call {fld : Option Str} {one : Bool} {pins : List (Addr × Obj)} {σ : L2.St} {H : Hp} {s : Shared} {u : Value} {us : List Value} {Qv : Value → Shared → Prop} (T : ErrC X.prog X.K C fI cc cda fd sn vn one fld) (I : Inv X pins σ H s) (hs : X.mg "super" = none) (hr : Room b X.A) (hus : us = if one then [u] else [])
    (k : ∀ h' t' d t1, (∀ b o, s.heap.get? b = some o → h'.get? b = some o) → (∀ x, d = some x → s.heap.objs.size + 2 ≤ x ∧ x ≠ s.heap.objs.size + 1) → h'.get? (s.heap.objs.size + 1) = some (errO C t1 d) → (match fld with | some f => ∃ x, d = some x ∧ h'.Ns1 x (fun y => if y = f then some u else none) | none => d = none) →
      Qv (.ref (s.heap.objs.size + 1)) { s with heap := h', toks := t' }) : wpAny (model X.prog X.w) X.A (call (.ref C) us) Qv X.xe s := by
  obtain ⟨nm, q, N, bs, bm, sn', sub, ab, col, dd, c0, c1, c2, c3, c5, hC, hbm⟩ := T.cls
  obtain ⟨mb, hb1, hb2⟩ := I.mod.blt
  have hglob := I.mod.glob.keeps I.bk
  have hblt := hb1.keeps I.bk
  have nl := I.nolimit
  have KI := I.kIn
  have Kn : ∀ {a : Addr}, s.heap.objs.size ≤ a → X.K.lookup a = none := fun {a} ha => by
    cases z : X.K.lookup a with
    | none => rfl
    | some o => exact absurd (Heap.lt_size (KI a o z)) (Nat.not_lt.mpr ha)
  have CK : X.K.lookup C ≠ none := by rw [hC]; simp
  have hz : us.length ≤ sizeLine := by
    rw [hus]
    cases one
    · exact Nat.zero_le _
    · show 1 ≤ sizeLine; decide
  obtain ⟨hp, g, dr, tk, os⟩ := s
  have kk : ∀ b o, hp.get? b = some o → ((hp.push (PySem.W.kdv_tup us)).push (PySem.HandSPX.excO C hp.objs.size)).get? b = some o := fun b o e => Heap.get?_push_of_some _ (Heap.get?_push_of_some _ e)
  have hget : ((hp.push (PySem.W.kdv_tup us)).push (PySem.HandSPX.excO C hp.objs.size)).get? (hp.objs.size + 1) = some (errO C hp.objs.size none) := by heap_get
  have hsz : ((hp.push (PySem.W.kdv_tup us)).push (PySem.HandSPX.excO C hp.objs.size)).objs.size = hp.objs.size + 2 := by simp [Heap.size_push]
  have room : (X.A.under (.builtin "type.__call__" ⟨.ref C :: us, []⟩)).depth < recursionLimit := by
    rw [make_depth]
    have := hr.dp
    omega
  refine wpAny_call (PySem.HandSPX.call_own F.excBase_ValueError (fun Y => PySem.HandSPX.refsVE_contains Y bm hbm) (KI _ _ hC) (PySem.W.looks_findIn KI T.init) (fun self => PySem.W.bind_fn KI self T.tI) hz
    (init_raw (A := X.A.under (.builtin "type.__call__" ⟨.ref C :: us, []⟩)) (u := u) T (fun a o z => kk _ _ (KI a o z)) (hglob.keeps kk) hs (hblt.keeps kk) (hb2 _ (by decide +kernel)) (nl.keeps kk) room hus hget (fun z => CK (by rw [← z]; exact Kn (Nat.le_succ _))) (Kn (Nat.le_succ _)) fun h' t' d t1 kh hd he hf => ?_))
  refine ⟨rfl, k h' t' d t1 (fun b o z => kh b o (Nat.ne_of_lt (Nat.lt_of_lt_of_le (Heap.lt_size z) (Nat.le_succ _))) (kk b o z)) (fun x z => ?_) he hf⟩
  obtain ⟨z1, z2⟩ := hd x z
  rw [hsz] at z1
  exact ⟨z1, z2⟩
theorem pmk_err1 (T : ErrC X.prog X.K C fI cc cda fd sn vn true (some f)) (hs : X.mg "super" = none) (hr : Room b X.A) (hg : L2.Gl X x) (hm : X.mg x = some (.ref C)) (hdb : (x == ("__debug__" : Str)) = false) (he : PE X ee te) (hn : nst ee = true) :
    PMk X (.Call (.Name x p1) [ee] [] p2) (fun σ H Q => te σ H fun v H1 => ∀ dx, H1 dx = none → Q (.ref C) (some dx) (upd H1 dx (.xd [(f, v)]))) := by
  intro pins s σ H Q I h
  refine wpAny_Call_Name_kw (ld_glob I hg hm ?_ hdb)
  refine PySem.W.callWith_K (h₀ := X.base) I.ok.mod.kin T.kC (thn ((pa_cons he pa_nil (star_cons hn)).run p2 pins s σ H (fun vs H1 => match vs with | [v] => ∀ dx, H1 dx = none → Q (.ref C) (some dx) (upd H1 dx (.xd [(f, v)])) | _ => False) I h) fun us s1 ⟨vs, H1, I1, r1, q1⟩ => ⟨I1.kIn, ?_⟩) (star_cons hn) rfl
  have hv : ∃ v, vs = [v] := by
    cases vs with
    | nil => exact q1.elim
    | cons a l => cases l with
      | nil => exact ⟨_, rfl⟩
      | cons _ _ => exact q1.elim
  obtain ⟨v, rfl⟩ := hv
  obtain ⟨u, rfl, rv⟩ := vals1 r1
  have q : ∀ dx, H1 dx = none → Q (.ref C) (some dx) (upd H1 dx (.xd [(f, v)])) := q1
  obtain ⟨hp, g, dr, tk, os⟩ := s1
  refine err_call T I1 hs hr rfl fun h' t' d t1 kh hd hx hf => ?_
  obtain ⟨dx, rfl, hns⟩ := hf
  obtain ⟨d1, d2⟩ := hd dx rfl
  have ea : H1 (hp.objs.size + 1) = none := I1.hok.fresh (Nat.le_succ _)
  have ed : H1 dx = none := I1.hok.fresh (Nat.le_trans (Nat.le_add_right _ 2) d1)
  have d1' : hp.objs.size + 2 ≤ dx := d1
  have d2' : dx ≠ hp.objs.size + 1 := d2
  have hx' : h'.get? (hp.objs.size + 1) = some (errO C t1 (some dx)) := hx
  have hz : ∀ b o, hp.get? b = some o → h'.get? b = some o := kh
  have nd : ∀ {b : Addr} {o : Obj}, hp.get? b = some o → b ≠ dx ∧ b ≠ hp.objs.size + 1 := fun {b o} z => ⟨Nat.ne_of_lt (Nat.lt_of_lt_of_le (Heap.lt_size z) (Nat.le_trans (Nat.le_add_right _ 2) d1')), Nat.ne_of_lt (Nat.lt_of_lt_of_le (Heap.lt_size z) (Nat.le_succ _))⟩
  have nH : ∀ {b : Addr} {o : HO}, H1 b = some o → b ≠ dx ∧ b ≠ hp.objs.size + 1 := fun {b o} z => ⟨ne_of_none z ed, ne_of_none z ea⟩
  have U : Un (frs X.stack) [] (upd H1 (hp.objs.size + 1) (exo (hp.objs.size + 1) C none)) (upd (upd H1 dx (exd dx [(f, v)])) (hp.objs.size + 1) (exo (hp.objs.size + 1) C (some dx))) hp h' := {
    keep := fun b o z _ _ _ => hz b o z
    slot := fun b o z _ _ _ => ⟨o.slots, hz b o z⟩
    free := fun b o z n _ => by
      rw [upd_ne (nd z).2] at n ⊢
      rw [upd_ne (nd z).1]
      exact n
    there := fun b o z _ => ⟨o, hz b o z⟩
    tups := fun b xs z => by
      by_cases w : b = hp.objs.size + 1
      · rw [w, upd_same] at z
        exact absurd (Option.some.inj z) exo_tup
      · rw [upd_ne w] at z ⊢
        rw [upd_ne (nH z).1]
        exact z
    frzs := fun b o u z => by
      by_cases w : b = hp.objs.size + 1
      · rw [w, upd_same] at z
        exact absurd (Option.some.inj z) exo_frz
      · rw [upd_ne w] at z ⊢
        rw [upd_ne (nH z).1]
        exact z
    tbls := fun b ps z => by
      by_cases w : b = hp.objs.size + 1
      · rw [w, upd_same] at z
        exact absurd (Option.some.inj z) exo_tbl
      · rw [upd_ne w] at z ⊢
        rw [upd_ne (nH z).1]
        exact ⟨#[], by rw [z]; simp⟩ }
  have OK : HOk X.prog X.w (upd (upd H1 dx (exd dx [(f, v)])) (hp.objs.size + 1) (exo (hp.objs.size + 1) C (some dx))) h' := fun b o z => by
    by_cases w : b = hp.objs.size + 1
    · rw [w, upd_same] at z
      cases z
      rw [w]
      exact exo_ok hx'
    · rw [upd_ne w] at z
      by_cases w2 : b = dx
      · rw [w2, upd_same] at z
        cases z
        rw [w2]
        exact exd_ok hns (relO_put (fs := []) rv fun g => True.intro)
      · rw [upd_ne w2] at z
        exact (I1.hok b o z).stay (fun c v _ y => hz c v y) (fun c y => by rw [upd_ne (nH y).2, upd_ne (nH y).1]; exact y) fun c xs y => by rw [upd_ne (nH y).2, upd_ne (nH y).1]; exact y
  have Q2 := q dx ed
  have eqH : upd (del (upd (upd H1 dx (exd dx [(f, v)])) (hp.objs.size + 1) (exo (hp.objs.size + 1) C (some dx))) (hp.objs.size + 1)) dx (.xd [(f, v)]) = upd H1 dx (.xd [(f, v)]) := by
    funext c
    by_cases w : c = dx
    · rw [w, upd_same, upd_same]
    · rw [upd_ne w, upd_ne w]
      by_cases w2 : c = hp.objs.size + 1
      · rw [w2, del_same, ea]
      · rw [del_ne w2, upd_ne w2, upd_ne w]
  exact mk_end (hp2 := hp) (raises_own T.exC T.tyC) I1 (Nat.le_succ _) (fun _ _ z => z) U OK rfl I1.bare upd_same (by rw [upd_ne d2', upd_same]) ed (by rw [eqH]; exact Q2)
theorem pmk_err0 (T : ErrC X.prog X.K C fI cc cda fd sn vn false none) (hs : X.mg "super" = none) (hr : Room b X.A) (hg : L2.Gl X x) (hm : X.mg x = some (.ref C)) (hdb : (x == ("__debug__" : Str)) = false) :
    PMk X (.Call (.Name x p1) [] [] p2) (fun σ H Q => Q (.ref C) none H) := by
  intro pins s σ H Q I h
  refine wpAny_Call_Name_kw (ld_glob I hg hm ?_ hdb)
  refine PySem.W.callWith_K0 I.kIn T.kC ?_
  refine err_call (u := .none) T I hs hr rfl fun h' t' d t1 kh hd hx hf => ?_
  subst hf
  exact ⟨s.heap.objs.size + 1, errO C t1 none, _, s, H, .ref C, none, rfl, I, kh, Heap.get?_none_of_le (Nat.le_succ _), hx, ⟨rfl, rfl⟩, rfl, rfl, I.hok.fresh (Nat.le_succ _), rfl, I.bare, raises_own T.exC T.tyC, h⟩
end
end Cl
namespace Cl
open PySem PySem.Spec PyProof.Rows L2
/-- the classes of the text -/
structure ClOk (G : Gl0) (nm : Nm) (prog : Program) (mg : Str → Option Value) (K : PySem.W.Frag) : Prop where
  sup : mg "super" = none
  at_ : ∀ x k, nm.cl.lookup x = some k → mg x = some (.ref (G.cA k)) ∧ ∃ (fI cc cda : Addr) (fd : FuncData) (sn vn : Str),
    match fldOf k with
    | some f => ErrC prog K (G.cA k) fI cc cda fd sn vn true (some f)
    | none => ErrC prog K (G.cA k) fI cc cda fd sn vn false none
/-- the classes in except clauses -/
structure ExOk (G : Gl0) (nm : Nm) (mg : Str → Option Value) (K : PySem.W.Frag) : Prop where
  at_ : ∀ y j, nm.xl.lookup y = some j → mg y = some (.ref (G.cA j))
  exm : ∀ x k y j, nm.cl.lookup x = some k → nm.xl.lookup y = some j → PySem.W.exmOne K (.ref (G.cA k)) (.ref (G.cA j)) = some (subc k j) ∧ (subc k j = true → PySem.W.kitOne K (.ref (G.cA k)) (.ref (G.cA j)) = some true)
  xf : ∀ x k, nm.cl.lookup x = some k → XfC K (G.cA k) ∧ ∀ f, fldOf k = some f → PySem.W.findIn K (.ref (G.cA k)) f = some none
end Cl
set_option autoImplicit false
set_option Elab.async false
set_option linter.all false
set_option maxRecDepth 100000
set_option maxHeartbeats 4000000
/-! The check is sound: expressions. -/
namespace Cl
open PySem PySem.Spec PyProof.Rows L2
structure GlOk (G : Gl0) (nm : Nm) (mg : Str → Option Value) (K : PySem.W.Frag) : Prop where
  fl : ∀ x f, nm.fl.lookup x = some f → mg x = some (.ref (G.fA f)) ∧ ∃ F, G.T f = some F
  bl : ∀ x, nm.bl.contains x = true → mg x = none
  gl : ∀ x d, nm.gl.lookup x = some d → ∃ u v, mg x = some u ∧ RelV v u ∧ ∀ (R : Rp) (S : Hp), R.fA = G.fA → Rep G.K R S d v
  cl : G.cl = nm.cl
  kl : G.kl = nm.kl
  kp : ∀ f, PySem.W.keepIn K (.ref (G.fA f)) = true
structure XOkB (G : Gl0) (nm : Nm) (N : List Str) (L : Lv) (c : Sc) (n : Nat) (X : Cx) : Prop where
  hK : X.K = G.K
  glob : GlOk G nm X.mg X.K
  hN : X.N = N
  nd : N.Nodup
  hsc : X.env.scope = c.sc
  fk : c.sc.kind = .function
  fb : ∀ x, c.fb x = true → X.fn x = true
  calm : X.calm = true
  un : X.A.units + 70 < cLine
  call : CallOk G L X n
  cls : ClOk G nm X.prog X.mg X.K
  exo : ExOk G nm X.mg X.K
  drw : c.dr = true → DrawOk G X
  frc : c.fo = true → ∀ (pn : List (Addr × Obj)) (xe : Value → Shared → Prop) (W : WX), Takes (X.tr pn xe) W → ∀ (i : Nat) (x : Str) (p1 p2 : Pos), N[i]? = some x → Vis c.sc x → dbg x = true → PE (X.tr pn xe) (.Call (.Name x p1) [] [] p2) (rdE G { L with W := W } (.force i))
/-- .. and lambdas handed to a def -/
structure XOk (G : Gl0) (nm : Nm) (N : List Str) (L : Lv) (c : Sc) (n : Nat) (X : Cx) : Prop extends XOkB G nm N L c n X where
  hrd : c.hd = true → ∀ (pn : List (Addr × Obj)) (xe : Value → Shared → Prop) (W : WX), Takes (X.tr pn xe) W → ∀ (x : Str) (f : Nat) (body : E) (params : Arguments) (ebody : Expr) (scope : Scope) (p lpos pos : Pos), nm.hl.lookup x = some f → gloB c.sc x = true → dbg x = true → LamX.lamSB c.sc scope = true → noPar params = true → md body = .f →
    (∀ (L' : Lv) (X' : Cx), XOkB G nm N L' (lamSc c scope) n X' → PE X' ebody (rdE G L' body)) → PE (X.tr pn xe) (.Call (.Name x p) [.Lambda params ebody scope lpos] [] pos) (rdE G { L with W := W } (.heard f body))
theorem XOkB.up {G : Gl0} {nm : Nm} {N : List Str} {L : Lv} {c : Sc} {n : Nat} {X : Cx} (h : XOkB G nm N L c n X) (z : c.hd = false) : XOk G nm N L c n X := ⟨h, fun q => by rw [z] at q; cases q⟩
section
variable {G : Gl0} {nm : Nm} {N : List Str} {L : Lv} {c : Sc} {n : Nat} {X : Cx}
theorem takesF {X : Cx} : Takes X (fun _ _ _ _ => False) := fun _ _ x => by
  obtain ⟨_, _, _, _, _, _, _, _, _, _, _, _, _, _, _, _, z⟩ := x
  exact z.elim
theorem XOk.blk (h : XOk G nm N L c n X) {scope : Scope} {own : List (Str × Nat)} (ok : BlkOk X.N X.env.scope scope own) (s : Shared) (H : Hp) (C : Addr) (cl : List (Str × Addr)) (fp : List Addr) :
    XOk G nm N L.nox (c.blk scope) n (X.blk s H scope (compEnvC scope cl C X.env) fp) where
  hK := h.hK
  glob := h.glob
  hN := h.hN
  nd := h.nd
  hsc := by
    show relS scope X.env.scope = relS scope c.sc
    rw [h.hsc]
  fk := ok.kind
  fb := fun x hx => hx
  calm := h.calm
  un := h.un
  cls := h.cls
  exo := h.exo
  drw := fun z => ⟨(h.drw z).ex, (h.drw z).room⟩
  call := ⟨h.call.hF, h.call.fr, h.call.gd, takesF⟩
  frc := fun z => by cases z
  hrd := fun z => by cases z
/-- what the check gives -/
structure CkOk (G : Gl0) (nm : Nm) (N : List Str) (n : Nat) (a : E) (k : Ck) : Prop where
  v : ∀ (L : Lv) (c : Sc) (X : Cx) (e : Expr), XOk G nm N L c n X → k.v e c = true → PE X e (rdE G L a)
  t : ∀ (L : Lv) (c : Sc) (X : Cx) (e : Expr), XOk G nm N L c n X → k.t e c = true → PT X e (rdT G L a)
  r : ∀ (L : Lv) (c : Sc) (X : Cx) (es : List Expr), XOk G nm N L c n X → k.r es c = true → PA X es (rdA G L a) ∧ rowLen a = some es.length ∧ es.all nst = true
  kr : ∀ (L : Lv) (c : Sc) (X : Cx) (kws : List Keyword), XOk G nm N L c n X → k.r (kws.map (·.value)) c = true → PK X kws (rdA G L a)
  w : ∀ (L : Lv) (c : Sc) (X : Cx) (o : BoolOp) (es : List Expr) (p : Pos), XOk G nm N L c n X → k.w o es c = true → PE X (.BoolOp o es p) (rdE G L a)
  wt : ∀ (L : Lv) (c : Sc) (X : Cx) (o : BoolOp) (es : List Expr) (p : Pos), XOk G nm N L c n X → k.wt o es c = true → PW X (.BoolOp o es p) (rdT G L a)
theorem pw_one {X : Cx} {o : BoolOp} {e : Expr} {p : Pos} {t : TT} (h : PT X e t) : PW X (.BoolOp o [e] p) t := by
  cases o
  · exact pw_and1 h
  · exact pw_or1 h
theorem ck_ofVT {a : E} {v t : Expr → Sc → Bool} (hv : ∀ (L : Lv) (c : Sc) (X : Cx) (e : Expr), XOk G nm N L c n X → v e c = true → PE X e (rdE G L a)) (ht : ∀ (L : Lv) (c : Sc) (X : Cx) (e : Expr), XOk G nm N L c n X → t e c = true → PT X e (rdT G L a)) : CkOk G nm N n a (ofVT v t) where
  v := hv
  t := ht
  r := fun L c X es x h => by cases h
  kr := fun L c X es x h => by cases h
  w := fun L c X o es p x h => by
    cases es with
    | nil => cases h
    | cons e r => cases r with
      | nil => exact pe_one (hv L c X e x h)
      | cons _ _ => cases h
  wt := fun L c X o es p x h => by
    cases es with
    | nil => cases h
    | cons e r => cases r with
      | nil => exact pw_one (ht L c X e x h)
      | cons _ _ => cases h
theorem ck_ofV {a : E} {v : Expr → Sc → Bool} (hv : ∀ (L : Lv) (c : Sc) (X : Cx) (e : Expr), XOk G nm N L c n X → v e c = true → PE X e (rdE G L a)) : CkOk G nm N n a (ofV v) :=
  ck_ofVT hv fun L c X e x h => by
    unfold tv at h
    simp only [Bool.and_eq_true] at h
    exact st_val (hv L c X e x h.2) (plT_ok h.1)
theorem ck_no {a : E} : CkOk G nm N n a noC := ck_ofV fun _ _ _ _ _ h => by cases h
theorem snd_con (d : D) : CkOk G nm N n (.con d) (ofV (vCon d)) := ck_ofV fun L c X e x h => by
  cases e with
  | Constant k j p =>
    cases k with
    | int i => cases same_eq _ _ h; exact se_con_int
    | bool b => cases same_eq _ _ h; exact se_con_bl
    | none => cases same_eq _ _ h; exact se_con_non
    | str s => cases same_eq _ _ h; exact se_con_str
    | _ => cases h
  | _ => cases h
theorem snd_glo (x : Str) (d : D) : CkOk G nm N n (.glo x d) (ofV (vGlo nm x d)) := ck_ofV fun L c X e xo h => by
  cases e with
  | Name y p =>
    simp only [vGlo, Bool.and_eq_true, decide_eq_true_eq] at h
    obtain ⟨⟨⟨rfl, h2⟩, h3⟩, h4⟩ := h
    cases q : nm.gl.lookup y with
    | none => rw [q] at h4; cases h4
    | some d' =>
      rw [q] at h4
      cases same_eq _ _ h4
      obtain ⟨u, v, g1, g2, g3⟩ := xo.glob.gl y d q
      exact se_glo (glo_of xo.hsc h2) g1 g2 g3 (dbg_of h3).1
  | _ => cases h
theorem var_of {i : Nat} {y : Str} {p : Pos} (xo : XOk G nm N L c n X) (h : vVar N i (.Name y p) c = true) : X.N[i]? = some y ∧ Vis X.env.scope y ∧ (y == ("__debug__" : Str)) = false ∧ (y == ("__classdict__" : Str)) = false := by
  simp only [vVar, Bool.and_eq_true, decide_eq_true_eq] at h
  obtain ⟨⟨h1, h2⟩, h3⟩ := h
  exact ⟨by rw [xo.hN]; exact h1, by rw [xo.hsc]; exact vis_of h2, (dbg_of h3).1, (dbg_of h3).2⟩
theorem snd_var (i : Nat) : CkOk G nm N n (.var i) (ofV (vVar N i)) := ck_ofV fun L c X e xo h => by
  cases e with
  | Name y p =>
    obtain ⟨h1, h2, h3, h4⟩ := var_of xo h
    exact se_var h1 h2 h3 h4
  | _ => cases h
theorem snd_bor (i : Nat) : CkOk G nm N n (.bor i) (ofV (vVar N i)) := ck_ofV fun L c X e xo h => by
  cases e with
  | Name y p =>
    obtain ⟨h1, h2, h3, h4⟩ := var_of xo h
    exact se_bor h1 h2 h3 h4
  | _ => cases h
theorem ck_row {a : E} {r : List Expr → Sc → Bool} {ms : List Md} (hm : mds a = ms) (hm2 : md a = .f) (hr : ∀ (L : Lv) (c : Sc) (X : Cx) (es : List Expr), XOk G nm N L c n X → r es c = true → PA X es (rdA G L a) ∧ rowLen a = some es.length ∧ es.all nst = true)
    (hk : ∀ (L : Lv) (c : Sc) (X : Cx) (kws : List Keyword), XOk G nm N L c n X → r (kws.map (·.value)) c = true → PK X kws (rdA G L a)) :
    CkOk G nm N n a ⟨vRow r ms, fun _ _ => false, r, fun _ _ _ => false, fun _ _ _ => false⟩ where
  v := fun L c X e xo h => by
    cases e with
    | Tuple es k p =>
      simp only [vRow, Bool.and_eq_true, decide_eq_true_eq] at h
      obtain ⟨⟨h1, h2⟩, h3⟩ := h
      obtain ⟨p1, p2, p3⟩ := hr L c X es xo h1
      exact se_tup p1 (by rw [hm]; exact allF_of h2) hm2 h3 fun F tm ρ Q Ef hp => row_len p2 hp
    | _ => cases h
  t := fun _ _ _ _ _ h => by cases h
  r := hr
  kr := hk
  w := fun _ _ _ _ _ _ _ h => by cases h
  wt := fun _ _ _ _ _ _ _ h => by cases h
theorem snd_nil : CkOk G nm N n .nil (chk nm N .nil) := ck_row rfl rfl (fun L c X es xo h => by
  cases es with
  | nil => exact ⟨sa_nil, rfl, rfl⟩
  | cons _ _ => cases h) fun L c X kws xo h => by
  cases kws with
  | nil => exact sk_nil
  | cons _ _ => cases h
theorem snd_cons {a r : E} (A : CkOk G nm N n a (chk nm N a)) (Rr : CkOk G nm N n r (chk nm N r)) : CkOk G nm N n (.cons a r) (chk nm N (.cons a r)) := ck_row rfl rfl (fun L c X es xo h => by
  cases es with
  | nil => cases h
  | cons e es =>
    simp only [rCons, Bool.and_eq_true] at h
    obtain ⟨⟨h1, h2⟩, h3⟩ := h
    obtain ⟨p1, p2, p3⟩ := Rr.r L c X es xo h3
    exact ⟨sa_cons (A.v L c X e xo h1) p1 (star_cons h2), by simp [rowLen, p2], by simp [h2, p3]⟩) fun L c X kws xo h => by
  cases kws with
  | nil => cases h
  | cons q kws =>
    obtain ⟨kn, e, kp⟩ := q
    simp only [List.map_cons, rCons, Bool.and_eq_true] at h
    obtain ⟨⟨h1, h2⟩, h3⟩ := h
    exact sk_cons (A.v L c X e xo h1) (Rr.kr L c X kws xo h3)
theorem snd_list {a : E} (A : CkOk G nm N n a (chk nm N a)) : CkOk G nm N n (.list a) (chk nm N (.list a)) := ck_ofV fun L c X e xo h => by
  cases e with
  | List es p =>
    simp only [vList, Bool.and_eq_true, decide_eq_true_eq] at h
    obtain ⟨⟨h1, h2⟩, h3⟩ := h
    obtain ⟨p1, p2, p3⟩ := A.r L c X es xo h1
    exact se_lst p1 (allF_of h2) h3 fun F tm ρ Q Ef hp => row_len p2 hp
  | _ => cases h
theorem snd_frz {a : E} (A : CkOk G nm N n a (chk nm N a)) : CkOk G nm N n (.frz a) (chk nm N (.frz a)) := ck_ofV fun L c X e xo h => by
  simp only [Bool.and_eq_true, Bool.not_eq_true', decide_eq_false_iff_not] at h
  exact se_frz (A.v L c X e xo h.1) h.2
theorem snd_bin {op : Op} {a b : E} (A : CkOk G nm N n a (chk nm N a)) (B : CkOk G nm N n b (chk nm N b)) : CkOk G nm N n (.bin op a b) (chk nm N (.bin op a b)) := ck_ofV fun L c X e xo h => by
  cases e with
  | BinOp l o r p =>
    simp only [vBin, Bool.and_eq_true, decide_eq_true_eq] at h
    obtain ⟨⟨rfl, h2⟩, h3⟩ := h
    exact se_bin xo.hK (A.v L c X l xo h2) (B.v L c X r xo h3)
  | _ => cases h
theorem snd_neg {a : E} (A : CkOk G nm N n a (chk nm N a)) : CkOk G nm N n (.neg a) (chk nm N (.neg a)) := ck_ofV fun L c X e xo h => by
  cases e with
  | UnaryOp o x p =>
    cases o with
    | USub => exact se_neg (A.v L c X x xo h)
    | _ => cases h
  | _ => cases h
theorem un65 (xo : XOk G nm N L c n X) : X.A.units + 65 < cLine := by have := xo.un; omega
theorem snd_cmp {op : Cm} {a b : E} (A : CkOk G nm N n a (chk nm N a)) (B : CkOk G nm N n b (chk nm N b)) : CkOk G nm N n (.cmp op a b) (chk nm N (.cmp op a b)) := by
  have inv : ∀ {e : Expr} {c : Sc}, vCmp op (chk nm N a) (chk nm N b) e c = true → ∃ l r p, e = .Compare l [cmOf op] [r] p ∧ (chk nm N a).v l c = true ∧ (chk nm N b).v r c = true ∧ behindInMarks (cmOf op) r = false := fun {e c} h => by
    unfold vCmp at h
    split at h
    · simp only [Bool.and_eq_true, decide_eq_true_eq, Bool.not_eq_true'] at h
      obtain ⟨⟨⟨rfl, h2⟩, h3⟩, h4⟩ := h
      exact ⟨_, _, _, rfl, h2, h3, h4⟩
    · cases h
  refine ck_ofVT (fun L c X e xo h => ?_) fun L c X e xo h => ?_
  · obtain ⟨l, r, p, rfl, h2, h3, h4⟩ := inv h
    exact se_cmp xo.hK (un65 xo) (A.v L c X l xo h2) (B.v L c X r xo h3) h4
  · obtain ⟨l, r, p, rfl, h2, h3, h4⟩ := inv h
    exact st_cmp xo.hK (un65 xo) (A.v L c X l xo h2) (B.v L c X r xo h3) h4
theorem snd_chain {op op' : Cm} {a b d : E} (A : CkOk G nm N n a (chk nm N a)) (B : CkOk G nm N n b (chk nm N b)) (C : CkOk G nm N n d (chk nm N d)) : CkOk G nm N n (.chain op op' a b d) (chk nm N (.chain op op' a b d)) := by
  have inv : ∀ {e : Expr} {c : Sc}, vChain op op' (chk nm N a) (chk nm N b) (chk nm N d) e c = true → ∃ l m r p, e = .Compare l [cmOf op, cmOf op'] [m, r] p ∧ (chk nm N a).v l c = true ∧ (chk nm N b).v m c = true ∧ (chk nm N d).v r c = true ∧ lastMarks [cmOf op, cmOf op'] [m, r] = false := fun {e c} h => by
    unfold vChain at h
    split at h
    · simp only [Bool.and_eq_true, decide_eq_true_eq, Bool.not_eq_true'] at h
      obtain ⟨⟨⟨⟨⟨rfl, rfl⟩, h2⟩, h3⟩, h4⟩, h5⟩ := h
      exact ⟨_, _, _, _, rfl, h2, h3, h4, h5⟩
    · cases h
  refine ck_ofVT (fun L c X e xo h => ?_) fun L c X e xo h => ?_
  · obtain ⟨l, m, r, p, rfl, h2, h3, h4, h5⟩ := inv h
    exact se_chain xo.hK (un65 xo) (A.v L c X l xo h2) (B.v L c X m xo h3) (C.v L c X r xo h4) h5
  · obtain ⟨l, m, r, p, rfl, h2, h3, h4, h5⟩ := inv h
    exact st_chain xo.hK (un65 xo) (A.v L c X l xo h2) (B.v L c X m xo h3) (C.v L c X r xo h4) h5
theorem not_inv {f : Expr → Sc → Bool} {e : Expr} {c : Sc} (h : vNot f e c = true) : ∃ x p, e = .UnaryOp .Not x p ∧ f x c = true := by
  unfold vNot at h
  split at h
  · exact ⟨_, _, rfl, h⟩
  · cases h
theorem snd_not {a : E} (A : CkOk G nm N n a (chk nm N a)) : CkOk G nm N n (.not a) (chk nm N (.not a)) := ck_ofVT (fun L c X e xo h => by
    obtain ⟨x, p, rfl, h⟩ := not_inv h
    exact se_not (A.v L c X x xo h)) fun L c X e xo h => by
    obtain ⟨x, p, rfl, h⟩ := not_inv h
    exact st_not (A.t L c X x xo h)
theorem boo_inv {o o' : BoolOp} {f : Expr → Sc → Bool} {g : BoolOp → List Expr → Sc → Bool} {es : List Expr} {c : Sc} (h : wBoo o f g o' es c = true) : ∃ e e' rest, es = e :: e' :: rest ∧ o' = o ∧ f e c = true ∧ g o (e' :: rest) c = true := by
  unfold wBoo at h
  split at h
  · simp only [Bool.and_eq_true, decide_eq_true_eq] at h
    exact ⟨_, _, _, rfl, h.1.1, h.1.2, h.2⟩
  · cases h
theorem ck_boo {x a b : E} {o : BoolOp} (hv : ∀ {L : Lv} {X : Cx} {e e' : Expr} {es : List Expr} {p : Pos}, PE X e (rdE G L a) → PE X (.BoolOp o (e' :: es) p) (rdE G L b) → PE X (.BoolOp o (e :: e' :: es) p) (rdE G L x))
    (ht : ∀ {L : Lv} {X : Cx} {e e' : Expr} {es : List Expr} {p : Pos}, PT X e (rdT G L a) → PW X (.BoolOp o (e' :: es) p) (rdT G L b) → PW X (.BoolOp o (e :: e' :: es) p) (rdT G L x)) (A : CkOk G nm N n a (chk nm N a)) (B : CkOk G nm N n b (chk nm N b)) :
    CkOk G nm N n x ⟨vBoo o (chk nm N a).v (chk nm N b).w, vBoo o (chk nm N a).t (chk nm N b).wt, fun _ _ => false, orW (vBoo o (chk nm N a).v (chk nm N b).w) (wBoo o (chk nm N a).v (chk nm N b).w), orW (vBoo o (chk nm N a).t (chk nm N b).wt) (wBoo o (chk nm N a).t (chk nm N b).wt)⟩ := by
  have W : ∀ (L : Lv) (c : Sc) (X : Cx) (o' : BoolOp) (es : List Expr) (p : Pos), XOk G nm N L c n X → wBoo o (chk nm N a).v (chk nm N b).w o' es c = true → PE X (.BoolOp o' es p) (rdE G L x) := fun L c X o' es p xo h => by
    obtain ⟨e, e', rest, rfl, rfl, h1, h2⟩ := boo_inv h
    exact hv (A.v L c X e xo h1) (B.w L c X o' _ p xo h2)
  have T : ∀ (L : Lv) (c : Sc) (X : Cx) (o' : BoolOp) (es : List Expr) (p : Pos), XOk G nm N L c n X → wBoo o (chk nm N a).t (chk nm N b).wt o' es c = true → PW X (.BoolOp o' es p) (rdT G L x) := fun L c X o' es p xo h => by
    obtain ⟨e, e', rest, rfl, rfl, h1, h2⟩ := boo_inv h
    exact ht (A.t L c X e xo h1) (B.wt L c X o' _ p xo h2)
  have v : ∀ (L : Lv) (c : Sc) (X : Cx) (e : Expr), XOk G nm N L c n X → vBoo o (chk nm N a).v (chk nm N b).w e c = true → PE X e (rdE G L x) := fun L c X e xo h => by
    cases e with
    | BoolOp o' es p => exact W L c X o' es p xo h
    | _ => cases h
  have t : ∀ (L : Lv) (c : Sc) (X : Cx) (e : Expr), XOk G nm N L c n X → vBoo o (chk nm N a).t (chk nm N b).wt e c = true → PT X e (rdT G L x) := fun L c X e xo h => by
    cases e with
    | BoolOp o' es p => exact (T L c X o' es p xo h).pt
    | _ => cases h
  refine ⟨v, t, fun _ _ _ _ _ h => (by cases h), fun _ _ _ _ _ h => (by cases h), fun L c X o' es p xo h => ?_, fun L c X o' es p xo h => ?_⟩
  · change orW _ _ o' es c = true at h
    unfold orW at h
    split at h
    · exact pe_one (v L c X _ xo h)
    · exact W L c X o' es p xo h
  · change orW _ _ o' es c = true at h
    unfold orW at h
    split at h
    · exact pw_one (t L c X _ xo h)
    · exact T L c X o' es p xo h
theorem snd_ite {k a b : E} (C : CkOk G nm N n k (chk nm N k)) (A : CkOk G nm N n a (chk nm N a)) (B : CkOk G nm N n b (chk nm N b)) : CkOk G nm N n (.ite k a b) (chk nm N (.ite k a b)) := ck_ofV fun L c X e xo h => by
  cases e with
  | IfExp t x y p =>
    simp only [vIte, Bool.and_eq_true, decide_eq_true_eq] at h
    obtain ⟨⟨⟨h1, h2⟩, h3⟩, h4⟩ := h
    exact se_ite h1 (C.t L c X t xo h2) (A.v L c X x xo h3) (B.v L c X y xo h4)
  | _ => cases h
theorem snd_idx {a b : E} (A : CkOk G nm N n a (chk nm N a)) (B : CkOk G nm N n b (chk nm N b)) : CkOk G nm N n (.idx a b) (chk nm N (.idx a b)) := ck_ofV fun L c X e xo h => by
  cases e with
  | Subscript x i p =>
    simp only [vIdx, Bool.and_eq_true] at h
    exact se_idx xo.hK (A.v L c X x xo h.1.1) (B.v L c X i xo h.1.2) (plI_ok h.2)
  | _ => cases h
theorem part_of {a : E} {o : Option Expr} (A : CkOk G nm N n a (chk nm N a)) (xo : XOk G nm N L c n X) (h : pOk a (chk nm N a) o c = true) : PO X o (rdP G L a) := by
  cases o with
  | none =>
    cases a <;> first | (cases h; done) | exact sp_none
  | some e =>
    simp only [pOk, Bool.and_eq_true, Bool.not_eq_true'] at h
    exact sp_some (fun z => by rw [z] at h; cases h.1) (A.v L c X e xo h.2)
theorem snd_slc {a l r : E} (A : CkOk G nm N n a (chk nm N a)) (B : CkOk G nm N n l (chk nm N l)) (C : CkOk G nm N n r (chk nm N r)) : CkOk G nm N n (.slc a l r) (chk nm N (.slc a l r)) := ck_ofV fun L c X e xo h => by
  have inv : ∃ x lo hi p2 p, e = .Subscript x (.Slice lo hi none p2) p ∧ (chk nm N a).v x c = true ∧ pOk l (chk nm N l) lo c = true ∧ pOk r (chk nm N r) hi c = true := by
    unfold vSlc at h
    split at h
    · simp only [Bool.and_eq_true] at h
      exact ⟨_, _, _, _, _, rfl, h.1.1, h.1.2, h.2⟩
    · cases h
  obtain ⟨x, lo, hi, p2, p, rfl, h1, h2, h3⟩ := inv
  exact se_slc xo.hK (A.v L c X x xo h1) (part_of B xo h2) (part_of C xo h3)
theorem snd_call {f : Nat} {a : E} (A : CkOk G nm N n a (chk nm N a)) : CkOk G nm N n (.call f a) (chk nm N (.call f a)) := ck_ofV fun L c X e xo h => by
  unfold vCall at h
  split at h
  · simp only [Bool.and_eq_true, decide_eq_true_eq] at h
    obtain ⟨⟨⟨h1, h2⟩, h3⟩, h4⟩ := h
    obtain ⟨g1, g2⟩ := xo.glob.fl _ _ h4
    cases a <;> first | (cases h1; done) | exact se_call0 xo.call (glo_of xo.hsc h2) g1 (dbg_of h3).1 g2
  · simp only [Bool.and_eq_true, decide_eq_true_eq] at h
    obtain ⟨⟨⟨⟨⟨⟨h1, h2⟩, h3⟩, h4⟩, h5⟩, h6⟩, h7⟩ := h
    obtain ⟨g1, g2⟩ := xo.glob.fl _ _ h7
    exact se_call xo.call (glo_of xo.hsc h5) g1 (dbg_of h6).1 (A.r L c X _ xo h1).1 (allF_of h4) (star_cons h2) (star_all h3) g2
  · cases h
theorem row_nil {r : E} (h : rowLen r = some 0) : r = .nil := by
  cases r with
  | nil => rfl
  | cons a r =>
    simp only [rowLen, Option.map_eq_some_iff] at h
    obtain ⟨m, _, e⟩ := h
    omega
  | _ => cases h
theorem snd_callk {f : Nat} {perm : List Nat} {a k : E} (A : CkOk G nm N n a (chk nm N a)) (K : CkOk G nm N n k (chk nm N k)) : CkOk G nm N n (.callk f perm a k) (chk nm N (.callk f perm a k)) := ck_ofV fun L c X e xo h => by
  unfold vCallk at h
  split at h
  · simp only [Bool.and_eq_true, decide_eq_true_eq] at h
    obtain ⟨⟨⟨⟨⟨⟨⟨⟨⟨h1, h2⟩, h3⟩, h4⟩, h5⟩, h6⟩, h7⟩, h8⟩, h9⟩, h10⟩ := h
    obtain ⟨g1, g2⟩ := xo.glob.fl _ _ h8
    exact se_callk xo.call (glo_of xo.hsc h6) g1 (dbg_of h7).1 (A.r L c X _ xo h1).1 (K.kr L c X _ xo h2) (allF_of h4) (allF_of h5) (fun e r er => by rw [er, List.all_cons, Bool.and_eq_true] at h3; exact star_cons h3.1) (star_all h3) h9 g2 (by rw [xo.glob.kl]; exact List.contains_iff_mem.mp h10) (fun F tm ρ Q Ef hp => row_len (A.r L c X _ xo h1).2.1 hp)
      (fun F tm ρ Q Ef hp => by have z := row_len (K.r L c X _ xo h2).2.1 hp; rwa [List.length_map] at z) (fun er => row_nil (by rw [(A.r L c X _ xo h1).2.1, er]; rfl))
  · cases h
theorem snd_draw {a b : E} (A : CkOk G nm N n a (chk nm N a)) (B : CkOk G nm N n b (chk nm N b)) : CkOk G nm N n (.draw a b) (chk nm N (.draw a b)) := ck_ofV fun L c X e xo h => by
  unfold vDraw at h
  split at h
  · simp only [Bool.and_eq_true, decide_eq_true_eq] at h
    obtain ⟨⟨⟨⟨⟨⟨rfl, h2⟩, h3⟩, h4⟩, h5⟩, h6⟩, h7⟩ := h
    exact se_draw (xo.drw h3) xo.call.gd xo.call.tk (glo_of xo.hsc h2) (A.v L c X _ xo h4) (B.v L c X _ xo h6) (star_cons h5) (star_cons h7)
  · cases h
theorem snd_callv {i : Nat} {a : E} (A : CkOk G nm N n a (chk nm N a)) : CkOk G nm N n (.callv i a) (chk nm N (.callv i a)) := ck_ofV fun L c X e xo h => by
  unfold vCallv at h
  split at h
  · simp only [Bool.and_eq_true, decide_eq_true_eq] at h
    obtain ⟨⟨⟨⟨⟨⟨h1, h2⟩, h3⟩, h4⟩, h5⟩, h6⟩, h7⟩ := h
    exact se_callv xo.call (by rw [xo.hN]; exact h5) (by rw [xo.hsc]; exact vis_of h6) (dbg_of h7).1 (dbg_of h7).2 (A.r L c X _ xo h1).1 (allF_of h4) (star_cons h2) (star_all h3) (fun f => by have := xo.glob.kp f; exact this)
  · cases h
end
end Cl
set_option autoImplicit false
set_option Elab.async false
set_option linter.all false
set_option maxRecDepth 100000
set_option maxHeartbeats 4000000
/-! The check is sound: built-ins, comprehensions; all expressions. -/
namespace Cl
open PySem PySem.Spec PyProof.Rows L2
section
variable {G : Gl0} {nm : Nm} {N : List Str} {L : Lv} {c : Sc} {n : Nat} {X : Cx}
theorem blt_of {x : Str} (xo : XOk G nm N L c n X) (h : bltB nm c x = true) : L2.Gl X x ∧ X.mg x = none := by
  simp only [bltB, Bool.and_eq_true] at h
  exact ⟨glo_of xo.hsc h.1, xo.glob.bl x h.2⟩
/-- a built-in function of one argument -/
theorem bi1 {p : Pr} {x : Str} {id : String} {a : E} {e : Expr} {p1 p2 : Pos} (xo : XOk G nm N L c n X) (hC : CalC G X (.builtin id) (primV p) (md (.prim p (.cons a .nil)))) (hv : bootBuiltins x = some (.builtin id)) (hn : x ≠ "__name__") (hd : (x == ("__debug__" : Str)) = false)
    (hb : bltB nm c x = true) (ha : PE X e (rdE G L a)) (hs : nst e = true) : PE X (.Call (.Name x p1) [e] [] p2) (rdE G L (.prim p (.cons a .nil))) := by
  obtain ⟨g, m⟩ := blt_of xo hb
  exact (pe_callB hC.rule g m hv (sa_cons ha sa_nil (star_cons hs)) hn hd (star_cons hs) rfl).imp fun σ H Q h => rd_prim h
theorem ty1 {p : Pr} {x : Str} {T : String} {a : E} {e : Expr} {p1 p2 : Pos} (xo : XOk G nm N L c n X) (hC : CalC G X (.type T) (primV p) (md (.prim p (.cons a .nil)))) (hv : bootBuiltins x = some (.type T)) (hn : x ≠ "__name__") (hd : (x == ("__debug__" : Str)) = false)
    (hb : bltB nm c x = true) (ha : PE X e (rdE G L a)) (hs : nst e = true) : PE X (.Call (.Name x p1) [e] [] p2) (rdE G L (.prim p (.cons a .nil))) := by
  obtain ⟨g, m⟩ := blt_of xo hb
  exact (pe_callTy hC.rule g m hv (sa_cons ha sa_nil (star_cons hs)) hn hd (star_cons hs) rfl).imp fun σ H Q h => rd_prim h
theorem bi2 {p : Pr} {x : Str} {id : String} {a b : E} {e f : Expr} {p1 p2 : Pos} (xo : XOk G nm N L c n X) (hC : CalC G X (.builtin id) (primV p) (md (.prim p (.cons a (.cons b .nil))))) (hv : bootBuiltins x = some (.builtin id)) (hn : x ≠ "__name__") (hd : (x == ("__debug__" : Str)) = false)
    (hb : bltB nm c x = true) (ha : PE X e (rdE G L a)) (hs : nst e = true) (ha' : PE X f (rdE G L b)) (hs' : nst f = true) : PE X (.Call (.Name x p1) [e, f] [] p2) (rdE G L (.prim p (.cons a (.cons b .nil)))) := by
  obtain ⟨g, m⟩ := blt_of xo hb
  exact (pe_callB hC.rule g m hv (sa_cons ha (sa_cons ha' sa_nil (star_cons hs')) (star_cons hs)) hn hd (star_cons hs) (star_all (by simp [hs']))).imp fun σ H Q h => rd_prim h
theorem pr_inv {z : Option Str} {A : Ck} {e : Expr} (h : vPr nm z A e c = true) : ∃ x p1 d p2, e = .Call (.Name x p1) [d] [] p2 ∧ z = some x ∧ bltB nm c x = true ∧ A.v d c = true ∧ nst d = true := by
  unfold vPr at h
  split at h
  · simp only [Bool.and_eq_true, decide_eq_true_eq] at h
    exact ⟨_, _, _, _, rfl, h.1.1.1, h.1.1.2, h.1.2, h.2⟩
  · cases h
theorem isi_inv {z : Option Str} {A : Ck} {e : Expr} (h : vIsi nm z A e c = true) : ∃ p1 d y p3 p2, e = .Call (.Name "isinstance" p1) [d, .Name y p3] [] p2 ∧ z = some y ∧ bltB nm c "isinstance" = true ∧ bltB nm c y = true ∧ A.v d c = true ∧ nst d = true := by
  unfold vIsi at h
  split at h
  · simp only [Bool.and_eq_true, decide_eq_true_eq] at h
    obtain ⟨⟨⟨⟨⟨rfl, h2⟩, h3⟩, h4⟩, h5⟩, h6⟩ := h
    exact ⟨_, _, _, _, _, rfl, h3, h2, h4, h5, h6⟩
  · cases h
theorem rg1_inv {z : Option Str} {A : Ck} {e : Expr} (h : vRg1 nm z A e c = true) : ∃ x p1 p3 d p4 p2, e = .Call (.Name x p1) [.Call (.Name "range" p3) [d] [] p4] [] p2 ∧ z = some x ∧ bltB nm c x = true ∧ bltB nm c "range" = true ∧ A.v d c = true ∧ nst d = true := by
  unfold vRg1 at h
  split at h
  · simp only [Bool.and_eq_true, decide_eq_true_eq] at h
    obtain ⟨⟨⟨⟨⟨h1, h2⟩, rfl⟩, h4⟩, h5⟩, h6⟩ := h
    exact ⟨_, _, _, _, _, _, rfl, h1, h2, h4, h5, h6⟩
  · cases h
theorem pr2_inv {z : Option Str} {A B : Ck} {e : Expr} (h : vPr2 nm z A B e c = true) : ∃ x p1 d f p2, e = .Call (.Name x p1) [d, f] [] p2 ∧ z = some x ∧ bltB nm c x = true ∧ A.v d c = true ∧ nst d = true ∧ B.v f c = true ∧ nst f = true := by
  unfold vPr2 at h
  split at h
  · simp only [Bool.and_eq_true, decide_eq_true_eq] at h
    obtain ⟨⟨⟨⟨⟨h1, h2⟩, h3⟩, h4⟩, h5⟩, h6⟩ := h
    exact ⟨_, _, _, _, _, rfl, h1, h2, h3, h4, h5, h6⟩
  · cases h
theorem rg2_inv {z : Option Str} {A B : Ck} {e : Expr} (h : vRg2 nm z A B e c = true) : ∃ x p1 p3 d f p4 p2, e = .Call (.Name x p1) [.Call (.Name "range" p3) [d, f] [] p4] [] p2 ∧ z = some x ∧ bltB nm c x = true ∧ bltB nm c "range" = true ∧ A.v d c = true ∧ nst d = true ∧ B.v f c = true ∧ nst f = true := by
  unfold vRg2 at h
  split at h
  · simp only [Bool.and_eq_true, decide_eq_true_eq] at h
    obtain ⟨⟨⟨⟨⟨⟨⟨h1, h2⟩, rfl⟩, h4⟩, h5⟩, h6⟩, h7⟩, h8⟩ := h
    exact ⟨_, _, _, _, _, _, _, rfl, h1, h2, h4, h5, h6, h7, h8⟩
  · cases h
theorem repr_of (xo : XOk G nm N L c n X) : CalC G X (.builtin "repr") (primV .repr) .f := cc_repr xo.hK xo.call.gd xo.un
theorem snd_prim1 {p : Pr} {a : E} (A : CkOk G nm N n a (chk nm N a)) : CkOk G nm N n (.prim p (.cons a .nil)) (chk nm N (.prim p (.cons a .nil))) := ck_ofV fun L c X e xo h => by
  simp only [Bool.or_eq_true] at h
  rcases h with (h | h) | h
  · obtain ⟨x, p1, d, p2, rfl, hz, hb, h1, h2⟩ := pr_inv h
    have ha := A.v L c X d xo h1
    cases p <;> first | (cases hz; done) | skip
    · cases hz; exact bi1 xo (cc_len xo.hK) (by decide +kernel) (by decide +kernel) (by decide +kernel) hb ha h2
    · cases hz; exact ty1 xo (cc_list xo.hK) (by decide +kernel) (by decide +kernel) (by decide +kernel) hb ha h2
    · cases hz; exact ty1 xo (cc_tuple xo.hK) (by decide +kernel) (by decide +kernel) (by decide +kernel) hb ha h2
    · cases hz; exact bi1 xo (cc_sorted xo.hK xo.un) (by decide +kernel) (by decide +kernel) (by decide +kernel) hb ha h2
    · cases hz; exact bi1 xo (cc_sum xo.hK xo.calm) (by decide +kernel) (by decide +kernel) (by decide +kernel) hb ha h2
    · cases hz; exact bi1 xo (cc_min xo.hK xo.calm (by have := xo.un; omega)) (by decide +kernel) (by decide +kernel) (by decide +kernel) hb ha h2
    · cases hz; exact bi1 xo (cc_max xo.hK xo.calm (by have := xo.un; omega)) (by decide +kernel) (by decide +kernel) (by decide +kernel) hb ha h2
    · cases hz; exact bi1 xo (repr_of xo) (by decide +kernel) (by decide +kernel) (by decide +kernel) hb ha h2
    · cases hz; exact ty1 xo cc_int (by decide +kernel) (by decide +kernel) (by decide +kernel) hb ha h2
  · obtain ⟨p1, d, y, p3, p2, rfl, hz, hb, hb2, h1, h2⟩ := isi_inv h
    have ha := A.v L c X d xo h1
    obtain ⟨g1, m1⟩ := blt_of xo hb
    obtain ⟨g2, m2⟩ := blt_of xo hb2
    cases p <;> first | (cases hz; done) | skip
    all_goals (cases hz; exact se_isi xo.hK (by simp) ha g1 m1 g2 m2 (by decide +kernel) (by decide +kernel) (by decide +kernel) (star_cons h2))
  · obtain ⟨x, p1, p3, d, p4, p2, rfl, hz, hb, hb2, h1, h2⟩ := rg1_inv h
    have ha := A.v L c X d xo h1
    obtain ⟨g1, m1⟩ := blt_of xo hb
    obtain ⟨g2, m2⟩ := blt_of xo hb2
    cases p <;> first | (cases hz; done) | skip
    · cases hz; exact se_listRg1 xo.calm g1 m1 g2 m2 ha (star_cons h2)
    · cases hz; exact se_tupRg1 xo.calm g1 m1 g2 m2 ha (star_cons h2)
theorem key_chk {z : Option Str} {A B : Ck} {e : Expr} (h : vKey nm z A B e c = true) : ∃ x p1 d f kp p2, e = .Call (.Name x p1) [d] [⟨some ("default" : Str), f, kp⟩] p2 ∧ z = some x ∧ bltB nm c x = true ∧ A.v d c = true ∧ nst d = true ∧ B.v f c = true := by
  unfold vKey at h
  split at h
  · simp only [Bool.and_eq_true, decide_eq_true_eq] at h
    obtain ⟨⟨⟨⟨⟨h1, rfl⟩, h2⟩, h3⟩, h4⟩, h5⟩ := h
    exact ⟨_, _, _, _, _, _, rfl, h1, h2, h3, h4, h5⟩
  · cases h
theorem snd_prim2 {p : Pr} {a b : E} (A : CkOk G nm N n a (chk nm N a)) (B : CkOk G nm N n b (chk nm N b)) : CkOk G nm N n (.prim p (.cons a (.cons b .nil))) (chk nm N (.prim p (.cons a (.cons b .nil)))) := ck_ofV fun L c X e xo h => by
  simp only [Bool.or_eq_true] at h
  rcases h with (h | h) | h
  · obtain ⟨x, p1, d, f, p2, rfl, hz, hb, h1, h2, h3, h4⟩ := pr2_inv h
    have ha := A.v L c X d xo h1
    have hb' := B.v L c X f xo h3
    cases p <;> first | (cases hz; done) | skip
    · cases hz; exact bi2 xo (cc_min2 xo.calm) (by decide +kernel) (by decide +kernel) (by decide +kernel) hb ha h2 hb' h4
    · cases hz; exact bi2 xo (cc_max2 xo.calm) (by decide +kernel) (by decide +kernel) (by decide +kernel) hb ha h2 hb' h4
  · obtain ⟨x, p1, p3, d, f, p4, p2, rfl, hz, hb, hb2, h1, h2, h3, h4⟩ := rg2_inv h
    have ha := A.v L c X d xo h1
    have hb' := B.v L c X f xo h3
    obtain ⟨g1, m1⟩ := blt_of xo hb
    obtain ⟨g2, m2⟩ := blt_of xo hb2
    cases p <;> first | (cases hz; done) | skip
    · cases hz; exact se_listRg2 xo.calm g1 m1 g2 m2 ha hb' (star_cons h2) (star_cons h4)
    · cases hz; exact se_tupRg2 xo.calm g1 m1 g2 m2 ha hb' (star_cons h2) (star_cons h4)
  · obtain ⟨x, p1, d, f, kp, p2, rfl, hz, hb, h1, h2, h3⟩ := key_chk h
    have ha := A.v L c X d xo h1
    have hb' := B.v L c X f xo h3
    obtain ⟨g1, m1⟩ := blt_of xo hb
    cases p <;> first | (cases hz; done) | skip
    · cases hz; exact se_key (ck_min xo.hK xo.calm (by have := xo.un; omega)) rfl g1 m1 (by decide +kernel) (by decide +kernel) (by decide +kernel) ha hb' (star_cons h2)
    · cases hz; exact se_key (ck_max xo.hK xo.calm (by have := xo.un; omega)) rfl g1 m1 (by decide +kernel) (by decide +kernel) (by decide +kernel) ha hb' (star_cons h2)
theorem snd_meth {m : Mt} {a b : E} (A : CkOk G nm N n a (chk nm N a)) (B : CkOk G nm N n b (chk nm N b)) : CkOk G nm N n (.meth m a b) (chk nm N (.meth m a b)) := ck_ofV fun L c X e xo h => by
  unfold vMeth at h
  split at h
  · simp only [Bool.and_eq_true, decide_eq_true_eq] at h
    obtain ⟨⟨⟨⟨⟨rfl, h2⟩, h3⟩, h4⟩, h5⟩, h6⟩ := h
    exact se_meth xo.hK (by have := xo.un; omega) (A.v L c X _ xo h4) (B.v L c X _ xo h5) h2 (star_cons h6) h3
  · cases h
/-! ### targets and sources -/
theorem tgs_len {t : Tg} {ds : List D} : ∀ {d : D} {ρ ρ' : Env} {es : List Expr}, (∃ h r, t = .cons h r) ∨ t = .nil → (tgB.tgsB N t es c = true) → asg t d ρ = some ρ' → ∃ ds, (d = .tup ds ∨ d = .lst ds) ∧ ds.length = es.length := by
  induction t with
  | v i => intro d ρ ρ' es hh h ha; rcases hh with ⟨_, _, z⟩ | z <;> cases z
  | nil =>
    intro d ρ ρ' es hh h ha
    cases es with
    | cons _ _ => cases h
    | nil =>
      cases d with
      | tup ds => cases ds with
        | nil => exact ⟨[], .inl rfl, rfl⟩
        | cons _ _ => cases ha
      | lst ds => cases ds with
        | nil => exact ⟨[], .inr rfl, rfl⟩
        | cons _ _ => cases ha
      | _ => cases ha
  | cons h r _ ih =>
    intro d ρ ρ' es hh hb ha
    cases es with
    | nil => cases hb
    | cons e es =>
      have hb' : tgB.tgsB N r es c = true := by
        simp only [tgB.tgsB, Bool.and_eq_true] at hb
        exact hb.2
      have rr : (∃ h r', r = .cons h r') ∨ r = .nil := by
        cases r with
        | v i => cases es <;> cases hb'
        | nil => exact .inr rfl
        | cons a b => exact .inl ⟨a, b, rfl⟩
      cases d with
      | tup ds =>
        cases ds with
        | nil => cases ha
        | cons x xs =>
          simp only [asg] at ha
          obtain ⟨ρ1, _, h2⟩ := Option.bind_eq_some_iff.mp ha
          obtain ⟨ds', hd, hl⟩ := ih rr hb' h2
          rcases hd with hd | hd <;> cases hd
          exact ⟨x :: xs, .inl rfl, by simp [hl]⟩
      | lst ds =>
        cases ds with
        | nil => cases ha
        | cons x xs =>
          simp only [asg] at ha
          obtain ⟨ρ1, _, h2⟩ := Option.bind_eq_some_iff.mp ha
          obtain ⟨ds', hd, hl⟩ := ih rr hb' h2
          rcases hd with hd | hd <;> cases hd
          exact ⟨x :: xs, .inr rfl, by simp [hl]⟩
      | _ => cases ha
mutual
theorem tg_ok (xo : XOk G nm N L c n X) : ∀ (t : Tg) (e : Expr), tgB N t e c = true → PG X e (rdG G t)
  | .v i, e, h => by
    cases e with
    | Name x p =>
      simp only [tgB, Bool.and_eq_true, decide_eq_true_eq] at h
      obtain ⟨h1, h2⟩ := h
      cases q : c.sc.names.lookup x with
      | none => rw [q] at h2; cases h2
      | some k =>
        rw [q] at h2
        have q' : X.env.scope.names.lookup x = some k := by rw [xo.hsc]; exact q
        cases k with
        | «local» => exact sg_name (by rw [xo.hN]; exact xo.nd) (by rw [xo.hN]; exact h1) (.inl q') (.inr q')
        | cell => exact sg_name (by rw [xo.hN]; exact xo.nd) (by rw [xo.hN]; exact h1) (.inr q') (.inl (xo.fb x h2))
        | _ => cases h2
    | _ => cases h
  | .nil, e, h => by cases e <;> cases h
  | .cons a r, e, h => by
    cases e with
    | Tuple es k p =>
      cases es with
      | nil => cases h
      | cons e es =>
        have h' : tgB.tgsB N (.cons a r) (e :: es) c = true := h
        have hs : ∀ {t : Tg} {es : List Expr}, tgB.tgsB N t es c = true → es.all nst = true := fun {t} => by
          induction t with
          | v i => intro es z; cases es <;> cases z
          | nil => intro es z; cases es with
            | nil => rfl
            | cons _ _ => cases z
          | cons _ _ _ ih => intro es z; cases es with
            | nil => cases z
            | cons e es =>
              simp only [tgB.tgsB, Bool.and_eq_true] at z
              simp [z.1.2, ih z.2]
        obtain ⟨l1, l2⟩ := asg_all (env := X.env) (hs h')
        exact sg_tup xo.hK xo.calm (tgs_ok xo (.cons a r) (e :: es) h') (fun d ρ ρ' z => by
          obtain ⟨ds, q1, q2⟩ := tgs_len (ds := []) (.inl ⟨a, r, rfl⟩) h' z
          exact ⟨ds, q1, by rw [l1]; exact q2⟩) l2
    | _ => cases h
theorem tgs_ok (xo : XOk G nm N L c n X) : ∀ (t : Tg) (es : List Expr), tgB.tgsB N t es c = true → PGs X es (rdGs G t)
  | .v i, es, h => by cases es <;> cases h
  | .nil, es, h => by
    cases es with
    | nil => exact sgs_nil
    | cons _ _ => cases h
  | .cons a r, es, h => by
    cases es with
    | nil => cases h
    | cons e es =>
      simp only [tgB.tgsB, Bool.and_eq_true] at h
      obtain ⟨⟨h1, h2⟩, h3⟩ := h
      exact sgs_cons (tg_ok xo a e h1) (tgs_ok xo r es h3) (by rw [asg_cons h2]; rfl)
end
theorem wk_ok {w : Wk} {it : E} {tg ee : Expr} (xo : XOk G nm N L c n X) (I : CkOk G nm N n it (chk nm N it)) (h : wkB nm w it (chk nm N it) tg ee c = true) : PI X tg ee (rdI G L w it) := by
  unfold wkB at h
  cases w with
  | seq =>
    simp only [Bool.and_eq_true, decide_eq_true_eq] at h
    exact si_seq xo.hK h.1.2 (I.v L c X ee xo h.1.1)
  | rng1 =>
    simp only at h
    split at h
    · simp only [Bool.and_eq_true, decide_eq_true_eq] at h
      obtain ⟨⟨⟨⟨rfl, h2⟩, h3⟩, h4⟩, h5⟩ := h
      obtain ⟨g, m⟩ := blt_of xo h2
      exact si_rng1 h5 g m (I.r L c X _ xo h3).1 (star_cons h4)
    · cases h
  | rng2 =>
    simp only at h
    split at h
    · simp only [Bool.and_eq_true, decide_eq_true_eq] at h
      obtain ⟨⟨⟨⟨⟨⟨rfl, h2⟩, h3⟩, h4⟩, h5⟩, h6⟩, h7⟩ := h
      obtain ⟨g, m⟩ := blt_of xo h2
      exact si_rng2 h6 h7 g m (I.r L c X _ xo h3).1 (by rw [star_cons h4, star_cons h5]; rfl) (star_cons h5)
    · cases h
  | enum =>
    simp only at h
    split at h
    · simp only [Bool.and_eq_true, decide_eq_true_eq, Bool.not_eq_true'] at h
      obtain ⟨⟨⟨⟨⟨rfl, h2⟩, h3⟩, h4⟩, h5⟩, h6⟩ := h
      obtain ⟨g, m⟩ := blt_of xo h2
      cases tg <;> first | (cases h6; done) | exact si_enu xo.hK h5 g m (I.r L c X _ xo h3).1 (star_cons h4)
    · cases h
  | zip =>
    simp only at h
    split at h
    · simp only [Bool.and_eq_true, decide_eq_true_eq, Bool.not_eq_true'] at h
      obtain ⟨⟨⟨⟨⟨⟨⟨rfl, h2⟩, h3⟩, h4⟩, h5⟩, h6⟩, h7⟩, h8⟩ := h
      obtain ⟨g, m⟩ := blt_of xo h2
      cases tg <;> first | (cases h8; done) | exact si_zip xo.hK h6 h7 g m (I.r L c X _ xo h3).1 (star_cons h4) (star_cons h5)
    · cases h
theorem own_slots : ∀ {own : List Nat} {ow : List (Str × Nat)}, ownOf N own = some ow → ow.map (·.2) = own
  | [], _, h => by cases h; rfl
  | i :: is, ow, h => by
    unfold ownOf at h
    split at h
    · rename_i x r h1 h2
      cases h
      simp [own_slots h2]
    · cases h
/-- what a comprehension's check tells -/
theorem comp_parts {own : List Nat} {w : Wk} {it : E} {t : Tg} {cd elt : E} {e : Expr} (I : CkOk G nm N n it (chk nm N it)) (C : CkOk G nm N n cd (chk nm N cd)) (A : CkOk G nm N n elt (chk nm N elt)) (xo : XOk G nm N L c n X)
    (h : vComp nm N own w it t cd elt (chk nm N it) (chk nm N cd) (chk nm N elt) e c = true) :
    ∃ (ee tg iter : Expr) (ifs : List Expr) (scope : Scope) (pos : Pos) (ow : List (Str × Nat)) (tt : TT), e = .ListComp ee [⟨tg, iter, ifs, 0⟩] scope pos ∧ BlkOk X.N X.env.scope scope ow ∧ PI X tg iter (rdI G L w it) ∧ (∀ x, foldedSetIterable iter X.env x = pure x) ∧
      (∀ (s : Shared) (H : Hp) (C : Addr) (cl : List (Str × Addr)) (fp : List Addr), PG (X.blk s H scope (compEnvC scope cl C X.env) fp) tg (rdG G t)) ∧
      (∀ (s : Shared) (H : Hp) (C : Addr) (cl : List (Str × Addr)) (fp : List Addr), PTs (X.blk s H scope (compEnvC scope cl C X.env) fp) ifs tt) ∧
      (∀ (s : Shared) (H : Hp) (C : Addr) (cl : List (Str × Addr)) (fp : List Addr), PE (X.blk s H scope (compEnvC scope cl C X.env) fp) ee (rdE G L.nox elt)) ∧
      ∀ σ H Q, rdE G L (.comp own w it t cd elt) σ H Q → tLc (rdI G L w it) (rdG G t) tt (rdE G L.nox elt) (ow.map (·.2)) σ H Q := by
  unfold vComp at h
  split at h
  · rename_i ee tg iter ifs scope pos
    split at h
    · rename_i ow ho
      simp only [Bool.and_eq_true, decide_eq_true_eq, List.all_eq_true] at h
      obtain ⟨⟨⟨⟨⟨⟨⟨h1, h2⟩, h3⟩, h4⟩, h5⟩, h6⟩, h7⟩, h8⟩ := h
      have ok : BlkOk X.N X.env.scope scope ow := by
        rw [xo.hN, xo.hsc]
        exact blkOk_by h1
      have hs := own_slots ho
      have xb := xo.blk ok
      have hi := wk_ok (tg := tg) xo I h4
      rw [← hs] at h3 ⊢
      unfold ifB at h7
      split at h7
      · have et : cd = .con (.bl true) := by
          cases cd with
          | con d => cases d with
            | bl k => cases k with
              | true => rfl
              | false => cases h7
            | _ => cases h7
          | _ => cases h7
        subst et
        exact ⟨ee, tg, iter, _, scope, pos, ow, tYes, rfl, ok, hi, nfo_ok h5, fun s H C cl fp => tg_ok (xb s H C cl fp) t tg h6, fun s H C cl fp => pts_nil, fun s H C' cl fp => A.v L.nox _ _ ee (xb s H C' cl fp) h8, fun σ H Q q => rd_comp h2 h3 (fun σ H Q q => rd_con_true q) q⟩
      · exact ⟨ee, tg, iter, _, scope, pos, ow, _, rfl, ok, hi, nfo_ok h5, fun s H C cl fp => tg_ok (xb s H C cl fp) t tg h6, fun s H C' cl fp => pts_one (C.t L.nox _ _ _ (xb s H C' cl fp) h7), fun s H C' cl fp => A.v L.nox _ _ ee (xb s H C' cl fp) h8, fun σ H Q q => rd_comp h2 h3 (fun σ H Q q => q) q⟩
      · cases h7
    · cases h
  · cases h
theorem snd_comp {own : List Nat} {w : Wk} {it : E} {t : Tg} {cd elt : E} (I : CkOk G nm N n it (chk nm N it)) (C : CkOk G nm N n cd (chk nm N cd)) (A : CkOk G nm N n elt (chk nm N elt)) :
    CkOk G nm N n (.comp own w it t cd elt) (chk nm N (.comp own w it t cd elt)) := ck_ofV fun L c X e xo h => by
  obtain ⟨ee, tg, iter, ifs, scope, pos, ow, tt, rfl, ok, hi, hf, hg, hts, he, hr⟩ := comp_parts I C A xo h
  exact (pe_lc xo.calm (by rw [xo.hN]; exact xo.nd) hi ok hg hts he hf).imp hr
/-- the if-parts of a for -/
theorem ifs_two {cd : E} {ifs : List Expr} {c' : Sc} (C : CkOk G nm N n cd (chk nm N cd)) (h : ifB cd (chk nm N cd) ifs c' = true) : ∃ f : Lv → TT, (∀ (L : Lv) (X : Cx), XOk G nm N L c' n X → PTs X ifs (f L)) ∧ ∀ (L : Lv) σ H Q, rdT G L cd σ H Q → f L σ H Q := by
  unfold ifB at h
  split at h
  · have et : cd = .con (.bl true) := by
      cases cd with
      | con d => cases d with
        | bl k => cases k with
          | true => rfl
          | false => cases h
        | _ => cases h
      | _ => cases h
    subst et
    exact ⟨fun _ => tYes, fun _ _ _ => pts_nil, fun L σ H Q q => rd_con_true q⟩
  · exact ⟨fun L => rdT G L cd, fun L X xo => pts_one (C.t L _ _ _ xo h), fun _ _ _ _ q => q⟩
  · cases h
/-- what a comprehension of two parts tells -/
theorem comp2_parts {own own1 : List Nat} {w w1 : Wk} {it it1 : E} {t t1 : Tg} {cd cd1 elt : E} {e : Expr} (I : CkOk G nm N n it (chk nm N it)) (C : CkOk G nm N n cd (chk nm N cd)) (I1 : CkOk G nm N n it1 (chk nm N it1)) (C1 : CkOk G nm N n cd1 (chk nm N cd1)) (A : CkOk G nm N n elt (chk nm N elt)) (xo : XOk G nm N L c n X)
    (h : vComp2 nm N own w it t cd own1 w1 it1 t1 cd1 elt (chk nm N it) (chk nm N cd) (chk nm N it1) (chk nm N cd1) (chk nm N elt) e c = true) :
    ∃ (ee tg iter tg1 iter1 : Expr) (ifs ifs1 : List Expr) (scope : Scope) (pos : Pos) (ow : List (Str × Nat)) (tt tt1 : TT), e = .ListComp ee [⟨tg, iter, ifs, 0⟩, ⟨tg1, iter1, ifs1, 0⟩] scope pos ∧ BlkOk X.N X.env.scope scope ow ∧ PI X tg iter (rdI G L w it) ∧ (∀ x, foldedSetIterable iter X.env x = pure x) ∧ (∀ env x, foldedSetIterable iter1 env x = pure x) ∧ (∀ i ∈ own1, i ∈ ow.map (·.2)) ∧
      (∀ (s : Shared) (H : Hp) (C : Addr) (cl : List (Str × Addr)) (fp : List Addr), PG (X.blk s H scope (compEnvC scope cl C X.env) fp) tg (rdG G t)) ∧
      (∀ (s : Shared) (H : Hp) (C : Addr) (cl : List (Str × Addr)) (fp : List Addr), PTs (X.blk s H scope (compEnvC scope cl C X.env) fp) ifs tt) ∧
      (∀ (s : Shared) (H : Hp) (C : Addr) (cl : List (Str × Addr)) (fp : List Addr), PI (X.blk s H scope (compEnvC scope cl C X.env) fp) tg1 iter1 (rdI G L.nox w1 it1)) ∧
      (∀ (s : Shared) (H : Hp) (C : Addr) (cl : List (Str × Addr)) (fp : List Addr), PG (X.blk s H scope (compEnvC scope cl C X.env) fp) tg1 (rdG G t1)) ∧
      (∀ (s : Shared) (H : Hp) (C : Addr) (cl : List (Str × Addr)) (fp : List Addr), PTs (X.blk s H scope (compEnvC scope cl C X.env) fp) ifs1 tt1) ∧
      (∀ (s : Shared) (H : Hp) (C : Addr) (cl : List (Str × Addr)) (fp : List Addr), PE (X.blk s H scope (compEnvC scope cl C X.env) fp) ee (rdE G L.nox elt)) ∧
      ∀ σ H Q, rdE G L (.comp2 own w it t cd own1 w1 it1 t1 cd1 elt) σ H Q → tLc2 (rdI G L w it) (rdG G t) tt (rdI G L.nox w1 it1) (rdG G t1) tt1 (rdE G L.nox elt) (ow.map (·.2)) own1 σ H Q := by
  unfold vComp2 at h
  split at h
  · rename_i ee tg iter ifs tg1 iter1 ifs1 scope pos
    split at h
    · rename_i ow ho
      simp only [Bool.and_eq_true, decide_eq_true_eq, List.all_eq_true] at h
      obtain ⟨⟨⟨⟨⟨⟨⟨⟨⟨⟨⟨⟨⟨h1, h2⟩, h3⟩, h3'⟩, h3''⟩, h4⟩, h5⟩, h4'⟩, h5'⟩, h6⟩, h6'⟩, h7⟩, h7'⟩, h8⟩ := h
      have ok : BlkOk X.N X.env.scope scope ow := by
        rw [xo.hN, xo.hsc]
        exact blkOk_by h1
      have hs := own_slots ho
      have xb := xo.blk ok
      have hi := wk_ok (tg := tg) xo I h4
      rw [← hs] at h3 h3'' ⊢
      obtain ⟨f, f1, f2⟩ := ifs_two C h7
      obtain ⟨g, g1, g2⟩ := ifs_two C1 h7'
      exact ⟨ee, tg, iter, tg1, iter1, ifs, ifs1, scope, pos, ow, f L.nox, g L.nox, rfl, ok, hi, nfo_ok h5, fun env => nfo_ok h5', h3'', fun s H C cl fp => tg_ok (xb s H C cl fp) t tg h6, fun s H C cl fp => f1 _ _ (xb s H C cl fp), fun s H C cl fp => wk_ok (tg := tg1) (xb s H C cl fp) I1 h4', fun s H C cl fp => tg_ok (xb s H C cl fp) t1 tg1 h6', fun s H C cl fp => g1 _ _ (xb s H C cl fp), fun s H C' cl fp => A.v L.nox _ _ ee (xb s H C' cl fp) h8,
        fun σ H Q q => rd_comp2 h2 h3 h3' (f2 L.nox) (g2 L.nox) q⟩
    · cases h
  · cases h
theorem snd_comp2 {own own1 : List Nat} {w w1 : Wk} {it it1 : E} {t t1 : Tg} {cd cd1 elt : E} (I : CkOk G nm N n it (chk nm N it)) (C : CkOk G nm N n cd (chk nm N cd)) (I1 : CkOk G nm N n it1 (chk nm N it1)) (C1 : CkOk G nm N n cd1 (chk nm N cd1)) (A : CkOk G nm N n elt (chk nm N elt)) :
    CkOk G nm N n (.comp2 own w it t cd own1 w1 it1 t1 cd1 elt) (chk nm N (.comp2 own w it t cd own1 w1 it1 t1 cd1 elt)) := ck_ofV fun L c X e xo h => by
  obtain ⟨ee, tg, iter, tg1, iter1, ifs, ifs1, scope, pos, ow, tt, tt1, rfl, ok, hi, hf, hf1, hv, hg, hts, hi1, hg1, hts1, he, hr⟩ := comp2_parts I C I1 C1 A xo h
  exact (pe_lc2 xo.calm (by rw [xo.hN]; exact xo.nd) hi ok hv hg hts hi1 hg1 hts1 he hf hf1).imp hr
theorem chk_ok : ∀ a : E, CkOk G nm N n a (chk nm N a)
  | .con d => snd_con d
  | .glo x d => snd_glo x d
  | .var i => snd_var i
  | .bor i => snd_bor i
  | .nil => snd_nil
  | .cons a r => snd_cons (chk_ok a) (chk_ok r)
  | .list a => snd_list (chk_ok a)
  | .frz a => snd_frz (chk_ok a)
  | .bin op a b => snd_bin (chk_ok a) (chk_ok b)
  | .neg a => snd_neg (chk_ok a)
  | .cmp op a b => snd_cmp (chk_ok a) (chk_ok b)
  | .chain op op' a b c => snd_chain (chk_ok a) (chk_ok b) (chk_ok c)
  | .not a => snd_not (chk_ok a)
  | .and a b => ck_boo se_and sw_and (chk_ok a) (chk_ok b)
  | .or a b => ck_boo se_or sw_or (chk_ok a) (chk_ok b)
  | .ite c a b => snd_ite (chk_ok c) (chk_ok a) (chk_ok b)
  | .idx a b => snd_idx (chk_ok a) (chk_ok b)
  | .slc a l h => snd_slc (chk_ok a) (chk_ok l) (chk_ok h)
  | .call f a => snd_call (chk_ok a)
  | .callv i a => snd_callv (chk_ok a)
  | .prim p (.cons a .nil) => snd_prim1 (chk_ok a)
  | .prim p (.cons a (.cons b .nil)) => snd_prim2 (chk_ok a) (chk_ok b)
  | .draw a b => snd_draw (chk_ok a) (chk_ok b)
  | .comp own w it t c elt => snd_comp (chk_ok it) (chk_ok c) (chk_ok elt)
  | .comp2 own w it t c own1 w1 it1 t1 c1 elt => snd_comp2 (chk_ok it) (chk_ok c) (chk_ok it1) (chk_ok c1) (chk_ok elt)
  | .prim _ (.con _) => ck_no
  | .prim _ (.glo _ _) => ck_no
  | .prim _ (.var _) => ck_no
  | .prim _ (.bor _) => ck_no
  | .prim _ (.nil) => ck_no
  | .prim _ (.list _) => ck_no
  | .prim _ (.frz _) => ck_no
  | .prim _ (.bin _ _ _) => ck_no
  | .prim _ (.neg _) => ck_no
  | .prim _ (.cmp _ _ _) => ck_no
  | .prim _ (.chain _ _ _ _ _) => ck_no
  | .prim _ (.not _) => ck_no
  | .prim _ (.and _ _) => ck_no
  | .prim _ (.or _ _) => ck_no
  | .prim _ (.ite _ _ _) => ck_no
  | .prim _ (.idx _ _) => ck_no
  | .prim _ (.absent) => ck_no
  | .prim _ (.slc _ _ _) => ck_no
  | .prim _ (.rev _) => ck_no
  | .prim _ (.call _ _) => ck_no
  | .prim _ (.callk _ _ _ _) => ck_no
  | .prim _ (.callv _ _) => ck_no
  | .prim _ (.heard _ _) => ck_no
  | .prim _ (.force _) => ck_no
  | .prim _ (.prim _ _) => ck_no
  | .prim _ (.meth _ _ _) => ck_no
  | .prim _ (.comp _ _ _ _ _ _) => ck_no
  | .prim _ (.comp2 _ _ _ _ _ _ _ _ _ _ _) => ck_no
  | .prim _ (.attr _ _) => ck_no
  | .prim _ (.isx _ _) => ck_no
  | .prim _ (.draw _ _) => ck_no
  | .prim _ (.cons _ (.con _)) => ck_no
  | .prim _ (.cons _ (.glo _ _)) => ck_no
  | .prim _ (.cons _ (.var _)) => ck_no
  | .prim _ (.cons _ (.bor _)) => ck_no
  | .prim _ (.cons _ (.list _)) => ck_no
  | .prim _ (.cons _ (.frz _)) => ck_no
  | .prim _ (.cons _ (.bin _ _ _)) => ck_no
  | .prim _ (.cons _ (.neg _)) => ck_no
  | .prim _ (.cons _ (.cmp _ _ _)) => ck_no
  | .prim _ (.cons _ (.chain _ _ _ _ _)) => ck_no
  | .prim _ (.cons _ (.not _)) => ck_no
  | .prim _ (.cons _ (.and _ _)) => ck_no
  | .prim _ (.cons _ (.or _ _)) => ck_no
  | .prim _ (.cons _ (.ite _ _ _)) => ck_no
  | .prim _ (.cons _ (.idx _ _)) => ck_no
  | .prim _ (.cons _ (.absent)) => ck_no
  | .prim _ (.cons _ (.slc _ _ _)) => ck_no
  | .prim _ (.cons _ (.rev _)) => ck_no
  | .prim _ (.cons _ (.call _ _)) => ck_no
  | .prim _ (.cons _ (.callk _ _ _ _)) => ck_no
  | .prim _ (.cons _ (.callv _ _)) => ck_no
  | .prim _ (.cons _ (.heard _ _)) => ck_no
  | .prim _ (.cons _ (.force _)) => ck_no
  | .prim _ (.cons _ (.prim _ _)) => ck_no
  | .prim _ (.cons _ (.meth _ _ _)) => ck_no
  | .prim _ (.cons _ (.comp _ _ _ _ _ _)) => ck_no
  | .prim _ (.cons _ (.comp2 _ _ _ _ _ _ _ _ _ _ _)) => ck_no
  | .prim _ (.cons _ (.attr _ _)) => ck_no
  | .prim _ (.cons _ (.isx _ _)) => ck_no
  | .prim _ (.cons _ (.draw _ _)) => ck_no
  | .prim _ (.cons _ (.cons _ (.con _))) => ck_no
  | .prim _ (.cons _ (.cons _ (.glo _ _))) => ck_no
  | .prim _ (.cons _ (.cons _ (.var _))) => ck_no
  | .prim _ (.cons _ (.cons _ (.bor _))) => ck_no
  | .prim _ (.cons _ (.cons _ (.list _))) => ck_no
  | .prim _ (.cons _ (.cons _ (.frz _))) => ck_no
  | .prim _ (.cons _ (.cons _ (.bin _ _ _))) => ck_no
  | .prim _ (.cons _ (.cons _ (.neg _))) => ck_no
  | .prim _ (.cons _ (.cons _ (.cmp _ _ _))) => ck_no
  | .prim _ (.cons _ (.cons _ (.chain _ _ _ _ _))) => ck_no
  | .prim _ (.cons _ (.cons _ (.not _))) => ck_no
  | .prim _ (.cons _ (.cons _ (.and _ _))) => ck_no
  | .prim _ (.cons _ (.cons _ (.or _ _))) => ck_no
  | .prim _ (.cons _ (.cons _ (.ite _ _ _))) => ck_no
  | .prim _ (.cons _ (.cons _ (.idx _ _))) => ck_no
  | .prim _ (.cons _ (.cons _ (.absent))) => ck_no
  | .prim _ (.cons _ (.cons _ (.slc _ _ _))) => ck_no
  | .prim _ (.cons _ (.cons _ (.rev _))) => ck_no
  | .prim _ (.cons _ (.cons _ (.call _ _))) => ck_no
  | .prim _ (.cons _ (.cons _ (.callk _ _ _ _))) => ck_no
  | .prim _ (.cons _ (.cons _ (.callv _ _))) => ck_no
  | .prim _ (.cons _ (.cons _ (.heard _ _))) => ck_no
  | .prim _ (.cons _ (.cons _ (.force _))) => ck_no
  | .prim _ (.cons _ (.cons _ (.prim _ _))) => ck_no
  | .prim _ (.cons _ (.cons _ (.meth _ _ _))) => ck_no
  | .prim _ (.cons _ (.cons _ (.comp _ _ _ _ _ _))) => ck_no
  | .prim _ (.cons _ (.cons _ (.comp2 _ _ _ _ _ _ _ _ _ _ _))) => ck_no
  | .prim _ (.cons _ (.cons _ (.attr _ _))) => ck_no
  | .prim _ (.cons _ (.cons _ (.isx _ _))) => ck_no
  | .prim _ (.cons _ (.cons _ (.draw _ _))) => ck_no
  | .prim _ (.cons _ (.cons _ (.cons _ _))) => ck_no
  | .absent => ck_no
  | .rev _ => ck_no
  | .callk _ _ a k => snd_callk (chk_ok a) (chk_ok k)
  | .heard f b => ck_ofV fun L c X e xo h => by
    have B := chk_ok b
    unfold vHeard at h
    split at h
    · simp only [Bool.and_eq_true, decide_eq_true_eq] at h
      obtain ⟨⟨⟨⟨⟨⟨⟨h1, h2⟩, h3⟩, h4⟩, h5⟩, h6⟩, h7⟩, h8⟩ := h
      exact xo.hrd h1 X.pn X.xe L.W xo.call.tk _ f b _ _ _ _ _ _ h4 h2 h3 h5 h6 h7 fun L' X' x' => B.v L' _ X' _ (x'.up rfl) h8
    · cases h
  | .force i => ck_ofV fun L c X e xo h => by
    unfold vForce at h
    split at h
    · simp only [Bool.and_eq_true, decide_eq_true_eq] at h
      obtain ⟨⟨⟨h1, h2⟩, h3⟩, h4⟩ := h
      exact xo.frc h1 X.pn X.xe L.W xo.call.tk i _ _ _ h2 (vis_of h3) h4
    · cases h
  | .meth m a b => snd_meth (chk_ok a) (chk_ok b)
  | .attr _ _ => ck_no
  | .isx _ _ => ck_no
end
end Cl
set_option autoImplicit false
set_option Elab.async false
set_option linter.all false
set_option maxRecDepth 100000
set_option maxHeartbeats 4000000
/-! try with several clauses, each with a name or without. -/
namespace Cl
open PySem PySem.Spec PyProof.Rows L2
/-- the ends behind a suite whose name goes -/
def goneD (i : Option Nat) (D : Ends) : Ends := match i with
  | none => D
  | some i => { nx := fun σ H => D.nx (σ.set i none) H, rt := D.rt, bk := fun σ H => D.bk (σ.set i none) H, ct := fun σ H => D.ct (σ.set i none) H }
def putE (i : Option Nat) (a : Addr) (σ : L2.St) : L2.St := match i with
  | none => σ
  | some i => σ.set i (some (.ref a))
abbrev Clause := Value × Option Nat × (Addr → Value → Option Addr → TS)
/-- what the clauses wish of an error, one after the other -/
def wHands (K : PySem.W.Frag) (Wout : WX) (D : Ends) : List Clause → WX
  | [] => Wout
  | (c, i, ts) :: r => fun cls d σ H => ∃ b, PySem.W.exmOne K cls c = some b ∧ (b = true → ∀ a, H a = none → ts a cls d (goneD i D) (putE i a σ) H) ∧ (b = false → wHands K Wout D r cls d σ H)
/-- the clauses' suites keep their readings -/
inductive HdsM (X : Cx) : List ExceptHandler → List Clause → Prop
  | nil : HdsM X [] []
  | plain {x : Str} {c : Value} {ts : Addr → Value → Option Addr → TS} {b₀ : Stmt} {suite : List Stmt} {np pos' : Pos} {hds : List ExceptHandler} {l : List Clause} (hc : Names X x c)
      (hsu : ∀ (a : Addr) (oe : Obj) (cls : Value) (d : Option Addr) (pn : List (Addr × Obj)), Zc cls d oe → (∃ vs, oe.data = .fields vs) → PSs (X.suite a ((a, oe) :: pn)) (b₀ :: suite) (ts a cls d)) (r : HdsM X hds l) :
      HdsM X (.ExceptHandler (some (.Name x np)) none (b₀ :: suite) pos' :: hds) ((c, none, ts) :: l)
  | named {x n : Str} {i : Nat} {c : Value} {ts : Addr → Value → Option Addr → TS} {b₀ : Stmt} {suite : List Stmt} {np pos' : Pos} {hds : List ExceptHandler} {l : List Clause} (hc : Names X x c) (hi : X.N[i]? = some n) (hln : X.env.kindOf n = some .local)
      (hsu : ∀ (a : Addr) (oe : Obj) (cls : Value) (d : Option Addr) (pn : List (Addr × Obj)), Zc cls d oe → (∃ vs, oe.data = .fields vs) → PSs (X.suite a ((a, oe) :: pn)) (b₀ :: suite) (ts a cls d)) (r : HdsM X hds l) :
      HdsM X (.ExceptHandler (some (.Name x np)) (some n) (b₀ :: suite) pos' :: hds) ((c, some i, ts) :: l)
section
variable {X : Cx} {body : List Stmt} {h₀ : ExceptHandler} {hds : List ExceptHandler} {l : List Clause} {pos : Pos} {tb : WX → TS} {Wout : WX}
/-- the clauses looked at, one after the other, the error a in hand -/
theorem hands_go {pins pins' : List (Addr × Obj)} {σ : L2.St} {H : Hp} {sI s : Shared} {h3 B : Heap} {a : Addr} {cls : Value} {d : Option Addr} {D : Ends} (stk : X.stack = X.env :: X.outer) (hf : X.env.frame = some X.env.locals) (tk : Takes X Wout) (hN : X.N.Nodup) (ok : X.Ok)
    (J : Inv X pins σ H sI) (nb : ∀ b o, sI.heap.get? b = some o → b ∉ frs X.stack → B.get? b = some o) (fl3 : HandSPX.FlyingZ B (X.env :: X.outer) a (Zc cls d) h3) (up3 : sI.heap.UpToSlots h3) (na : H a = none) (os : s.os = sI.os) (ag : AllBare s.gens) (nL : a ≠ X.env.locals) (nF : a ∉ X.fs) :
    ∀ {hds' : List ExceptHandler} {l' : List Clause}, HdsM X hds' l' → wHands X.K Wout D l' cls d σ H → wpAny (model X.prog X.w) X.A (handleBy (.ref a) X.env hds') (SP X pins D) X.xe { s with heap := h3 } := by
  have J3 : Inv X pins σ H { s with heap := h3 } := J.landed nb fl3.1 up3 os ag
  obtain ⟨oe3, vs3, he3, hz3, hd3⟩ := fl3.there
  have S3 := J3.suite he3 hd3 na nL nF
  -- the class named, and whether it takes the error
  have look : ∀ {x : Str} {c : Value} {np : Pos} {b : Bool} {Q : Bool → Shared → Prop} {E : Value → Shared → Prop}, Names X x c → PySem.W.exmOne X.K cls c = some b →
      (∀ {Qv : Value → Shared → Prop} {E : Value → Shared → Prop}, Qv c { s with heap := h3 } → wpAny (model X.prog X.w) (X.A.mark (some (.ref a))) (eval (.Name x np) X.env) Qv E { s with heap := h3 }) := fun {x c np b Q E} hc _ => fun {Qv E} q => by
    obtain ⟨hg, hdb, hm | ⟨hm, hv, hnn⟩⟩ := hc
    · exact ld_glob (X := X.suite a ((a, oe3) :: (X.pn ++ pins))) S3 hg hm q hdb
    · exact ld_blt (X := X.suite a ((a, oe3) :: (X.pn ++ pins))) S3 hg hm hv q hnn hdb
  have LT : PySem.W.Looks (model X.prog X.w) h3 (typeOf (.ref a)) cls := fun A Q E s k q => wpAny_typeOf_ref (k _ _ he3) (by rw [hz3.1]; exact q)
  intro hds' l' hk
  induction hk with
  | nil =>
    intro w
    refine wpAny_handleBy_nil ?_
    obtain ⟨k1, k2, k3, oe, vs, T, oT, ts', he, hz, hd, h1, hr⟩ := id fl3
    unfold PySem.passOn
    refine wpAny_bind (wpAny_field he hd h1 ?_)
    rw [if_neg (show ¬ ((Value.ref T == Value.none) = true) from by simp)]
    have fin : wpAny (model X.prog X.w) X.A (setFlight (.ref a) X.env.frame) (fun _ s4 => wpAny (model X.prog X.w) X.A (throw (.ref a) : Sem Flow) (SP X pins D) X.xe s4) X.xe { s with heap := h3 } := by
      rw [hf]
      refine HandSPX.setFlight_upZ fl3 fun h4 hh4 up4 => wpAny_throw (tk _ _ ?_)
      exact ⟨a, B, sI, pins, σ, H, cls, d, rfl, J, nb, up3.trans up4, .inr (.inr (by rw [stk]; exact hh4)), na, os, ag, w⟩
    first
      | exact wpAny_bind (wpAny_pure (wpAny_bind fin))
      | exact wpAny_bind fin
  | @plain x c ts b₀ suite np pos' hds2 l2 hc hsu r ih =>
    intro w
    obtain ⟨b, hb1, yes, no⟩ := w
    refine wpAny_handleBy_cons (codeAny_handlers_test ?_) (by intro q; cases q)
    have LM := PySem.W.exm_one (M := model X.prog X.w) (J3.kIn) LT hb1
    refine look (Q := fun _ _ => True) (E := fun _ _ => True) hc hb1 (LM.here ?_)
    cases b with
    | false => exact ih (no rfl)
    | true =>
      refine codeAny_handlers_suite (HandSPX.lands_againZ fl3 fun h4 fl4 up4 => ?_)
      have J4 : Inv X pins σ H { s with heap := h4 } := J.landed nb fl4.1 (up3.trans up4) os ag
      obtain ⟨oe4, vs4, he4, hz4, hd4⟩ := fl4.there
      refine wpAny_mono ((hsu a oe4 cls d (X.pn ++ pins) hz4 ⟨_, hd4⟩).run [] _ _ H _ (J4.suite he4 hd4 na nL nF) (yes rfl a na)) (fun f s6 hsp => ?_) (fun _ _ z => False.elim z)
      cases f with
      | ret u =>
        obtain ⟨v6, σ6, H6, S6, r6, q6⟩ := hsp
        exact ⟨_, _, _, S6.unsuite ok, r6, q6⟩
      | _ =>
        obtain ⟨σ6, H6, S6, q6⟩ := hsp
        exact ⟨_, _, S6.unsuite ok, q6⟩
  | @named x n i c ts b₀ suite np pos' hds2 l2 hc hi hln hsu r ih =>
    intro w
    obtain ⟨b, hb1, yes, no⟩ := w
    refine wpAny_handleBy_cons (codeAny_handlers_test ?_) (by intro q; cases q)
    have LM := PySem.W.exm_one (M := model X.prog X.w) (J3.kIn) LT hb1
    refine look (Q := fun _ _ => True) (E := fun _ _ => True) hc hb1 (LM.here ?_)
    cases b with
    | false => exact ih (no rfl)
    | true =>
      refine codeAny_handlers_suite_as (HandSPX.lands_againZ fl3 fun h4 fl4 up4 => ?_)
      have J4 : Inv X pins σ H { s with heap := h4 } := J.landed nb fl4.1 (up3.trans up4) os ag
      obtain ⟨oe4, vs4, he4, hz4, hd4⟩ := fl4.there
      refine store_ok (X := X.suite a ((a, oe4) :: (X.pn ++ pins))) (v := .ref a) (J4.suite he4 hd4 na nL nF) hN hi (.inl hln) rfl (fun s5 S5 => ?_) (.inr hln)
      refine wpAny_mono ((hsu a oe4 cls d (X.pn ++ pins) hz4 ⟨_, hd4⟩).run [] s5 _ H _ S5 (yes rfl a na)) (fun f s6 hsp => ?_) (fun _ _ z => False.elim z)
      have gone : ∀ {σ6 : L2.St} {H6 : Hp} {Q : Shared → Prop}, Inv (X.suite a ((a, oe4) :: (X.pn ++ pins))) [] σ6 H6 s6 → (∀ s7, Inv X pins (σ6.set i none) H6 s7 → Q s7) →
          wpAny (model X.prog X.w) X.A (do bindName X.env n .none; unbindBehindTheSuite X.env n pos') (fun _ s7 => Q s7) X.xe s6 := fun {σ6 H6 Q} S6 hq => gone_ok (S6.unsuite ok) hN hi hln hq
      cases f with
      | ret u =>
        obtain ⟨v6, σ6, H6, S6, r6, q6⟩ := hsp
        exact gone S6 fun s7 J7 => ⟨_, _, _, J7, r6, q6⟩
      | next =>
        obtain ⟨σ6, H6, S6, q6⟩ := hsp
        exact gone S6 fun s7 J7 => ⟨_, _, J7, q6⟩
      | brk =>
        obtain ⟨σ6, H6, S6, q6⟩ := hsp
        exact gone S6 fun s7 J7 => ⟨_, _, J7, q6⟩
      | cont =>
        obtain ⟨σ6, H6, S6, q6⟩ := hsp
        exact gone S6 fun s7 J7 => ⟨_, _, J7, q6⟩
theorem ps_hands (stk : X.stack = X.env :: X.outer) (hf : X.env.frame = some X.env.locals) (hN : X.N.Nodup) (tk : Takes X Wout)
    (hb : ∀ (W : WX) (pn : List (Addr × Obj)) (xe : Value → Shared → Prop), Takes (X.tr pn xe) W → PassesOwn (model X.prog X.w) X.A X.env xe → PSs (X.tr pn xe) body (tb W))
    (hh : HdsM X (h₀ :: hds) l) : PS X (.Try body (h₀ :: hds) [] [] pos) (fun D σ H => tb (wHands X.K Wout D l) D σ H) := by
  constructor
  intro pins s σ H D I h
  have ok := I.ok
  have hfr : X.A.frames = some (X.env :: X.outer) := by rw [ok.frames, stk]
  refine wpAny_Try_except ?_
  refine wpAny_mono ((hb (wHands X.K Wout D l) (X.pn ++ pins) (fun e s₁ => wpAny (model X.prog X.w) X.A (noteFrame e X.env) (fun _ s₂ => wpAny (model X.prog X.w) X.A (setFlight e none) (fun _ s₃ =>
    wpAny (model X.prog X.w) X.A (handleBy e X.env (h₀ :: hds)) (SP X pins D) X.xe s₃) X.xe s₂) X.xe s₁) (fun u s' air => ?_) PassesOwn.looking).run [] s σ H D (I.toTry _) h) (fun f s1 hsp => ?_) (fun e s1 he => he)
  · obtain ⟨a, B, sI, pins', σ', H', cls, d, rfl, J', nb, up, sky, na, os, ag, w⟩ := air
    have J : Inv X pins σ' H' sI := J'.ofTry ok
    have sky' : Sky B (X.env :: X.outer) a (Zc cls d) X.env.locals s'.heap := by rw [← stk]; exact sky
    refine Sky.land Zc.steady hfr hf sky' fun h3 fl3 up3 => ?_
    obtain ⟨oe3, vs3, he3, hz3, hd3⟩ := fl3.there
    have off : a ∉ frs (X.env :: X.outer) := fun hm => by
      obtain ⟨_, o', e', hnf⟩ := fl3.2.2.1.mem hm
      rw [he3] at e'
      cases e'
      exact hnf _ hd3
    have nL : a ≠ X.env.locals := fun z => off (List.mem_filterMap.mpr ⟨X.env, List.mem_cons_self, by rw [hf, z]⟩)
    have nF : a ∉ X.fs := fun hm => by
      obtain ⟨e, he, q⟩ := List.mem_filterMap.mp hm
      exact off (List.mem_filterMap.mpr ⟨e, List.mem_cons_of_mem _ he, q⟩)
    exact hands_go (pins' := []) (s := s') stk hf tk hN ok J nb fl3 (up.trans up3) na os ag nL nF hh w
  · cases f with
    | next =>
      obtain ⟨σ', H', J', q⟩ := hsp
      exact wpAny_execs_nil ⟨σ', H', J'.ofTry ok, q⟩
    | ret u =>
      obtain ⟨v, σ', H', J', r, q⟩ := hsp
      exact ⟨v, σ', H', J'.ofTry ok, r, q⟩
    | brk =>
      obtain ⟨σ', H', J', q⟩ := hsp
      exact ⟨σ', H', J'.ofTry ok, q⟩
    | cont =>
      obtain ⟨σ', H', J', q⟩ := hsp
      exact ⟨σ', H', J'.ofTry ok, q⟩
end
end Cl
set_option autoImplicit false
set_option Elab.async false
set_option linter.all false
set_option maxRecDepth 100000
set_option maxHeartbeats 4000000
/-! isinstance of a caught error, where it is one. -/
namespace Cl
open PySem PySem.Spec PyProof.Rows L2 PySem.W PySem.Calls
theorem yes_ans {K : Frag} {x t c : Value} {Hy : Heap → Prop} (ty : ∀ (M : Model) (h : Heap), K.In h → Hy h → Looks M h (typeOf x) t) (e : kitOne K t c = some true) : Answers (fun s => K.In s.heap ∧ Hy s.heap) x c true := by
  intro dep tk prog w A R s hs
  obtain ⟨hp, g, d, tt, os⟩ := s
  obtain ⟨⟨KI, p⟩, hq⟩ := hs
  have LT := ty (model prog w) hp KI p
  unfold kitOne at e
  unfold Builtin.«isinstance.nested»
  refine wpAny_bind (LT.at ?_)
  by_cases q : (t == c) = true
  · rw [if_pos q]
    first
      | exact wpAny_bind (wpAny_rule (hq tt))
      | exact wpAny_bind (wpAny_rule (wpAny_pure (hq tt)))
      | exact wpAny_pure (hq tt)
      | exact wpAny_pure (wpAny_pure (hq tt))
      | exact hq tt
  · rw [if_neg q] at e
    rw [if_neg q]
    obtain ⟨hty, his, hsub⟩ := kit_cls (M := model prog w) KI e
    have LI : Looks (model prog w) hp (isInstance x c) true := LT.andThen hsub
    refine wpAny_bind (hty.at ?_)
    rw [if_pos (by decide)]
    k_delta "plainIsInstance"
    refine wpAny_bind (wpAny_bind (his.at ?_))
    simp only [Bool.not_true, Bool.false_eq_true, if_false]
    refine wpAny_bind (LI.at ?_)
    first
      | exact wpAny_pure (wpAny_pure (hq tt))
      | (simp only [if_true]; first | exact wpAny_pure (wpAny_pure (hq tt)) | exact wpAny_pure (hq tt) | exact wpAny_bind (wpAny_pure (wpAny_pure (hq tt))))
theorem call_isY {X : Cx} {a : Addr} {oe : Obj} {cls : Value} {d : Option Addr} {pn : List (Addr × Obj)} (hz : Zc cls d oe) : CallR (X.suite a ((a, oe) :: pn)) (.builtin "isinstance") (fun xs H Q => ∃ C : Addr, xs = [.ref a, .ref C] ∧ kitOne X.K cls (.ref C) = some true ∧ Q (.bl true) H) := by
  intro pins s σ H xs us Q I r h
  obtain ⟨C, rfl, e, q⟩ := h
  obtain ⟨u1, u2, rfl, r1, r2⟩ := r.two
  cases r1
  cases r2
  obtain ⟨hget, _⟩ := I.pin (a, oe) (List.mem_append.mpr (.inl List.mem_cons_self))
  refine call_isinstance (S := fun _ R s => (X.K.In s.heap ∧ s.heap.get? a = some oe) ∧ ∀ tk, R (.ok (.ret (.bool true))) { s with toks := tk })
    (fun prog w A R s hs => isinstance_outer (yes_ans (Hy := fun h => h.get? a = some oe) (fun M h _ p => fun A Q E s k q => wpAny_typeOf_ref (k _ _ p) (by rw [hz.1]; exact q)) e 0 _ prog w A R s hs) (fun z => nomatch z)) ⟨⟨I.kIn, hget⟩, fun tk => ?_⟩
  exact ⟨.bl true, H, I.kept (t' := tk) fun _ _ z => z, rfl, q⟩
end Cl
set_option autoImplicit false
set_option Elab.async false
set_option linter.all false
set_option maxRecDepth 100000
set_option maxHeartbeats 4000000
/-! except suites: what stands in them. -/
namespace Cl
open PySem PySem.Spec PyProof.Rows L2
/-- a name that may be stored to -/
def locB (c : Sc) (x : Str) : Bool := match c.sc.names.lookup x with
  | some .local => true
  | some .cell => c.fb x
  | _ => false
section
variable {G : Gl0} {nm : Nm} {N : List Str} {n : Nat} {L : Lv} {c : Sc} {X : Cx}
theorem loc_of {x : Str} (xo : XOk G nm N L c n X) (h : locB c x = true) : Loc X.env.scope x ∧ (X.fn x = true ∨ X.env.scope.names.lookup x = some .local) := by
  unfold locB at h
  rw [xo.hsc]
  split at h
  · rename_i q
    exact ⟨.inl q, .inr q⟩
  · rename_i q
    exact ⟨.inr q, .inl (xo.fb x h)⟩
  · cases h
end
variable (nm : Nm) (N : List Str)
def uAttr (i : Nat) (f : Str) : Expr → Sc → Bool
  | .Attribute (.Name y p) g _, c => decide (g = f) && vVar N i (.Name y p) c
  | _, _ => false
def uIsx (i j : Nat) : Expr → Sc → Bool
  | .Call (.Name x _) [.Name y p, .Name z _] [] _, c => decide (x = ("isinstance" : Str)) && bltB nm c x && vVar N i (.Name y p) c && gloB c.sc z && dbg z && decide (nm.xl.lookup z = some j)
  | _, _ => false
def chkU : E → Ck
  | .con d => ofV (vCon d)
  | .var i => ofV (vVar N i)
  | .attr i f => ofV (uAttr N i f)
  | .isx i j => ofV (uIsx nm N i j)
  | .nil => ⟨vRow (fun es _ => es.isEmpty) [], fun _ _ => false, fun es _ => es.isEmpty, fun _ _ _ => false, fun _ _ _ => false⟩
  | .cons a r => ⟨vRow (rCons (chkU a) (chkU r)) (md a :: mds r), fun _ _ => false, rCons (chkU a) (chkU r), fun _ _ _ => false, fun _ _ _ => false⟩
  | .list a => ofV (vList (chkU a) (mds a))
  | .frz a => ofV fun e c => (chkU a).v e c && !decide (md a = .b)
  | _ => noC
def chkUS : S → List Stmt → Sc → Bool
  | .done, ss, _ => ss.isEmpty
  | .kill _ r, ss, c => chkUS r ss c
  | .pass r, ss, c => (match ss with
    | .Pass _ :: rest => chkUS r rest c
    | _ => false)
  | .set i false e r, ss, c => (match ss with
    | .Assign [.Name x _] ee _ :: rest => decide (N[i]? = some x) && locB c x && (chkU nm N e).v ee c && decide (md e = .f) && nsw ee && chkUS r rest c
    | _ => false)
  | .ret e, ss, c => (match ss with
    | [.Return (some ee) _] => (chkU nm N e).v ee c && decide (md e = .f)
    | _ => false)
  | .cnt, ss, _ => (match ss with
    | [.Continue _] => true
    | _ => false)
  | _, _, _ => false
end Cl
namespace Cl
open PySem PySem.Spec PyProof.Rows L2
/-- in the suite of an error -/
structure UOk (G : Gl0) (nm : Nm) (N : List Str) (L : Lv) (c : Sc) (X : Cx) (a : Addr) (oe : Obj) (k : Nat) (d : Option Addr) : Prop where
  xo : ∃ L0 n, XOk G nm N L0 c n X
  hz : Zc (.ref (G.cA k)) d oe
  hf : ∃ vs, oe.data = .fields vs
  hk : ∃ x, nm.cl.lookup x = some k
  ea : L.ea = a
  xd : L.xd = d
  xc : L.xc = k
section
variable {G : Gl0} {nm : Nm} {N : List Str} {L : Lv} {c : Sc} {X : Cx} {a : Addr} {oe : Obj} {k : Nat} {d : Option Addr} {pn : List (Addr × Obj)}
theorem UOk.var {i : Nat} {y : Str} {p : Pos} (U : UOk G nm N L c X a oe k d) (h : vVar N i (.Name y p) c = true) : (X.suite a ((a, oe) :: pn)).N[i]? = some y ∧ Vis (X.suite a ((a, oe) :: pn)).env.scope y ∧ (y == ("__debug__" : Str)) = false ∧ (y == ("__classdict__" : Str)) = false := by
  obtain ⟨L0, n, xo⟩ := U.xo
  exact var_of (X := X) xo h
/-- the error at its name -/
theorem UOk.exc {R : Rp} {ρ : Env} {σ : L2.St} {H0 S H : Hp} {b i c' : Nat} {e : D} (U : UOk G nm N L c X a oe k d) (hh : Here G L R ρ σ H0 S H b) (h : ρ.at i = some (.exc c' e, false)) :
    σ[i]? = some (some (.ref a)) ∧ c' = k ∧ ((fldOf k = none ∧ d = none) ∨ ∃ f x u, fldOf k = some f ∧ d = some x ∧ S x = some (.xd [(f, u)]) ∧ Rep G.K R S e u) := by
  obtain ⟨v, hs, r1, r2, r3⟩ := hh.ev.frz i _ h
  obtain ⟨e1, e2, e3⟩ := hh.ex
  subst r1
  rw [e1, U.ea] at hs
  have ec : c' = k := r2.trans (e3.trans U.xc)
  subst ec
  rw [e2, U.xd] at r3
  exact ⟨hs, rfl, r3⟩
theorem su_attr {i : Nat} {f : Str} {y : Str} {p p2 : Pos} (U : UOk G nm N L c X a oe k d) (h : vVar N i (.Name y p) c = true) : PE (X.suite a ((a, oe) :: pn)) (.Attribute (.Name y p) f p2) (rdE G L (.attr i f)) := by
  constructor
  intro pins s σ H Q I q
  obtain ⟨R, ρ, H0, S, b, hh, hb, hp⟩ := q
  simp only [evE] at hp
  cases ev : ρ.at i with
  | none => rw [ev] at hp; exact hp.elim
  | some q =>
    obtain ⟨e, o⟩ := q
    rw [ev] at hp
    cases e with
    | exc c' e =>
      cases o with
      | true => exact hp.elim
      | false =>
        simp only at hp
        split at hp
        · rename_i hfl
          obtain ⟨hs, rfl, r3⟩ := U.exc hh ev
          rcases r3 with ⟨z, _⟩ | ⟨f', x, u, e1, e2, e3, e4⟩
          · rw [z] at hfl; cases hfl
          · rw [hfl] at e1
            cases e1
            obtain ⟨L0, n, xo⟩ := U.xo
            obtain ⟨x0, hk⟩ := U.hk
            obtain ⟨T, hno⟩ := xo.exo.xf x0 _ hk
            obtain ⟨v1, v2, v3, v4⟩ := U.var (pn := pn) h
            refine (pe_xf T (hno f hfl) U.hz U.hf (pe_var v1 v2 v3 v4) rfl).run pins s σ H Q I ⟨_, hs, rfl, rfl, x, _, u, e2, hh.wd.sub _ _ e3, by simp [List.lookup], ?_⟩
            exact hp u S H b (Behind.refl hh.wd) e4
        · exact hp.elim
    | _ => cases o <;> exact hp.elim
theorem su_isx {i j : Nat} {y z : Str} {p p1 p2 p3 : Pos} (U : UOk G nm N L c X a oe k d) (h : vVar N i (.Name y p) c = true) (hb : bltB nm c "isinstance" = true) (hz : gloB c.sc z = true) (hdz : dbg z = true) (hj : nm.xl.lookup z = some j) :
    PE (X.suite a ((a, oe) :: pn)) (.Call (.Name "isinstance" p1) [.Name y p, .Name z p2] [] p3) (rdE G L (.isx i j)) := by
  constructor
  intro pins s σ H Q I q
  obtain ⟨R, ρ, H0, S, b, hh, hbb, hp⟩ := q
  simp only [evE] at hp
  cases ev : ρ.at i with
  | none => rw [ev] at hp; exact hp.elim
  | some q =>
    obtain ⟨e, o⟩ := q
    rw [ev] at hp
    cases e with
    | exc c' e =>
      cases o with
      | true => exact hp.elim
      | false =>
        simp only at hp
        split at hp
        · rename_i hsub
          obtain ⟨hs, rfl, r3⟩ := U.exc hh ev
          obtain ⟨L0, n, xo⟩ := U.xo
          obtain ⟨x0, hk⟩ := U.hk
          obtain ⟨v1, v2, v3, v4⟩ := U.var (pn := pn) h
          obtain ⟨g, m⟩ := blt_of xo hb
          have key := (xo.exo.exm x0 _ z j hk hj).2 hsub
          have gz : L2.Gl (X.suite a ((a, oe) :: pn)) z := glo_of (X := X) xo.hsc hz
          refine (pe_callB (X := X.suite a ((a, oe) :: pn)) (call_isY U.hz) g m (by decide +kernel) (pa_cons (pe_var v1 v2 v3 v4) (pa_cons (pe_glob (v := .ref (G.cA j)) gz (xo.exo.at_ z j hj) rfl (dbg_of hdz).1) pa_nil))).run pins s σ H Q I ⟨_, hs, G.cA j, rfl, key, ?_⟩
          exact hp _ S H b (Behind.refl hh.wd) rfl
        · exact hp.elim
    | _ => cases o <;> exact hp.elim
/-- rows and values of suites -/
theorem chkU_ok (U : UOk G nm N L c X a oe k d) : ∀ e : E, (∀ ee, (chkU nm N e).v ee c = true → PE (X.suite a ((a, oe) :: pn)) ee (rdE G L e)) ∧ (∀ es, (chkU nm N e).r es c = true → PA (X.suite a ((a, oe) :: pn)) es (rdA G L e) ∧ rowLen e = some es.length)
  | .con e => by
      refine ⟨fun ee h => ?_, fun es h => (by cases h)⟩
      cases ee with
      | Constant kk j p =>
        cases kk with
        | int i => cases same_eq _ _ h; exact se_con_int
        | bool b => cases same_eq _ _ h; exact se_con_bl
        | none => cases same_eq _ _ h; exact se_con_non
        | str s => cases same_eq _ _ h; exact se_con_str
        | _ => cases h
      | _ => cases h
  | .var i => by
      refine ⟨fun ee h => ?_, fun es h => (by cases h)⟩
      cases ee with
      | Name y p =>
        obtain ⟨h1, h2, h3, h4⟩ := U.var (pn := pn) (p := p) h
        exact se_var h1 h2 h3 h4
      | _ => cases h
  | .attr i f => by
      refine ⟨fun ee h => ?_, fun es h => (by cases h)⟩
      have h' : uAttr N i f ee c = true := h
      unfold uAttr at h'
      split at h'
      · simp only [Bool.and_eq_true, decide_eq_true_eq] at h'
        obtain ⟨rfl, h2⟩ := h'
        exact su_attr U h2
      · cases h'
  | .isx i j => by
      refine ⟨fun ee h => ?_, fun es h => (by cases h)⟩
      have h' : uIsx nm N i j ee c = true := h
      unfold uIsx at h'
      split at h'
      · simp only [Bool.and_eq_true, decide_eq_true_eq] at h'
        obtain ⟨⟨⟨⟨⟨rfl, h2⟩, h3⟩, h4⟩, h5⟩, h6⟩ := h'
        exact su_isx U h3 h2 h4 h5 h6
      · cases h'
  | .nil => by
    have R : ∀ es, (chkU nm N .nil).r es c = true → PA (X.suite a ((a, oe) :: pn)) es (rdA G L .nil) ∧ rowLen .nil = some es.length := fun es h => by
      cases es with
      | nil => exact ⟨sa_nil, rfl⟩
      | cons _ _ => cases h
    refine ⟨fun ee h => ?_, R⟩
    cases ee with
    | Tuple es kk p =>
      have h' : vRow (fun es _ => es.isEmpty) [] (.Tuple es kk p) c = true := h
      simp only [vRow, Bool.and_eq_true, decide_eq_true_eq] at h'
      obtain ⟨p1, p2⟩ := R es h'.1.1
      exact se_tup p1 (fun m hm => by cases hm) rfl h'.2 fun F tm ρ Q Ef hp => row_len p2 hp
    | _ => cases h
  | .cons e r => by
    obtain ⟨A, _⟩ := chkU_ok U e
    obtain ⟨_, B⟩ := chkU_ok U r
    have R : ∀ es, (chkU nm N (.cons e r)).r es c = true → PA (X.suite a ((a, oe) :: pn)) es (rdA G L (.cons e r)) ∧ rowLen (.cons e r) = some es.length := fun es h => by
      cases es with
      | nil => cases h
      | cons e' es =>
        have h' : rCons (chkU nm N e) (chkU nm N r) (e' :: es) c = true := h
        simp only [rCons, Bool.and_eq_true] at h'
        obtain ⟨⟨h1, h2⟩, h3⟩ := h'
        obtain ⟨p1, p2⟩ := B es h3
        exact ⟨sa_cons (A e' h1) p1 (star_cons h2), by simp [rowLen, p2]⟩
    refine ⟨fun ee h => ?_, R⟩
    cases ee with
    | Tuple es kk p =>
      have h' : vRow (rCons (chkU nm N e) (chkU nm N r)) (md e :: mds r) (.Tuple es kk p) c = true := h
      simp only [vRow, Bool.and_eq_true, decide_eq_true_eq] at h'
      obtain ⟨p1, p2⟩ := R es h'.1.1
      exact se_tup p1 (allF_of h'.1.2) rfl h'.2 fun F tm ρ Q Ef hp => row_len p2 hp
    | _ => cases h
  | .list r => by
    obtain ⟨_, B⟩ := chkU_ok U r
    refine ⟨fun ee h => ?_, fun es h => (by cases h)⟩
    cases ee with
    | List es p =>
      have h' : vList (chkU nm N r) (mds r) (.List es p) c = true := h
      simp only [vList, Bool.and_eq_true, decide_eq_true_eq] at h'
      obtain ⟨p1, p2⟩ := B es h'.1.1
      exact se_lst p1 (allF_of h'.1.2) h'.2 fun F tm ρ Q Ef hp => row_len p2 hp
    | _ => cases h
  | .frz e => by
    obtain ⟨A, _⟩ := chkU_ok U e
    refine ⟨fun ee h => ?_, fun es h => (by cases h)⟩
    have h' : ((chkU nm N e).v ee c && !decide (md e = .b)) = true := h
    simp only [Bool.and_eq_true, Bool.not_eq_true', decide_eq_false_iff_not] at h'
    exact se_frz (A ee h'.1) h'.2
  | .glo _ _ => ⟨fun _ h => (by cases h), fun _ h => (by cases h)⟩
  | .bor _ => ⟨fun _ h => (by cases h), fun _ h => (by cases h)⟩
  | .bin _ _ _ => ⟨fun _ h => (by cases h), fun _ h => (by cases h)⟩
  | .neg _ => ⟨fun _ h => (by cases h), fun _ h => (by cases h)⟩
  | .cmp _ _ _ => ⟨fun _ h => (by cases h), fun _ h => (by cases h)⟩
  | .chain _ _ _ _ _ => ⟨fun _ h => (by cases h), fun _ h => (by cases h)⟩
  | .not _ => ⟨fun _ h => (by cases h), fun _ h => (by cases h)⟩
  | .and _ _ => ⟨fun _ h => (by cases h), fun _ h => (by cases h)⟩
  | .or _ _ => ⟨fun _ h => (by cases h), fun _ h => (by cases h)⟩
  | .ite _ _ _ => ⟨fun _ h => (by cases h), fun _ h => (by cases h)⟩
  | .idx _ _ => ⟨fun _ h => (by cases h), fun _ h => (by cases h)⟩
  | .absent => ⟨fun _ h => (by cases h), fun _ h => (by cases h)⟩
  | .slc _ _ _ => ⟨fun _ h => (by cases h), fun _ h => (by cases h)⟩
  | .rev _ => ⟨fun _ h => (by cases h), fun _ h => (by cases h)⟩
  | .call _ _ => ⟨fun _ h => (by cases h), fun _ h => (by cases h)⟩
  | .callk _ _ _ _ => ⟨fun _ h => (by cases h), fun _ h => (by cases h)⟩
  | .callv _ _ => ⟨fun _ h => (by cases h), fun _ h => (by cases h)⟩
  | .heard _ _ => ⟨fun _ h => (by cases h), fun _ h => (by cases h)⟩
  | .force _ => ⟨fun _ h => (by cases h), fun _ h => (by cases h)⟩
  | .prim _ _ => ⟨fun _ h => (by cases h), fun _ h => (by cases h)⟩
  | .meth _ _ _ => ⟨fun _ h => (by cases h), fun _ h => (by cases h)⟩
  | .comp _ _ _ _ _ _ => ⟨fun _ h => (by cases h), fun _ h => (by cases h)⟩
  | .comp2 _ _ _ _ _ _ _ _ _ _ _ => ⟨fun _ h => (by cases h), fun _ h => (by cases h)⟩
  | .draw _ _ => ⟨fun _ h => (by cases h), fun _ h => (by cases h)⟩
theorem chkUS_ok (U : UOk G nm N L c X a oe k d) : ∀ (s : S) (ss : List Stmt), chkUS nm N s ss c = true → PSs (X.suite a ((a, oe) :: pn)) ss (rdS G L s)
  | .done, ss, h => by
    cases ss with
    | nil => exact ss_done
    | cons _ _ => cases h
  | .kill is r, ss, h => ss_kill (chkUS_ok U r ss h)
  | .pass r, ss, h => by
    unfold chkUS at h
    split at h
    · exact ss_pass (chkUS_ok U r _ h)
    · cases h
  | .set i false e r, ss, h => by
    unfold chkUS at h
    split at h
    · simp only [Bool.and_eq_true, decide_eq_true_eq] at h
      obtain ⟨⟨⟨⟨⟨h1, h2⟩, h3⟩, h4⟩, h5⟩, h6⟩ := h
      obtain ⟨L0, n, xo⟩ := U.xo
      obtain ⟨l1, l2⟩ := loc_of xo h2
      exact ss_set h4 (ps_set (X := X.suite a ((a, oe) :: pn)) (by show X.N.Nodup; rw [xo.hN]; exact xo.nd) (by show X.N[i]? = _; rw [xo.hN]; exact h1) l1 ((chkU_ok U e).1 _ h3) (nsw_ok h5) l2) (chkUS_ok U r _ h6)
    · cases h
  | .set i true e r, ss, h => by cases h
  | .ret e, ss, h => by
    unfold chkUS at h
    split at h
    · simp only [Bool.and_eq_true, decide_eq_true_eq] at h
      exact ss_ret h.2 ((chkU_ok U e).1 _ h.1)
    · cases h
  | .cnt, ss, h => by
    unfold chkUS at h
    split at h
    · exact ss_cnt
    · cases h
  | .frz _ _, _, h => by cases h
  | .sets _ _ _, _, h => by cases h
  | .mset _ _ _, _, h => by cases h
  | .setix _ _ _ _, _, h => by cases h
  | .app _ _ _, _, h => by cases h
  | .ext _ _ _, _, h => by cases h
  | .ins _ _ _ _, _, h => by cases h
  | .rem _ _ _, _, h => by cases h
  | .apop _ _ _ _, _, h => by cases h
  | .expr _ _, _, h => by cases h
  | .ite _ _ _ _, _, h => by cases h
  | .for_ _ _ _ _ _, _, h => by cases h
  | .whl _ _ _, _, h => by cases h
  | .brk, _, h => by cases h
  | .raise _ _, _, h => by cases h
  | .raise0 _, _, h => by cases h
  | .try_ _ _ _, _, h => by cases h
  | .hand _ _ _ _, _, h => by cases h
end
end Cl
set_option autoImplicit false
set_option Elab.async false
set_option linter.all false
set_option maxRecDepth 100000
set_option maxHeartbeats 4000000
/-! try: the clean one's sound. -/
namespace Cl
open PySem PySem.Spec PyProof.Rows L2
theorem wp_catch {h : Nat → D → M (Env × Fl)} {Q : Env × Fl → Prop} {Ef : Nat → D → Prop} : ∀ {m : M (Env × Fl)}, wp (catchM h m) Q Ef → wp m Q (fun c d => wp (h c d) Q Ef)
  | .ok _, z => z
  | .exc _ _, z => z
  | .stuck, z => z
  | .draw n k, z => fun v hv => wp_catch (m := k v) (z v hv)
section
variable {G : Gl0} {R R' : Rp} {S H H0 : Hp} {b : Nat} {ρ : Env} {σ : L2.St}
theorem at_map {f : Option (D × Bool) → Option (D × Bool)} (hf : f none = none) (i : Nat) : Env.at (ρ.map f) i = f (ρ.at i) := by
  unfold Env.at
  rw [List.getD_eq_getElem?_getD, List.getD_eq_getElem?_getD, List.getElem?_map]
  cases ρ[i]? with
  | none => exact hf.symm
  | some x => rfl
theorem at_purge {i : Nat} {p : D × Bool} (h : (purge ρ).at i = some p) : ρ.at i = some p ∧ p.1.pure = true := by
  unfold purge at h
  rw [at_map rfl] at h
  cases q : ρ.at i with
  | none => rw [q] at h; cases h
  | some x =>
    obtain ⟨d, o⟩ := x
    rw [q] at h
    simp only at h
    split at h
    · cases h
      exact ⟨rfl, by assumption⟩
    · cases h
theorem at_calm {is : List Nat} {i : Nat} {p : D × Bool} (h : (calm is ρ).at i = some p) : ρ.at i = some p ∧ p.2 = false ∧ p.1.pure = true ∧ i ∉ is := by
  unfold calm at h
  obtain ⟨h1, h2⟩ := at_wipe h
  rw [at_map rfl] at h1
  cases q : ρ.at i with
  | none => rw [q] at h1; cases h1
  | some x =>
    obtain ⟨d, o⟩ := x
    rw [q] at h1
    cases o with
    | true => cases h1
    | false =>
      simp only at h1
      split at h1
      · cases h1
        exact ⟨rfl, rfl, by assumption, h2⟩
      · cases h1
theorem Wd.swap (w : Wd G R S H b) (h1 : R.sp = R'.sp) (h2 : R.sc = R'.sc) (h3 : R.sl = R'.sl) (h4 : R.th = R'.th) : Wd G R' S H b := by
  have st : ∀ a, R'.st a → R.st a := fun a z => by unfold Rp.st at z ⊢; rw [h1, h2, h3]; exact z
  refine ⟨w.sub, fun a z => w.nst a (st a z), w.ntb, ⟨?_, ?_⟩, h4 ▸ w.tb⟩
  · rw [← h1, ← h2, ← h3]
    exact w.st.ex
  · rw [← h1, ← h2, ← h3]
    exact w.st.ne
theorem Ev.putN (h : Ev G R H0 ρ σ S H) {i : Nat} : Ev G R H0 (putAt ρ i none) (σ.set i none) S H :=
  h.sub (by rw [putAt_len, List.length_set, h.len]) fun j p e => by
    by_cases z : i = j
    · subst z
      rcases at_put_same e with y | ⟨y, _⟩ <;> cases y
    · rw [at_put_ne z] at e
      exact ⟨e, List.getElem?_set_ne z⟩
/-- back at the outer names of the state -/
theorem Ev.purge (h : Ev G R' H0 ρ σ S H) (h1 : R'.fA = R.fA) (h2 : R'.sp = R.sp) (h3 : ∀ a, R.st a → R'.st a) : Ev G R H0 (Cl.purge ρ) σ S H where
  len := by unfold Cl.purge; rw [List.length_map]; exact h.len
  frz := fun i d e => by
    obtain ⟨e1, e2⟩ := at_purge e
    obtain ⟨v, a, b⟩ := h.frz i d e1
    exact ⟨v, a, Rep.swap h1 h2 _ _ e2 b⟩
  own := fun i d e => by
    obtain ⟨e1, e2⟩ := at_purge e
    obtain ⟨ds, a, vs, rfl, q2, q3, q4, q5, q6, q7⟩ := h.own i d e1
    exact ⟨ds, a, vs, rfl, q2, q3, q4, fun z => q5 (h3 a z), RepL.swap h1 h2 _ _ e2 q6, q7⟩
  dst := fun i j d e a p q => h.dst i j d e a (at_purge p).1 (at_purge q).1
  dom := h.dom
theorem Gs.swap {S' H' : Hp} (g : Gs R H0 S H S' H') (h : ∀ a, R.st a → R'.st a) : Gs R' H0 S H S' H' := ⟨g.ss, fun a o o0 h0 h1 n m => g.hh a o o0 h0 h1 (fun z => n (h a z)) m, g.fr, g.dom⟩
theorem FEv.swap {φ : FK} (f : FEv G R φ σ S) (h1 : R.fA = R'.fA) (h2 : R.sp = R'.sp) : FEv G R' φ σ S :=
  ⟨f.len, fun p hp => ⟨(f.at_ p hp).1, (f.at_ p hp).2.1, Rep.swap h1 h2 _ _ (f.at_ p hp).1 (f.at_ p hp).2.2⟩⟩
/-- what a calm environment tells, as facts -/
theorem calm_facts (ev : Ev G R H0 ρ σ S H) (is : List Nat) : ∃ l : List (Nat × D × V), (∀ p ∈ l, p.2.1.pure = true ∧ σ[p.1]? = some (some p.2.2) ∧ Rep G.K R S p.2.1 p.2.2) ∧ (∀ p ∈ l, p.1 ∉ is) ∧ ∀ i p, (calm is ρ).at i = some p → p.2 = false ∧ ∃ v, (i, p.1, v) ∈ l := by
  have key : ∀ n : Nat, ∃ l : List (Nat × D × V), (∀ p ∈ l, p.2.1.pure = true ∧ σ[p.1]? = some (some p.2.2) ∧ Rep G.K R S p.2.1 p.2.2) ∧ (∀ p ∈ l, p.1 ∉ is) ∧ ∀ i p, i < n → (calm is ρ).at i = some p → p.2 = false ∧ ∃ v, (i, p.1, v) ∈ l := fun n => by
    induction n with
    | zero => exact ⟨[], fun p hp => (by cases hp), fun p hp => (by cases hp), fun i p hi => (by omega)⟩
    | succ n ih =>
      obtain ⟨l, l1, l2, l3⟩ := ih
      cases q : (calm is ρ).at n with
      | none =>
        refine ⟨l, l1, l2, fun i p hi e => ?_⟩
        by_cases z : i = n
        · rw [z, q] at e; cases e
        · exact l3 i p (by omega) e
      | some p0 =>
        obtain ⟨d, o⟩ := p0
        obtain ⟨e1, e2, e3, e4⟩ := at_calm q
        simp only at e2 e3
        subst e2
        obtain ⟨v, v1, v2⟩ := ev.frz n d e1
        refine ⟨(n, d, v) :: l, fun p hp => ?_, fun p hp => ?_, fun i p hi e => ?_⟩
        · rcases List.mem_cons.mp hp with rfl | hp
          · exact ⟨e3, v1, v2⟩
          · exact l1 p hp
        · rcases List.mem_cons.mp hp with rfl | hp
          · exact e4
          · exact l2 p hp
        · by_cases z : i = n
          · subst z
            rw [q] at e
            cases e
            exact ⟨rfl, v, List.mem_cons_self ..⟩
          · obtain ⟨a1, u, a2⟩ := l3 i p (by omega) e
            exact ⟨a1, u, List.mem_cons_of_mem _ a2⟩
  obtain ⟨l, l1, l2, l3⟩ := key ρ.length
  refine ⟨l, l1, l2, fun i p e => l3 i p ?_ e⟩
  have := (at_calm e).1
  unfold Env.at at this
  rw [List.getD_eq_getElem?_getD] at this
  by_cases hi : i < ρ.length
  · exact hi
  · rw [List.getElem?_eq_none_iff.mpr (by omega)] at this
    cases this
theorem calm_len (is : List Nat) : (calm is ρ).length = ρ.length := by
  unfold calm
  rw [wipe_len, List.length_map]
end
/-! ### the clauses -/
/-- a suite's name goes -/
def dropE (i : Option Nat) (σ : L2.St) : L2.St := match i with
  | none => σ
  | some i => σ.set i none
/-- the suite's place -/
def Lsu (L : Lv) (a : Addr) (d : Option Addr) (k : Nat) : Lv := { L with W := fun _ _ _ _ => False, ea := a, xd := d, xc := k }
def suTS (G : Gl0) (nm : Nm) (L : Lv) (b : S) : Addr → Value → Option Addr → TS := fun a cls d D σ H => ∃ k, cls = .ref (G.cA k) ∧ (∃ x, nm.cl.lookup x = some k) ∧ rdS G (Lsu L a d k) b D σ H
def clauses (G : Gl0) (nm : Nm) (L : Lv) : S → List Clause
  | .hand k i b r => (.ref (G.cA k), i, suTS G nm L b) :: clauses G nm L r
  | _ => []
/-- rows of clauses -/
def isHands (nm : Nm) : S → Prop
  | .hand k _ _ r => (∃ y, nm.xl.lookup y = some k) ∧ isHands nm r
  | .done => True
  | _ => False
section
variable {G : Gl0} {nm : Nm} {L : Lv} {K : PySem.W.Frag} {mg : Str → Option Value}
/-- the error in the air, as the clauses wish it -/
theorem hands_wp {R : Rp} {H0 S1 H1 : Hp} {φ : FK} {n w : Nat} {Dn : Ends} {r : Cl.S} {e : Env} {c : Nat} {d : D} {dx : Option Addr} {σ : L2.St} {S H : Hp} {b' : Nat} (hexo : ExOk G nm mg K) (hcl : G.cl = nm.cl) (hKG : K = G.K) (hr : ∀ j ∈ asgS r, φ.at j = none) (hRL : R.fA = G.fA ∧ R.th = L.th)
    (g : Gs R H0 S1 H1 S H) (wd : Wd G R S H b') (fe : FEv G R φ σ S) (ex : ExcAt G R S H c d dx) (hx : R.ex = L.ea ∧ R.xd = L.xd ∧ R.xc = L.xc) (dom : ∀ a o, H0 a = some o → ∃ o', H a = some o')
    (he : ∀ i p, e.at i = some p → p.2 = false ∧ p.1.pure = true ∧ ∃ v, σ[i]? = some (some v) ∧ Rep G.K R S p.1 v) (hel : σ.length = e.length) : ∀ (h : Cl.S) (hh : isHands nm h) (ha : ∀ j ∈ asgS h, φ.at j = none) (hw : b' + (wgtS L.k L.kh L.t h + wgtS L.k L.kh L.t r) ≤ n + w) (hb : n + w ≤ BIG),
      wp (exH L.F L.tm h c d e) (endS G L R H0 φ S1 H1 n w r Dn) (badS G L R H0 φ S1 H1 n w) → wHands K L.W { Dn with nx := rdS G L r Dn } (clauses G nm L h) (.ref (G.cA c)) dx σ H
  | .hand k i b rr, hh, ha, hw, hb, hp => by
    obtain ⟨x0, hc0⟩ := ex.2.1
    rw [hcl] at hc0
    obtain ⟨y, hy⟩ := hh.1
    have hwt : wgtS L.k L.kh L.t (.hand k i b rr) = wgtS L.k L.kh L.t b + wgtS L.k L.kh L.t rr := rfl
    rw [hwt] at hw
    refine ⟨subc c k, (hexo.exm x0 c y k hc0 hy).1, fun hs a hna => ?_, fun hs => ?_⟩
    · rw [exH, if_pos hs] at hp
      let R' : Rp := { R with ex := a, xd := dx, xc := c }
      have aA : ∀ j ∈ i.toList, φ.at j = none := fun j hj => ha j (by simp only [asgS, List.mem_append]; exact .inl (.inl hj))
      have aB : ∀ j ∈ asgS b, φ.at j = none := fun j hj => ha j (by simp only [asgS, List.mem_append]; exact .inl (.inr hj))
      have wd' : Wd G R' S H b' := wd.swap rfl rfl rfl rfl
      have e0 : Ev G R' H0 e σ S H :=
        { len := hel
          frz := fun j d' q => by
            obtain ⟨_, q2, v, q3, q4⟩ := he j _ q
            exact ⟨v, q3, Rep.swap (R := R) (R' := R') rfl rfl _ _ q2 q4⟩
          own := fun j d' q => by
            obtain ⟨q1, _⟩ := he j _ q
            cases q1
          dst := fun j l d' e' a q _ _ _ => by
            obtain ⟨q1, _⟩ := he j _ q
            cases q1
          dom := dom }
      have rx : Rep G.K R' S (.exc c d) (.ref a) := by
        refine ⟨rfl, rfl, ?_⟩
        have z := ex.2.2
        cases hf : fldOf c with
        | none =>
          rw [hf] at z
          exact .inl ⟨rfl, z⟩
        | some f =>
          rw [hf] at z
          obtain ⟨x, v, z1, z2, z3⟩ := z
          exact .inr ⟨f, x, v, rfl, z1, z2, Rep.swap (R := R) (R' := R') rfl rfl _ _ ex.1 z3⟩
      have ev' : Ev G R' H0 (hold i c d e) (putE i a σ) S H := by
        cases i with
        | none => exact e0
        | some i => exact e0.put rx
      have fe' : FEv G R' φ (putE i a σ) S := by
        cases i with
        | none => exact fe.swap (R' := R') rfl rfl
        | some i => exact (fe.swap (R' := R') rfl rfl).set (aA i (by simp))
      refine ⟨c, rfl, ⟨x0, hc0⟩, R', hold i c d e, φ, H0, S, b', ⟨⟨hRL.1, hRL.2, ⟨rfl, rfl, rfl⟩, wd', ev'⟩, fe'⟩, aB, by show b' + wgtS L.k L.kh L.t b ≤ BIG; omega, ?_⟩
      have hst : ∀ x, R.st x ↔ R'.st x := fun x => Iff.rfl
      -- back to the outer names
      have back : ∀ {ρ' : Env} {σ' : L2.St} {S' H' : Hp} {b2 : Nat}, Pst G (Lsu L a dx c) R' H0 φ ρ' σ' S' H' b2 → Pst G L R H0 φ (gone i ρ') (dropE i σ') S' H' b2 := fun {ρ' σ' S' H' b2} p => by
        have wd2 : Wd G R S' H' b2 := Wd.swap (R := R') (R' := R) p.here.wd rfl rfl rfl rfl
        cases i with
        | none => exact ⟨⟨hRL.1, hRL.2, hx, wd2, p.here.ev.purge rfl rfl fun _ z => z⟩, p.fev.swap (R := R') (R' := R) rfl rfl⟩
        | some i => exact ⟨⟨hRL.1, hRL.2, hx, wd2, Ev.purge (R' := R') p.here.ev.putN rfl rfl fun _ z => z⟩, (p.fev.swap (R := R') (R' := R) rfl rfl).set (aA i (by simp))⟩
      have le1 : wgtS L.k L.kh L.t b = wgtS (Lsu L a dx c).k (Lsu L a dx c).kh (Lsu L a dx c).t b := rfl
      refine wp_mono (fun q hq => ?_) (fun c' d' hc => hc) (wp_nox (E' := badS G (Lsu L a dx c) R' H0 φ S H b' (wgtS L.k L.kh L.t b)) (wp_bind hp))
      obtain ⟨ρ', f⟩ := q
      cases f with
      | nx =>
        have hq' : endS G L R H0 φ S1 H1 n w r Dn (gone i ρ', .nx) := hq
        intro σ' S' H' b2 g2 hb2 p
        have z := (hq'.move (b1 := b2) (w1 := wgtS L.k L.kh L.t r) (g.trans (g2.swap (R := R') (R' := R) fun _ z => z)) (by omega)).go (back p) hr (Nat.le_refl _) (by omega) rfl
        cases i <;> exact z
      | bk =>
        have hq' : okS G L R H0 φ S1 H1 n w Dn (gone i ρ', .bk) := hq
        intro σ' S' H' b2 g2 hb2 p
        have z := hq' _ S' H' b2 (g.trans (g2.swap (R := R') (R' := R) fun _ z => z)) (by omega) (back p)
        cases i <;> exact z
      | ct =>
        have hq' : okS G L R H0 φ S1 H1 n w Dn (gone i ρ', .ct) := hq
        intro σ' S' H' b2 g2 hb2 p
        have z := hq' _ S' H' b2 (g.trans (g2.swap (R := R') (R' := R) fun _ z => z)) (by omega) (back p)
        cases i <;> exact z
      | rt u =>
        simp only at hq
        split at hq
        · rename_i hu
          have hq' : okS G L R H0 φ S1 H1 n w Dn (ρ', .rt u) := hq
          intro v S' H' b2 g2 hb2 wd2 rv
          have z := hq' v S' H' b2 (g.trans (g2.swap (R := R') (R' := R) fun _ z => z)) (by omega) (wd2.swap (R := R') (R' := R) rfl rfl rfl rfl) (Rep.swap (R := R') (R' := R) rfl rfl _ _ hu rv)
          cases i <;> exact z
        · exact hq.elim
    · rw [exH, if_neg (by rw [hs]; decide)] at hp
      exact hands_wp hexo hcl hKG hr hRL g wd fe ex hx dom he hel rr hh.2 (fun j hj => ha j (by simp only [asgS, List.mem_append]; exact .inr hj)) (by omega) hb hp
  | .done, hh, ha, hw, hb, hp => by
    rw [exH] at hp
    exact hp dx σ S H b' g (by omega) wd fe ex
  | .kill _ _, hh, _, _, _, _ => hh.elim
  | .frz _ _, hh, _, _, _, _ => hh.elim
  | .pass _, hh, _, _, _, _ => hh.elim
  | .set _ _ _ _, hh, _, _, _, _ => hh.elim
  | .sets _ _ _, hh, _, _, _, _ => hh.elim
  | .mset _ _ _, hh, _, _, _, _ => hh.elim
  | .setix _ _ _ _, hh, _, _, _, _ => hh.elim
  | .app _ _ _, hh, _, _, _, _ => hh.elim
  | .ext _ _ _, hh, _, _, _, _ => hh.elim
  | .ins _ _ _ _, hh, _, _, _, _ => hh.elim
  | .rem _ _ _, hh, _, _, _, _ => hh.elim
  | .apop _ _ _ _, hh, _, _, _, _ => hh.elim
  | .expr _ _, hh, _, _, _, _ => hh.elim
  | .ite _ _ _ _, hh, _, _, _, _ => hh.elim
  | .for_ _ _ _ _ _, hh, _, _, _, _ => hh.elim
  | .whl _ _ _, hh, _, _, _, _ => hh.elim
  | .ret _, hh, _, _, _, _ => hh.elim
  | .brk, hh, _, _, _, _ => hh.elim
  | .cnt, hh, _, _, _, _ => hh.elim
  | .raise _ _, hh, _, _, _, _ => hh.elim
  | .raise0 _, hh, _, _, _, _ => hh.elim
  | .try_ _ _ _, hh, _, _, _, _ => hh.elim
/-- try, except .. -/
theorem ss_try {X : Cx} {n0 : Nat} {N : List Str} {c0 : Sc} {b h r : Cl.S} {body : List Stmt} {h₀ : ExceptHandler} {hds : List ExceptHandler} {rest : List Stmt} {pos : Pos} (xo : XOk G nm N L c0 n0 X) (stk : X.stack = X.env :: X.outer) (hf : X.env.frame = some X.env.locals) (hh : isHands nm h) (hds_ : HdsM X (h₀ :: hds) (clauses G nm L h))
    (hb : ∀ (W : WX) (pn : List (Addr × Obj)) (xe : Value → Shared → Prop), Takes (X.tr pn xe) W → PassesOwn (model X.prog X.w) X.A X.env xe → PSs (X.tr pn xe) body (rdS G { L with W := W } b)) (hr : PSs X rest (rdS G L r)) :
    PSs X (.Try body (h₀ :: hds) [] [] pos :: rest) (rdS G L (.try_ b h r)) :=
  (pss_cons (ps_hands (tb := fun W => rdS G { L with W := W } b) (Wout := L.W) stk hf (by rw [xo.hN]; exact xo.nd) xo.call.tk hb hds_) hr).imp fun Dn σ H hq => by
    obtain ⟨R, ρ, φ, H0, S, m, p, hA, hm, hp⟩ := hq
    have hw : wgtS L.k L.kh L.t (.try_ b h r) = wgtS L.k L.kh L.t b + wgtS L.k L.kh L.t h + wgtS L.k L.kh L.t r := rfl
    rw [hw] at hm hp
    rw [exS] at hp
    have Ab : ∀ j ∈ asgS b, φ.at j = none := fun j hj => hA j (List.mem_append_left _ (List.mem_append_left _ hj))
    have Ah : ∀ j ∈ asgS h, φ.at j = none := fun j hj => hA j (List.mem_append_left _ (List.mem_append_right _ hj))
    have Ar : ∀ j ∈ asgS r, φ.at j = none := fun j hj => hA j (List.mem_append_right _ hj)
    generalize hwb : wgtS L.k L.kh L.t b = wb at hm hp
    generalize hwh : wgtS L.k L.kh L.t h = wh at hm hp
    generalize hwr : wgtS L.k L.kh L.t r = wr at hm hp
    obtain ⟨l, l1, l2, l3⟩ := calm_facts p.here.ev (asgS b)
    let φ' : FK := ⟨φ.n, φ.l ++ l⟩
    have f' : FEv G R φ' σ S := ⟨p.fev.len, fun q hq => by
      rcases List.mem_append.mp hq with z | z
      · exact p.fev.at_ q z
      · exact l1 q z⟩
    have back : ∀ {σ' : L2.St} {S' : Hp}, FEv G R φ' σ' S' → FEv G R φ σ' S' := fun f => ⟨f.len, fun q hq => f.at_ q (List.mem_append_left _ hq)⟩
    show rdS G { L with W := wHands X.K L.W { Dn with nx := rdS G L r Dn } (clauses G nm L h) } b { Dn with nx := rdS G L r Dn } σ H
    refine ⟨R, ρ, φ', H0, S, m, ⟨⟨p.here.fA, p.here.th, p.here.ex, p.here.wd, p.here.ev⟩, f'⟩, fun j hj => FK.of_off fun q hq => ?_, by show m + wgtS L.k L.kh L.t b ≤ BIG; omega, ?_⟩
    · rcases List.mem_append.mp hq with z | z
      · exact FK.off (Ab j hj) q z
      · exact fun e => l2 q z (e ▸ hj)
    · refine wp_mono (fun q hq => ?_) (fun c d hc => ?_) (wp_catch (wp_then hp))
      · obtain ⟨ρ', f⟩ := q
        cases f with
        | nx => exact fun σ' S' H' b' g hb' p' => ⟨R, ρ', φ, H0, S', b', ⟨⟨p'.here.fA, p'.here.th, p'.here.ex, p'.here.wd, p'.here.ev⟩, back p'.fev⟩, Ar, by rw [hwr]; have : b' ≤ m + wgtS L.k L.kh L.t b := hb'; omega, by
            have : b' ≤ m + wgtS L.k L.kh L.t b := hb'
            rw [hwr]
            exact wp_mono (fun x hx => okS.move hx g (by omega)) (fun c d hc => badS.move hc g (by omega)) hq⟩
        | bk => exact fun σ' S' H' b' g hb' p' => hq σ' S' H' b' g (by have : b' ≤ m + wgtS L.k L.kh L.t b := hb'; omega) ⟨⟨p'.here.fA, p'.here.th, p'.here.ex, p'.here.wd, p'.here.ev⟩, back p'.fev⟩
        | ct => exact fun σ' S' H' b' g hb' p' => hq σ' S' H' b' g (by have : b' ≤ m + wgtS L.k L.kh L.t b := hb'; omega) ⟨⟨p'.here.fA, p'.here.th, p'.here.ex, p'.here.wd, p'.here.ev⟩, back p'.fev⟩
        | rt d => exact fun v S' H' b' g hb' wd rv => hq v S' H' b' g (by have : b' ≤ m + wgtS L.k L.kh L.t b := hb'; omega) wd rv
      · intro dx σ' S' H' b' g hb' wd fe ex
        have hb2 : b' ≤ m + wb := by rw [← hwb]; exact hb'
        refine hands_wp (S1 := S) (H1 := H) (n := m) (w := wb + wh + wr) (r := r) (φ := φ) xo.exo xo.glob.cl xo.hK Ar ⟨p.here.fA, p.here.th⟩ g wd (back fe) ex p.here.ex (fun a o z => ?_) (fun i q hq => ?_) ?_ h hh Ah (by rw [hwh, hwr]; omega) hm (wp_mono (fun q hq => ?_) (fun _ _ z => z) hc)
        · obtain ⟨o', z'⟩ := p.here.ev.dom a o z
          exact g.dom a o' z'
        · obtain ⟨e1, v, e2⟩ := l3 i q hq
          obtain ⟨z1, z2, z3⟩ := fe.at_ (i, q.1, v) (List.mem_append_right _ e2)
          exact ⟨e1, z1, v, z2, z3⟩
        · rw [calm_len, ← p.here.ev.len, p.fev.len]
          exact fe.len
        · obtain ⟨ρ', f⟩ := q
          cases f <;> exact hq
/-! ### the check of the clauses -/
end
/-- an except clause's name -/
def cnmB (N : List Str) (c : Sc) : Option Str → Option Nat → Bool
  | none, none => true
  | some x, some i => decide (N[i]? = some x) && decide (c.sc.names.lookup x = some .local)
  | _, _ => false
def chkH (nm : Nm) (N : List Str) : S → List ExceptHandler → Sc → Bool
  | .hand k i b r, hs, c => (match hs with
    | .ExceptHandler (some (.Name x _)) y (b₀ :: suite) _ :: hds => gloB c.sc x && dbg x && decide (nm.xl.lookup x = some k) && cnmB N c y i && chkUS nm N b (b₀ :: suite) c && chkH nm N r hds c
    | _ => false)
  | .done, hs, _ => hs.isEmpty
  | _, _, _ => false
section
variable {G : Gl0} {nm : Nm} {L : Lv} {N : List Str} {c : Sc} {X : Cx} {n : Nat}
theorem suite_ok {k : Nat} {b : S} {ss : List Stmt} (xo : XOk G nm N L c n X) (h : chkUS nm N b ss c = true) (a : Addr) (oe : Obj) (cls : Value) (d : Option Addr) (pn : List (Addr × Obj)) (hz : Zc cls d oe) (hf : ∃ vs, oe.data = .fields vs) :
    PSs (X.suite a ((a, oe) :: pn)) ss (suTS G nm L b a cls d) := by
  constructor
  intro pins s σ H D I q
  obtain ⟨k, rfl, hk, q⟩ := q
  exact (chkUS_ok (L := Lsu L a d k) (k := k) ⟨⟨L, n, xo⟩, hz, hf, hk, rfl, rfl, rfl⟩ b ss h).run pins s σ H D I q
theorem chkH_ok (xo : XOk G nm N L c n X) : ∀ (h : S) (hs : List ExceptHandler), chkH nm N h hs c = true → isHands nm h ∧ HdsM X hs (clauses G nm L h)
  | .hand k i b r, hs, h => by
    unfold chkH at h
    split at h
    · rename_i x _ y b₀ suite _ hds
      simp only [Bool.and_eq_true, decide_eq_true_eq] at h
      obtain ⟨⟨⟨⟨⟨h1, h2⟩, h3⟩, h4⟩, h5⟩, h6⟩ := h
      obtain ⟨r1, r2⟩ := chkH_ok xo r hds h6
      refine ⟨⟨⟨x, h3⟩, r1⟩, ?_⟩
      have nmx : L2.Names X x (.ref (G.cA k)) := ⟨glo_of xo.hsc h1, (dbg_of h2).1, .inl (xo.exo.at_ x k h3)⟩
      cases y with
      | none =>
        cases i with
        | none => exact .plain nmx (suite_ok (k := k) xo h5) r2
        | some i => cases h4
      | some y =>
        cases i with
        | none => cases h4
        | some i =>
          simp only [cnmB, Bool.and_eq_true, decide_eq_true_eq] at h4
          exact .named nmx (by rw [xo.hN]; exact h4.1) (by show X.env.scope.names.lookup y = _; rw [xo.hsc]; exact h4.2) (suite_ok (k := k) xo h5) r2
    · cases h
  | .done, hs, h => by
    cases hs with
    | nil => exact ⟨trivial, .nil⟩
    | cons _ _ => cases h
  | .kill _ _, hh, h => by cases h
  | .frz _ _, hh, h => by cases h
  | .pass _, hh, h => by cases h
  | .set _ _ _ _, hh, h => by cases h
  | .sets _ _ _, hh, h => by cases h
  | .mset _ _ _, hh, h => by cases h
  | .setix _ _ _ _, hh, h => by cases h
  | .app _ _ _, hh, h => by cases h
  | .ext _ _ _, hh, h => by cases h
  | .ins _ _ _ _, hh, h => by cases h
  | .rem _ _ _, hh, h => by cases h
  | .apop _ _ _ _, hh, h => by cases h
  | .expr _ _, hh, h => by cases h
  | .ite _ _ _ _, hh, h => by cases h
  | .for_ _ _ _ _ _, hh, h => by cases h
  | .whl _ _ _, hh, h => by cases h
  | .ret _, hh, h => by cases h
  | .brk, hh, h => by cases h
  | .cnt, hh, h => by cases h
  | .raise _ _, hh, h => by cases h
  | .raise0 _, hh, h => by cases h
  | .try_ _ _ _, hh, h => by cases h
end
end Cl
set_option autoImplicit false
set_option Elab.async false
set_option linter.all false
set_option maxRecDepth 100000
set_option maxHeartbeats 4000000
/-! The check of statements, and what it gives. -/
namespace Cl
open PySem PySem.Spec PyProof.Rows L2
variable (nm : Nm) (N : List Str)
/-- a comprehension below a freeze -/
def compOf : E → Bool
  | .comp .. => true
  | .frz (.comp ..) => true
  | .comp2 .. => true
  | .frz (.comp2 ..) => true
  | _ => false
def isLC : Expr → Bool
  | .ListComp .. => true
  | _ => false
def setB (i : Nat) (own : Bool) (e : E) : Stmt → Sc → Bool
  | .Assign [.Name x p] ee _, c => decide (N[i]? = some x) && locB c x && (chk nm N e).v ee c && decide (md e = if own then .o else .f) && (nsw ee || (isLC ee && (!swB ee x p c.sc || compOf e)))
  | _, _ => false
def rndB (c : Sc) (k : Nat) (e : E) : Stmt → Bool
  | .Raise (some (.Call (.Name x _) [ee] [] _)) none _ => gloB c.sc x && dbg x && decide (nm.cl.lookup x = some k) && (fldOf k).isSome && (chk nm N e).v ee c && decide (md e = .f) && nst ee
  | _ => false
def rnd0B (c : Sc) (k : Nat) : Stmt → Bool
  | .Raise (some (.Call (.Name x _) [] [] _)) none _ => gloB c.sc x && dbg x && decide (nm.cl.lookup x = some k) && (fldOf k).isNone
  | _ => false
def setsB (t : Tg) (e : E) : Stmt → Sc → Bool
  | .Assign [tg] ee _, c => tgB N t tg c && nst tg && (chk nm N e).v ee c && decide (md e = .f) && nsw ee && (notTup ee || (match tg, ee with | .Tuple ts _ _, .Tuple vs _ _ => swN c.sc ts vs | _, _ => false))
  | _, _ => false
def lclB (c : Sc) (i : Nat) (x : Str) : Bool := decide (N[i]? = some x) && decide (c.sc.names.lookup x = some .local)
def parB (t : Tg) (e : E) (st : Stmt) (c : Sc) : Bool := match t, e, st with
  | .cons (.v i) (.cons (.v j) .nil), .cons a (.cons b .nil), .Assign [.Tuple [.Name x px, .Name y py] _ _] (.Tuple [ea, eb] _ _) _ =>
    lclB N c i x && lclB N c j y && (py.line == px.line) && decide (x ≠ y) && decide (i ≠ j) && swY [] [ea, eb] && (chk nm N (.cons a (.cons b .nil))).r [ea, eb] c && decide (md a = .f) && decide (md b = .f)
  | .cons (.v i) (.cons (.v j) (.cons (.v l) .nil)), .cons a (.cons b (.cons d .nil)), .Assign [.Tuple [.Name x px, .Name y py, .Name z pz] _ _] (.Tuple [ea, eb, ed] _ _) _ =>
    lclB N c i x && lclB N c j y && lclB N c l z && (py.line == px.line) && (pz.line == px.line) && decide (x ≠ y) && decide (x ≠ z) && decide (y ≠ z) && decide (i ≠ j) && decide (i ≠ l) && decide (j ≠ l) && swY [] [ea, eb, ed] &&
      (chk nm N (.cons a (.cons b (.cons d .nil)))).r [ea, eb, ed] c && decide (md a = .f) && decide (md b = .f) && decide (md d = .f)
  | _, _, _ => false
def ownM (o : Bool) : Md := if o then .o else .f
def msetB (ts : List (Nat × Bool)) (e : E) (st : Stmt) (c : Sc) : Bool := match ts, e, st with
  | [(i, o1), (j, o2)], .cons a (.cons b .nil), .Assign [.Tuple [.Name x px, .Name y py] _ _] (.Tuple [ea, eb] _ _) _ =>
    lclB N c i x && lclB N c j y && (py.line == px.line) && decide (x ≠ y) && decide (i ≠ j) && swY [] [ea, eb] && (chk nm N (.cons a (.cons b .nil))).r [ea, eb] c && decide (md a = ownM o1) && decide (md b = ownM o2)
  | [(i, o1), (j, o2), (l, o3)], .cons a (.cons b (.cons d .nil)), .Assign [.Tuple [.Name x px, .Name y py, .Name z pz] _ _] (.Tuple [ea, eb, ed] _ _) _ =>
    lclB N c i x && lclB N c j y && lclB N c l z && (py.line == px.line) && (pz.line == px.line) && decide (x ≠ y) && decide (x ≠ z) && decide (y ≠ z) && decide (i ≠ j) && decide (i ≠ l) && decide (j ≠ l) && swY [] [ea, eb, ed] &&
      (chk nm N (.cons a (.cons b (.cons d .nil)))).r [ea, eb, ed] c && decide (mds (.cons a (.cons b (.cons d .nil))) = [ownM o1, ownM o2, ownM o3])
  | _, _, _ => false
/-- names, each at its slot -/
def namB : List Nat → List Expr → Sc → Bool
  | [], [], _ => true
  | i :: is, .Name x p :: es, c => tgB N (.v i) (.Name x p) c && namB is es c
  | _, _, _ => false
def msetN (ts : List (Nat × Bool)) (e : E) (st : Stmt) (c : Sc) : Bool := match st with
  | .Assign [.Tuple tes _ _] (.Tuple es _ _) _ => swN c.sc tes es && namB N (ts.map (·.1)) tes c && (chk nm N e).r es c && isRow e && decide (mds e = ts.map fun t => if t.2 then .o else .f) && decide (es.length ≤ LIM) && decide (es.length = ts.length)
  | _ => false
/-- one statement (what the clean one takes up), the rest, its check -/
def chkS : S → List Stmt → Sc → Bool
  | .done, ss, _ => ss.isEmpty
  | .kill _ r, ss, c => chkS r ss c
  | .frz _ r, ss, c => chkS r ss c
  | .pass r, ss, c => (match ss with
    | .Pass _ :: rest => chkS r rest c
    | .Expr (.Constant (.str _) _ _) _ :: rest => chkS r rest c
    | _ => false)
  | .set i own e r, ss, c => (match ss with
    | st :: rest => setB nm N i own e st c && chkS r rest c
    | _ => false)
  | .sets t e r, ss, c => (match ss with
    | st :: rest => (setsB nm N t e st c || parB nm N t e st c) && chkS r rest c
    | _ => false)
  | .mset ts e r, ss, c => (match ss with
    | st :: rest => (msetB nm N ts e st c || msetN nm N ts e st c) && chkS r rest c
    | _ => false)
  | .app i e r, ss, c => (match ss with
    | .Expr (.Call (.Attribute (.Name x _) a ap) [ee] [] p2) _ :: rest => decide (a = ("append" : Str)) && vVar N i (.Name x ⟨0, 0, 0, 0⟩) c && (chk nm N e).v ee c && decide (md e = .f) && nst ee && (ap.endLine == p2.line) && chkS r rest c
    | _ => false)
  | .ins i a b r, ss, c => (match ss with
    | .Expr (.Call (.Attribute (.Name x _) m ap) [ea, eb] [] p2) _ :: rest => decide (m = ("insert" : Str)) && vVar N i (.Name x ⟨0, 0, 0, 0⟩) c && (chk nm N a).v ea c && (chk nm N b).v eb c && decide (md b = .f) && nst ea && nst eb && (ap.endLine == p2.line) && chkS r rest c
    | _ => false)
  | .setix i a b r, ss, c => (match ss with
    | .Assign [.Subscript (.Name x _) ea _] eb _ :: rest => vVar N i (.Name x ⟨0, 0, 0, 0⟩) c && (chk nm N a).v ea c && (chk nm N b).v eb c && decide (md b = .f) && nsw eb && plI ea && chkS r rest c
    | _ => false)
  | .apop i j a r, ss, c => (match ss with
    | .Expr (.Call (.Attribute (.Name x _) m ap) [.Call (.Attribute (.Name y _) m2 bp) [ea] [] p5] [] p2) _ :: rest => decide (m = ("append" : Str)) && decide (m2 = ("pop" : Str)) && vVar N i (.Name x ⟨0, 0, 0, 0⟩) c && vVar N j (.Name y ⟨0, 0, 0, 0⟩) c && (chk nm N a).v ea c && nst ea && (ap.endLine == p2.line) && (bp.endLine == p5.line) && chkS r rest c
    | _ => false)
  | .ext i e r, ss, c => (match ss with
    | .Expr (.Call (.Attribute (.Name x _) a ap) [ee] [] p2) _ :: rest => decide (a = ("extend" : Str)) && vVar N i (.Name x ⟨0, 0, 0, 0⟩) c && (chk nm N e).v ee c && nst ee && (ap.endLine == p2.line) && chkS r rest c
    | _ => false)
  | .expr e r, ss, c => (match ss with
    | .Expr ee _ :: rest => (chk nm N e).v ee c && nsw ee && chkS r rest c
    | _ => false)
  | .ite e a b r, ss, c => (match ss with
    | .If ee sa sb _ :: rest => (chk nm N e).t ee c && chkS a sa c && chkS b sb c && chkS r rest c
    | _ => false)
  | .for_ w it t b r, ss, c => (match ss with
    | .For tg iter sb [] _ :: rest => wkB nm w it (chk nm N it) tg iter c && nfo iter && tgB N t tg c && chkS b sb c && chkS r rest c
    | _ => false)
  | .whl e b r, ss, c => (match ss with
    | .While ee sb [] _ :: rest => (chk nm N e).t ee c && chkS b sb c && chkS r rest c
    | _ => false)
  | .ret e, ss, c => (match ss with
    | [.Return (some ee) _] => (chk nm N e).v ee c && decide (md e = .f)
    | [.Return none _] => (match e with | .con .non => true | _ => false)
    | _ => false)
  | .try_ b h r, ss, c => (match ss with
    | .Try body (h₀ :: hds) [] [] _ :: rest => chkH nm N h (h₀ :: hds) c && chkS b body c && chkS r rest c
    | _ => false)
  | .brk, ss, _ => (match ss with
    | [.Break _] => true
    | _ => false)
  | .cnt, ss, _ => (match ss with
    | [.Continue _] => true
    | _ => false)
  | .raise k e, ss, c => (match ss with
    | [st] => rndB nm N c k e st
    | _ => false)
  | .raise0 k, ss, c => (match ss with
    | [st] => rnd0B nm c k st
    | _ => false)
  | _, _, _ => false
end Cl
namespace Cl
open PySem PySem.Spec PyProof.Rows L2
structure XOkS (G : Gl0) (nm : Nm) (N : List Str) (L : Lv) (c : Sc) (n : Nat) (X : Cx) : Prop where
  x : XOk G nm N L c n X
  pass : PassesOwn (model X.prog X.w) X.A X.env X.xe
  stk : X.stack = X.env :: X.outer
  fr : X.env.frame = some X.env.locals
section
variable {G : Gl0} {nm : Nm} {N : List Str} {n : Nat} {L : Lv} {c : Sc} {X : Cx}
/-- in a try's body -/
theorem XOkS.tr {pn : List (Addr × Obj)} {xe : Value → Shared → Prop} {W : WX} (h : XOkS G nm N L c n X) (tk : Takes (X.tr pn xe) W) (pa : PassesOwn (model X.prog X.w) X.A X.env xe) : XOkS G nm N { L with W := W } c n (X.tr pn xe) :=
  ⟨⟨⟨h.x.hK, h.x.glob, h.x.hN, h.x.nd, h.x.hsc, h.x.fk, h.x.fb, h.x.calm, h.x.un, ⟨h.x.call.hF, h.x.call.fr, h.x.call.gd, tk⟩, h.x.cls, h.x.exo, fun z => ⟨(h.x.drw z).ex, (h.x.drw z).room⟩, fun z pn' xe' W' tk' => h.x.frc z pn' xe' W' tk'⟩, fun z pn' xe' W' tk' => h.x.hrd z pn' xe' W' tk'⟩, pa, h.stk, h.fr⟩
theorem nsw_sole {t e : Expr} {l : Nat} {env : PySem.Env} (h : nsw e = true) : swapsWithSole [t] e l env = pure false := nsw_ok h
theorem plI_as {e o : Expr} {p : Pos} {env : PySem.Env} (h : plI e = true) : ∀ v, assign (.Subscript o e p) env v = (do
      let ov ← holding [v] (eval o env)
      let iv ← holding [v, ov] (eval e env)
      standAt p
      holding [v, ov, iv] (setItem ov iv v)
      release [v, ov, iv] []) := fun v => by
  cases e <;> first | (cases h; done) | rfl
theorem lc_of {e : Expr} (h : isLC e = true) : ∃ a b s p, e = .ListComp a b s p := by
  cases e <;> first | (cases h; done) | exact ⟨_, _, _, _, rfl⟩
theorem ps_setcomp {own : List Nat} {w : Wk} {it : E} {t : Tg} {cd elt : E} {i : Nat} {x : Str} {p pos : Pos} {ee : Expr} (xo : XOk G nm N L c n X) (h : (chk nm N (.comp own w it t cd elt)).v ee c = true) (hi : X.N[i]? = some x) (hsw : swB ee x p c.sc = true) :
    PS X (.Assign [.Name x p] ee pos) (tAsg (rdE G L (.comp own w it t cd elt)) (gName i)) := by
  obtain ⟨e, tg, iter, ifs, scope, pos', ow, tt, rfl, ok, h1, hf, hg, hts, he, hr⟩ := comp_parts (chk_ok it) (chk_ok cd) (chk_ok elt) xo h
  rw [← xo.hsc] at hsw
  obtain ⟨s1, s2⟩ := swB_true (l := pos.line) (by rw [xo.hsc]; exact xo.fk) hsw
  exact (ps_setLc xo.calm (by rw [xo.hN]; exact xo.nd) hi s2 s1 h1 ok hg hts he hf).imp fun D σ H q => hr _ _ _ q
theorem ps_setcomp2 {own own1 : List Nat} {w w1 : Wk} {it it1 : E} {t t1 : Tg} {cd cd1 elt : E} {i : Nat} {x : Str} {p pos : Pos} {ee : Expr} (xo : XOk G nm N L c n X) (h : (chk nm N (.comp2 own w it t cd own1 w1 it1 t1 cd1 elt)).v ee c = true) (hi : X.N[i]? = some x) (hsw : swB ee x p c.sc = true) :
    PS X (.Assign [.Name x p] ee pos) (tAsg (rdE G L (.comp2 own w it t cd own1 w1 it1 t1 cd1 elt)) (gName i)) := by
  obtain ⟨e, tg, iter, tg1, iter1, ifs, ifs1, scope, pos', ow, tt, tt1, rfl, ok, h1, hf, hf1, hv, hg, hts, hi1, hg1, hts1, he, hr⟩ := comp2_parts (chk_ok it) (chk_ok cd) (chk_ok it1) (chk_ok cd1) (chk_ok elt) xo h
  rw [← xo.hsc] at hsw
  obtain ⟨s1, s2⟩ := swB_true (l := pos.line) (by rw [xo.hsc]; exact xo.fk) hsw
  exact (ps_setLc2 xo.calm (by rw [xo.hN]; exact xo.nd) hi s2 s1 h1 ok hv hg hts hi1 hg1 hts1 he hf hf1).imp fun D σ H q => hr _ _ _ q
theorem set_ok {i : Nat} {own : Bool} {e : E} {st : Stmt} (xo : XOk G nm N L c n X) (h : setB nm N i own e st c = true) : PS X st (tAsg (rdE G L e) (gName i)) ∧ md e = if own then .o else .f := by
  unfold setB at h
  split at h
  · rename_i x p ee pos
    simp only [Bool.and_eq_true, Bool.or_eq_true, Bool.not_eq_true', decide_eq_true_eq] at h
    obtain ⟨⟨⟨⟨h1, h2⟩, h3⟩, h4⟩, h5⟩ := h
    refine ⟨?_, h4⟩
    have hi : X.N[i]? = some x := by rw [xo.hN]; exact h1
    obtain ⟨l1, l2⟩ := loc_of xo h2
    have nd : X.N.Nodup := by rw [xo.hN]; exact xo.nd
    have hk : X.env.scope.kind = .function := by rw [xo.hsc]; exact xo.fk
    rcases h5 with h5 | ⟨h5, h6 | h6⟩
    · exact ps_set nd hi l1 ((chk_ok e).v L c X ee xo h3) (nsw_ok h5) l2
    · exact ps_set nd hi l1 ((chk_ok e).v L c X ee xo h3) (swB_false hk (.inr (lc_of h5)) (by rw [xo.hsc]; exact h6)) l2
    · cases hs : swB ee x p c.sc with
      | false => exact ps_set nd hi l1 ((chk_ok e).v L c X ee xo h3) (swB_false hk (.inr (lc_of h5)) (by rw [xo.hsc]; exact hs)) l2
      | true =>
        unfold compOf at h6
        split at h6
        · exact ps_setcomp xo h3 hi hs
        · rename_i own w it t cd elt
          have h3' : (chk nm N (.comp own w it t cd elt)).v ee c = true := by
            have z : ((chk nm N (.comp own w it t cd elt)).v ee c && !decide (md (.comp own w it t cd elt) = .b)) = true := h3
            simp only [Bool.and_eq_true] at z
            exact z.1
          exact (ps_setcomp xo h3' hi hs).imp fun D σ H q => rd_frz (fun z => by cases (show Md.o = Md.b from z)) q
        · exact ps_setcomp2 xo h3 hi hs
        · rename_i own w it t cd own1 w1 it1 t1 cd1 elt
          have h3' : (chk nm N (.comp2 own w it t cd own1 w1 it1 t1 cd1 elt)).v ee c = true := by
            have z : ((chk nm N (.comp2 own w it t cd own1 w1 it1 t1 cd1 elt)).v ee c && !decide (md (.comp2 own w it t cd own1 w1 it1 t1 cd1 elt) = .b)) = true := h3
            simp only [Bool.and_eq_true] at z
            exact z.1
          exact (ps_setcomp2 xo h3' hi hs).imp fun D σ H q => rd_frz (fun z => by cases (show Md.o = Md.b from z)) q
        · cases h6
  · cases h
theorem sets_ok {t : Tg} {e : E} {r : S} {st : Stmt} {rest : List Stmt} (xo : XOkS G nm N L c n X) (h : setsB nm N t e st c = true) (hr : PSs X rest (rdS G L r)) : PSs X (st :: rest) (rdS G L (.sets t e r)) := by
  unfold setsB at h
  split at h
  · simp only [Bool.and_eq_true, Bool.or_eq_true, decide_eq_true_eq] at h
    obtain ⟨⟨⟨⟨⟨h1, h2⟩, h3⟩, h4⟩, h6⟩, h5⟩ := h
    refine ss_sets h4 (ps_asg ((chk_ok e).v L c X _ xo.x h3) (tg_ok xo.x t _ h1) (nsw_ok h6) ?_ (by rw [asg_cons h2]; rfl)) hr
    rcases h5 with h5 | h5
    · exact nss_ok h5
    · split at h5
      · exact swN_ok (by rw [xo.x.hsc]; exact h5)
      · cases h5
  · cases h
theorem lcl_of {i : Nat} {x : Str} (xo : XOk G nm N L c n X) (h : lclB N c i x = true) : X.N[i]? = some x ∧ X.env.scope.names.lookup x = some .local := by
  simp only [lclB, Bool.and_eq_true, decide_eq_true_eq] at h
  exact ⟨by rw [xo.hN]; exact h.1, by rw [xo.hsc]; exact h.2⟩
theorem par_ok {t : Tg} {e : E} {r : S} {st : Stmt} {rest : List Stmt} (xo : XOkS G nm N L c n X) (h : parB nm N t e st c = true) (hr : PSs X rest (rdS G L r)) : PSs X (st :: rest) (rdS G L (.sets t e r)) := by
  have nd : X.N.Nodup := by rw [xo.x.hN]; exact xo.x.nd
  have hk : X.env.scope.kind = .function := by rw [xo.x.hsc]; exact xo.x.fk
  unfold parB at h
  split at h
  · simp only [Bool.and_eq_true, decide_eq_true_eq] at h
    obtain ⟨⟨⟨⟨⟨⟨⟨⟨h1, h2⟩, h3⟩, h4⟩, h5⟩, h6⟩, h7⟩, h8⟩, h9⟩ := h
    obtain ⟨a1, a2⟩ := lcl_of xo.x h1
    obtain ⟨b1, b2⟩ := lcl_of xo.x h2
    exact ss_par2 h8 h9 h5 (ps_par xo.x.calm nd a1 b1 h5 a2 b2 ((chk_ok _).r L c X _ xo.x h7).1 (sw2 hk a2 b2 h3 h4 h6) rfl) hr
  · simp only [Bool.and_eq_true, decide_eq_true_eq] at h
    obtain ⟨⟨⟨⟨⟨⟨⟨⟨⟨⟨⟨⟨⟨⟨⟨h1, h2⟩, h3⟩, h4⟩, h5⟩, h6⟩, h7⟩, h8⟩, h9⟩, h10⟩, h11⟩, h12⟩, h13⟩, h14⟩, h15⟩, h16⟩ := h
    obtain ⟨a1, a2⟩ := lcl_of xo.x h1
    obtain ⟨b1, b2⟩ := lcl_of xo.x h2
    obtain ⟨c1, c2⟩ := lcl_of xo.x h3
    exact ss_par3 h14 h15 h16 (ps_par3 xo.x.calm nd a1 b1 c1 h9 h10 h11 a2 b2 c2 ((chk_ok _).r L c X _ xo.x h13).1 (sw3 hk a2 b2 c2 h4 h5 h6 h7 h8 h12) rfl) hr
  · cases h
theorem mset_ok {ts : List (Nat × Bool)} {e : E} {r : S} {st : Stmt} {rest : List Stmt} (xo : XOkS G nm N L c n X) (h : msetB nm N ts e st c = true) (hr : PSs X rest (rdS G L r)) : PSs X (st :: rest) (rdS G L (.mset ts e r)) := by
  have nd : X.N.Nodup := by rw [xo.x.hN]; exact xo.x.nd
  have hk : X.env.scope.kind = .function := by rw [xo.x.hsc]; exact xo.x.fk
  unfold msetB at h
  split at h
  · simp only [Bool.and_eq_true, decide_eq_true_eq] at h
    obtain ⟨⟨⟨⟨⟨⟨⟨⟨h1, h2⟩, h3⟩, h4⟩, h5⟩, h6⟩, h7⟩, h8⟩, h9⟩ := h
    obtain ⟨a1, a2⟩ := lcl_of xo.x h1
    obtain ⟨b1, b2⟩ := lcl_of xo.x h2
    exact ss_mset2 h8 h9 (ps_par xo.x.calm nd a1 b1 h5 a2 b2 ((chk_ok _).r L c X _ xo.x h7).1 (sw2 hk a2 b2 h3 h4 h6) rfl) hr
  · simp only [Bool.and_eq_true, decide_eq_true_eq] at h
    obtain ⟨⟨⟨⟨⟨⟨⟨⟨⟨⟨⟨⟨⟨h1, h2⟩, h3⟩, h4⟩, h5⟩, h6⟩, h7⟩, h8⟩, h9⟩, h10⟩, h11⟩, h12⟩, h13⟩, h14⟩ := h
    obtain ⟨a1, a2⟩ := lcl_of xo.x h1
    obtain ⟨b1, b2⟩ := lcl_of xo.x h2
    obtain ⟨c1, c2⟩ := lcl_of xo.x h3
    exact ss_mset3 h14 (ps_par3 xo.x.calm nd a1 b1 c1 h9 h10 h11 a2 b2 c2 ((chk_ok _).r L c X _ xo.x h13).1 (sw3 hk a2 b2 c2 h4 h5 h6 h7 h8 h12) rfl) hr
  · cases h
theorem nam_ok (xo : XOk G nm N L c n X) : ∀ {is : List Nat} {es : List Expr}, namB N is es c = true → PGs X es (gsOf is) ∧ allN es = true ∧ es.length = is.length
  | [], [], _ => ⟨pgs_nil, rfl, rfl⟩
  | i :: is, .Name x p :: es, h => by
    simp only [namB, tgB, Bool.and_eq_true, decide_eq_true_eq] at h
    obtain ⟨⟨h1, h2⟩, h3⟩ := h
    obtain ⟨g1, g2, g3⟩ := nam_ok xo h3
    refine ⟨pgs_cons ?_ g1, g2, by simp [g3]⟩
    have nd : X.N.Nodup := by rw [xo.hN]; exact xo.nd
    have hi : X.N[i]? = some x := by rw [xo.hN]; exact h1
    cases q : c.sc.names.lookup x with
    | none => rw [q] at h2; cases h2
    | some k =>
      rw [q] at h2
      have q' : X.env.scope.names.lookup x = some k := by rw [xo.hsc]; exact q
      cases k with
      | «local» => exact pg_name nd hi (.inl q') (.inr q')
      | cell => exact pg_name nd hi (.inr q') (.inl (xo.fb x h2))
      | _ => cases h2
  | [], _ :: _, h => by cases h
  | _ :: _, [], h => by cases h
theorem msetN_ok {ts : List (Nat × Bool)} {e : E} {r : S} {st : Stmt} {rest : List Stmt} (xo : XOkS G nm N L c n X) (h : msetN nm N ts e st c = true) (hr : PSs X rest (rdS G L r)) : PSs X (st :: rest) (rdS G L (.mset ts e r)) := by
  unfold msetN at h
  split at h
  · simp only [Bool.and_eq_true, decide_eq_true_eq] at h
    obtain ⟨⟨⟨⟨⟨⟨h1, h2⟩, h3⟩, h4⟩, h5⟩, h6⟩, h7⟩ := h
    obtain ⟨g1, g2, g3⟩ := nam_ok xo.x h2
    have hsw := fun (kt k2 : Nat) (pt pt2 : Pos) => swN_ok (env := X.env) (kt := kt) (k2 := k2) (pt := pt) (pt2 := pt2) (by rw [xo.x.hsc]; exact h1)
    exact ss_mset h4 h5 (ps_row xo.x.calm ((chk_ok _).r L c X _ xo.x h3).1 g1 g2 g3 h6 (by simp [h7]) (hsw _ _ _ _) rfl) hr
  · cases h
theorem ss_raise {x : Str} {k : Nat} {a : E} {ee : Expr} {p1 p2 p3 : Pos} (xo : XOkS G nm N L c n X) (hg : L2.Gl X x) (hd : (x == ("__debug__" : Str)) = false) (hk : nm.cl.lookup x = some k) (hs : (fldOf k).isSome = true) (he : PE X ee (rdE G L a)) (hm : md a = .f) (hn : nst ee = true) :
    PSs X [.Raise (some (.Call (.Name x p1) [ee] [] p2)) none p3] (rdS G L (.raise k a)) := by
  obtain ⟨hmg, fI, cc, cda, fd, sn, vn, T⟩ := xo.x.cls.at_ x k hk
  cases hf : fldOf k with
  | none =>
    rw [hf] at hs
    cases hs
  | some f =>
    rw [hf] at T
    refine (pss_one (ps_raise xo.x.calm xo.x.call.tk (pmk_err1 T xo.x.cls.sup xo.x.call.fr.choose_spec.2 hg hmg hd he hn))).imp fun Dn σ H h => ?_
    refine rdS_E (w' := 0) h (f := fun d _ => if d.pure then .exc k d else .stuck) (fun ρ => by rw [exS]) rfl fun R ρ ρA H0 S' H' b' d v p ha hb rv _ _ hp => ?_
    rw [hm] at rv
    intro dx hdx
    cases hpu : d.pure with
    | false =>
      rw [hpu] at hp
      exact hp.elim
    | true =>
      rw [hpu, if_pos rfl] at hp
      have gg := gr_updF (R := R) (o := HO.xd [(f, v)]) hdx p.here.wd.sub
      refine hp (some dx) σ (upd S' dx (.xd [(f, v)])) _ b' (gg.gs p.here.ev.dom) (by omega) (p.here.wd.newF hdx (fun _ z => by cases z)) (p.fev.step gg.ss) ⟨hpu, ⟨x, by rw [xo.x.glob.cl]; exact hk⟩, ?_⟩
      rw [hf]
      exact ⟨dx, v, rfl, upd_same, Rep.same gg.ss _ _ rv⟩
theorem ss_raise0 {x : Str} {k : Nat} {p1 p2 p3 : Pos} (xo : XOkS G nm N L c n X) (hg : L2.Gl X x) (hd : (x == ("__debug__" : Str)) = false) (hk : nm.cl.lookup x = some k) (hs : (fldOf k).isNone = true) :
    PSs X [.Raise (some (.Call (.Name x p1) [] [] p2)) none p3] (rdS G L (.raise0 k)) := by
  obtain ⟨hmg, fI, cc, cda, fd, sn, vn, T⟩ := xo.x.cls.at_ x k hk
  cases hf : fldOf k with
  | none =>
    rw [hf] at T
    refine (pss_one (ps_raise xo.x.calm xo.x.call.tk (pmk_err0 T xo.x.cls.sup xo.x.call.fr.choose_spec.2 hg hmg hd))).imp fun Dn σ H h => ?_
    obtain ⟨R, ρ, ρA, H0, S, b, p, ha, hb, hp⟩ := h
    refine hp none σ S H b (Gs.refl R H0 S H) (by omega) p.here.wd p.fev ⟨rfl, ⟨x, by rw [xo.x.glob.cl]; exact hk⟩, ?_⟩
    rw [hf]
  | some f =>
    rw [hf] at hs
    cases hs
theorem chkS_ok : ∀ (s : S) (ss : List Stmt) (L : Lv) (c : Sc) (X : Cx), XOkS G nm N L c n X → chkS nm N s ss c = true → PSs X ss (rdS G L s)
  | .done, ss, L, c, X, xo, h => by
    cases ss with
    | nil => exact ss_done
    | cons _ _ => cases h
  | .kill is r, ss, L, c, X, xo, h => ss_kill (chkS_ok r ss L c X xo h)
  | .frz is r, ss, L, c, X, xo, h => ss_frz (chkS_ok r ss L c X xo h)
  | .pass r, ss, L, c, X, xo, h => by
    unfold chkS at h
    split at h
    · exact ss_pass (chkS_ok r _ L c X xo h)
    · exact ss_doc (chkS_ok r _ L c X xo h)
    · cases h
  | .set i own e r, ss, L, c, X, xo, h => by
    unfold chkS at h
    split at h
    · simp only [Bool.and_eq_true] at h
      have hr := chkS_ok r _ L c X xo h.2
      obtain ⟨h1, h2⟩ := set_ok xo.x h.1
      cases own with
      | false => exact ss_set h2 h1 hr
      | true => exact ss_setO h2 h1 hr
    · cases h
  | .sets t e r, ss, L, c, X, xo, h => by
    unfold chkS at h
    split at h
    · simp only [Bool.and_eq_true, Bool.or_eq_true] at h
      have hr := chkS_ok r _ L c X xo h.2
      rcases h.1 with h1 | h1
      · exact sets_ok xo h1 hr
      · exact par_ok xo h1 hr
    · cases h
  | .app i e r, ss, L, c, X, xo, h => by
    unfold chkS at h
    split at h
    · simp only [Bool.and_eq_true, decide_eq_true_eq] at h
      obtain ⟨⟨⟨⟨⟨⟨rfl, h2⟩, h3⟩, h4⟩, h5⟩, h6⟩, h7⟩ := h
      obtain ⟨v1, v2, v3, v4⟩ := var_of xo.x h2
      exact ss_app v1 v2 v3 v4 h4 ((chk_ok e).v L c X _ xo.x h3) (chkS_ok r _ L c X xo h7) (star_cons h5) h6 (star_few h5) rfl
    · cases h
  | .ins i a b r, ss, L, c, X, xo, h => by
    unfold chkS at h
    split at h
    · simp only [Bool.and_eq_true, decide_eq_true_eq] at h
      obtain ⟨⟨⟨⟨⟨⟨⟨⟨rfl, h2⟩, h3⟩, h3'⟩, h4⟩, h5⟩, h5'⟩, h6⟩, h7⟩ := h
      obtain ⟨v1, v2, v3, v4⟩ := var_of xo.x h2
      exact ss_ins v1 v2 v3 v4 h4 ((chk_ok a).v L c X _ xo.x h3) ((chk_ok b).v L c X _ xo.x h3') (chkS_ok r _ L c X xo h7) (star_cons h5) (star_cons h5') h6 (by rw [star_cons h5, star_cons h5']; rfl) (by rw [star_cons h5']; rfl) rfl
    · cases h
  | .setix i a b r, ss, L, c, X, xo, h => by
    unfold chkS at h
    split at h
    · simp only [Bool.and_eq_true, decide_eq_true_eq] at h
      obtain ⟨⟨⟨⟨⟨⟨h2, h3⟩, h3'⟩, h4⟩, h6⟩, h6'⟩, h7⟩ := h
      obtain ⟨v1, v2, v3, v4⟩ := var_of xo.x h2
      exact ss_setix v1 v2 v3 v4 h4 ((chk_ok a).v L c X _ xo.x h3) ((chk_ok b).v L c X _ xo.x h3') (chkS_ok r _ L c X xo h7) (nsw_sole h6) (plI_as h6')
    · cases h
  | .apop i j a r, ss, L, c, X, xo, h => by
    unfold chkS at h
    split at h
    · simp only [Bool.and_eq_true, decide_eq_true_eq] at h
      obtain ⟨⟨⟨⟨⟨⟨⟨⟨rfl, rfl⟩, h2⟩, h2'⟩, h3⟩, h5⟩, h6⟩, h6'⟩, h7⟩ := h
      obtain ⟨v1, v2, v3, v4⟩ := var_of xo.x h2
      obtain ⟨w1, w2, w3, w4⟩ := var_of xo.x h2'
      exact ss_apop v1 v2 v3 v4 w1 w2 w3 w4 ((chk_ok a).v L c X _ xo.x h3) (chkS_ok r _ L c X xo h7) (star_cons h5) h6 h6' (star_few h5)
    · cases h
  | .ext i e r, ss, L, c, X, xo, h => by
    unfold chkS at h
    split at h
    · simp only [Bool.and_eq_true, decide_eq_true_eq] at h
      obtain ⟨⟨⟨⟨⟨rfl, h2⟩, h3⟩, h5⟩, h6⟩, h7⟩ := h
      obtain ⟨v1, v2, v3, v4⟩ := var_of xo.x h2
      exact ss_ext v1 v2 v3 v4 ((chk_ok e).v L c X _ xo.x h3) (chkS_ok r _ L c X xo h7) (star_cons h5) h6 (star_few h5) rfl
    · cases h
  | .expr e r, ss, L, c, X, xo, h => by
    unfold chkS at h
    split at h
    · simp only [Bool.and_eq_true] at h
      exact ss_expr ((chk_ok e).v L c X _ xo.x h.1.1) (nsw_ok h.1.2) (chkS_ok r _ L c X xo h.2)
    · cases h
  | .ite e a b r, ss, L, c, X, xo, h => by
    unfold chkS at h
    split at h
    · simp only [Bool.and_eq_true] at h
      obtain ⟨⟨⟨h1, h2⟩, h3⟩, h4⟩ := h
      exact ss_if ((chk_ok e).t L c X _ xo.x h1) (chkS_ok a _ L c X xo h2) (chkS_ok b _ L c X xo h3) (chkS_ok r _ L c X xo h4)
    · cases h
  | .for_ w it t b r, ss, L, c, X, xo, h => by
    unfold chkS at h
    split at h
    · simp only [Bool.and_eq_true] at h
      obtain ⟨⟨⟨⟨h1, h2⟩, h3⟩, h4⟩, h5⟩ := h
      exact ss_for xo.pass xo.x.calm (wk_ok xo.x (chk_ok it) h1) (nfo_ok h2) (tg_ok xo.x t _ h3) (chkS_ok b _ L c X xo h4) (chkS_ok r _ L c X xo h5)
    · cases h
  | .ret e, ss, L, c, X, xo, h => by
    unfold chkS at h
    split at h
    · simp only [Bool.and_eq_true, decide_eq_true_eq] at h
      exact ss_ret h.2 ((chk_ok e).v L c X _ xo.x h.1)
    · split at h
      · exact ss_retN
      · cases h
    · cases h
  | .brk, ss, L, c, X, xo, h => by
    unfold chkS at h
    split at h
    · exact ss_brk
    · cases h
  | .cnt, ss, L, c, X, xo, h => by
    unfold chkS at h
    split at h
    · exact ss_cnt
    · cases h
  | .raise k e, ss, L, c, X, xo, h => by
    unfold chkS at h
    split at h
    · unfold rndB at h
      split at h
      · simp only [Bool.and_eq_true, decide_eq_true_eq] at h
        obtain ⟨⟨⟨⟨⟨⟨h1, h2⟩, h3⟩, h0⟩, h4⟩, h5⟩, h6⟩ := h
        exact ss_raise xo (glo_of xo.x.hsc h1) (dbg_of h2).1 h3 h0 ((chk_ok e).v L c X _ xo.x h4) h5 h6
      · cases h
    · cases h
  | .raise0 k, ss, L, c, X, xo, h => by
    unfold chkS at h
    split at h
    · unfold rnd0B at h
      split at h
      · simp only [Bool.and_eq_true, decide_eq_true_eq] at h
        obtain ⟨⟨⟨h1, h2⟩, h3⟩, h0⟩ := h
        exact ss_raise0 xo (glo_of xo.x.hsc h1) (dbg_of h2).1 h3 h0
      · cases h
    · cases h
  | .mset ts e r, ss, L, c, X, xo, h => by
    unfold chkS at h
    split at h
    · simp only [Bool.and_eq_true, Bool.or_eq_true] at h
      rcases h.1 with z | z
      · exact mset_ok xo z (chkS_ok r _ L c X xo h.2)
      · exact msetN_ok xo z (chkS_ok r _ L c X xo h.2)
    · cases h
  | .rem _ _ _, _, _, _, _, _, h => by cases h
  | .whl e b r, ss, L, c, X, xo, h => by
    unfold chkS at h
    split at h
    · simp only [Bool.and_eq_true] at h
      obtain ⟨⟨h1, h2⟩, h3⟩ := h
      exact ss_whl xo.pass ((chk_ok e).t L c X _ xo.x h1) (chkS_ok b _ L c X xo h2) (chkS_ok r _ L c X xo h3)
    · cases h
  | .try_ b h r, ss, L, c, X, xo, q => by
    unfold chkS at q
    split at q
    · simp only [Bool.and_eq_true] at q
      obtain ⟨⟨h1, h2⟩, h3⟩ := q
      obtain ⟨k1, k2⟩ := chkH_ok xo.x h _ h1
      exact ss_try xo.x xo.stk xo.fr k1 k2 (fun W pn xe tk pa => chkS_ok b _ { L with W := W } c _ (xo.tr tk pa) h2) (chkS_ok r _ L c X xo h3)
    · cases q
  | .hand _ _ _ _, _, _, _, _, _, h => by cases h
end
end Cl
set_option autoImplicit false
set_option Elab.async false
set_option linter.all false
set_option maxRecDepth 100000
set_option maxHeartbeats 4000000
/-! Defs whose text is told by clean functions; all levels. -/
namespace Cl
open PySem PySem.Spec PyProof.Rows L2
/-- how many draws a call of a level may take -/
def KW (l : List (Nat × Fn)) : Nat → Nat → Nat
  | 0, _ => 0
  | n + 1, t => (l.map fun p => wgtS (KW l n 0) (KW l n) t p.2.body).foldl max 0
theorem le_foldl_max : ∀ (l : List Nat) (a x : Nat), x ≤ a ∨ x ∈ l → x ≤ l.foldl max a
  | [], a, x, h => by
    rcases h with h | h
    · exact h
    · cases h
  | y :: l, a, x, h => by
    refine le_foldl_max l (max a y) x ?_
    rcases h with h | h
    · exact .inl (by omega)
    · rcases List.mem_cons.mp h with h | h
      · exact .inl (by omega)
      · exact .inr h
theorem lookup_mem {f : Nat} {F : Fn} : ∀ {l : List (Nat × Fn)}, l.lookup f = some F → (f, F) ∈ l
  | [], h => by cases h
  | (g, H) :: l, h => by
    by_cases e : f = g
    · subst e
      simp at h
      subst h
      exact List.mem_cons_self ..
    · rw [List.lookup_cons, show (f == g) = false from beq_false_of_ne e] at h
      exact List.mem_cons_of_mem _ (lookup_mem h)
theorem KW_le {l : List (Nat × Fn)} {f n t : Nat} {F : Fn} (h : l.lookup f = some F) : wgtS (KW l n 0) (KW l n) t F.body ≤ KW l (n + 1) t :=
  le_foldl_max _ _ _ (.inr (List.mem_map.mpr ⟨(f, F), lookup_mem h, rfl⟩))
theorem at_enter {F : Fn} {ds : List D} {i : Nat} {p : D × Bool} (h : (enter F ds).at i = some p) : p.2 = false ∧ ds[i]? = some p.1 ∧ i < ds.length := by
  unfold enter Env.at at h
  rw [List.getD_eq_getElem?_getD] at h
  by_cases hi : i < ds.length
  · rw [List.getElem?_append_left (by simpa using hi), List.getElem?_map] at h
    cases e : ds[i]? with
    | none => rw [List.getElem?_eq_none_iff] at e; omega
    | some d =>
      rw [e] at h
      simp at h
      subst h
      exact ⟨rfl, rfl, hi⟩
  · rw [List.getElem?_append_right (by simpa using hi), List.getElem?_replicate] at h
    split at h <;> simp at h
theorem at_none (n i : Nat) : Env.at (List.replicate n none) i = none := by
  unfold Env.at
  rw [List.getD_eq_getElem?_getD, List.getElem?_replicate]
  split <;> rfl
/-- the names at a def's entry -/
theorem ev_enter {G : Gl0} {R : Rp} {S H : Hp} {N : List Str} {F : Fn} {ds : List D} {vs : List V} (r : RepL G.K R S ds vs) (hn : ds.length = F.np) (hN : N.length = F.ns) (hle : F.np ≤ F.ns) : Ev G R H (enter F ds) (start N vs) S H where
  len := by
    have := r.len
    unfold L2.start enter
    simp
    omega
  frz := fun i d e => by
    obtain ⟨_, h1, h2⟩ := at_enter e
    obtain ⟨v, h3, h4⟩ := r.get h1
    refine ⟨v, ?_, h4⟩
    have := r.len
    unfold L2.start
    rw [List.getElem?_append_left (by simp; omega), List.getElem?_map, h3]
    rfl
  own := fun i d e => by
    obtain ⟨h, _⟩ := at_enter e
    cases h
  dst := fun i j d e a h1 h2 _ _ => by
    obtain ⟨h, _⟩ := at_enter h1
    cases h
  dom := fun a o h => ⟨o, h⟩
theorem wp_leave {m : M (Env × Fl)} {Q : D → Prop} {Ef : Nat → D → Prop} (h : wp (leave m) Q Ef) : wp m (fun p => match p.2 with | .rt d => Q d | .nx => Q .non | _ => False) Ef := by
  refine wp_mono (fun p hp => ?_) (fun _ _ z => z) (wp_bind h)
  obtain ⟨ρ, f⟩ := p
  cases f <;> exact hp
theorem pe_false {X : Cx} {e : Expr} {t : TE} (h : ∀ σ H Q, ¬ t σ H Q) : PE X e t := ⟨fun _ _ σ H Q _ z => (h σ H Q z).elim⟩
end Cl
set_option autoImplicit false
set_option Elab.async false
set_option linter.all false
set_option maxRecDepth 100000
set_option maxHeartbeats 4000000
/-! A lambda handed to a def. -/
namespace Cl
open PySem PySem.Spec PyProof.Rows L2
section
variable {X : Cx} {pins : List (Addr × Obj)} {σ : L2.St} {H : Hp} {s : Shared}
theorem no_par {p : Arguments} (h : noPar p = true) : p = ⟨[], [], none, [], [], none, []⟩ := by
  unfold noPar at h
  split at h
  · rfl
  · cases h
/-- a lambda is made, and all that stood still stands -/
theorem lam_new {T : List (Addr × Str)} {ca P : Addr} {ps : Arguments} {e : Expr} {scope : Scope} {pos : Pos} {Ef : Value → Shared → Prop} {Q : Value → Shared → Prop} (I : Inv X pins σ H s) (TB : LamX.TabB X.base X.mg ca P) (hc : X.env.code = .ref ca)
    (hm : (P, X.env.qual ++ "<lambda>") ∈ T) (hu : ∀ p ∈ T, p.1 = P → p.2 = X.env.qual ++ "<lambda>") (hT : LamX.Tabs T H) (hd : defaultsOf ps X.env = ([], [])) (hfree : ∀ y ∈ scope.names, y.2 = .free → ∃ c, X.env.cells.lookup y.1 = some c)
    (k : ∀ (f c' : Addr) (pm ctv : Value) (H1 : Hp) (s' : Shared), Inv X pins σ H1 s' → LamX.ExtN H H1 → (∀ b o, H b = some o → ∃ o', H1 b = some o') → LamX.Tabs T H1 →
      s'.heap.get? f = some (PySem.W.kla_obj "<lambda>" (X.env.qual ++ "<lambda>") ps e scope (cloFrom X.env.cells scope.names []) pm c' ctv) → H1 f = none → f ∉ frs X.stack → H1 c' = some (LamX.CodeO c' (X.env.qual ++ "<lambda>")) → Q (.ref f) s') :
    wpAny (model X.prog X.w) X.A (eval (.Lambda ps e scope pos) X.env) Q Ef s := by
  obtain ⟨row, atP, tr, am⟩ := hT _ hm
  refine PySem.W.kla_eval hd ?_
  have blt : s.heap.BuiltinsAt X.mg P := TB.bm.keeps I.bk
  have got : s.heap.get? P = some { cls := .none, data := .fields row } := I.hok P _ atP
  have off : ∀ a, s.heap.objs.size ≤ a → a ∉ frs X.stack := fun a ha z => by
    rcases List.mem_cons.mp (I.stkSub _ z) with q | q
    · have l := I.lt
      rw [← q] at l
      exact absurd (Nat.lt_of_lt_of_le l ha) (Nat.lt_irrefl _)
    · exact I.nofs ha q
  cases q : codeAmong pos row.toList with
  | some cv =>
    obtain ⟨c1, rfl, there⟩ := am pos cv q
    exact PySem.W.kla_makeFunctionHit (mg := X.mg) (c := ca) (P := P) (ps := row) (closure_ok hfree) I.ok.glob (I.mod.glob.keeps I.bk) hc (TB.code.keeps I.bk) got tr q blt fun ctv h' tk kp sz =>
      k h'.objs.size c1 ((X.mg "__name__").getD .none) ctv H _ (I.kept fun b o z => Heap.get?_push_of_some _ (kp b o z)) (LamX.ExtN.refl H) (fun _ o z => ⟨o, z⟩) hT (Heap.get?_push_size _ rfl) (I.hok.fresh sz) (off _ sz) there
  | none =>
    refine PySem.W.kla_makeFunction (mg := X.mg) (c := ca) (P := P) (ps := row) (closure_ok hfree) I.ok.glob (I.mod.glob.keeps I.bk) hc (TB.code.keeps I.bk) got tr q TB.gP blt fun c1 ctv h' tk kp ge lt rec tb => ?_
    obtain ⟨c2, oc, vs, t, e2, g1, g2, g3⟩ := rec
    cases e2
    have sz : s.heap.objs.size ≤ h'.objs.size := Nat.le_trans ge (Nat.le_of_lt lt)
    have nC : H c1 = none := I.hok.fresh ge
    have I1 := LamX.inv_table (t' := tk) (more := #[rawInt pos.line, rawInt pos.col, .ref c1]) (h' := h'.push (PySem.W.kla_obj "<lambda>" (X.env.qual ++ "<lambda>") ps e scope (cloFrom X.env.cells scope.names []) ((X.mg "__name__").getD .none) c1 ctv)) I atP
      (fun b o z y => Heap.get?_push_of_some _ (kp b o z y)) (Heap.get?_push_of_some _ tb) ge ⟨oc, vs, t, Heap.get?_push_of_some _ g1, g2, g3⟩
    have ext : LamX.ExtN H (upd (upd H P (.tbl (row ++ #[rawInt pos.line, rawInt pos.col, .ref c1]))) c1 (LamX.CodeO c1 (X.env.qual ++ "<lambda>"))) := fun b o z n => by
      rw [upd_ne (ne_of_none z nC)]
      rw [upd_ne (fun y => n row (Option.some.inj (z.symm.trans (by rw [y]; exact atP))))]
      exact z
    have toL : (row ++ #[rawInt pos.line, rawInt pos.col, .ref c1]).toList = row.toList ++ [rawInt pos.line, rawInt pos.col, .ref c1] := by simp
    refine k h'.objs.size c1 ((X.mg "__name__").getD .none) ctv _ _ I1 ext (fun b o z => ?_) (fun p hp => ?_) (Heap.get?_push_size _ rfl) ?_ (off _ sz) upd_same
    · rw [upd_ne (ne_of_none z nC)]
      by_cases y : b = P
      · subst y
        exact ⟨_, upd_same⟩
      · exact ⟨o, by rw [upd_ne y]; exact z⟩
    · by_cases y : p.1 = P
      · rw [hu p hp y, y]
        refine ⟨_, by rw [upd_ne (ne_of_none atP nC), upd_same], by rw [toL]; exact PySem.TriplesOk_snoc _ _ _ _ tr, fun p' cv z => ?_⟩
        rw [toL] at z
        rcases LamX.among_app _ tr z with z | z
        · obtain ⟨c0, a1, a2⟩ := am p' cv z
          exact ⟨c0, a1, ext _ _ a2 LamX.codeO_ne⟩
        · exact ⟨c1, z, upd_same⟩
      · obtain ⟨r2, a1, a2, a3⟩ := hT p hp
        refine ⟨r2, by rw [upd_ne (ne_of_none a1 nC), upd_ne y]; exact a1, a2, fun p' cv z => ?_⟩
        obtain ⟨c0, b1, b2⟩ := a3 p' cv z
        exact ⟨c0, b1, ext _ _ b2 LamX.codeO_ne⟩
    · have n1 : h'.objs.size ≠ c1 := by omega
      have n2 : h'.objs.size ≠ P := Nat.ne_of_gt (Nat.lt_of_lt_of_le (Heap.lt_size got) sz)
      rw [upd_ne n1, upd_ne n2]
      exact I.hok.fresh sz
/-- the thing called in the def that got it -/
theorem act_ok {Eg : XK} {Ng : List Str} {qg : Str} {sg : Scope} {g f c' : Addr} {cdg pm ctv : Value} {ps : Arguments} {e : Expr} {scope : Scope} {k i : Nat} {a : Str} {pn : List (Addr × Obj)} {xe : Value → Shared → Prop} {W : WX} {tb : XK → TE} {p1 p2 : Pos}
    (I : Inv X pins σ H s) (LS : LamX.LamS X.env.scope scope) (hgd : X.A.guards = some []) (hf : s.heap.get? f = some (PySem.W.kla_obj "<lambda>" (X.env.qual ++ "<lambda>") ps e scope (cloFrom X.env.cells scope.names []) pm c' ctv)) (hfn : H f = none) (hfr : f ∉ frs X.stack) (np : noPar ps = true)
    (tk : Takes ((cxOf (L2.CX X.prog X.w) X.prog X.w X.K X.mg X.base Ng qg sg g cdg X.A X.stack s H Eg).tr pn xe) W) (hr : Room (k + 1) (X.A.deeper (envOfC qg sg s.heap.objs.size g cdg)))
    (hbody : ∀ (A : Around) (outer : List PySem.Env) (s2 : Shared) (H2 : Hp) (Ef : XK), A.guards = some [] → Room k (A.deeper (LamX.lamEnv X scope s2.heap.objs.size f c')) → PE (LamX.lamCx X A outer s2 H2 Ef scope f c') e (tb Ef))
    (hN : Ng[i]? = some a) (hv : Vis sg a) (hd : (a == ("__debug__" : Str)) = false) (hcd : (a == ("__classdict__" : Str)) = false) :
    PE ((cxOf (L2.CX X.prog X.w) X.prog X.w X.K X.mg X.base Ng qg sg g cdg X.A X.stack s H Eg).tr pn xe) (.Call (.Name a p1) [] [] p2)
      (fun τ HZ Q => τ[i]? = some (some (.ref f)) ∧ HZ c' = some (LamX.CodeO c' (X.env.qual ++ "<lambda>")) ∧ tb (fun cls d H' => W cls d τ H') σ HZ Q) := by
  refine ⟨fun pinsZ sZ τ HZ Q IZ h => ?_⟩
  obtain ⟨hs, hc, ht⟩ := h
  refine wpAny_Call_Name_kw (thn ((pe_var (pos := p1) (i := i) hN hv hd hcd).run pinsZ sZ τ HZ (fun v H1 => v = .ref f ∧ H1 = HZ) IZ ⟨.ref f, hs, rfl, rfl⟩) fun u s1 ⟨v, H1, I1, r1, q1⟩ => ?_)
  obtain ⟨rfl, rfl⟩ := q1
  obtain rfl : u = Value.ref f := r1
  have at1 : s1.heap.get? f = some (PySem.W.kla_obj "<lambda>" (X.env.qual ++ "<lambda>") ps e scope (cloFrom X.env.cells scope.names []) pm c' ctv) := I1.base.keep f _ hf hfn hfr fun z => nomatch (show f ∈ ([] : List Addr) from z)
  refine PySem.W.callWith_F0 ⟨_, _, _, _, at1⟩ ?_
  obtain ⟨⟨oc, vs, t, g1, g2, g3⟩, _, _⟩ := I1.hok c' _ hc
  have rc : codeAny (model X.prog X.w) (X.A.deeper (envOfC qg sg s.heap.objs.size g cdg)) (.call (.ref f) ⟨[], []⟩) (CR (L2.CX X.prog X.w) (envOfC qg sg s.heap.objs.size g cdg :: X.stack) X.prog X.w H1 s1 Q fun cls d H' => W cls d τ H') s1 := by
    refine PySem.W.kla_callFunE hr.depth at1 rfl LS.co LS.gen rfl ⟨c', oc, vs, t, rfl, g1, g2, g3⟩ ?_
    cases no_par np
    show wpAny _ _ (pure []) _ _ _
    refine wpAny_pure (wpAny_newFunctionEnv (fun y hy => (LS.own y hy).2) (fun y hy => absurd hy (by simp)) (fun h₁ ns sb => ⟨I1.nolimit.fresh _ sb, ?_⟩) LS.kind)
    show codeAny _ _ (.expr e (LamX.lamEnv X scope s1.heap.objs.size f c')) _ _
    have kp : ∀ b o, s1.heap.get? b = some o → h₁.get? b = some o := fun b o z => sb.extBut b o (Nat.ne_of_lt (Heap.lt_size z)) (Heap.get?_push_of_some _ z)
    have J : Inv (LamX.lamCx X (X.A.deeper (envOfC qg sg s.heap.objs.size g cdg)) (envOfC qg sg s.heap.objs.size g cdg :: X.stack) s1 H1 (fun cls d H' => W cls d τ H') scope f c') [] σ H1 { s1 with heap := h₁, toks := s1.toks + ([] : List (Str × Value)).length } :=
      LamX.lam_start2 I LS I1.env0 hr.hd I1.base ns kp
    refine PySem.W.kla_codeExpr (wpAny_mono ((hbody (X.A.deeper (envOfC qg sg s.heap.objs.size g cdg)) _ s1 H1 _ hgd (hr.deeper _)).run [] _ _ H1 Q J ht) (fun v s' z => ?_) fun _ _ z => z)
    obtain ⟨w', H', J', rv, z⟩ := z
    exact ⟨w', H', J'.os, J'.bare, J'.base, J'.hok, rv, z⟩
  refine wpAny_call (codeAny_mono rc fun r s' hq => ?_)
  cases r with
  | error e => exact tk _ _ (XE.of_call I1 (fun _ _ _ z => z) hq)
  | ok fl =>
    cases fl with
    | ret u => exact I1.after hq
    | next => exact hq.elim
    | brk => exact hq.elim
    | cont => exact hq.elim
end
end Cl
set_option autoImplicit false
set_option Elab.async false
set_option linter.all false
set_option maxRecDepth 100000
set_option maxHeartbeats 4000000
/-! Defs and their clean functions; a lambda handed to a def. -/
namespace Cl
open PySem PySem.Spec PyProof.Rows L2
/-- the maker's code object and its table -/
def TabOk (G : Gl0) (base : Heap) (mg : Str → Option Value) (cdv : Value) (qual : Str) : Prop := ∃ ca T, cdv = .ref ca ∧ LamX.TabB base mg ca T ∧ (T, qual ++ ".<locals>." ++ "<lambda>") ∈ G.tabs ∧ ∀ p ∈ G.tabs, p.1 = T → p.2 = qual ++ ".<locals>." ++ "<lambda>"
/-- a def of the text and its clean function -/
structure Def1 (G : Gl0) (nm : Nm) (K : PySem.W.Frag) (base : Heap) (mg : Str → Option Value) (dr hd : Bool) (f : Nat) (F : Fn) : Prop where
  ex : ∃ (name qual : Str) (params : Arguments) (body : List Stmt) (scope : Scope) (dV kV doc pm cdv ct oc : Value) (an od : Option Addr) (osl : Array (Option Value)) (N ps : List Str),
    K.lookup (G.fA f) = some ⟨oc, od, .func (PySem.W.fnOf name qual params body scope dV kV doc pm an cdv ct), osl⟩ ∧ PySem.W.codeIn K cdv qual = true ∧ FnScope N ps scope ∧ ps.length = F.np ∧ N.length = F.ns ∧ F.np ≤ F.ns ∧
    chkS nm N F.body body ⟨scope, fun _ => true, true, dr, hd⟩ = true ∧ (∀ us : List Value, us.length = ps.length → bindArgs (PySem.W.fnOf name qual params body scope dV kV doc pm an cdv ct) ⟨us, []⟩ = pure (ps.zip us)) ∧ (hd = true → TabOk G base mg cdv qual) ∧ ∀ q ∈ G.kl, q.1 = f → KBd (PySem.W.fnOf name qual params body scope dV kV doc pm an cdv ct) ps q.2.1 q.2.2.1 q.2.2.2
  kp : PySem.W.keepIn K (.ref (G.fA f)) = true
/-- the draw, as it is called -/
def DrawAt (P : Program) (w : World) (K : PySem.W.Frag) (mg : Str → Option Value) (base : Heap) (G : Gl0) : Prop := ∃ (f : Addr) (fd : FuncData) (ps : List Str), mg "_law_draw" = some (.ref f) ∧ PySem.W.keepIn K (.ref f) = true ∧ FnG P w K mg base 2 f fd ps (spDraw G) ∧ ps.length = 2 ∧ L2.Binds K fd ps []
/-- the defs that get a lambda -/
structure HlOk (G : Gl0) (nm : Nm) (K : PySem.W.Frag) (base : Heap) (mg : Str → Option Value) (l : List (Nat × Fn)) : Prop where
  at_ : ∀ x f, nm.hl.lookup x = some f → mg x = some (.ref (G.fA f)) ∧ ∃ F, l.lookup f = some F ∧ F.np = 1 ∧ Def1 G nm K base mg true false f F
section
variable {P : Program} {w : World} {K : PySem.W.Frag} {mg : Str → Option Value} {base : Heap} {G : Gl0} {nm : Nm} {l : List (Nat × Fn)}
theorem exc_swap {R R' : Rp} {S H : Hp} {c : Nat} {d : D} {dx : Option Addr} (h1 : R.fA = R'.fA) (h2 : R.sp = R'.sp) (x : ExcAt G R S H c d dx) : ExcAt G R' S H c d dx := by
  obtain ⟨x1, x2, x3⟩ := x
  refine ⟨x1, x2, ?_⟩
  cases hf : fldOf c with
  | none =>
    rw [hf] at x3
    exact x3
  | some f =>
    rw [hf] at x3
    obtain ⟨a, v, e1, e2, e3⟩ := x3
    exact ⟨a, v, e1, e2, Rep.swap h1 h2 _ _ x1 e3⟩
/-- another thing that is called, the state is the same -/
theorem Wd.th {R R' : Rp} {S H : Hp} {b : Nat} (w : Wd G R S H b) (h1 : R.sp = R'.sp) (h2 : R.sc = R'.sc) (h3 : R.sl = R'.sl) (hc : ∀ q ∈ R'.th.cc, H q.1 = some (LamX.CodeO q.1 q.2)) : Wd G R' S H b := by
  have st : ∀ a, R'.st a → R.st a := fun a z => by unfold Rp.st at z ⊢; rw [h1, h2, h3]; exact z
  refine ⟨w.sub, fun a z => w.nst a (st a z), w.ntb, ⟨?_, ?_⟩, w.tb.t, hc⟩
  · rw [← h1, ← h2, ← h3]
    exact w.st.ex
  · rw [← h1, ← h2, ← h3]
    exact w.st.ne
theorem Gr.st {R R' : Rp} {S H S' H' : Hp} (g : Gr R S H S' H') (h : ∀ a, R.st a → R'.st a) : Gr R' S H S' H' := ⟨g.ss, fun a o z n t => g.hh a o z (fun y => n (h a y)) t, g.fr, g.dom⟩
theorem code_nst {R : Rp} {S H : Hp} {b : Nat} (w : Wd G R S H b) {a c : Addr} {q : Str} (h : H a = some (LamX.CodeO c q)) : ¬ R.st a := by
  rintro ⟨on, y⟩
  obtain ⟨z, z1, z2, z3, _⟩ := w.st.ex on
  unfold LamX.CodeO at h
  rcases y with y | y | y <;> rw [y] at h
  · rw [z1] at h; cases h
  · rw [z2] at h; cases h
  · rw [z3] at h; cases h
/-- a lambda handed to a def -/
theorem se_heard {n kk : Nat} {N : List Str} {qual : Str} {scope0 : Scope} {fa : Addr} {cdv : Value} {A : Around} {outer : List PySem.Env} {s0 : Shared} {H00 : Hp} {Ef : XK} {L : Lv} {dr : Bool} {f : Nat} {x : Str} {body : E} {params : Arguments} {ebody : Expr} {scope : Scope} {p lpos pos : Pos}
    {pn : List (Addr × Obj)} {xe : Value → Shared → Prop} {W : WX} (hK : G.K = K) (hg : GlOk G nm mg K) (hcl : ClOk G nm P mg K) (hex : ExOk G nm mg K) (hT : ∀ f, G.T f = l.lookup f)
    (fns : Fns P w K mg base G n (KW l n 0) kk) (fns1 : ∀ m, n = m + 1 → Fns P w K mg base G m (KW l m 0) (kk + 1)) (hl : HlOk G nm K base mg l) (hdr : DrawAt P w K mg base G) (hkk : 2 ≤ kk) (hnd : N.Nodup) (tb : TabOk G base mg cdv qual)
    (hgd : A.guards = some []) (hr : Room (kk + 2) (A.deeper (envOfC qual scope0 s0.heap.objs.size fa cdv))) (hLF : L.F = run G.T n) (hLk : L.k = KW l n 0) (hLh : L.kh = KW l n)
    (tk : Takes ((cxOf (L2.CX P w) P w K mg base N qual scope0 fa cdv A outer s0 H00 Ef).tr pn xe) W) (hx : nm.hl.lookup x = some f) (hgx : gloB scope0 x = true) (hdx : dbg x = true) (hls : LamX.lamSB scope0 scope = true) (hnp : noPar params = true) (hmd : md body = .f)
    (hb : ∀ (L' : Lv) (X' : Cx), XOkB G nm N L' ⟨scope, fun _ => false, false, dr, false⟩ n X' → PE X' ebody (rdE G L' body)) :
    PE ((cxOf (L2.CX P w) P w K mg base N qual scope0 fa cdv A outer s0 H00 Ef).tr pn xe) (.Call (.Name x p) [.Lambda params ebody scope lpos] [] pos) (rdE G { L with W := W } (.heard f body)) := by
  refine ⟨fun pins s σ H Q I h => ?_⟩
  obtain ⟨R, ρ, H0, S, b, hh, hbb, hp⟩ := h
  obtain ⟨hmx, F, hlF, hF1, hdef⟩ := hl.at_ x f hx
  obtain ⟨ca, tA, hca, TB, hmem, huniq⟩ := tb
  obtain ⟨gname, gq, gparams, gbody, gscope, dV, kV, doc, gpm, gcdv, gct, oc, an, od, osl, Ng, ps, g1, g2, g3, g4, g5, g6, g7, g8, _⟩ := hdef.ex
  have LS : LamX.LamS scope0 scope := LamX.lamS_by hls
  simp only [evE] at hp
  rw [show ({ L with W := W } : Lv).F = run G.T n from hLF] at hp
  cases n with
  | zero => exact (wp_bind hp).elim
  | succ m =>
  have hbx := wp_bind hp
  rw [run, hT, hlF] at hbx
  simp only [hF1, List.length_singleton, if_true] at hbx
  have hp2 := wp_leave hbx
  have hps : ps.length = 1 := by rw [g4, hF1]
  obtain ⟨y, rfl⟩ : ∃ y, ps = [y] := by
    match ps, hps with
    | [y], _ => exact ⟨y, rfl⟩
  refine wpAny_Call_Name_kw (ld_glob I (glo_of rfl hgx) hmx ?_ (dbg_of hdx).1)
  refine PySem.W.callWith_K (h₀ := base) I.ok.mod.kin hdef.kp ?_ (by rfl) (by rfl)
  show wpAny _ _ (spliced ((false, eval (.Lambda params ebody scope lpos) _) :: backTo pos (starEach [] _))) _ _ s
  obtain rfl := no_par hnp
  have hdf : defaultsOf ⟨[], [], none, [], [], none, []⟩ ((cxOf (L2.CX P w) P w K mg base N qual scope0 fa cdv A outer s0 H00 Ef).tr pn xe).env = ([], []) := rfl
  have hfr0 : ∀ y ∈ scope.names, y.2 = .free → ∃ c, ((cxOf (L2.CX P w) P w K mg base N qual scope0 fa cdv A outer s0 H00 Ef).tr pn xe).env.cells.lookup y.1 = some c := LamX.LamS.has (X := (cxOf (L2.CX P w) P w K mg base N qual scope0 fa cdv A outer s0 H00 Ef).tr pn xe) LS I.ok
  refine Calls.spliced_cons (lam_new (X := (cxOf (L2.CX P w) P w K mg base N qual scope0 fa cdv A outer s0 H00 Ef).tr pn xe) (T := G.tabs) (ca := ca) (P := tA) I TB hca hmem huniq hh.wd.tb.t hdf hfr0 fun f' c' pm' ctv H1 s' I1 eN dm T1 hf hfn hfr hco => ?_)
  refine Calls.spliced_nil ⟨I1.kIn, ?_⟩
  have hSn : ∀ ps, ∀ a o, S a = some o → o ≠ .tbl ps := fun ps a o z y => hh.wd.ntb a ps (by rw [← y]; exact z)
  let R' : Rp := { R with th := ⟨f', S, (c', qual ++ ".<locals>." ++ "<lambda>") :: R.th.cc, R.sp⟩ }
  have wd' : Wd G R' S H1 b := by
    refine ⟨fun a o z => eN a o (hh.wd.sub a o z) fun ps y => hSn ps a o z y, hh.wd.nst, hh.wd.ntb, ⟨?_, hh.wd.st.ne⟩, T1, fun q hq => ?_⟩
    · intro on
      obtain ⟨z, z1, z2, z3, z4⟩ := hh.wd.st.ex on
      exact ⟨z, eN _ _ z1 (fun ps y => by cases y), eN _ _ z2 (fun ps y => by cases y), eN _ _ z3 (fun ps y => by cases y), z4⟩
    · rcases List.mem_cons.mp hq with rfl | hq
      · exact hco
      · exact eN _ _ (hh.wd.tb.c q hq) LamX.codeO_ne
  have gr' : Gr R S H S H1 := by
    refine ⟨fun _ _ z => z, fun a o z _ nt => eN a o z nt, fun _ _ _ => rfl, dm⟩
  let Eg : XK := fun cls d H' => W cls d σ H'
  let wt : Nat := wgt L.k L.kh L.t body
  let Lg : Lv := { F := run G.T m, tm := (evE (run G.T (m + 1)) L.tm body (calm [] ρ)).bind pureM, k := KW l m 0, kh := KW l m, t := wt, th := R'.th, ea := R.ex, xd := R.xd, xc := R.xc, W := fun cls d _ H => Eg cls d H }
  have hwk : wgtS Lg.k Lg.kh Lg.t F.body ≤ wgt L.k L.kh L.t (.heard f body) := by
    show wgtS (KW l m 0) (KW l m) wt F.body ≤ L.kh wt
    rw [hLh]
    exact KW_le hlF
  have hrep : RepL G.K R' S [.thk] [.ref f'] := ⟨.ref f', [], rfl, ⟨rfl, fun _ _ z => z, rfl⟩, rfl⟩
  have rc : codeAny (model P w) (A.deeper (envOfC qual scope0 s0.heap.objs.size fa cdv)) (.call (.ref (G.fA f)) ⟨[.ref f'], []⟩) (CR (L2.CX P w) (envOfC qual scope0 s0.heap.objs.size fa cdv :: outer) P w H1 s' Q Eg) s' := by
    refine LamX.run_ofS (N := Ng) (ps := [y]) (us := [.ref f']) (vs := [.ref f']) g1 g2 g3 hr I1.env0 ?_ (.cons rfl .nil) rfl fun hr' => ?_
    · exact (Binds.all g8) s' [.ref f'] I1.kIn rfl
    have xo : XOkS G nm Ng Lg ⟨gscope, fun _ => true, true, true, false⟩ m (cxOf (L2.CX P w) P w K mg base Ng gq gscope (G.fA f) gcdv (A.deeper (envOfC qual scope0 s0.heap.objs.size fa cdv)) (envOfC qual scope0 s0.heap.objs.size fa cdv :: outer) s' H1 Eg) := by
      refine ⟨⟨⟨hK.symm, hg, rfl, g3.nd, rfl, g3.kind, fun _ _ => rfl, rfl, by have := hr'.un; show (Around.deeper _ _).units + 70 < cLine; omega, ⟨rfl, ⟨kk + 1, fns1 m rfl, hr'⟩, hgd, takes_of rfl rfl rfl rfl⟩, hcl, hex, fun _ => ⟨hdr, hr'.mono (by omega)⟩,
        fun _ pn' xe' W' tk' i z p1 p2 hi hv hd => ?_⟩, fun z => by cases z⟩, passes_of rfl, rfl, rfl⟩
      have ac := act_ok (X := (cxOf (L2.CX P w) P w K mg base N qual scope0 fa cdv A outer s0 H00 Ef).tr pn xe) (Eg := Eg) (k := kk) (e := ebody) (ps := ⟨[], [], none, [], [], none, []⟩) (qg := gq) (sg := gscope) (cdg := gcdv) (g := G.fA f) (Ng := Ng) (p1 := p1) (p2 := p2) (W := W') (pn := pn') (xe := xe')
        (tb := fun E' => rdE G { F := run G.T (m + 1), tm := L.tm, k := L.k, kh := L.kh, t := L.t, th := L.th, ea := L.ea, xd := L.xd, xc := L.xc, W := fun cls d _ H => E' cls d H } body) I1 LS hgd hf hfn hfr rfl tk' hr'
        (fun A2 outer2 s2 H2 Ef2 hgd2 hr2 => hb _ _ ⟨hK.symm, hg, rfl, hnd, rfl, LS.kind, (fun _ z => by cases z), rfl, by have := hr2.un; show (Around.deeper _ _).units + 70 < cLine; omega, ⟨rfl, ⟨kk, by rw [hLk]; exact fns, hr2⟩, hgd2, takes_of rfl rfl rfl rfl⟩, hcl, hex, (fun _ => ⟨hdr, hr2.mono hkk⟩), fun z => by cases z⟩)
        hi hv (dbg_of hd).1 (dbg_of hd).2
      refine ac.imp fun τ HZ Q' hq => ?_
      obtain ⟨R2, ρ2, H02, S2, b2, hh2, hb2, hpf⟩ := hq
      simp only [evE] at hpf
      cases hi2 : ρ2.at i with
      | none => rw [hi2] at hpf; exact hpf.elim
      | some pr =>
      obtain ⟨d2, o2⟩ := pr
      rw [hi2] at hpf
      cases d2 with
      | thk =>
        cases o2 with
        | true =>
          obtain ⟨_, _, _, z, _⟩ := hh2.ev.own i _ hi2
          cases z
        | false =>
        obtain ⟨v2, hv1, hv2, hv3, hv4⟩ := hh2.ev.frz i _ hi2
        have hth2 : R2.th = R'.th := hh2.th
        rw [hth2] at hv2 hv3 hv4
        subst hv2
        refine ⟨hv1, hh2.wd.tb.c (c', qual ++ ".<locals>." ++ "<lambda>") (by rw [hth2]; exact List.mem_cons_self ..), ?_⟩
        let R3 : Rp := { R2 with th := L.th, ex := L.ea, xd := L.xd, xc := L.xc }
        have hRL : R.th = L.th := hh.th
        have ef : R.fA = R3.fA := hh.fA.trans hh2.fA.symm
        have es : R.sp = R3.sp := hv4
        have wd3 : Wd G R3 S2 HZ b2 := hh2.wd.th rfl rfl rfl fun q hq => hh2.wd.tb.c q (by
          rw [hth2]
          refine List.mem_cons_of_mem _ ?_
          rw [hRL]
          exact hq)
        refine ⟨R3, calm [] ρ, HZ, S2, b2, ⟨hh2.fA, rfl, ⟨rfl, rfl, rfl⟩, wd3, ?_⟩, hb2, ?_⟩
        · exact { len := by rw [calm_len]; exact hh.ev.len
                  frz := fun j d e => by
                    obtain ⟨e1, e2, e3, _⟩ := at_calm e
                    obtain ⟨v, v1, v2⟩ := hh.ev.frz j d e1
                    exact ⟨v, v1, Rep.swap ef es _ _ e3 (Rep.same hv3 _ _ v2)⟩
                  own := fun j d e => by
                    obtain ⟨e1, e2, e3, _⟩ := at_calm e
                    cases e2
                  dst := fun j k d e a p q _ _ => by
                    obtain ⟨e1, e2, e3, _⟩ := at_calm p
                    cases e2
                  dom := fun a o z => ⟨o, z⟩ }
        · have back : ∀ {S3 H3 : Hp} {b3 wz : Nat}, Behind G R3 S2 HZ b2 wz S3 H3 b3 → Behind G R2 S2 HZ b2 wz S3 H3 b3 := fun {S3 H3 b3 wz} q =>
            ⟨q.gr.st fun _ z => z, q.wd.th rfl rfl rfl fun r hr3 => q.gr.hh _ _ (hh2.wd.tb.c r hr3) (code_nst hh2.wd (hh2.wd.tb.c r hr3)) LamX.codeO_ne, q.le⟩
          refine wp_mono (fun d hd2 => ?_) (fun c d hc => ?_) (wp_bind hpf)
          · cases hpu : d.pure with
            | false =>
              have z : wp (pureM d) _ _ := hd2
              unfold pureM at z
              rw [hpu] at z
              exact z.elim
            | true =>
              have z : wp (pureM d) _ _ := hd2
              unfold pureM at z
              rw [hpu] at z
              intro v S3 H3 b3 q rv
              rw [hmd] at rv
              exact z v S3 H3 b3 (back q) (Rep.swap (R := R3) (R' := R2) rfl rfl _ _ hpu rv)
          · intro dx S3 H3 b3 q ex
            exact hc dx S3 H3 b3 (back q) (exc_swap (R := R3) (R' := R2) rfl rfl ex)
      | _ => exact hpf.elim
    have hw2 := hwk
    have hbb2 : b + wgt L.k L.kh L.t (.heard f body) ≤ BIG := hbb
    have dropB : ∀ {S3 H3 : Hp} {b3 : Nat}, Gr R' S H1 S3 H3 → Wd G R' S3 H3 b3 → b3 ≤ b + wgtS Lg.k Lg.kh Lg.t F.body → Behind G R S H b (wgt L.k L.kh L.t (.heard f body)) S3 H3 b3 := fun {S3 H3 b3} g wd hle =>
      ⟨gr'.trans (g.st fun _ z => z), wd.th rfl rfl rfl fun q hq => wd.tb.c q (List.mem_cons_of_mem _ hq), by omega⟩
    refine ⟨rdS G Lg F.body, chkS_ok F.body gbody Lg _ _ xo g7, R', enter F [.thk], ⟨F.ns, []⟩, H1, S, b, ⟨⟨hh.fA, rfl, ⟨rfl, rfl, rfl⟩, wd', ev_enter hrep hF1.symm g5 g6⟩, ⟨?_, fun p e => by cases e⟩⟩, fun i _ => rfl, by omega, ?_⟩
    · unfold L2.start
      simp
      omega
    · refine wp_mono (fun p hp3 => ?_) (fun c d hc => ?_) hp2
      · obtain ⟨ρ', fl⟩ := p
        cases fl with
        | nx => exact fun σ' S3 H3 b3 g hb3 p => hp3 .non S3 H3 b3 (dropB g.gr p.here.wd hb3) rfl
        | rt d =>
          intro v S3 H3 b3 g hb3 wd rv
          have z : wp (pureM d) _ _ := hp3
          unfold pureM at z
          cases hpu : d.pure with
          | false => rw [hpu] at z; exact z.elim
          | true =>
            rw [hpu] at z
            exact z v S3 H3 b3 (dropB g.gr wd hb3) (Rep.swap (R := R') (R' := R) rfl rfl _ _ hpu rv)
        | bk => exact hp3.elim
        | ct => exact hp3.elim
      · exact fun dx σ' S3 H3 b3 g hb3 wd _ ex => hc dx S3 H3 b3 (dropB g.gr wd hb3) (exc_swap (R := R') (R' := R) rfl rfl ex)
  refine wpAny_call (codeAny_mono rc fun r s2 hq => ?_)
  cases r with
  | error e => exact tk _ _ (XE.of_call I1 (fun _ _ _ z => z) hq)
  | ok fl =>
    cases fl with
    | ret u => exact I1.after hq
    | next => exact False.elim hq
    | brk => exact False.elim hq
    | cont => exact False.elim hq
end
end Cl
set_option autoImplicit false
set_option Elab.async false
set_option linter.all false
set_option maxRecDepth 100000
set_option maxHeartbeats 4000000
/-! All levels of defs. -/
namespace Cl
open PySem PySem.Spec PyProof.Rows L2
section
variable {P : Program} {w : World} {K : PySem.W.Frag} {mg : Str → Option Value} {base : Heap} {G : Gl0} {nm : Nm} {l : List (Nat × Fn)}
theorem body_ok {n kk f : Nat} {dr hd : Bool} {F : Fn} {qual : Str} {body : List Stmt} {scope : Scope} {cdv : Value} {N ps : List Str} (hK : G.K = K) (hg : GlOk G nm mg K) (fns : Fns P w K mg base G n (KW l n 0) kk) (S : FnScope N ps scope) (hN : N.length = F.ns) (hle : F.np ≤ F.ns) (hT : G.T f = some F) (hl : l.lookup f = some F)
    (hc : chkS nm N F.body body ⟨scope, fun _ => true, true, dr, hd⟩ = true) (hcl : ClOk G nm P mg K) (hex : ExOk G nm mg K) (hdr : dr = true → 2 ≤ kk ∧ DrawAt P w K mg base G) (A : Around) (outer : List PySem.Env) (s : Shared) (H : Hp) (vs : List V) (Q : VK) (Ef : XK) (hgd : A.guards = some []) (hr : Room kk (A.deeper (envOfC qual scope s.heap.objs.size (G.fA f) cdv)))
    (hh : hd = true → dr = true ∧ TabOk G base mg cdv qual ∧ HlOk G nm K base mg l ∧ (∀ f, G.T f = l.lookup f) ∧ (∀ m, n = m + 1 → Fns P w K mg base G m (KW l m 0) (kk + 1)) ∧ Room (kk + 2) (A.deeper (envOfC qual scope s.heap.objs.size (G.fA f) cdv)))
    (hsp : spF G (n + 1) f F.np (KW l (n + 1) 0) vs H Q Ef) : ∃ t, PSs (cxOf (L2.CX P w) P w K mg base N qual scope (G.fA f) cdv A outer s H Ef) body t ∧ t { nx := fun _ H' => Q .non H', rt := Q } (start N vs) H := by
  obtain ⟨hlen, R, S0, b, ds, hfA, hw, hrep, hb, hp⟩ := hsp
  let L : Lv := { F := run G.T n, tm := .stuck, k := KW l n 0, kh := KW l n, t := 0, th := R.th, ea := R.ex, xd := R.xd, xc := R.xc, W := fun cls dx _ H => Ef cls dx H }
  have xo : XOkS G nm N L ⟨scope, fun _ => true, true, dr, hd⟩ n (cxOf (L2.CX P w) P w K mg base N qual scope (G.fA f) cdv A outer s H Ef) :=
    ⟨⟨⟨hK.symm, hg, rfl, S.nd, rfl, S.kind, fun _ _ => rfl, rfl, by have := hr.un; show (A.deeper _).units + 70 < cLine; omega, ⟨rfl, ⟨kk, fns, hr⟩, hgd, takes_of rfl rfl rfl rfl⟩, hcl, hex, fun z => ⟨(hdr z).2, hr.mono (hdr z).1⟩,
      fun _ pn xe W _ i x p1 p2 _ _ _ => pe_false fun σ H Q z => by
        obtain ⟨R', ρ, H0, S', b', hh, hb', hp'⟩ := z
        simp only [evE] at hp'
        split at hp' <;> exact hp'⟩, fun z pn xe W tk x g body params ebody scope' p lpos pos hx hgx hdx hls hnp hmd hb => by
          obtain ⟨y1, y2, y3, y4, y5, y6⟩ := hh z
          exact se_heard hK hg hcl hex y4 fns y5 y3 (hdr y1).2 (hdr y1).1 S.nd y2 hgd y6 rfl rfl rfl tk hx hgx hdx hls hnp hmd hb⟩, passes_of rfl, rfl, rfl⟩
  refine ⟨rdS G L F.body, chkS_ok F.body body L _ _ xo hc, ?_⟩
  rw [run, hT] at hp
  have hd : ds.length = F.np := by rw [← hrep.len]; exact hlen
  simp only [hd, if_true] at hp
  have hk := KW_le (n := n) (t := 0) hl
  have hw2 := wp_leave hp
  refine ⟨R, enter F ds, ⟨F.ns, []⟩, H, S0, b, ⟨⟨hfA, rfl, ⟨rfl, rfl, rfl⟩, hw, ev_enter hrep hd hN hle⟩, ⟨?_, fun p e => by cases e⟩⟩, fun i _ => rfl, by show b + wgtS (KW l n 0) (KW l n) 0 F.body ≤ BIG; omega, ?_⟩
  · unfold L2.start
    simp
    omega
  · have hkk : wgtS L.k L.kh L.t F.body ≤ KW l (n + 1) 0 := hk
    refine wp_mono (fun p hp => ?_) (fun c d hc => ?_) hw2
    · obtain ⟨ρ', fl⟩ := p
      cases fl with
      | nx => exact fun σ' S' H' b' g hb' p => hp .non S' H' b' ⟨g.gr, p.here.wd, by omega⟩ rfl
      | rt d => exact fun v S' H' b' g hb' wd rv => hp v S' H' b' ⟨g.gr, wd, by omega⟩ rv
      | bk => exact hp.elim
      | ct => exact hp.elim
    · exact fun dx σ' S' H' b' g hb' wd _ ex => hc dx S' H' b' ⟨g.gr, wd, by omega⟩ ex
theorem Fns.mono {n kw j k : Nat} (h : Fns P w K mg base G n kw j) (hjk : j ≤ k) : Fns P w K mg base G n kw k := fun f F z => by
  obtain ⟨⟨fd, ps, q1, q2, q3⟩, kp⟩ := h f F z
  exact ⟨⟨fd, ps, q1.mono hjk, q2, q3⟩, kp⟩
/-- every level -/
theorem fns_all (hK : G.K = K) (hg : GlOk G nm mg K) (hcl : ClOk G nm P mg K) (hex : ExOk G nm mg K) (hT : ∀ f, G.T f = l.lookup f) (defs : ∀ f F, l.lookup f = some F → ∃ hd, Def1 G nm K base mg true hd f F) (hl : HlOk G nm K base mg l)
    (hdr : DrawAt P w K mg base G) : ∀ n, Fns P w K mg base G n (KW l n 0) (3 * n + 2)
  | 0 => fun f F h => by
    have hlk : l.lookup f = some F := by rw [← hT]; exact h
    obtain ⟨hd, dd⟩ := defs f F hlk
    obtain ⟨name, qual, params, body, scope, dV, kV, doc, pm, cdv, ct, oc, an, od, osl, N, ps, h1, h2, h3, h4, h5, h6, h7, h8, h9, h10⟩ := dd.ex
    exact ⟨⟨_, ps, ⟨fun A outer s H args us vs Q Ef _ _ _ _ _ _ hsp => by
      obtain ⟨_, R, S0, b, ds, _, _, _, _, hp⟩ := hsp
      exact hp.elim⟩, h4, Binds.all h8, h10⟩, dd.kp⟩
  | n + 1 => fun f F h => by
    have hlk : l.lookup f = some F := by rw [← hT]; exact h
    obtain ⟨hd, dd⟩ := defs f F hlk
    obtain ⟨name, qual, params, body, scope, dV, kV, doc, pm, cdv, ct, oc, an, od, osl, N, ps, h1, h2, h3, h4, h5, h6, h7, h8, h9, h10⟩ := dd.ex
    have ih := fns_all hK hg hcl hex hT defs hl hdr n
    have ih1 : ∀ m, n = m + 1 → Fns P w K mg base G m (KW l m 0) (3 * n + 2 + 1) := fun m e => by
      subst e
      exact (fns_all hK hg hcl hex hT defs hl hdr m).mono (by omega)
    exact ⟨⟨_, ps, fnG_of (k := 3 * n + 2 + 2) h1 h2 h3 fun A outer s H vs Q Ef hgd hr hsp => body_ok hK hg ih h3 h5 h6 h hlk h7 hcl hex (fun _ => ⟨by omega, hdr⟩) A outer s H vs Q Ef hgd (hr.mono (by omega)) (fun z => ⟨rfl, h9 z, hl, hT, ih1, hr⟩) hsp, h4, Binds.all h8, h10⟩, dd.kp⟩
/-- a def that neither draws nor calls -/
theorem fn_leaf {f : Nat} {F : Fn} (hK : G.K = K) (hg : GlOk G nm mg K) (hcl : ClOk G nm P mg K) (hex : ExOk G nm mg K) (hT : ∀ f, G.T f = l.lookup f) (kp : ∀ f F, l.lookup f = some F → PySem.W.keepIn K (.ref (G.fA f)) = true ∧ ∃ (fd : FuncData) (ps : List Str), ps.length = F.np ∧ L2.Binds K fd ps [] ∧ ∀ q ∈ G.kl, q.1 = f → KBd fd ps q.2.1 q.2.2.1 q.2.2.2) (hl : l.lookup f = some F) (d : Def1 G nm K base mg false false f F) :
    Fn1 P w K mg base G 1 (KW l 1 0) 1 f F := by
  obtain ⟨name, qual, params, body, scope, dV, kV, doc, pm, cdv, ct, oc, an, od, osl, N, ps, h1, h2, h3, h4, h5, h6, h7, h8, _, h10⟩ := d.ex
  have h : G.T f = some F := by rw [hT]; exact hl
  have fns0 : Fns P w K mg base G 0 (KW l 0 0) 0 := fun g H hg => by
    obtain ⟨k1, fd, ps, k2, k3⟩ := kp g H (by rw [← hT]; exact hg)
    exact ⟨⟨fd, ps, ⟨fun A outer s H args us vs Q Ef _ _ _ _ _ _ hsp => by
      obtain ⟨_, R, S0, b, ds, _, _, _, _, hp⟩ := hsp
      exact hp.elim⟩, k2, k3⟩, k1⟩
  exact ⟨⟨_, ps, fnG_of (k := 0) h1 h2 h3 fun A outer s H vs Q Ef hgd hr hsp => body_ok (n := 0) hK hg fns0 h3 h5 h6 h hl h7 hcl hex (fun z => by cases z) A outer s H vs Q Ef hgd hr (fun z => by cases z) hsp, h4, Binds.all h8, h10⟩, d.kp⟩
end
end Cl
set_option autoImplicit false
set_option Elab.async false
set_option linter.all false
set_option maxRecDepth 100000
set_option maxHeartbeats 4000000
/-! The draws. -/
namespace Cl
open PySem PySem.Spec PyProof.Rows L2
/-- a mixed number -/
def spMixed : Sp := fun vs H Q _ => ∃ c k : Int, vs = [.int c, .int k] ∧ k.natAbs < 2 ^ 200000 ∧ ∀ r : Int, 0 ≤ r → r < 2147483629 → Q (.int r) H
theorem nb_mul {a b : Int} {m n : Nat} (ha : a.natAbs < 2 ^ m) (hb : b.natAbs < 2 ^ n) : (a * b).natAbs < 2 ^ (m + n) := by
  rw [Int.natAbs_mul, Nat.pow_add]
  exact Nat.mul_lt_mul'' ha hb
theorem nb_add {a b : Int} {m n : Nat} (ha : a.natAbs < 2 ^ m) (hb : b.natAbs < 2 ^ n) : (a + b).natAbs < 2 ^ (m + n + 1) := by
  have h1 : 2 ^ m ≤ 2 ^ (m + n) := Nat.pow_le_pow_right (by decide) (Nat.le_add_right _ _)
  have h2 : 2 ^ n ≤ 2 ^ (m + n) := Nat.pow_le_pow_right (by decide) (Nat.le_add_left _ _)
  have h3 := Int.natAbs_add_le a b
  rw [Nat.pow_succ]
  generalize 2 ^ (m + n) = z at *
  generalize 2 ^ m = z1 at *
  generalize 2 ^ n = z2 at *
  omega
section
variable {X : Cx}
theorem mixed_body {cell k : Str} {q0 q1 q2 q3 q4 q5 q6 q7 q8 q9 q10 q11 q12 q13 q14 q15 q16 q17 q18 q19 q20 q21 q22 q23 q24 q25 q26 q27 q28 : Pos} {j0 j1 j2 j3 j4 j5 j6 j7 : Nat} {vs : List V} {H : Hp} {Q : VK} {Ef : XK}
    (hN : X.N = [cell, k]) (nd : [cell, k].Nodup) (l0 : X.env.scope.names.lookup cell = some .local) (l1 : X.env.scope.names.lookup k = some .local) (d0 : dbg cell = true) (d1 : dbg k = true) (hk : X.env.scope.kind = .function)
    (hi : L2.Gl X "int") (mi : X.mg "int" = none) (h : spMixed vs H Q Ef) :
    ∃ t, PSs X [.Assign [.Name cell q0] (.BinOp (.Call (.Name "int" q1) [.Name cell q2] [] q3) .Mod (.Constant (.int 2147483647) j0 q4) q5) q6,
      .Return (some (.BinOp (.BinOp (.BinOp (.BinOp (.BinOp (.BinOp (.Name cell q7) .Mult (.BinOp (.Constant (.int 48271) j1 q8) .Add (.BinOp (.BinOp (.Constant (.int 2) j2 q9) .Mult (.Name k q10) q11) .Mult (.Name k q12) q13) q14) q15) .Add (.BinOp (.Constant (.int 69621) j3 q16) .Mult (.Name k q17) q18) q19) .Add (.Constant (.int 11) j4 q20) q21) .Mod (.Constant (.int 2147483647) j5 q22) q23) .Mult (.Constant (.int 69621) j6 q24) q25) .Mod (.Constant (.int 2147483629) j7 q26) q27)) q28] t ∧
      t { nx := fun _ H' => Q .non H', rt := Q } (start [cell, k] vs) H := by
  have nd' : X.N.Nodup := by rw [hN]; exact nd
  have n0 : X.N[0]? = some cell := by rw [hN]; rfl
  have n1 : X.N[1]? = some k := by rw [hN]; rfl
  have v0 : ∀ {p : Pos}, PE X (.Name cell p) (tVar 0) := pe_var n0 (.inl l0) (dbg_of d0).1 (dbg_of d0).2
  have v1 : ∀ {p : Pos}, PE X (.Name k p) (tVar 1) := pe_var n1 (.inl l1) (dbg_of d1).1 (dbg_of d1).2
  have f0 : X.fn cell = true ∨ X.env.scope.names.lookup cell = some .local := .inr l0
  obtain ⟨c, kk, rfl, hb, hQ⟩ := h
  refine ⟨_, pss_cons (ps_set (i := 0) nd' n0 (.inl l0) (pe_op op_mod (pe_callTy call_int1 hi mi (by rfl) (pa_cons v0 pa_nil)) pe_int))
    (pss_one (ps_ret (pe_op op_mod (pe_op op_mulW (pe_op op_mod (pe_op op_add (pe_op op_add (pe_op op_mulW v0 (pe_op op_add pe_int (pe_op op_mulW (pe_op op_mulW pe_int v1) v1))) (pe_op op_mulW pe_int v1)) pe_int) pe_int) pe_int) pe_int))), ?_⟩
  have e0 : start [cell, k] [.int c, .int kk] = [some (.int c), some (.int kk)] := rfl
  rw [e0]
  refine ⟨_, rfl, .inl ⟨c, rfl, _, _, rfl, rfl, by show (0 : Int) < 2147483647; decide, ?_⟩⟩
  have hc1 := Int.emod_nonneg c (show (2147483647 : Int) ≠ 0 by decide)
  have hc2 := Int.emod_lt_of_pos c (show (0 : Int) < 2147483647 by decide)
  have hc' : (c % 2147483647).natAbs < 2 ^ 31 := by omega
  have k2 := nb_mul (show (2 : Int).natAbs < 2 ^ 2 by decide) hb
  have k3 := nb_mul k2 hb
  have k4 := nb_add (show (48271 : Int).natAbs < 2 ^ 16 by decide) k3
  have w31 : ∀ {i j : Int} {n : Nat}, i.natAbs < 2 ^ 31 → j.natAbs < 2 ^ n → 0 < n → n ≤ 900000 → CMulW i j := fun h1 h2 h3 h4 => wide_mul h1 h2 (by decide) h3 (by omega)
  refine ⟨_, rfl, _, rfl, _, _, rfl, rfl, w31 (show (2 : Int).natAbs < 2 ^ 31 by decide) hb (by decide) (by decide), _, rfl, _, _, rfl, rfl, wide_mul k2 hb (by decide) (by decide) (by decide), _, _, rfl, rfl, _, _, rfl, rfl, w31 hc' k4 (by decide) (by decide),
    _, rfl, _, _, rfl, rfl, w31 (show (69621 : Int).natAbs < 2 ^ 31 by decide) hb (by decide) (by decide), _, _, rfl, rfl, _, _, rfl, rfl, _, _, rfl, rfl, (by show (0 : Int) < 2147483647; decide), ?_⟩
  have hz' : ∀ z : Int, (z % 2147483647).natAbs < 2 ^ 31 := fun z => by
    have z1 := Int.emod_nonneg z (show (2147483647 : Int) ≠ 0 by decide)
    have z2 := Int.emod_lt_of_pos z (show (0 : Int) < 2147483647 by decide)
    omega
  refine ⟨_, _, rfl, rfl, w31 (hz' _) (show (69621 : Int).natAbs < 2 ^ 31 by decide) (by decide) (by decide), _, _, rfl, rfl, (by show (0 : Int) < 2147483629; decide), ?_⟩
  exact hQ _ (Int.emod_nonneg _ (show (2147483629 : Int) ≠ 0 by decide)) (Int.emod_lt_of_pos _ (show (0 : Int) < 2147483629 by decide))
/-- a call of a def, its promise told -/
theorem pe_callG {k : Nat} {f : Addr} {fd : FuncData} {ps : List Str} {sp : Sp} {x : Str} {p pos : Pos} {e : Expr} {es : List Expr} {ta : TA} {W : WX} (FG : FnG X.prog X.w X.K X.mg X.base k f fd ps sp) (hgd : X.A.guards = some []) (hr : Room k X.A) (tk : Takes X W) (hg : L2.Gl X x) (hm : X.mg x = some (.ref f)) (hkp : PySem.W.keepIn X.K (.ref f) = true) (hb : L2.Binds X.K fd ps [])
    (hdb : (x == ("__debug__" : Str)) = false) (ha : PA X (e :: es) ta) (he : starEach (e :: es) X.env = (false, eval e X.env) :: starEach es X.env := by rfl) (hpl : (backTo pos (starEach es X.env)).any (·.1) = false := by rfl) :
    PE X (.Call (.Name x p) (e :: es) [] pos) (fun σ H Q => ta σ H fun vs H1 => vs.length = ps.length ∧ sp vs H1 Q fun _ _ _ => False) := by
  refine ⟨fun pins s σ H Q I h => ?_⟩
  refine wpAny_Call_Name_kw (ld_glob I hg hm ?_ hdb)
  refine PySem.W.callWith_K (h₀ := X.base) I.ok.mod.kin hkp (thn (ha.run pos pins s σ H _ I h) fun us s1 ⟨vs, H1, I1, r, hl, q⟩ => ⟨I1.kIn, ?_⟩) he hpl
  have hus : (us ++ ([] : List Value)).length = ps.length := by rw [List.append_nil, ← r.length, hl]
  have hb' := hb s1 us I1.kIn hus
  rw [List.append_nil] at hb'
  refine wpAny_call (codeAny_mono (run_G FG hgd hr tk (fun _ _ _ z => z.elim) I1 hb' r hl q) fun r s2 hq => ?_)
  cases r with
  | error e => exact hq
  | ok fl => cases fl <;> first | exact hq | exact hq.elim
end
/-- the state's place is new written: all else stands -/
theorem st_upd {G : Gl0} {R : Rp} {S H : Hp} {b : Nat} (w : Wd G R S H b) {a : Addr} {o : HO} (ha : R.st a) : (∀ c u, S c = some u → upd H a o c = some u) ∧ (∀ c u, H c = some u → ¬ R.st c → upd H a o c = some u) ∧ (∀ c u, H c = some u → ∃ v, upd H a o c = some v) := by
  refine ⟨fun c u h => ?_, fun c u h n => ?_, fun c u h => ?_⟩
  · rw [upd_ne (fun z => by rw [z, w.nst a ha] at h; cases h)]
    exact w.sub c u h
  · rw [upd_ne (fun z => n (by rw [z]; exact ha))]
    exact h
  · by_cases z : c = a
    · subst z
      exact ⟨o, upd_same⟩
    · exact ⟨u, by rw [upd_ne z]; exact h⟩
/-- a state that is new written in its three places -/
theorem draw_behind {G : Gl0} {R : Rp} {S H H' : Hp} {b : Nat} (w : Wd G R S H b) (h1 : ∀ c u, H c = some u → ¬ R.st c → H' c = some u) (h2 : ∀ c u, H c = some u → ∃ v, H' c = some v) (st : StOk R H' (b + 1)) : Behind G R S H b 1 S H' (b + 1) := by
  refine ⟨⟨fun _ _ z => z, fun a o h n _ => h1 a o h n, fun _ _ _ => rfl, h2⟩, ⟨fun a o h => ?_, w.nst, w.ntb, st, ⟨fun p hp => ?_, fun p hp => ?_⟩⟩, Nat.le_refl _⟩
  · exact h1 a o (w.sub a o h) fun z => by rw [w.nst a z] at h; cases h
  · obtain ⟨ps, e1, e2, e3⟩ := w.tb.t p hp
    have nt : ¬ R.st p.1 := by
      rintro ⟨on, y⟩
      obtain ⟨z, z1, z2, z3, _⟩ := w.st.ex on
      rcases y with y | y | y <;> rw [y] at e1
      · rw [z1] at e1; cases e1
      · rw [z2] at e1; cases e1
      · rw [z3] at e1; cases e1
    refine ⟨ps, h1 _ _ e1 nt, e2, fun pos cv hc => ?_⟩
    obtain ⟨c, c1, c2⟩ := e3 pos cv hc
    exact ⟨c, c1, h1 _ _ c2 (code_nst w c2)⟩
  · exact h1 _ _ (w.tb.c p hp) (code_nst w (w.tb.c p hp))
section
variable {X : Cx}
theorem draw_body {G : Gl0} {st lim at_ pl lf nu : Str} {W : WX} {fm : Addr} {fd : FuncData} {psm : List Str} {vs : List V} {H : Hp} {Q : VK} {Ef : XK}
    {q0 q1 q2 q3 q4 q5 q6 q7 q8 q9 q10 q11 q12 q13 q14 q15 q16 q17 q18 q19 q20 q21 q22 q23 q24 q25 q26 q27 q28 q29 q30 q31 q32 q33 q34 q35 q36 q37 q38 q39 q40 q41 q42 q43 q44 q45 q46 q47 q48 q49 q50 q51 q52 q53 q54 q55 q56 q57 q58 q59 q60 q61 q62 q63 q64 q65 q66 q67 q68 q69 q70 q71 q72 q73 q74 q75 q76 q77 q78 q79 q80 : Pos} {j0 j1 j2 j3 j4 j5 j6 j7 j8 j9 j10 j11 : Nat}
    (hN : X.N = [st, lim, at_, pl, lf, nu]) (nd : X.N.Nodup) (lo : ∀ x ∈ [st, lim, at_, pl, lf, nu], X.env.scope.names.lookup x = some .local ∧ dbg x = true) (hu : X.A.units + 1 < cLine) (hgd : X.A.guards = some []) (hr : Room 1 X.A) (tk : Takes X W)
    (hi : L2.Gl X "int") (mi : X.mg "int" = none) (hl : L2.Gl X "len") (ml : X.mg "len" = none) (hm : L2.Gl X "_law_mixed") (mm : X.mg "_law_mixed" = some (.ref fm)) (km : PySem.W.keepIn X.K (.ref fm) = true) (FG : FnG X.prog X.w X.K X.mg X.base 1 fm fd psm spMixed) (hps : psm.length = 2) (hb : L2.Binds X.K fd psm [])
    (h : spDraw G vs H Q Ef) :
    ∃ t, PSs X [.Assign [.Name at_ q0] (.Subscript (.Name st q1) (.Constant (.str "at") j0 q2) q3) q4,
      .Assign [.Subscript (.Name st q5) (.Constant (.str "at") j1 q6) q7] (.BinOp (.Name at_ q8) .Add (.Constant (.int 1) j2 q9) q10) q11,
      .Assign [.Name pl q12] (.BinOp (.Call (.Name "int" q13) [.Name at_ q14] [] q15) .Mod (.Call (.Name "len" q16) [.Subscript (.Name st q17) (.Constant (.str "cells") j3 q18) q19] [] q20) q21) q22,
      .Assign [.Name lf q23] (.Subscript (.Subscript (.Name st q24) (.Constant (.str "lefts") j4 q25) q26) (.Name pl q27) q28) q29,
      .If (.Compare (.Name lf q30) [.Gt] [.Constant (.int 0) j5 q31] q32) [
        .Assign [.Subscript (.Subscript (.Name st q33) (.Constant (.str "lefts") j6 q34) q35) (.Name pl q36) q37] (.BinOp (.Name lf q38) .FloorDiv (.Name lim q39) q40) q41,
        .Return (some (.BinOp (.Call (.Name "int" q42) [.Name lf q43] [] q44) .Mod (.Name lim q45) q46)) q47] [] q48,
      .Assign [.Name nu q49] (.Call (.Name "_law_mixed" q50) [.Call (.Name "_law_mixed" q51) [.Subscript (.Subscript (.Name st q52) (.Constant (.str "cells") j7 q53) q54) (.Name pl q55) q56, .Name at_ q57] [] q58, .BinOp (.Constant (.int 40) j8 q59) .Add (.Name at_ q60) q61] [] q62) q63,
      .Return (some (.BinOp (.BinOp (.Call (.Name "int" q64) [.BinOp (.BinOp (.Name nu q65) .Mult (.Constant (.int 2147483647) j9 q66) q67) .Add (.Call (.Name "_law_mixed" q68) [.Name nu q69, .BinOp (.Constant (.int 7) j10 q70) .Add (.Name at_ q71) q72] [] q73) q74] [] q75) .FloorDiv (.Constant (.int 64) j11 q76) q77) .Mod (.Name lim q78) q79)) q80] t ∧
      t { nx := fun _ H' => Q .non H', rt := Q } (start [st, lim, at_, pl, lf, nu] vs) H := by
  have n0 : X.N[0]? = some st := by rw [hN]; rfl
  have n1 : X.N[1]? = some lim := by rw [hN]; rfl
  have n2 : X.N[2]? = some at_ := by rw [hN]; rfl
  have n3 : X.N[3]? = some pl := by rw [hN]; rfl
  have n4 : X.N[4]? = some lf := by rw [hN]; rfl
  have n5 : X.N[5]? = some nu := by rw [hN]; rfl
  obtain ⟨l0, d0⟩ := lo st (by simp)
  obtain ⟨l1, d1⟩ := lo lim (by simp)
  obtain ⟨l2, d2⟩ := lo at_ (by simp)
  obtain ⟨l3, d3⟩ := lo pl (by simp)
  obtain ⟨l4, d4⟩ := lo lf (by simp)
  obtain ⟨l5, d5⟩ := lo nu (by simp)
  have v0 : ∀ {p : Pos}, PE X (.Name st p) (tVar 0) := pe_var n0 (.inl l0) (dbg_of d0).1 (dbg_of d0).2
  have v1 : ∀ {p : Pos}, PE X (.Name lim p) (tVar 1) := pe_var n1 (.inl l1) (dbg_of d1).1 (dbg_of d1).2
  have v2 : ∀ {p : Pos}, PE X (.Name at_ p) (tVar 2) := pe_var n2 (.inl l2) (dbg_of d2).1 (dbg_of d2).2
  have v3 : ∀ {p : Pos}, PE X (.Name pl p) (tVar 3) := pe_var n3 (.inl l3) (dbg_of d3).1 (dbg_of d3).2
  have v4 : ∀ {p : Pos}, PE X (.Name lf p) (tVar 4) := pe_var n4 (.inl l4) (dbg_of d4).1 (dbg_of d4).2
  have v5 : ∀ {p : Pos}, PE X (.Name nu p) (tVar 5) := pe_var n5 (.inl l5) (dbg_of d5).1 (dbg_of d5).2
  have f2 : X.fn at_ = true ∨ X.env.scope.names.lookup at_ = some .local := .inr l2
  have f3 : X.fn pl = true ∨ X.env.scope.names.lookup pl = some .local := .inr l3
  have f4 : X.fn lf = true ∨ X.env.scope.names.lookup lf = some .local := .inr l4
  have f5 : X.fn nu = true ∨ X.env.scope.names.lookup nu = some .local := .inr l5
  have dm : (("_law_mixed" : Str) == ("__debug__" : Str)) = false := by decide +kernel
  refine ⟨_, pss_cons (ps_set (i := 2) nd n2 (.inl l2) (pe_dget hu v0 pe_str fun _ _ => rfl))
    (pss_cons (ps_dput hu v0 pe_str (pe_op op_add v2 pe_int) rfl)
    (pss_cons (ps_set (i := 3) nd n3 (.inl l3) (pe_op op_mod (pe_callTy call_int1 hi mi (by rfl) (pa_cons v2 pa_nil)) (pe_callB call_len_seq hl ml (by rfl) (pa_cons (pe_dget hu v0 pe_str fun _ _ => rfl) pa_nil))))
    (pss_cons (ps_set (i := 4) nd n4 (.inl l4) (pe_ix ix_list (pe_dget hu v0 pe_str fun _ _ => rfl) v3 fun _ _ => rfl))
    (pss_cons (ps_if (pt_cmpR op_gt v4 pe_int (nomark _)) (pss_cons (ps_asg (pe_op op_fdivW v4 v1) (pg_sub (pe_dget hu v0 pe_str fun _ _ => rfl) v3 set_list)) (pss_one (ps_ret (pe_op op_mod (pe_callTy call_int1 hi mi (by rfl) (pa_cons v4 pa_nil)) v1)))) pss_nil)
    (pss_cons (ps_set (i := 5) nd n5 (.inl l5) (pe_callG FG hgd hr tk hm mm km hb dm (pa_cons (pe_callG FG hgd hr tk hm mm km hb dm (pa_cons (pe_ix ix_list (pe_dget hu v0 pe_str fun _ _ => rfl) v3 fun _ _ => rfl) (pa_cons v2 pa_nil))) (pa_cons (pe_op op_add pe_int v2) pa_nil))))
    (pss_one (ps_ret (pe_op op_mod (pe_op op_fdivW (pe_callTy call_int1 hi mi (by rfl) (pa_cons (pe_op op_add (pe_op op_mulW v5 pe_int) (pe_callG FG hgd hr tk hm mm km hb dm (pa_cons v5 (pa_cons (pe_op op_add pe_int v2) pa_nil)))) pa_nil)) pe_int) v1)))))))), ?_⟩
  obtain ⟨R, S, b, n, rfl, on, hfA, hn0, hn1, wd, hbb, hQ⟩ := h
  obtain ⟨z, z1, z2, z3, z4, z5, z6, z7, z8, z9, z10⟩ := wd.st.ex on
  have hlen : (start [st, lim, at_, pl, lf, nu] [V.ref R.sp.1, V.int n]) = [some (.ref R.sp.1), some (.int n), none, none, none, none] := rfl
  rw [hlen]
  let kv : Int → List (Key × V) := fun a => [(keyS "cells", .ref R.sc), (keyS "lefts", .ref R.sl), (keyS "at", .int a)]
  have gA : ∀ {H' : Hp} {a : Int}, H' R.sp.1 = some (.dK (kv a)) → DGet H' R.sp.1 (.str "at") (some (.int a)) := fun {H' a} e => DGet.k (k := keyS "at") e
  have gC : ∀ {H' : Hp} {a : Int}, H' R.sp.1 = some (.dK (kv a)) → DGet H' R.sp.1 (.str "cells") (some (.ref R.sc)) := fun {H' a} e => DGet.k (k := keyS "cells") e
  have gL : ∀ {H' : Hp} {a : Int}, H' R.sp.1 = some (.dK (kv a)) → DGet H' R.sp.1 (.str "lefts") (some (.ref R.sl)) := fun {H' a} e => DGet.k (k := keyS "lefts") e
  have hp : ∀ {H' : Hp} {a c : Int}, H' R.sp.1 = some (.dK (kv a)) → DPut H' R.sp.1 (.str "at") (.int c) (upd H' R.sp.1 (.dK (kv c))) := fun {H' a c} e => DPut.k (k := keyS "at") e (by show 3 < sizeLine; decide)
  have ne1 : R.sc ≠ R.sp.1 := fun y => by rw [y, z1] at z2; cases z2
  have ne2 : R.sl ≠ R.sp.1 := fun y => by rw [y, z1] at z3; cases z3
  have ne3 : R.sc ≠ R.sl := wd.st.ne on
  have hlc : (z.cells.map V.int).length = z.cells.length := by simp
  have hll : (z.lefts.map V.int).length = z.cells.length := by simp [z4]
  let H1 : Hp := upd H R.sp.1 (.dK (kv (z.at_ + 1)))
  have uo : ∀ c, c ≠ R.sp.1 → H1 c = H c := fun c h => upd_ne h
  have u1 : H1 R.sp.1 = some (.dK (kv (z.at_ + 1))) := upd_same
  have u2 : H1 R.sc = some (.lst (z.cells.map V.int)) := by show upd H R.sp.1 _ R.sc = _; rw [upd_ne ne1]; exact z2
  have u3 : H1 R.sl = some (.lst (z.lefts.map V.int)) := by show upd H R.sp.1 _ R.sl = _; rw [upd_ne ne2]; exact z3
  have p0 : (0 : Int) < (z.cells.map V.int).length := by rw [hlc]; omega
  let pi : Int := z.at_ % (z.cells.map V.int).length
  have pi0 : 0 ≤ pi := Int.emod_nonneg _ (by omega)
  have pi1 : pi < z.cells.length := by
    have h1 : pi < ((z.cells.map V.int).length : Int) := Int.emod_lt_of_pos _ p0
    have h2 : ((z.cells.map V.int).length : Int) = z.cells.length := by rw [hlc]
    exact Int.lt_of_lt_of_le h1 (Int.le_of_eq h2)
  have pin : pi.toNat < z.cells.length := by omega
  obtain ⟨lv, elv⟩ : ∃ x, z.lefts[pi.toNat]? = some x := ⟨_, List.getElem?_eq_getElem (by omega)⟩
  obtain ⟨cv, ecv⟩ : ∃ x, z.cells[pi.toNat]? = some x := ⟨_, List.getElem?_eq_getElem pin⟩
  have hlv := z8 lv (List.mem_of_getElem? elv)
  have ix : ∀ {xs : List V}, xs.length = z.cells.length → ixN xs.length pi = some pi.toNat := fun {xs} e => by
    unfold ixN
    rw [if_pos pi0, if_pos (by rw [e]; exact pi1)]
  have atL : atI (z.lefts.map V.int) pi = some (.int lv) := by
    unfold atI
    rw [ix hll]
    show (z.lefts.map V.int)[pi.toNat]? = _
    rw [List.getElem?_map, elv]
    rfl
  have atC : atI (z.cells.map V.int) pi = some (.int cv) := by
    unfold atI
    rw [ix hlc]
    show (z.cells.map V.int)[pi.toNat]? = _
    rw [List.getElem?_map, ecv]
    rfl
  have bb : ∀ c : Int, 0 ≤ c → c < 2 ^ 31 → (c + z.at_).natAbs < 2 ^ 200000 := fun c h0 h1 => by
    have e1 : z.at_.natAbs ≤ 2 ^ 100000 := by
      have : b ≤ 2 ^ 100000 := Nat.le_trans (Nat.le_of_succ_le hbb) (Nat.le_refl _)
      omega
    have e2 : c.natAbs < 2 ^ 31 := by omega
    have e3 := Int.natAbs_add_le c z.at_
    have e4 : (2 : Nat) ^ 200000 = 2 ^ 99999 * (2 ^ 100000 * 2) := by rw [← Nat.pow_succ, ← Nat.pow_add]
    have e5 : (2 : Nat) ^ 31 ≤ 2 ^ 100000 := Nat.pow_le_pow_right (by decide) (by decide)
    have e6 : 1 ≤ (2 : Nat) ^ 99999 := Nat.one_le_two_pow
    rw [e4]
    generalize (2 : Nat) ^ 100000 = w at *
    generalize (2 : Nat) ^ 99999 = y at *
    have : w * 2 ≤ y * (w * 2) := Nat.le_mul_of_pos_left _ e6
    omega
  have b0 : z.at_.natAbs < 2 ^ 200000 := by
    have := bb 0 (by decide) (by decide)
    rwa [Int.zero_add] at this
  refine ⟨_, rfl, R.sp.1, _, rfl, gA z1, ?_⟩
  refine ⟨_, rfl, _, _, rfl, rfl, _, rfl, R.sp.1, H1, rfl, hp z1, ?_⟩
  refine ⟨_, rfl, .inl ⟨_, rfl, _, rfl, R.sp.1, _, rfl, gC u1, R.sc, _, rfl, .inl (SqL.of u2), _, _, rfl, rfl, p0, ?_⟩⟩
  refine ⟨_, rfl, R.sp.1, _, rfl, gL u1, _, rfl, R.sl, _, _, _, rfl, rfl, SqL.of u3, atL, ?_⟩
  refine ⟨_, rfl, _, _, rfl, rfl, _, rfl, ?_⟩
  have fin : ∀ (x : Int) (H2 : Hp), 0 ≤ x → x < n → (∀ c u, H c = some u → ¬ R.st c → H2 c = some u) → (∀ c u, H c = some u → ∃ v, H2 c = some v) → StOk R H2 (b + 1) → Q (.int x) H2 := fun x H2 h0 h1 k1 k2 k3 => by
    have e : x = ((x.toNat : Nat) : Int) := by omega
    rw [e]
    exact hQ x.toNat (by omega) S H2 (b + 1) (draw_behind wd k1 k2 k3)
  have st1 : R.st R.sp.1 := ⟨on, .inl rfl⟩
  have st3 : R.st R.sl := ⟨on, .inr (.inr rfl)⟩
  have hn : n ≠ 0 := by omega
  by_cases hlv0 : (0 : Int) < lv
  · show (if decide (0 < lv) = true then _ else _)
    rw [if_pos (decide_eq_true hlv0)]
    have hdn : lv / n ≤ lv := Int.ediv_le_self _ hlv.1
    have hd0 : 0 ≤ lv / n := Int.ediv_nonneg hlv.1 (by omega)
    refine ⟨_, rfl, _, rfl, _, _, rfl, rfl, wide_div hn0 (b := 9000) (by omega) (by decide) (by decide), _, rfl, R.sp.1, _, rfl, gL u1, _, rfl, R.sl, _, _, _, rfl, rfl, u3, ix hll, ?_⟩
    refine ⟨_, rfl, .inl ⟨_, rfl, _, rfl, _, _, rfl, rfl, hn0, ?_⟩⟩
    refine fin _ _ (Int.emod_nonneg _ hn) (Int.emod_lt_of_pos _ hn0) (fun c u e ns => ?_) (fun c u e => ?_) ⟨fun _ => ⟨⟨z.cells, z.lefts.set pi.toNat (lv / n), z.at_ + 1⟩, ?_⟩, wd.st.ne⟩
    · rw [upd_ne (fun y => ns (by rw [y]; exact st3)), uo c (fun y => ns (by rw [y]; exact st1))]
      exact e
    · by_cases y : c = R.sl
      · subst y
        exact ⟨_, upd_same⟩
      · rw [upd_ne y]
        by_cases y2 : c = R.sp.1
        · subst y2
          exact ⟨_, u1⟩
        · exact ⟨u, by rw [uo c y2]; exact e⟩
    · refine ⟨by rw [upd_ne ne2.symm]; exact u1, by rw [upd_ne ne3]; exact u2, ?_, by simp [z4], z5, z6, z7, fun c hc => ?_, by show (0 : Int) ≤ z.at_ + 1; omega, by show z.at_ + 1 ≤ ((b + 1 : Nat) : Int); omega⟩
      · rw [upd_same, List.map_set]
      · rcases List.mem_or_eq_of_mem_set hc with y | y
        · exact z8 c y
        · subst y
          exact ⟨hd0, by have := hlv.2; omega⟩
  · show (if decide (0 < lv) = true then _ else _)
    rw [if_neg (by rw [decide_eq_false hlv0]; decide)]
    refine ⟨_, rfl, R.sp.1, _, rfl, gC u1, _, rfl, R.sc, _, _, _, rfl, rfl, SqL.of u2, atC, _, rfl, hps.symm, cv, z.at_, rfl, b0, fun r1 _ _ => ?_⟩
    refine ⟨_, rfl, _, _, rfl, rfl, hps.symm, r1, _, rfl, bb 40 (by decide) (by decide), fun r2 h20 h21 => ?_⟩
    refine ⟨_, rfl, _, _, rfl, rfl, wide_mul (a := 32) (b := 32) (by omega) (by decide) (by decide) (by decide) (by decide), _, rfl, _, rfl, _, _, rfl, rfl, hps.symm, r2, _, rfl, bb 7 (by decide) (by decide), fun r3 _ _ => ?_⟩
    refine ⟨_, _, rfl, rfl, .inl ⟨_, rfl, _, _, rfl, rfl, wide_div (b := 7) (by decide) (by decide) (by decide) (by decide), _, rfl, _, _, rfl, rfl, hn0, ?_⟩⟩
    refine fin _ _ (Int.emod_nonneg _ hn) (Int.emod_lt_of_pos _ hn0) (fun c u e ns => ?_) (fun c u e => ?_) ⟨fun _ => ⟨⟨z.cells, z.lefts, z.at_ + 1⟩, u1, u2, u3, z4, z5, z6, z7, z8, by show (0 : Int) ≤ z.at_ + 1; omega, by show z.at_ + 1 ≤ ((b + 1 : Nat) : Int); omega⟩, wd.st.ne⟩
    · rw [uo c (fun y => ns (by rw [y]; exact st1))]
      exact e
    · by_cases y2 : c = R.sp.1
      · subst y2
        exact ⟨_, u1⟩
      · exact ⟨u, by rw [uo c y2]; exact e⟩
end
end Cl
set_option autoImplicit false
set_option Elab.async false
set_option linter.all false
set_option maxRecDepth 100000
set_option maxHeartbeats 4000000
/-! Plain parameters are bound in their order. -/
namespace Cl
open PySem PySem.Spec PyProof.Rows L2
theorem fmap_congr {α β : Type} {f g : α → Option β} : ∀ {l : List α}, (∀ x ∈ l, f x = g x) → l.filterMap f = l.filterMap g
  | [], _ => rfl
  | a :: l, h => by
    rw [List.filterMap_cons, List.filterMap_cons, h a (List.mem_cons_self ..), fmap_congr fun x hx => h x (List.mem_cons_of_mem _ hx)]
theorem zip_look : ∀ {ps : List Str} {us : List Value}, us.length = ps.length → ps.Nodup → (ps.filterMap fun n => ((ps.zip us).lookup n).map (n, ·)) = ps.zip us := by
  intro ps
  induction ps with
  | nil => intro us h _; cases us with
    | nil => rfl
    | cons _ _ => simp at h
  | cons p ps ih =>
    intro us h nd
    cases us with
    | nil => simp at h
    | cons u us =>
      have h' : us.length = ps.length := by simpa using h
      have nd' := List.nodup_cons.mp nd
      rw [List.filterMap_cons]
      have e1 : ((p :: ps).zip (u :: us)).lookup p = some u := by simp [List.zip_cons_cons, List.lookup]
      rw [e1]
      show (p, u) :: _ = (p, u) :: ps.zip us
      have e2 : (ps.filterMap fun n => (((p :: ps).zip (u :: us)).lookup n).map (n, ·)) = ps.filterMap fun n => ((ps.zip us).lookup n).map (n, ·) := fmap_congr fun x hx => by
        have ne : (x == p) = false := beq_false_of_ne fun e => nd'.1 (by rw [← e]; exact hx)
        simp only [List.zip_cons_cons, List.lookup, ne]
      rw [e2, ih h' nd'.2]
theorem zip_some : ∀ {ps : List Str} {us : List Value}, us.length = ps.length → ∀ x ∈ ps, ((ps.zip us).lookup x).isNone = false
  | [], _, _, x, h => by cases h
  | p :: ps, [], h, x, hx => by simp at h
  | p :: ps, u :: us, h, x, hx => by
    rw [List.zip_cons_cons, List.lookup_cons]
    by_cases e : x = p
    · simp [e]
    · rw [show (x == p) = false from beq_false_of_ne e]
      refine zip_some (by simpa using h) x ?_
      rcases List.mem_cons.mp hx with z | z
      · exact absurd z e
      · exact z
theorem bind_pos {fd : FuncData} {as : List Arg} {ds : List PySem.Expr} (hp : fd.params = ⟨[], as, none, [], [], none, ds⟩) (hd : fd.defaults = .none) (nd : (as.map (·.arg)).Nodup) {us : List Value} (hl : us.length = (as.map (·.arg)).length) :
    bindArgs fd ⟨us, []⟩ = pure ((as.map (·.arg)).zip us) := by
  have e0 : ∀ (f : Str → Bool), (∀ x ∈ as.map (·.arg), f x = false) → (as.map (·.arg)).filter f = [] := fun f h => List.filter_eq_nil_iff.mpr fun x hx => by rw [h x hx]; decide
  have e1 := e0 _ (zip_some hl)
  have e2 := zip_look hl nd
  unfold bindArgs
  rw [hp, hd]
  simp only [List.map_nil, List.nil_append, List.append_nil]
  generalize as.map (·.arg) = ps at *
  simp [seqItems?, hl, e1, e2]
  rfl
/-- parameters without more -/
def plainB : Arguments → List Str → Bool
  | ⟨[], as, none, [], [], none, _⟩, ps => decide (as.map (·.arg) = ps)
  | _, _ => false
theorem bind_plain {fd : FuncData} {ps : List Str} (hp : plainB fd.params ps = true) (hd : fd.defaults = .none) (nd : ps.Nodup) {us : List Value} (hl : us.length = ps.length) : bindArgs fd ⟨us, []⟩ = pure (ps.zip us) := by
  unfold plainB at hp
  split at hp
  · rename_i as ds e
    cases of_decide_eq_true hp
    exact bind_pos e hd nd hl
  · cases hp
/-- a def's names -/
def notFreeB : NameKind → Bool
  | .free => false
  | _ => true
def scopeB (N ps : List Str) (sc : Scope) : Bool := decide (sc.kind = .function) && !sc.isCoroutine && !sc.isGenerator && decide N.Nodup && decide (N.take ps.length = ps) && (ps.all fun x => match sc.names.lookup x with | some .local => true | some .cell => true | _ => false) && sc.names.all fun y => notFreeB y.2
theorem scope_of {N ps : List Str} {sc : Scope} (h : scopeB N ps sc = true) : FnScope N ps sc := by
  simp only [scopeB, Bool.and_eq_true, decide_eq_true_eq, Bool.not_eq_true'] at h
  obtain ⟨⟨⟨⟨⟨⟨h1, h2⟩, h3⟩, h4⟩, h5⟩, h6⟩, h7⟩ := h
  refine ⟨h1, h2, h3, h4, h5, fun x hx => ?_, fun y hy z => ?_⟩
  · have q := List.all_eq_true.mp h6 x hx
    split at q
    · exact .inl (by assumption)
    · exact .inr (by assumption)
    · cases q
  · have q := List.all_eq_true.mp h7 y hy
    rw [z] at q
    cases q
end Cl
set_option autoImplicit false
set_option Elab.async false
set_option linter.all false
set_option maxRecDepth 100000
set_option maxHeartbeats 4000000
/-! An own error's facts, looked up in the written part. -/
namespace Cl
open PySem PySem.Spec PyProof.Rows L2 PySem.W PySem.Calls
/-- the class's object -/
def clsB (K : Frag) (C : Addr) : Bool := match K.lookup C with
  | some o => (match o.data with
    | .cls cd => decide (o.cls = .type "type") && decide (cd.mro.head? = some (.ref C)) && PySem.HandSPX.refsVE cd.mro.tail && cd.hasDict && !cd.hasDel && decide (o.slots.size = 6) && decide (o.slots[4]? = some (some (.builtin "ValueError.__new__")))
    | _ => false)
  | none => false
theorem clsB_ok {K : Frag} {C : Addr} (h : clsB K C = true) : ∃ (nm q : Str) (N : Addr) (bs bm : List Value) (sn : List Str) (sub : List Value) (ab : Bool) (col : Option Bool) (dd : Option Addr) (k0 k1 k2 k3 k5 : Option Value),
    K.lookup C = some (excClassObj nm q C N bs bm true sn sub ab col dd k0 k1 k2 k3 k5 "ValueError.__new__") ∧ PySem.HandSPX.refsVE bm = true := by
  unfold clsB at h
  cases e : K.lookup C with
  | none => rw [e] at h; cases h
  | some o =>
    rw [e] at h
    obtain ⟨oc, od, dt, sl⟩ := o
    cases dt with
    | cls cd =>
      simp only [Bool.and_eq_true, decide_eq_true_eq, Bool.not_eq_true'] at h
      obtain ⟨⟨⟨⟨⟨⟨h1, h2⟩, h3⟩, h4⟩, h5⟩, h6⟩, h7⟩ := h
      obtain ⟨nm, bs, mro, ns, qn, hd, sn, sub, ab, col, del⟩ := cd
      simp only at h1 h2 h3 h4 h5 h6 h7
      subst h1 h4 h5
      cases mro with
      | nil => cases h2
      | cons m bm =>
        simp only [List.head?_cons, Option.some.injEq] at h2
        subst h2
        obtain ⟨l⟩ := sl
        match l, h6, h7 with
        | [k0, k1, k2, k3, k4, k5], _, h7 =>
          have e4 : k4 = some (.builtin "ValueError.__new__") := by simpa using h7
          subst e4
          exact ⟨nm, qn, ns, bs, bm, sn, sub, ab, col, od, k0, k1, k2, k3, k5, rfl, h3⟩
    | _ => cases h
/-- super().__init__(..), written on one line -/
def supB (as : List Expr → Bool) : Stmt → Bool
  | .Expr (.Call (.Attribute (.Call (.Name s _) [] [] _) m p3) es [] p5) _ => decide (s = ("super" : Str)) && decide (m = ("__init__" : Str)) && (p3.endLine == p5.line) && as es
  | _ => false
theorem supB_inv {as : List Expr → Bool} {st : Stmt} (h : supB as st = true) : ∃ (p1 p2 p3 p5 p6 : Pos) (es : List Expr), st = .Expr (.Call (.Attribute (.Call (.Name "super" p1) [] [] p2) "__init__" p3) es [] p5) p6 ∧ (p3.endLine == p5.line) = true ∧ as es = true := by
  unfold supB at h
  split at h
  · simp only [Bool.and_eq_true, decide_eq_true_eq] at h
    obtain ⟨⟨⟨rfl, rfl⟩, h3⟩, h4⟩ := h
    exact ⟨_, _, _, _, _, _, rfl, h3, h4⟩
  · cases h
def nameB (f : Str) : List Expr → Bool
  | [.Name v _] => decide (v = f)
  | _ => false
def setFB (f : Str) : Stmt → Bool
  | .Assign [.Attribute (.Name sn _) g _] (.Name v _) _ => decide (sn = ("self" : Str)) && decide (g = f) && decide (v = f)
  | _ => false
def iniB (fld : Option Str) (b : List Stmt) : Bool := match fld, b with
  | none, [st] => supB List.isEmpty st
  | some f, [st, st2] => supB (nameB f) st && setFB f st2
  | _, _ => false
theorem iniB_ok {fld : Option Str} {b : List Stmt} (h : iniB fld b = true) : ∃ (p1 p2 p3 p4 p5 p6 p7 p8 p9 p10 : Pos), b = .Expr (.Call (.Attribute (.Call (.Name "super" p1) [] [] p2) "__init__" p3) (superA (fld.getD "value") fld.isSome p4) [] p5) p6 :: superT "self" (fld.getD "value") fld p7 p8 p9 p10 ∧ (p3.endLine == p5.line) = true := by
  let z : Pos := ⟨0, 0, 0, 0⟩
  unfold iniB at h
  split at h
  · obtain ⟨p1, p2, p3, p5, p6, es, rfl, h1, h2⟩ := supB_inv h
    cases es with
    | nil => exact ⟨p1, p2, p3, z, p5, p6, z, z, z, z, rfl, h1⟩
    | cons _ _ => cases h2
  · rename_i f st st2
    simp only [Bool.and_eq_true] at h
    obtain ⟨p1, p2, p3, p5, p6, es, rfl, h1, h2⟩ := supB_inv h.1
    have h3 := h.2
    unfold setFB at h3
    unfold nameB at h2
    split at h3
    · split at h2
      · simp only [Bool.and_eq_true, decide_eq_true_eq] at h3
        obtain ⟨⟨rfl, rfl⟩, rfl⟩ := h3
        cases of_decide_eq_true h2
        exact ⟨p1, p2, p3, _, p5, p6, _, _, _, _, rfl, h1⟩
      · cases h2
    · cases h3
  · cases h
def namesB (fld : Option Str) : List Str := match fld with
  | some f => ["self", f]
  | none => ["self"]
/-- the __init__'s function -/
def fdB (file : Str) (K : Frag) (C : Addr) (fld : Option Str) (fd : FuncData) : Bool :=
  plainB fd.params (namesB fld) && decide (fd.defaults = .none) && (match fd.body with | .stmts b => iniB fld b | _ => false) && decide (fd.scope.kind = .function) && !fd.scope.isCoroutine && !fd.scope.isGenerator &&
  (fd.scope.names.all fun x => !decide (x.2 = .cell)) && decide (fd.scope.names.lookup ("super" : Str) = some .globalImplicit) && decide (fd.scope.names.lookup ("__class__" : Str) = some .free) && (namesB fld).all (fun x => decide (fd.scope.names.lookup x = some .local)) &&
  decide (fd.globals = mainGlobals) && decide (fd.builtins = builtinsNs) &&
  (match fd.closure.lookup ("__class__" : Str) with
    | some cc => (match K.lookup cc with
      | some o => (match o.data with | .cell (some v) => decide (v = .ref C) | _ => false)
      | none => false)
    | none => false) &&
  (match fd.code with
    | .ref cda => PySem.W.codeIn K (.ref cda) fd.qualname && (match K.lookup cda with
      | some o => (match o.data with | .fields vs => (match (vs[2]? : Option Value) with | some (.str f _) => decide (file = f) | _ => false) | _ => false)
      | none => false)
    | _ => false)
def fldIs (fld : Option Str) : Bool := match fld with
  | none => true
  | some f => decide (f = ("value" : Str)) || decide (f = ("place" : Str)) || decide (f = ("most" : Str))
/-- all that is asked of an error's class at C -/
def errB (prog : Program) (K : Frag) (C : Addr) (fld : Option Str) : Bool :=
  let fI := He.ma K C "__init__"
  (match K.lookup fI with
    | some o => decide (o.cls = .type "function") && (match o.data with | .func fd => fdB prog.main.file K C fld fd | _ => false)
    | none => false) &&
  clsB K C && fldIs fld && decide (PySem.W.mroIn K C (.ref C) = some true) && decide (PySem.W.ks_superIn K C C "__init__" = some (some (.builtin "ValueError.__init__"))) && decide (PySem.W.subIn K (.ref C) (.type "ValueError") = some true) &&
  decide (PySem.W.findIn K (.ref C) "__setattr__" = some (some (.builtin "object.__setattr__"))) && (match fld with | some f => decide (PySem.W.findIn K (.ref C) f = some none) | none => true) &&
  decide (PySem.W.findIn K (.ref C) "__init__" = some (some (.ref fI))) && decide (PySem.W.typeIn K (.ref fI) = some (.type "function")) && xfB K C && decide (PySem.W.typeIn K (.ref C) = some (.type "type")) && PySem.W.keepIn K (.ref C)
theorem errB_ok {prog : Program} {K : Frag} {C : Addr} {fld : Option Str} (ho : PySem.W.nsIn K cStatics "thirdparty.any" = some none) (ht : (prog.main.scope.names.lookup ("super" : Str)).isSome = false) (h : errB prog K C fld = true) :
    (∃ (fI cc cda : Addr) (fd : FuncData) (sn vn : Str), ErrC prog K C fI cc cda fd sn vn fld.isSome fld) ∧ XfC K C ∧ ∀ f, fld = some f → PySem.W.findIn K (.ref C) f = some none := by
  unfold errB at h
  simp only [Bool.and_eq_true, decide_eq_true_eq] at h
  obtain ⟨⟨⟨⟨⟨⟨⟨⟨⟨⟨⟨⟨h1, h2⟩, h3⟩, h4⟩, h5⟩, h6⟩, h7⟩, h8⟩, h9⟩, h10⟩, h11⟩, h12⟩, h13⟩ := h
  have hx := xfB_ok h11
  have hf : ∀ f, fld = some f → PySem.W.findIn K (.ref C) f = some none := fun f e => by
    subst e
    exact of_decide_eq_true h8
  refine ⟨?_, hx, hf⟩
  cases ef : K.lookup (He.ma K C "__init__") with
  | none => rw [ef] at h1; cases h1
  | some o =>
    rw [ef] at h1
    obtain ⟨oc, od, dt, osl⟩ := o
    cases dt with
    | func fd =>
      simp only [Bool.and_eq_true, decide_eq_true_eq] at h1
      obtain ⟨rfl, h1⟩ := h1
      unfold fdB at h1
      simp only [Bool.and_eq_true, decide_eq_true_eq, Bool.not_eq_true'] at h1
      obtain ⟨⟨⟨⟨⟨⟨⟨⟨⟨⟨⟨⟨⟨b1, b2⟩, b3⟩, b4⟩, b5⟩, b6⟩, b7⟩, b8⟩, b9⟩, b10⟩, b11⟩, b12⟩, b13⟩, b14⟩ := h1
      cases ebo : fd.body with
      | expr _ => rw [ebo] at b3; cases b3
      | stmts body =>
      rw [ebo] at b3
      obtain ⟨p1, p2, p3, p4, p5, p6, p7, p8, p9, p10, eb, el⟩ := iniB_ok b3
      cases ecl : fd.closure.lookup ("__class__" : Str) with
      | none => rw [ecl] at b13; cases b13
      | some cc =>
      rw [ecl] at b13
      cases ecc : K.lookup cc with
      | none => simp only [ecc] at b13; cases b13
      | some oc =>
      simp only [ecc] at b13
      obtain ⟨cl, cld, cdt, csl⟩ := oc
      cases cdt with
      | cell v =>
        cases v with
        | none => cases b13
        | some v =>
        obtain rfl : v = .ref C := of_decide_eq_true b13
        cases eco : fd.code with
        | ref cda =>
          rw [eco] at b14
          simp only [Bool.and_eq_true] at b14
          obtain ⟨b14, b15⟩ := b14
          cases ecd : K.lookup cda with
          | none => rw [ecd] at b15; cases b15
          | some oc =>
          rw [ecd] at b15
          obtain ⟨ccl, cdd, cdt, ccs⟩ := oc
          cases cdt with
          | fields vs =>
            simp only at b15
            split at b15
            · rename_i f tf e2
              have e3 : prog.main.file = f := of_decide_eq_true b15
              obtain ⟨nm, q, N, bs, bm, sn, sub, ab, col, dd, k0, k1, k2, k3, k5, c1, c2⟩ := clsB_ok h2
              have hloc : ∀ x ∈ namesB fld, fd.scope.names.lookup x = some .local := fun x hx => of_decide_eq_true (List.all_eq_true.mp b10 x hx)
              have hself : ("self" : Str) ∈ namesB fld := by cases fld <;> exact List.mem_cons_self ..
              have hcls : PySem.W.clsIn K C = some { name := nm, bases := bs, mro := .ref C :: bm, ns := N, qualname := q, hasDict := true, slotNames := sn, subclasses := sub, abstract := ab, collection := col, hasDel := false } := by
                unfold PySem.W.clsIn
                rw [c1]
              have har : ∃ ar, (fd.params.posonlyargs ++ fd.params.args).head? = some ar ∧ ar.arg = "self" := by
                have z := b1
                unfold plainB at z
                split at z
                · rename_i as ds ep
                  have z := of_decide_eq_true z
                  rw [ep]
                  cases as with
                  | nil => cases fld <;> cases z
                  | cons a r =>
                    refine ⟨a, rfl, ?_⟩
                    cases fld <;> exact (List.cons.inj z).1
                · cases z
              obtain ⟨ar, har1, har2⟩ := har
              have hne : ("self" : Str) ≠ fld.getD "value" ∧ dbg (fld.getD "value") = true := by
                cases fld with
                | none => exact ⟨by decide +kernel, by decide +kernel⟩
                | some f =>
                  simp only [fldIs, Bool.or_eq_true, decide_eq_true_eq] at h3
                  rcases h3 with (rfl | rfl) | rfl <;> exact ⟨by decide +kernel, by decide +kernel⟩
              refine ⟨He.ma K C "__init__", cc, cda, fd, "self", fld.getD "value", ⟨⟨body, _, od, osl, ccl, cl, cdd, cld, ccs, csl, vs, f, tf, _, ar, ef, rfl, b14, eco, ecd, e2, by rw [e3]; simp, ecc, hcls, rfl, ?_, har1, har2, b4, b5, b6, fun x hx z => ?_, b8, b9, hloc _ hself, fun e => ?_, hne.1, by decide +kernel, hne.2, ebo, ecl, b11, b12, ⟨p1, p2, p3, p4, p5, p6, p7, p8, p9, p10, eb, el⟩, fun z => z⟩, h4, h5, h6, ho, ?_, h7, hf, h9, h10, hx.exC, h12, h13, ht, fun e a b => ?_, fun e a => ?_⟩⟩
              · exact c2
              · have z2 := List.all_eq_true.mp b7 x hx
                rw [z] at z2
                revert z2
                decide
              · cases fld with
                | none => cases e
                | some f => exact hloc f (List.mem_cons_of_mem _ (List.mem_cons_self ..))
              · exact ⟨nm, q, N, bs, bm, sn, sub, ab, col, dd, k0, k1, k2, k3, k5, c1, c2⟩
              · cases fld with
                | none => cases e
                | some f =>
                  have z := bind_plain (us := [a, b]) b1 b2 (by
                    refine List.nodup_cons.mpr ⟨fun z => hne.1 (List.mem_singleton.mp z), List.nodup_cons.mpr ⟨by simp, List.nodup_nil⟩⟩) rfl
                  exact z
              · cases fld with
                | none => exact bind_plain (us := [a]) b1 b2 (List.nodup_cons.mpr ⟨by simp, List.nodup_nil⟩) rfl
                | some f => cases e
            · cases b15
          | _ => cases b15
        | _ => rw [eco] at b14; cases b14
      | _ => cases b13
    | _ => simp at h1
end Cl
set_option autoImplicit false
set_option Elab.async false
set_option linter.all false
set_option maxRecDepth 100000
set_option maxHeartbeats 4000000
/-! The draws' state is made. -/
namespace Cl
open PySem PySem.Spec PyProof.Rows L2
/-- a new state stands -/
structure NewSt (H H' : Hp) (sp sc sl : Addr) : Prop where
  n0 : H sp = none
  n1 : H sc = none
  n2 : H sl = none
  kp : ∀ b o, H b = some o → H' b = some o
  st : ∃ z : Sta, H' sp = some (.dK [(keyS "cells", .ref sc), (keyS "lefts", .ref sl), (keyS "at", .int z.at_)]) ∧ H' sc = some (.lst (z.cells.map V.int)) ∧ H' sl = some (.lst (z.lefts.map V.int)) ∧
    z.cells.length = z.lefts.length ∧ 0 < z.cells.length ∧ z.cells.length ≤ 1000 ∧ (∀ c ∈ z.cells, c.natAbs < BITS) ∧ (∀ c ∈ z.lefts, 0 ≤ c ∧ c.natAbs < BITS) ∧ z.at_ = 0
  ne : sc ≠ sl
def spBegin (K : PySem.W.Frag) : Sp := fun vs H Q _ => ∃ (a : Addr) (ns : List Int), vs = [.ref a] ∧ SqL K H a (ns.map V.int) ∧ ns.length ≤ 63 ∧ (∀ n ∈ ns, n.natAbs < BITS) ∧ ∀ sp sc sl H', NewSt H H' sp sc sl → Q (.ref sp) H'
theorem ite_yes {A B : Prop} (h : A) : if true = true then A else B := by rw [if_pos rfl]; exact h
def leftOf (c : Int) : Int := if c ≥ 1000000000000000000 then c else 0
theorem dp_ints {K : PySem.W.Frag} {H : Hp} : ∀ ns : List Int, DpAll K H (ns.map V.int) (ns.map PyData.int)
  | [] => .nil
  | n :: ns => .cons (.int n) (dp_ints ns)
theorem lay_ints : ∀ ns : List Int, PyData.canLayAll0 (ns.map PyData.int) = true ∧ PyData.depthAll (ns.map PyData.int) = 0
  | [] => by simp [PyData.canLayAll0, PyData.depthAll]
  | n :: ns => by
    obtain ⟨a, b⟩ := lay_ints ns
    simp [PyData.canLayAll0, PyData.depthAll, PyData.canLay0, PyData.depth, a, b]
theorem shaped_ints (ns : List Int) : SeqAt.shaped (.list (ns.map PyData.int)) = true := by
  obtain ⟨a, b⟩ := lay_ints ns
  show ((PyData.list (ns.map PyData.int)).canLay0 && decide ((PyData.list (ns.map PyData.int)).depth ≤ 64)) = true
  simp [PyData.canLay0, PyData.depth, a, b]
theorem eqv_nil (ns : List Int) : PyData.eqv (.list (ns.map PyData.int)) (.list []) = ns.isEmpty := by
  cases ns <;> simp [PyData.eqv, PyData.eqvAll]
section
variable {X : Cx}
theorem begin_body {scr cells cell : Str} {scl : Scope} {q0 q1 q2 q3 q4 q5 q6 q7 q8 q9 q10 q11 q12 q13 q14 q15 q16 q17 q18 q19 q20 q21 q22 q23 q24 q25 q26 q27 q28 : Pos} {j0 j1 j2 j3 j4 j5 j6 j7 : Nat} {vs : List V} {H : Hp} {Q : VK} {Ef : XK}
    (hN : X.N = [scr, cells, cell]) (nd : [scr, cells, cell].Nodup) (l0 : X.env.scope.names.lookup scr = some .local) (l1 : X.env.scope.names.lookup cells = some .local) (d0 : dbg scr = true) (d1 : dbg cells = true) (d2 : dbg cell = true) (hu : X.A.units + 64 < cLine) (hcalm : X.calm = true)
    (hl : L2.Gl X "list") (ml : X.mg "list" = none) (ok : BlkOk X.N X.env.scope scl [(cell, 2)]) (ll : (relS scl X.env.scope).names.lookup cell = some .local) (h : spBegin X.K vs H Q Ef) :
    ∃ t, PSs X [.Assign [.Name cells q0] (.IfExp (.Compare (.Name scr q1) [.NotEq] [.List [] q2] q3) (.Call (.Name "list" q4) [.Name scr q5] [] q6) (.List [.Constant (.int 0) j0 q7] q8) q9) q10,
      .Return (some (.Dict [some (.Constant (.str "cells") j1 q11), some (.Constant (.str "lefts") j2 q12), some (.Constant (.str "at") j3 q13)]
        [.Name cells q14, .ListComp (.IfExp (.Compare (.Name cell q15) [.GtE] [.BinOp (.Constant (.int 10) j4 q16) .Pow (.Constant (.int 18) j5 q17) q18] q19) (.Name cell q20) (.Constant (.int 0) j6 q21) q22) [⟨.Name cell q23, .Name cells q24, [], 0⟩] scl q25, .Constant (.int 0) j7 q26] q27)) q28] t ∧
      t { nx := fun _ H' => Q .non H', rt := Q } (start [scr, cells, cell] vs) H := by
  have nd' : X.N.Nodup := by rw [hN]; exact nd
  have n0 : X.N[0]? = some scr := by rw [hN]; rfl
  have n1 : X.N[1]? = some cells := by rw [hN]; rfl
  have n2 : X.N[2]? = some cell := by rw [hN]; rfl
  have v0 : ∀ {p : Pos}, PE X (.Name scr p) (tVar 0) := pe_var n0 (.inl l0) (dbg_of d0).1 (dbg_of d0).2
  have v1 : ∀ {p : Pos}, PE X (.Name cells p) (tVar 1) := pe_var n1 (.inl l1) (dbg_of d1).1 (dbg_of d1).2
  have f1 : X.fn cells = true ∨ X.env.scope.names.lookup cells = some .local := .inr l1
  obtain ⟨a, ns, rfl, hS, h63, hbits, hQ⟩ := h
  refine ⟨_, pss_cons (ps_set (i := 1) nd' n1 (.inl l1) (pe_ifExp (pt_cmpR (op_neD hu) v0 (pe_lst pa_nil) (by first | rfl | exact nomark _)) (pe_callTy call_list_of hl ml (by rfl) (pa_cons v0 pa_nil)) (pe_lst (pa_cons pe_int pa_nil))))
    (pss_one (ps_ret (pe_disp (pps_cons pe_str v1 (pps_cons pe_str (pe_lc (own := [(cell, 2)]) hcalm nd' (pi_list v1) ok
      (fun s H C cl fp => pg_name (i := 2) nd' n2 (.inl ll) (.inr ll)) (fun s H C cl fp => pts_nil)
      (fun s H C cl fp => pe_ifExp (pt_cmpR op_ge (pe_var n2 (.inl ll) (dbg_of d2).1 (dbg_of d2).2) (pe_op op_pow pe_int pe_int) (by first | rfl | exact nomark _)) (pe_var n2 (.inl ll) (dbg_of d2).1 (dbg_of d2).2) pe_int))
      (pps_cons pe_str pe_int pps_nil))) (by rfl) (by rfl) (fun z => by cases z) (by simp)))), ?_⟩
  have e0 : start [scr, cells, cell] [V.ref a] = [some (.ref a), none, none] := rfl
  rw [e0]
  have hlen : (ns.map V.int).length = ns.length := List.length_map ..
  -- what follows, from the cells' list
  have fin : ∀ (zs : List Int) (sc : Addr) (H1 : Hp), (∀ b o, H b = some o → H1 b = some o) → H sc = none → H1 sc = some (.lst (zs.map V.int)) → 0 < zs.length → zs.length ≤ 63 → (∀ n ∈ zs, n.natAbs < BITS) →
      tRet (tDisp [(tC (.str (Str.ofString "cells")), tVar 1), (tC (.str (Str.ofString "lefts")), tLc (iList X.K (tVar 1)) (gName 2) tYes (tIf (tTest (tOp (rI0 fun i j => .bl (decide (j ≤ i))) (tVar 2) (tOp (rI CPow fun i j => .int (i ^ j.toNat)) (tC (.int 10)) (tC (.int 18))))) (tVar 2) (tC (.int 0))) [2]), (tC (.str (Str.ofString "at")), tC (.int 0))])
        { nx := fun _ H' => Q .non H', rt := Q } [some (.ref a), some (.ref sc), none] H1 := by
    intro zs sc H1 kp nsc hsc z0 z63 zb
    intro sp nsp
    have hsc1 : upd H1 sp (.dK []) sc = some (.lst (zs.map V.int)) := by rw [upd_ne (fun y => by rw [y, nsp] at hsc; cases hsc)]; exact hsc
    have ne0 : sc ≠ sp := fun y => by rw [y, nsp] at hsc; cases hsc
    refine ⟨_, rfl, _, rfl, sc, rfl, ⟨_, SqL.of hsc1⟩, fun sl nsl => ?_⟩
    have ne1 : sc ≠ sl := fun y => by rw [y, nsl] at hsc1; cases hsc1
    have ne2 : sp ≠ sl := fun y => by
      rw [← y, upd_same] at nsl
      cases nsl
    refine ⟨fun i m H' => i + m = zs.length ∧ H' = upd (upd H1 sp (.dK [])) sl (.lst (((zs.take i).map leftOf).map V.int)), ⟨zs.length, by omega, rfl⟩, ?_⟩
    rintro i m H' ⟨hm, rfl⟩
    have hsc2 : ∀ o, upd (upd H1 sp (.dK [])) sl o sc = some (.lst (zs.map V.int)) := fun o => by rw [upd_ne ne1]; exact hsc1
    have hsc3 := hsc2 (.lst (((zs.take i).map leftOf).map V.int))
    by_cases hi : i < zs.length
    · right
      have ex : (zs.map V.int)[i]? = some (.int zs[i]) := by rw [List.getElem?_map, List.getElem?_eq_getElem hi]; rfl
      refine ⟨⟨zs.map V.int, .int zs[i], SqL.of hsc3, ex⟩, fun H' => H' = upd (upd H1 sp (.dK [])) sl (.lst (((zs.take (i + 1)).map leftOf).map V.int)), fun H' z => ⟨m - 1, by omega, by omega, z⟩, fun x H' hy => ?_⟩
      obtain ⟨rfl, hy⟩ := hy
      have hx := hy (zs.map V.int) (SqL.of hsc3)
      rw [ex] at hx
      cases hx
      refine ⟨rfl, ?_⟩
      simp only [tYes, ↓reduceIte]
      refine ⟨_, rfl, 10, 18, rfl, rfl, (by constructor <;> decide), _, _, rfl, rfl, _, rfl, ?_⟩
      have last : ∀ y : Int, leftOf zs[i] = y → ∃ acc, upd (upd H1 sp (.dK [])) sl (.lst (((zs.take i).map leftOf).map V.int)) sl = some (.lst acc) ∧ acc.length < sizeLine ∧
          upd (upd (upd H1 sp (.dK [])) sl (.lst (((zs.take i).map leftOf).map V.int))) sl (.lst (acc ++ [V.int y])) = upd (upd H1 sp (.dK [])) sl (.lst (((zs.take (i + 1)).map leftOf).map V.int)) := fun y hy => by
        refine ⟨_, upd_same, ?_, ?_⟩
        · have : sizeLine > 1000 := by rw [sizeLine_eq]; decide
          simp
          omega
        · rw [upd_upd, List.take_succ, List.getElem?_eq_getElem hi, Option.toList_some, List.map_append, List.map_append, List.map_cons, List.map_nil, hy]
          rfl
      show if decide ((10 : Int) ^ (18 : Int).toNat ≤ zs[i]) = true then _ else _
      by_cases hc : (1000000000000000000 : Int) ≤ zs[i]
      · rw [if_pos (decide_eq_true (by have : (10 : Int) ^ (18 : Int).toNat = 1000000000000000000 := by decide
                                       rw [this]; exact hc))]
        exact ⟨_, rfl, last zs[i] (if_pos hc)⟩
      · rw [if_neg (by
          have : (10 : Int) ^ (18 : Int).toNat = 1000000000000000000 := by decide
          rw [this, decide_eq_false hc]
          decide)]
        exact last 0 (if_neg hc)
    · left
      have e1 : zs.take i = zs := List.take_of_length_le (by omega)
      rw [e1] at hsc3 ⊢
      refine ⟨⟨zs.map V.int, SqL.of hsc3, by simp; omega⟩, ?_⟩
      have hsp2 : upd (upd H1 sp (.dK [])) sl (.lst ((zs.map leftOf).map V.int)) sp = some (.dK []) := by rw [upd_ne ne2, upd_same]
      refine ⟨hsp2, [(keyS "cells", .ref sc), (keyS "lefts", .ref sl), (keyS "at", .int 0)], rfl, by simp, ?_⟩
      refine hQ sp sc sl _ ⟨?_, nsc, ?_, fun b o hb => ?_, ⟨⟨zs, zs.map leftOf, 0⟩, ?_, ?_, ?_, by simp, z0, by show zs.length ≤ 1000; omega, zb, fun c hc => ?_, rfl⟩, ne1⟩
      · cases e : H sp with
        | none => rfl
        | some o => rw [kp _ _ e] at nsp; cases nsp
      · cases e : H sl with
        | none => rfl
        | some o =>
          rw [upd_ne (fun y => ne2 y.symm)] at nsl
          rw [kp _ _ e] at nsl
          cases nsl
      · have h1 := kp _ _ hb
        rw [upd_ne (fun y => by rw [y, nsp] at h1; cases h1), upd_ne (fun y => by
          rw [y] at h1
          rw [upd_ne (fun y => ne2 y.symm), h1] at nsl
          cases nsl), upd_ne (fun y => by rw [y, nsp] at h1; cases h1)]
        exact h1
      · rw [upd_same]
        rfl
      · rw [upd_ne ne0]
        exact hsc3
      · rw [upd_ne (fun y => ne2 y.symm), upd_same]
      · obtain ⟨y, hy, rfl⟩ := List.mem_map.mp hc
        unfold leftOf
        split
        · exact ⟨by omega, zb y hy⟩
        · exact ⟨by decide, by show 0 < BITS; exact Nat.two_pow_pos _⟩
  -- the cells' list
  refine ⟨_, rfl, (by show 0 ≤ sizeLine; rw [sizeLine_eq]; decide), fun p np => ?_⟩
  have hS2 : SqL X.K (upd H p (.lst [])) a (ns.map V.int) := SqL.same (same_upd np) hS
  refine ⟨_, _, .lst hS2 (dp_ints ns), .lst (SqL.of upd_same) .nil, shaped_ints ns, rfl, _, rfl, ?_⟩
  rw [eqv_nil]
  cases ns with
  | nil =>
    show (if (!true) = true then _ else _)
    rw [if_neg (by decide)]
    refine ⟨(by show 1 ≤ sizeLine; rw [sizeLine_eq]; decide), fun q nq => ?_⟩
    refine fin [0] q _ (fun b o hb => same_upd nq _ _ (same_upd np _ _ hb)) ?_ upd_same (by decide) (by decide) (fun n hn => ?_)
    · cases e : H q with
      | none => rfl
      | some o => rw [same_upd np _ _ e] at nq; cases nq
    · rw [List.mem_singleton.mp hn]
      show 0 < BITS
      exact Nat.two_pow_pos _
  | cons n0 ns0 =>
    show (if (!false) = true then _ else _)
    rw [if_pos (by decide)]
    refine ⟨_, rfl, a, _, rfl, .inl hS2, fun q nq => ?_⟩
    refine fin (n0 :: ns0) q _ (fun b o hb => same_upd nq _ _ (same_upd np _ _ hb)) ?_ upd_same (by simp) h63 hbits
    cases e : H q with
    | none => rfl
    | some o => rw [same_upd np _ _ e] at nq; cases nq
end
end Cl
set_option autoImplicit false
set_option Elab.async false
set_option linter.all false
set_option maxRecDepth 100000
set_option maxHeartbeats 4000000
/-! The law's call, by its def's promise in a stack without guards. -/
namespace Cl
open PySem PySem.Spec PyProof.Rows L2
abbrev eTab : Obj := { cls := .none, data := .fields #[] }
abbrev lstO (us : List Value) : Obj := { cls := .type "list", data := .seq us.toArray }
/-- what may be tracked ahead of the law: its script, the tables -/
structure Ahead (P : Program) (w : World) (K : PySem.W.Frag) (h : Heap) (ts : List Addr) (a : Addr) (ns : List Int) (H : Hp) : Prop where
  tab : ∀ b ∈ ts, H b = some (.tbl #[])
  any : ∀ b u, H b = some u → b ∈ ts ∨ (b = a ∧ K.lookup a = none ∧ ∃ o xs, u = .frz o (.lst xs))
  scr : SqL K H a (ns.map V.int)
  ok : HOk P w H h
theorem ahead_of {P : Program} {w : World} {K : PySem.W.Frag} {h : Heap} {ts : List Addr} {a : Addr} {us : List Value} {ns : List Int} (KX : K.In h) (ha : h.get? a = some (lstO us)) (hi : IntsAre us ns) (hl : ns.length ≤ sizeLine)
    (hT : ∀ b ∈ ts, h.get? b = some eTab) : ∃ H, Ahead P w K h ts a ns H := by
  have rv := vals_ints hi
  have lu : us.length = ns.length := hi.length
  have na : a ∉ ts := fun q => by
    have z := hT a q
    rw [ha] at z
    have z2 := congrArg Obj.data (Option.some.inj z)
    cases z2
  by_cases hk : ∃ o, K.lookup a = some o
  · obtain ⟨o, hk⟩ := hk
    have z := KX a o hk
    rw [ha] at z
    cases z
    refine ⟨fun b => if b ∈ ts then some (.tbl #[]) else none, fun b hb => if_pos hb, fun b u z => ?_, .inr ⟨_, us.toArray, _, hk, rfl, rfl, rfl, ?_, ?_⟩, fun b u z => ?_⟩
    · by_cases q : b ∈ ts
      · exact .inl q
      · rw [if_neg q] at z
        cases z
    · rw [List.size_toArray, lu]
      exact hl
    · simpa using rv
    · by_cases q : b ∈ ts
      · rw [if_pos q] at z
        cases z
        exact hT b q
      · rw [if_neg q] at z
        cases z
  · have hk' : K.lookup a = none := by
      cases e : K.lookup a with
      | none => rfl
      | some o => exact absurd ⟨o, e⟩ hk
    refine ⟨fun b => if b ∈ ts then some (.tbl #[]) else if b = a then some (.frz (lstO us) (.lst (ns.map V.int))) else none, fun b hb => if_pos hb, fun b u z => ?_, .inl (.inr ⟨lstO us, ?_⟩), fun b u z => ?_⟩
    · by_cases q : b ∈ ts
      · exact .inl q
      · rw [if_neg q] at z
        by_cases q2 : b = a
        · rw [if_pos q2] at z
          cases z
          exact .inr ⟨q2, hk', _, _, rfl⟩
        · rw [if_neg q2] at z
          cases z
    · exact (if_neg na).trans (if_pos rfl)
    · by_cases q : b ∈ ts
      · rw [if_pos q] at z
        cases z
        exact hT b q
      · rw [if_neg q] at z
        by_cases q2 : b = a
        · rw [if_pos q2] at z
          cases z
          subst q2
          exact ⟨ha, by rw [List.length_map]; exact hl, us, _, rv, ha⟩
        · rw [if_neg q2] at z
          cases z
/-- the law's call -/
theorem law_end {P : Program} {w : World} {K : PySem.W.Frag} {mg mb : Str → Option Value} {k : Nat} {fa a : Addr} {cs : List (Addr × Addr)} {fd : FuncData} {x : Str} {sp : Sp} {s : Shared} {us : List Value} {ns : List Int}
    (KX : K.In s.heap) (hns : s.heap.Ns mainGlobals mg) (hb : s.heap.Ns builtinsNs mb) (hbb : ∀ y : Str, y ≠ "__name__" → mb y = bootBuiltins y) (nl : s.heap.NoLimit) (hg : s.gens = #[])
    (hT : ∀ p ∈ cs, s.heap.get? p.2 = some eTab) (nT : ∀ p ∈ cs, K.lookup p.2 = none) (hC : ∀ p ∈ cs, PySem.W.CodeHd s.heap p.1 p.2)
    (hbm : ∃ (bm : Addr) (ob : Obj), mg "__builtins__" = some (.ref bm) ∧ bm ≠ builtinsNs ∧ s.heap.get? bm = some ob ∧ ob.cls = .type "module" ∧ ob.dict = some builtinsNs ∧ ob.data = .plain)
    (ha : s.heap.get? a = some (lstO us)) (hi : IntsAre us ns) (hl : ns.length ≤ sizeLine) (room : Room k callerA)
    (F : ∀ base : Heap, K.In base → base.Ns mainGlobals mg → (∀ p ∈ cs, LamX.TabB base mg p.1 p.2) → FnG P w K mg base k fa fd [x] sp) (hbd : ∀ (s : Shared) (u : Value), BindsTo s fd ⟨[u], []⟩ [(x, u)])
    (hsp : ∀ H : Hp, (∀ p ∈ cs, H p.2 = some (.tbl #[])) → SqL K H a (ns.map V.int) → sp [.ref a] H (fun v _ => v = .bl true) fun _ _ _ => False) :
    codeAny (model P w) callerA (.call (.ref fa) ⟨[.ref a], []⟩) (fun r s' => r = .ok (.ret (.bool true)) ∧ OldK s.heap s'.heap ∧ s'.os = s.os ∧ AllBare s'.gens) s := by
  let ts := cs.map (·.2)
  have tsT : ∀ b ∈ ts, s.heap.get? b = some eTab := fun b hb => by
    obtain ⟨p, hp, rfl⟩ := List.mem_map.mp hb
    exact hT p hp
  have inT : ∀ p ∈ cs, p.2 ∈ ts := fun p hp => List.mem_map.mpr ⟨p, hp, rfl⟩
  obtain ⟨H, AH⟩ := ahead_of (P := P) (w := w) (ts := ts) KX ha hi hl tsT
  -- an object that is neither a row nor a table is not tracked
  have off : ∀ {b : Addr} {o : Obj}, s.heap.get? b = some o → (∀ vs n, o.data ≠ .seq vs n) → o.data ≠ .fields #[] → H b = none := fun {b o} e z1 z2 => by
    cases q : H b with
    | none => rfl
    | some u =>
      rcases AH.any b u q with y | ⟨rfl, _⟩
      · rw [tsT b y] at e
        cases e
        exact absurd rfl z2
      · rw [ha] at e
        cases e
        exact absurd rfl (z1 _ _)
  have nsH : ∀ {b : Addr} {m : Str → Option Value}, s.heap.Ns b m → (hidT s.heap H).Ns b m := fun {b m} q => by
    obtain ⟨o, es, ep, e, d, r⟩ := q
    exact ⟨o, es, ep, hidT_get e (off e (fun vs n y => by rw [d] at y; cases y) fun y => by rw [d] at y; cases y), d, r⟩
  have kH : K.In (hidT s.heap H) := fun b o e => by
    refine hidT_get (KX b o e) ?_
    cases q : H b with
    | none => rfl
    | some u =>
      rcases AH.any b u q with y | ⟨rfl, y, _⟩
      · obtain ⟨p, hp, rfl⟩ := List.mem_map.mp y
        rw [nT p hp] at e
        cases e
      · rw [y] at e
        cases e
  obtain ⟨mc, c1, c2⟩ := nl
  have mH : L2.Mod K mg (hidT s.heap H) := ⟨kH, nsH hns, ⟨mb, nsH hb, hbb⟩, ⟨mc, nsH c1, c2⟩⟩
  have tH : ∀ p ∈ cs, LamX.TabB (hidT s.heap H) mg p.1 p.2 := fun p hp => by
    refine ⟨?_, ?_, fun y => ?_⟩
    · obtain ⟨o, vs, fl, tf, fg, tg, ifn, tx, tt, e1, r1, r2, r3, rest⟩ := hC p hp
      refine ⟨o, vs, fl, tf, fg, tg, ifn, tx, tt, hidT_get e1 (off e1 (fun vs n y => by rw [r2] at y; cases y) fun y => ?_), r1, r2, r3, rest⟩
      rw [r2] at y
      cases y
      simp at r3
    · obtain ⟨bm, ob, b1, b2, b3, b4, b5, b6⟩ := hbm
      refine ⟨bm, ob, b1, b2, fun y => ?_, fun y => ?_, hidT_get b3 (off b3 (fun vs n y => by rw [b6] at y; cases y) fun y => by rw [b6] at y; cases y), b4, b5, b6⟩
      · obtain ⟨o, es, ep, e, d, _⟩ := hns
        rw [y, e] at b3
        cases b3
        rw [d] at b6
        cases b6
      · rw [y, hT p hp] at b3
        cases b3
        cases b6
    · obtain ⟨o, es, ep, e, d, _⟩ := hns
      rw [y, hT p hp] at e
      cases e
      cases d
  have e0 : Env0 P w K mg (hidT s.heap H) callerA [] s H :=
    { frames := rfl
      mod := mH
      bs := fun b o e => of_hidT e
      bsz := Nat.le_of_eq (hidT_size _ _)
      funs := trivial
      frf := fun b hb => nomatch (show b ∈ ([] : List Addr) from hb)
      hok := AH.ok
      bare := .of_eq hg }
  refine codeAny_mono ((F _ kH (nsH hns) tH).run callerA [] s H ⟨[.ref a], []⟩ [.ref a] [.ref a] _ _ rfl room e0 (hbd s (.ref a)) (.cons rfl .nil) rfl (hsp H (fun p hp => AH.tab _ (inT p hp)) AH.scr)) fun r s' q => ?_
  cases r with
  | error e =>
    exfalso
    obtain ⟨_, _, _, _, _, _, _, _, _, _, _, _, _, _, _, _, z⟩ := q
  | ok fl =>
    cases fl with
    | next => exact False.elim q
    | brk => exact False.elim q
    | cont => exact False.elim q
    | ret u =>
      obtain ⟨v, H', os, bare, un, ok', rv, rfl⟩ := q
      obtain rfl : u = Value.bool true := rv
      have still : ∀ b o, b ∉ ts → s.heap.get? b = some o → s'.heap.get? b = some o := fun b o nb e => by
        cases q : H b with
        | none => exact un.keep b o e q (fun y => nomatch (show b ∈ ([] : List Addr) from y)) (by simp)
        | some u =>
          rcases AH.any b u q with y | ⟨rfl, _, ob, xs, rfl⟩
          · exact absurd y nb
          · obtain ⟨g1, _⟩ := AH.ok b _ q
            obtain ⟨g2, _⟩ := ok' b _ (un.frzs b ob _ q)
            rw [e] at g1
            cases g1
            exact g2
      have more : ∀ p ∈ cs, ∃ vs : Array Value, s'.heap.get? p.2 = some { cls := .none, data := .fields vs } := fun p hp => by
        obtain ⟨vs, y⟩ := un.tbls p.2 #[] (AH.tab _ (inT p hp))
        exact ⟨_, ok' p.2 _ y⟩
      refine ⟨rfl, ⟨fun b o e => ?_, fun b o e => ?_⟩, os, bare⟩
      · by_cases hb : b ∈ ts
        · obtain ⟨p, hp, rfl⟩ := List.mem_map.mp hb
          obtain ⟨vs, hm⟩ := more p hp
          rw [hT p hp] at e
          cases e
          exact .inr (.inl ⟨((hC p hp).tab (hT p hp)).isCodeTable, rfl, #[], vs, rfl, by rw [Array.empty_append]; exact hm⟩)
        · exact .inl (still b o hb e)
      · by_cases hb : b ∈ ts
        · obtain ⟨p, hp, rfl⟩ := List.mem_map.mp hb
          exact ⟨_, (more p hp).choose_spec⟩
        · exact ⟨o, still b o hb e⟩
/-- statements behind one another -/
theorem execs_two (env : PySem.Env) (b : List Stmt) : ∀ a : List Stmt, execs (a ++ b) env = (execs a env >>= fun f => match f with | .next => execs b env | f => pure f)
  | [] => by
    rw [List.nil_append, execs]
    simp only [pure_bind]
  | s :: a => by
    simp only [List.cons_append, execs, LawfulMonad.bind_assoc]
    congr 1
    funext f
    cases f <;> simp only [pure_bind, execs_two env b a]
theorem pss_two {X : Cx} {a b : List Stmt} {t u : TS} (h1 : PSs X a t) (h2 : PSs X b u) : PSs X (a ++ b) (tSeq t u) := by
  refine ⟨fun pins s σ H D I h => ?_⟩
  rw [execs_two]
  refine wpAny_bind (thn (h1.run pins s σ H { D with nx := u D } I h) fun f s1 q => ?_)
  cases f with
  | next =>
    obtain ⟨σ', H', I', q⟩ := q
    exact h2.run pins s1 σ' H' D I' q
  | ret v => exact wpAny_pure q
  | brk => exact wpAny_pure q
  | cont => exact wpAny_pure q
/-- the script of a law -/
def spLaw (G : Gl0) : Sp := fun vs H Q _ => ∃ (a : Addr) (ns : List Int), vs = [.ref a] ∧ SqL G.K H a (ns.map V.int) ∧ ns.length ≤ 63 ∧ (∀ n ∈ ns, n.natAbs < BITS) ∧ (∀ p ∈ G.tabs, H p.1 = some (.tbl #[])) ∧ ∀ H', Q (.bl true) H'
def TH0 : Th := ⟨0, fun _ => none, [], (0, false)⟩
section
variable {P : Program} {w : World} {K : PySem.W.Frag} {mg : Str → Option Value} {base : Heap} {G : Gl0} {nm : Nm} {l : List (Nat × Fn)}
theorem lawEnv_at {ns i : Nat} {d : D} {o : Bool} (h : (lawEnv ns).at i = some (d, o)) : i = 1 ∧ d = .st ∧ o = false := by
  unfold lawEnv at h
  match i with
  | 0 => cases h
  | 1 => cases h; exact ⟨rfl, rfl, rfl⟩
  | j + 2 =>
    have z : Env.at (List.replicate (ns - 2) none) j = some (d, o) := h
    rw [at_none] at z
    cases z
/-- what is asked ahead of the state's making: if test: return False -/
def preB (nm : Nm) (N : List Str) (c : Sc) : List E → List Stmt → Bool
  | [], [] => true
  | e :: es, .If ee [.Return (some (.Constant (.bool false) _ _)) _] [] _ :: ss => (chk nm N e).t ee c && preB nm N c es ss
  | _, _ => false
def tPre (G : Gl0) (L : Lv) : List E → TS → TS
  | [], u => u
  | e :: es, u => fun D σ H => rdT G L e σ H fun c H1 => if c = true then D.rt (.bl false) H1 else tPre G L es u D σ H1
theorem preB_inv {nm : Nm} {N : List Str} {c : Sc} {e : E} {es : List E} {ss : List Stmt} (h : preB nm N c (e :: es) ss = true) : ∃ (ee : Expr) (j : Nat) (p1 p2 p3 : Pos) (ss' : List Stmt), ss = .If ee [.Return (some (.Constant (.bool false) j p1)) p2] [] p3 :: ss' ∧ (chk nm N e).t ee c = true ∧ preB nm N c es ss' = true := by
  cases ss with
  | nil => cases h
  | cons s ss =>
    unfold preB at h
    split at h
    · rename_i z _
      cases z
    · rename_i z1 z2
      cases z1
      cases z2
      simp only [Bool.and_eq_true] at h
      exact ⟨_, _, _, _, _, _, rfl, h.1, h.2⟩
    · cases h
theorem pre_pss {N : List Str} {n : Nat} {L : Lv} {c : Sc} {X : Cx} {rest : List Stmt} {u : TS} (xo : XOkS G nm N L c n X) (hr : PSs X rest u) : ∀ (es : List E) (ss : List Stmt), preB nm N c es ss = true → PSs X (ss ++ rest) (tPre G L es u)
  | [], [], _ => hr
  | [], _ :: _, h => by cases h
  | e :: es, ss, h => by
    obtain ⟨ee, j, p1, p2, p3, ss', rfl, h1, h2⟩ := preB_inv h
    exact pss_cons (ps_if ((chk_ok e).t L c X _ xo.x h1) (pss_one (ps_ret pe_bl)) pss_nil) (pre_pss xo hr es ss' h2)
/-- the reading, where no state is yet -/
theorem tPre_of {L : Lv} {u : TS} {D : Ends} {σ : L2.St} {R : Rp} {nn : Nat} (hR : R.fA = G.fA ∧ R.th = L.th ∧ R.ex = L.ea ∧ R.xd = L.xd ∧ R.xc = L.xc) (hoff : R.sp.2 = false) (hlen : σ.length = nn) : ∀ (es : List E) (S H : Hp) (b : Nat), Wd G R S H b → b + (es.map (wgt L.k L.kh L.t)).sum ≤ BIG →
    (∀ e ∈ es, wp (evE L.F L.tm e (List.replicate nn none)) (fun d => d = .bl false) (fun _ _ => False)) → (∀ S' H' b', Gr R S H S' H' → Wd G R S' H' b' → u D σ H') → tPre G L es u D σ H
  | [], S, H, b, wd, _, _, k => k S H b (Gr.refl R S H) wd
  | e :: es, S, H, b, wd, hb, hp, k => by
    simp only [List.map_cons, List.sum_cons] at hb
    have ev : Ev G R H (List.replicate nn none) σ S H :=
      { len := by rw [hlen]; simp
        frz := fun i d h => by rw [at_none] at h; cases h
        own := fun i d h => by rw [at_none] at h; cases h
        dst := fun i j d e a h => by rw [at_none] at h; cases h
        dom := fun a o h => ⟨o, h⟩ }
    refine ⟨R, List.replicate nn none, H, S, b, ⟨hR.1, hR.2.1, hR.2.2, wd, ev⟩, by omega, wp_mono (fun d hd => ?_) (fun _ _ z => z.elim) (hp e (List.mem_cons_self ..))⟩
    subst hd
    refine ⟨false, rfl, fun S1 H1 b1 q => ?_⟩
    show tPre G L es u D σ H1
    have le := q.le
    exact tPre_of hR hoff hlen es S1 H1 b1 q.wd (by omega) (fun e' he => hp e' (List.mem_cons_of_mem _ he)) fun S' H' b' g w => k S' H' b' (q.gr.trans g) w
theorem law_fn {n kb : Nat} {hdL : Bool} {preE : List E} {restS : Cl.S} {pre rest : List Stmt} {scr st : Str} {N : List Str} {fa fb : Addr} {fdb : FuncData} {psb : List Str} {params : Arguments} {scope : Scope} {kV doc pm cdv ct oc dV : Value} {an od : Option Addr} {osl : Array (Option Value)} {p1 p2 p3 p4 p5 : Pos}
    (hK : G.K = K) (hg : GlOk G nm mg K) (hcl : ClOk G nm P mg K) (hex : ExOk G nm mg K) (hT : ∀ f, G.T f = l.lookup f) (defs : ∀ f F, l.lookup f = some F → ∃ hd, Def1 G nm K base mg true hd f F) (hl : HlOk G nm K base mg l) (hdr : DrawAt P w K mg base G)
    (lk : K.lookup fa = some ⟨oc, od, .func (PySem.W.fnOf "law" "law" params (pre ++ .Assign [.Name st p1] (.Call (.Name "_law_begin" p2) [.Name scr p3] [] p4) p5 :: rest) scope dV kV doc pm an cdv ct), osl⟩) (hcd : PySem.W.codeIn K cdv "law" = true) (htb : hdL = true → TabOk G base mg cdv "law")
    (S : FnScope N [scr] scope) (N0 : N[0]? = some scr) (N1 : N[1]? = some st) (hl0 : scope.names.lookup scr = some .local) (hl1 : scope.names.lookup st = some .local) (d0 : dbg scr = true) (d1 : dbg st = true) (gb : scope.names.lookup ("_law_begin" : Str) = some .globalImplicit)
    (hc : chkS nm N restS rest ⟨scope, fun _ => true, true, true, hdL⟩ = true) (BG : FnG P w K mg base kb fb fdb psb (spBegin K)) (hkb : kb ≤ 3 * n + 2) (hpb : psb.length = 1) (bb : L2.Binds K fdb psb []) (mb : mg "_law_begin" = some (.ref fb)) (kpb : PySem.W.keepIn K (.ref fb) = true)
    (hpc : preB nm N ⟨scope, fun _ => true, true, true, hdL⟩ preE pre = true) (hpp : ∀ e ∈ preE, wp (evE (run G.T n) .stuck e (List.replicate N.length none)) (fun d => d = .bl false) (fun _ _ => False)) (hpw : (preE.map (wgt (KW l n 0) (KW l n) 0)).sum ≤ BIG)
    (hp : wp (exS (run G.T n) .stuck restS (lawEnv N.length)) (fun p => ∃ e, p = (e, .rt (.bl true))) (fun _ _ => False)) (hw : wgtS (KW l n 0) (KW l n) 0 restS ≤ BIG) :
    FnG P w K mg base (3 * n + 2 + 3) fa (PySem.W.fnOf "law" "law" params (pre ++ .Assign [.Name st p1] (.Call (.Name "_law_begin" p2) [.Name scr p3] [] p4) p5 :: rest) scope dV kV doc pm an cdv ct) [scr] (spLaw G) := by
  refine fnG_of lk hcd S fun A outer s H vs Q Ef hgd hr hsp => ?_
  obtain ⟨a, ns, rfl, hS, h63, hbits, htab, hQ⟩ := hsp
  rw [hK] at hS
  have fns := fns_all hK hg hcl hex hT defs hl hdr n
  let L : Lv := { F := run G.T n, tm := .stuck, k := KW l n 0, kh := KW l n, t := 0, th := TH0, ea := 0, xd := none, xc := 0, W := fun cls dx _ H => Ef cls dx H }
  have N2 : 2 ≤ N.length := by
    have := (List.getElem?_eq_some_iff.mp N1).1
    omega
  have xo : XOkS G nm N L ⟨scope, fun _ => true, true, true, hdL⟩ n (cxOf (L2.CX P w) P w K mg base N "law" scope fa cdv A outer s H Ef) :=
    ⟨⟨⟨hK.symm, hg, rfl, S.nd, rfl, S.kind, fun _ _ => rfl, rfl, by have := hr.un; show (A.deeper _).units + 70 < cLine; omega, ⟨rfl, ⟨3 * n + 2, fns, hr.mono (by omega)⟩, hgd, takes_of rfl rfl rfl rfl⟩, hcl, hex, fun z => ⟨hdr, hr.mono (by omega)⟩,
      fun _ pn xe W _ i x p1 p2 _ _ _ => pe_false fun σ H Q z => by
        obtain ⟨R', ρ, H0, S', b', hh, hb', hp'⟩ := z
        simp only [evE] at hp'
        split at hp' <;> exact hp'⟩, fun z pn xe W tk x g body params ebody scope' p lpos pos hx hgx hdx hls hnp hmd hb =>
          se_heard hK hg hcl hex hT fns (fun m e => by subst e; exact (fns_all hK hg hcl hex hT defs hl hdr m).mono (by omega)) hl hdr (by omega) S.nd (htb z) hgd hr rfl rfl rfl tk hx hgx hdx hls hnp hmd hb⟩, passes_of rfl, rfl, rfl⟩
  have v0 : ∀ {p : Pos}, PE (cxOf (L2.CX P w) P w K mg base N "law" scope fa cdv A outer s H Ef) (.Name scr p) (tVar 0) := pe_var N0 (.inl hl0) (dbg_of d0).1 (dbg_of d0).2
  have hlen0 : (L2.start N [V.ref a]).length = N.length := by
    unfold L2.start
    simp
    omega
  refine ⟨_, pre_pss xo (pss_cons (ps_set (i := 1) S.nd N1 (.inl hl1) (pe_callG BG hgd (hr.mono (by omega)) (takes_of rfl rfl rfl rfl) gb mb kpb bb (by decide +kernel) (pa_cons v0 pa_nil)) (nsw_ok (by rfl)) (.inr hl1)) (chkS_ok restS rest L _ _ xo hc)) preE pre hpc, ?_⟩
  let RO : Rp := { fA := G.fA, sp := (0, false), sc := 0, sl := 0, th := TH0, ex := 0, xd := none, xc := 0 }
  have noSt : ∀ b, ¬ RO.st b := fun b z => nomatch z.1
  have wd0 : Wd G RO (fun _ => none) H 0 := ⟨fun _ _ e => (nomatch e), fun _ _ => rfl, fun _ _ e => (nomatch e), ⟨fun z => (nomatch z), fun z => (nomatch z)⟩, ⟨fun p hp => LamX.TabS.nil (htab p hp), fun p hp => (nomatch hp)⟩⟩
  refine tPre_of (R := RO) (nn := N.length) ⟨rfl, rfl, rfl, rfl, rfl⟩ rfl hlen0 preE _ H 0 wd0 (by show 0 + (preE.map (wgt (KW l n 0) (KW l n) 0)).sum ≤ BIG; omega) hpp fun Sp Hq bq gq wq => ?_
  have hSq : SqL K Hq a (ns.map V.int) := by
    rcases hS with (h | ⟨o, h⟩) | h
    · exact .inl (.inl (gq.hh _ _ h (noSt _) fun ps z => by cases z))
    · exact .inl (.inr ⟨o, gq.hh _ _ h (noSt _) fun ps z => by cases z⟩)
    · exact .inr h
  refine ⟨.ref a, ?_, hpb.symm, a, ns, rfl, hSq, h63, hbits, fun sp sc sl H' NS => ?_⟩
  · unfold L2.start
    rfl
  let R : Rp := { fA := G.fA, sp := (sp, true), sc := sc, sl := sl, th := TH0, ex := 0, xd := none, xc := 0 }
  let S0 : Hp := fun _ => none
  obtain ⟨z, z1, z2, z3, z4, z5, z6, z7, z8, z9⟩ := NS.st
  have wd : Wd G R S0 H' 0 := ⟨fun _ _ e => (nomatch e), fun _ _ => rfl, fun _ _ e => (nomatch e), ⟨fun _ => ⟨z, z1, z2, z3, z4, z5, z6, z7, z8, by omega, by omega⟩, fun _ => NS.ne⟩, ⟨wq.tb.t.ext NS.kp, fun p hp => (nomatch hp)⟩⟩
  have hlen : (L2.start N [V.ref a]).length = N.length := by
    unfold L2.start
    simp
    omega
  refine ⟨R, lawEnv N.length, ⟨N.length, []⟩, H', S0, 0, ⟨⟨rfl, rfl, ⟨rfl, rfl, rfl⟩, wd, ?_⟩, ⟨?_, fun p e => by cases e⟩⟩, fun i _ => rfl, by show 0 + wgtS (KW l n 0) (KW l n) 0 restS ≤ BIG; omega, ?_⟩
  · exact { len := by
              rw [List.length_set, hlen]
              unfold lawEnv
              simp
              omega
            frz := fun i d e => by
              obtain ⟨rfl, rfl, _⟩ := lawEnv_at e
              exact ⟨_, List.getElem?_set_self (by rw [hlen]; omega), rfl, rfl⟩
            own := fun i d e => by
              obtain ⟨_, _, z⟩ := lawEnv_at e
              cases z
            dst := fun i j d e a p q _ _ => by
              obtain ⟨_, _, z⟩ := lawEnv_at p
              cases z
            dom := fun a o z => ⟨o, z⟩ }
  · rw [List.length_set, hlen]
  · refine wp_mono (fun p hp => ?_) (fun c d hc => hc.elim) hp
    obtain ⟨e, rfl⟩ := hp
    intro v S' H2 b' g hb' wd' rv
    cases rv
    exact hQ H2
end
end Cl
set_option autoImplicit false
set_option Elab.async false
set_option linter.all false
set_option maxRecDepth 100000
set_option maxHeartbeats 4000000
/-! The head: what is read off the objects behind the top, and what it gives. -/
namespace Cl
open PySem PySem.Spec PyProof.Rows L2
/-! ### the part of the heap that is looked at -/
def fragC (n : List Addr) (g : Addr → Option Obj) : PySem.W.Frag := He.frT g n
def obsC (n : List Addr) (fn : List He.DefD) (tf : List He.Defn) (ex : PySem.W.Frag → Bool) (g : Addr → Option Obj) : He.AlD × Bool := (fun K => (He.obsD [] fn K, ex K && He.tabsB g tf K)) (fragC n g)
structure SaysC (fn : List He.DefD) (tf : List He.Defn) (ex : PySem.W.Frag → Bool) (h : Heap) (K : PySem.W.Frag) : Prop where
  d : He.SaysD [] fn K
  x : ex K = true
  hd : ∀ p ∈ tf, PySem.W.codeHdIn K (He.cT K p).1 (He.cT K p).2 = true
  out : ∀ p ∈ tf, K.lookup (He.cT K p).2 = none
  emp : ∀ p ∈ tf, h.get? (He.cT K p).2 = some eTab
theorem saysC_of {n : List Addr} {fn : List He.DefD} {tf : List He.Defn} {ex : PySem.W.Frag → Bool} {h : Heap} (e : obsC n fn tf ex h.get? = (He.valD fn, true)) : SaysC fn tf ex h (fragC n h.get?) := by
  have e1 : He.obsD [] fn (fragC n h.get?) = He.valD fn := congrArg Prod.fst e
  have e2 : (ex (fragC n h.get?) && He.tabsB h.get? tf (fragC n h.get?)) = true := congrArg Prod.snd e
  rw [Bool.and_eq_true] at e2
  have key : ∀ p ∈ tf, PySem.W.codeHdIn (fragC n h.get?) (He.cT (fragC n h.get?) p).1 (He.cT (fragC n h.get?) p).2 = true ∧ ∃ o, h.get? (He.cT (fragC n h.get?) p).2 = some o ∧ He.emptyTab o = true := fun p hp => by
    have z := List.all_eq_true.mp e2.2 p hp
    rw [Bool.and_eq_true] at z
    refine ⟨z.1, ?_⟩
    cases q : h.get? (He.cT (fragC n h.get?) p).2 with
    | none => rw [q] at z; exact absurd z.2 (by decide)
    | some o => rw [q] at z; exact ⟨o, rfl, z.2⟩
  refine ⟨e1, e2.1, fun p hp => (key p hp).1, fun p hp => ?_, fun p hp => ?_⟩
  · obtain ⟨_, o, q, z⟩ := key p hp
    exact He.frT_none q z
  · obtain ⟨_, o, q, z⟩ := key p hp
    rw [q, He.emptyTab_eq z]
def hookC (n : List Addr) (fn : List He.DefD) (tf : List He.Defn) (ex : PySem.W.Frag → Bool) : PySem.W.Hook where
  α := He.AlD × Bool
  obs := fun s => obsC n fn tf ex s.heap.get?
  val := fun _ => (He.valD fn, true)
  says := fun _ h => ∃ K : PySem.W.Frag, K.In h ∧ SaysC fn tf ex h K
  of := fun _ _ e => ⟨_, He.frT_in, saysC_of e⟩
  keeps := fun _ _ _ ⟨K, hK, c⟩ k => ⟨K, PySem.W.Frag.In.keeps hK k, ⟨c.d, c.x, c.hd, c.out, fun p hp => k _ _ (c.emp p hp)⟩⟩
theorem obsC_eq {n : List Addr} {fn : List He.DefD} {tf : List He.Defn} {ex : PySem.W.Frag → Bool} {g : Addr → Option Obj} {s : Shared} (h : ∀ a, g a = s.heap.get? a) : obsC n fn tf ex g = (hookC n fn tf ex).obs s := by
  have e : g = s.heap.get? := funext h
  rw [e]
  rfl
/-! ### looks at the end, one by one -/
theorem map3 {α β γ δ : Type _} {o : Option α} {f : α → β} {g : α → γ} {h : α → δ} {b : β} {c : γ} {d : δ} (h1 : o.map f = some b) (h2 : o.map g = some c) (h3 : o.map h = some d) : o.map (fun s => (f s, g s, h s)) = some (b, c, d) := by
  cases o with
  | none => cases h1
  | some s => cases h1; cases h2; cases h3; rfl
theorem mapP {α β γ : Type _} {o : Option α} {f : α → β × γ} {b : β} {c : γ} (h1 : o.map (fun s => (f s).1) = some b) (h2 : o.map (fun s => (f s).2) = some c) : o.map f = some (b, c) := by
  cases o with
  | none => cases h1
  | some s => cases h1; cases h2; rfl
/-! ### a law's defs -/
/-- a def: its number, name, slots, clean function, whether it hands lambdas on, its text -/
structure DfR where
  i : Nat
  name : Str
  N : List Str
  F : Fn
  hd : Bool
  st : Stmt
def dArgs : Stmt → Arguments
  | .FunctionDef _ a _ _ _ _ _ _ _ _ => a
  | _ => ⟨[], [], none, [], [], none, []⟩
def dBody : Stmt → List Stmt
  | .FunctionDef _ _ b _ _ _ _ _ _ _ => b
  | _ => []
def dScope : Stmt → Scope
  | .FunctionDef _ _ _ _ _ _ s _ _ _ => s
  | _ => ⟨.function, [], false, false, []⟩
def ddOf (x : Str) (st : Stmt) : He.DefD := ⟨(x, none), x, x, dArgs st, dBody st, dScope st, [], []⟩
def DfR.dd (d : DfR) : He.DefD := ddOf d.name d.st
def lOf (ds : List DfR) : List (Nat × Fn) := ds.map fun d => (d.i, d.F)
def nmOf (l : List (Nat × Str)) (i : Nat) : Str := (l.lookup i).getD "law"
def DfR.ok (nm : Nm) (fnm : List (Nat × Str)) (d : DfR) : Bool := plainB (dArgs d.st) (d.N.take d.F.np) && scopeB d.N (d.N.take d.F.np) (dScope d.st) && decide (d.N.length = d.F.ns) && decide (d.F.np ≤ d.F.ns) && decide (nmOf fnm d.i = d.name) &&
  chkS nm d.N d.F.body (dBody d.st) ⟨dScope d.st, fun _ => true, true, true, d.hd⟩
theorem lOf_mem {ds : List DfR} {f : Nat} {F : Fn} (h : (lOf ds).lookup f = some F) : ∃ d ∈ ds, d.i = f ∧ d.F = F := by
  obtain ⟨d, hd, e⟩ := List.mem_map.mp (Cl.lookup_mem h)
  cases e
  exact ⟨d, hd, rfl, rfl⟩
theorem look_mem {β : Type} {x : Str} {v : β} : ∀ {l : List (Str × β)}, l.lookup x = some v → (x, v) ∈ l
  | [], h => by cases h
  | (y, u) :: r, h => by
    rw [List.lookup_cons] at h
    by_cases e : x = y
    · rw [show (x == y) = true from beq_iff_eq.mpr e] at h
      cases h
      rw [e]
      exact List.mem_cons_self ..
    · rw [show (x == y) = false from beq_false_of_ne e] at h
      exact List.mem_cons_of_mem _ (look_mem h)
/-! ### what is asked of the objects -/
def eqV (K : PySem.W.Frag) (x : Str) (a : Addr) : Bool := decide (PySem.W.nsIn K mainGlobals x = some (some (.ref a)))
def noV (K : PySem.W.Frag) (x : Str) : Bool := decide (PySem.W.nsIn K mainGlobals x = some none)
def intsB : List D → List Value → Bool
  | [], [] => true
  | .int i :: ds, .int j _ :: us => decide (i = j) && intsB ds us
  | _, _ => false
def glB (K : PySem.W.Frag) (fnm : List (Nat × Str)) (x : Str) (d : D) : Bool := match PySem.W.nsIn K mainGlobals x with
  | some (some u) => (match d with
    | .int i => (match u with | .int j _ => decide (i = j) | _ => false)
    | .fn f => decide (u = .ref (He.ga K (nmOf fnm f)))
    | .tup ds => (match u with
      | .ref a => (match K.lookup a with
        | some o => (match o.data with | .seq its _ => decide (o.cls = .type "tuple") && decide (its.size ≤ sizeLine) && intsB ds its.toList | _ => false)
        | none => false)
      | _ => false)
    | _ => false)
  | _ => false
def handN : List Str := ["_law_mixed", "_law_draw", "_law_begin", "law"]
def exB (prog : Program) (T : Tab) (nm : Nm) (fnm cnm : List (Nat × Str)) (tf : List He.Defn) (K : PySem.W.Frag) : Bool :=
  (nm.fl.all fun p => eqV K p.1 (He.ga K (nmOf fnm p.2)) && (T p.2).isSome) && nm.bl.all (noV K) && (nm.gl.all fun p => glB K fnm p.1 p.2) && (fnm.all fun p => PySem.W.keepIn K (.ref (He.ga K p.2))) && PySem.W.keepIn K (.ref (He.ga K "law")) && noV K "super" &&
  decide (PySem.W.nsIn K cStatics "thirdparty.any" = some none) && (nm.cl.all fun p => eqV K p.1 (He.ga K (nmOf cnm p.2)) && errB prog K (He.ga K (nmOf cnm p.2)) (fldOf p.2)) && (nm.xl.all fun p => eqV K p.1 (He.ga K (nmOf cnm p.2))) &&
  (nm.cl.all fun p => nm.xl.all fun q => decide (PySem.W.exmOne K (.ref (He.ga K (nmOf cnm p.2))) (.ref (He.ga K (nmOf cnm q.2))) = some (subc p.2 q.2)) && (!subc p.2 q.2 || decide (PySem.W.kitOne K (.ref (He.ga K (nmOf cnm p.2))) (.ref (He.ga K (nmOf cnm q.2))) = some true))) &&
  (handN.all fun x => eqV K x (He.ga K x)) &&
  tf.all fun p => tf.all fun q => !decide ((He.cT K q).2 = (He.cT K p).2) || decide (q.1 = p.1)
abbrev lamQ (x : Str) : Str := x ++ ".<locals>." ++ "<lambda>"
/-- what is fixed -/
def G0 (P : Program) (w : World) (K : PySem.W.Frag) (mg : Str → Option Value) (base : Heap) (T : Tab) (nm : Nm) (fnm cnm : List (Nat × Str)) (tf : List He.Defn) : Gl0 :=
  { P := P, w := w, K := K, mg := mg, base := base, T := T, tabs := tf.map fun p => ((He.cT K p).2, lamQ p.1), fl := [], cl := nm.cl, gl := [], kl := nm.kl, fA := fun i => He.ga K (nmOf fnm i), cA := fun i => He.ga K (nmOf cnm i) }
structure ExF (prog : Program) (T : Tab) (nm : Nm) (fnm cnm : List (Nat × Str)) (tf : List He.Defn) (K : PySem.W.Frag) : Prop where
  fl : ∀ p ∈ nm.fl, PySem.W.nsIn K mainGlobals p.1 = some (some (.ref (He.ga K (nmOf fnm p.2)))) ∧ (T p.2).isSome = true
  bl : ∀ x ∈ nm.bl, PySem.W.nsIn K mainGlobals x = some none
  gl : ∀ p ∈ nm.gl, glB K fnm p.1 p.2 = true
  kp : ∀ p ∈ fnm, PySem.W.keepIn K (.ref (He.ga K p.2)) = true
  kl : PySem.W.keepIn K (.ref (He.ga K "law")) = true
  sup : PySem.W.nsIn K mainGlobals "super" = some none
  opq : PySem.W.nsIn K cStatics "thirdparty.any" = some none
  cl : ∀ p ∈ nm.cl, PySem.W.nsIn K mainGlobals p.1 = some (some (.ref (He.ga K (nmOf cnm p.2)))) ∧ errB prog K (He.ga K (nmOf cnm p.2)) (fldOf p.2) = true
  xl : ∀ p ∈ nm.xl, PySem.W.nsIn K mainGlobals p.1 = some (some (.ref (He.ga K (nmOf cnm p.2))))
  ex : ∀ p ∈ nm.cl, ∀ q ∈ nm.xl, PySem.W.exmOne K (.ref (He.ga K (nmOf cnm p.2))) (.ref (He.ga K (nmOf cnm q.2))) = some (subc p.2 q.2) ∧ (subc p.2 q.2 = true → PySem.W.kitOne K (.ref (He.ga K (nmOf cnm p.2))) (.ref (He.ga K (nmOf cnm q.2))) = some true)
  hn : ∀ x ∈ handN, PySem.W.nsIn K mainGlobals x = some (some (.ref (He.ga K x)))
  tu : ∀ p ∈ tf, ∀ q ∈ tf, (He.cT K q).2 = (He.cT K p).2 → q.1 = p.1
theorem exB_ok {prog : Program} {T : Tab} {nm : Nm} {fnm cnm : List (Nat × Str)} {tf : List He.Defn} {K : PySem.W.Frag} (h : exB prog T nm fnm cnm tf K = true) : ExF prog T nm fnm cnm tf K := by
  unfold exB eqV noV at h
  simp only [Bool.and_eq_true, List.all_eq_true, decide_eq_true_eq, Bool.or_eq_true, Bool.not_eq_true', decide_eq_false_iff_not] at h
  obtain ⟨⟨⟨⟨⟨⟨⟨⟨⟨⟨⟨h1, h2⟩, h3⟩, h4⟩, h5⟩, h6⟩, h7⟩, h8⟩, h9⟩, h10⟩, h12⟩, h11⟩ := h
  refine ⟨h1, h2, h3, h4, h5, h6, h7, h8, h9, fun p hp q hq => ⟨(h10 p hp q hq).1, fun z => ?_⟩, h12, fun p hp q hq e => ?_⟩
  · rcases (h10 p hp q hq).2 with y | y
    · rw [z] at y
      cases y
    · exact y
  · rcases h11 p hp q hq with y | y
    · exact absurd e y
    · exact y
section
variable {P : Program} {w : World} {K : PySem.W.Frag} {mg : Str → Option Value} {base : Heap} {T : Tab} {nm : Nm} {fnm cnm : List (Nat × Str)} {tf : List He.Defn} {h : Heap}
theorem intsV {us : List Value} : ∀ {ds : List D}, intsB ds us = true → ∃ vs, Vals vs us ∧ ∀ (R : Rp) (S : Hp), RepL K R S ds vs := fun {ds} => by
  induction us generalizing ds with
  | nil =>
    intro h
    cases ds with
    | nil => exact ⟨[], .nil, fun _ _ => rfl⟩
    | cons d ds => cases d <;> cases h
  | cons u us ih =>
    intro h
    cases ds with
    | nil => cases h
    | cons d ds =>
      cases d <;> first | (cases h; done) | skip
      cases u <;> first | (cases h; done) | skip
      rename_i i j t
      simp only [intsB, Bool.and_eq_true, decide_eq_true_eq] at h
      obtain ⟨vs, r, q⟩ := ih h.2
      exact ⟨.int i :: vs, .cons ⟨t, by rw [h.1]⟩ r, fun R S => ⟨.int i, vs, rfl, rfl, q R S⟩⟩
theorem ex_gl (X : K.In h) (hm : h.Ns mainGlobals mg) (c : ExF P T nm fnm cnm tf K) : GlOk (G0 P w K mg base T nm fnm cnm tf) nm mg K where
  fl := fun x f e => by
    obtain ⟨a, b⟩ := c.fl _ (look_mem e)
    exact ⟨PySem.W.mg_of X hm a, Option.isSome_iff_exists.mp b⟩
  bl := fun x e => PySem.W.mg_none_of X hm (c.bl x (List.contains_iff_mem.mp e))
  cl := rfl
  kl := rfl
  kp := fun f => by
    show PySem.W.keepIn K (.ref (He.ga K (nmOf fnm f))) = true
    unfold nmOf
    cases e : fnm.lookup f with
    | none => exact c.kl
    | some x =>
      have z : (f, x) ∈ fnm := by
        clear c
        induction fnm with
        | nil => cases e
        | cons p r ih =>
          obtain ⟨g, y⟩ := p
          rw [List.lookup_cons] at e
          by_cases q : f = g
          · subst q
            simp at e
            subst e
            exact List.mem_cons_self ..
          · rw [show (f == g) = false from beq_false_of_ne q] at e
            exact List.mem_cons_of_mem _ (ih e)
      exact c.kp _ z
  gl := fun x d e => by
    have z := c.gl _ (look_mem e)
    unfold glB at z
    cases q : PySem.W.nsIn K mainGlobals x with
    | none => simp only [q] at z; cases z
    | some o =>
      cases o with
      | none => simp only [q] at z; cases z
      | some u =>
        simp only [q] at z
        have hu := PySem.W.mg_of X hm q
        cases d with
        | int i =>
          cases u with
          | int j t =>
            have e2 : i = j := of_decide_eq_true z
            subst e2
            exact ⟨_, .int i, hu, ⟨t, rfl⟩, fun R S _ => rfl⟩
          | _ => cases z
        | fn f =>
          have e2 : u = .ref (He.ga K (nmOf fnm f)) := of_decide_eq_true z
          subst e2
          refine ⟨_, .ref (He.ga K (nmOf fnm f)), hu, rfl, fun R S hR => ?_⟩
          show V.ref _ = .ref (R.fA f)
          rw [hR]
          rfl
        | tup ds =>
          cases u with
          | ref a =>
            simp only at z
            cases q2 : K.lookup a with
            | none => rw [q2] at z; cases z
            | some o =>
              rw [q2] at z
              obtain ⟨oc, od, dt, osl⟩ := o
              cases dt with
              | seq its n =>
                simp only [Bool.and_eq_true, decide_eq_true_eq] at z
                obtain ⟨⟨rfl, z2⟩, z3⟩ := z
                obtain ⟨vs, r, rp⟩ := intsV (K := K) z3
                exact ⟨_, .ref a, hu, rfl, fun R S _ => ⟨a, vs, rfl, .inr ⟨_, its, n, q2, rfl, rfl, z2, r⟩, rp R S⟩⟩
              | _ => cases z
          | _ => cases z
        | _ => cases z
theorem ex_cl (X : K.In h) (hm : h.Ns mainGlobals mg) (ht : (P.main.scope.names.lookup ("super" : Str)).isSome = false) (c : ExF P T nm fnm cnm tf K) : ClOk (G0 P w K mg base T nm fnm cnm tf) nm P mg K where
  sup := PySem.W.mg_none_of X hm c.sup
  at_ := fun x k e => by
    obtain ⟨a, b⟩ := c.cl _ (look_mem e)
    obtain ⟨⟨fI, cc, cda, fd, sn, vn, z⟩, _⟩ := errB_ok c.opq ht b
    refine ⟨PySem.W.mg_of X hm a, fI, cc, cda, fd, sn, vn, ?_⟩
    cases q : fldOf k with
    | none => rw [q] at z; exact z
    | some f => rw [q] at z; exact z
theorem ex_ex (X : K.In h) (hm : h.Ns mainGlobals mg) (ht : (P.main.scope.names.lookup ("super" : Str)).isSome = false) (c : ExF P T nm fnm cnm tf K) : ExOk (G0 P w K mg base T nm fnm cnm tf) nm mg K where
  at_ := fun y j e => PySem.W.mg_of X hm (c.xl _ (look_mem e))
  exm := fun x k y j e1 e2 => c.ex _ (look_mem e1) _ (look_mem e2)
  xf := fun x k e => by
    obtain ⟨a, b⟩ := c.cl _ (look_mem e)
    exact (errB_ok c.opq ht b).2
/-- a def without defaults, as the head tells it -/
theorem fun_of {x : Str} {st : Stmt} {fd : FuncData} (F : FunD K x x (dArgs st) (dBody st) (dScope st) [] [] (He.ga K x) fd) : ∃ (kV doc pm cdv ct oc : Value) (an od : Option Addr) (osl : Array (Option Value)), fd = PySem.W.fnOf x x (dArgs st) (dBody st) (dScope st) .none kV doc pm an cdv ct ∧
    K.lookup (He.ga K x) = some ⟨oc, od, .func (PySem.W.fnOf x x (dArgs st) (dBody st) (dScope st) .none kV doc pm an cdv ct), osl⟩ ∧ PySem.W.codeIn K cdv x = true := by
  obtain ⟨oc, od, dV, kV, doc, pm, an, cdv, ct, osl, rfl, lk, hcd, hD, hK⟩ := F.ex
  rcases hD with ⟨_, rfl⟩ | ⟨z, _⟩
  · exact ⟨kV, doc, pm, cdv, ct, oc, an, od, osl, rfl, lk, hcd⟩
  · exact absurd rfl z
/-- all defs of the table -/
theorem ex_defs {ds : List DfR} {fn : List He.DefD} (c : He.SaysD [] fn K) (cx : ExF P T nm fnm cnm tf K) (hin : ∀ d ∈ ds, d.dd ∈ fn) (hok : (ds.all fun d => d.ok nm fnm) = true) (htf : ∀ d ∈ ds, d.hd = true → (d.name, none) ∈ tf) (hTB : ∀ p ∈ tf, LamX.TabB base mg (He.cT K p).1 (He.cT K p).2)
    (hkl : ∀ d ∈ ds, ∀ q ∈ nm.kl, q.1 = d.i → ∀ (kV doc pm cdv ct : Value) (an : Option Addr), KBd (PySem.W.fnOf d.name d.name (dArgs d.st) (dBody d.st) (dScope d.st) .none kV doc pm an cdv ct) (d.N.take d.F.np) q.2.1 q.2.2.1 q.2.2.2) :
    ∀ d ∈ ds, Def1 (G0 P w K mg base T nm fnm cnm tf) nm K base mg true d.hd d.i d.F := fun d hd => by
  have ok := List.all_eq_true.mp hok d hd
  unfold DfR.ok at ok
  simp only [Bool.and_eq_true, decide_eq_true_eq] at ok
  obtain ⟨⟨⟨⟨⟨o1, o2⟩, o3⟩, o4⟩, o5⟩, o6⟩ := ok
  obtain ⟨fd, F⟩ := c.defs (hin d hd)
  have F' : FunD K d.name d.name (dArgs d.st) (dBody d.st) (dScope d.st) [] [] (He.ga K d.name) fd := F
  obtain ⟨kV, doc, pm, cdv, ct, oc, an, od, osl, rfl, lk, hcd⟩ := fun_of F'
  have hA : (G0 P w K mg base T nm fnm cnm tf).fA d.i = He.ga K d.name := by
    show He.ga K (nmOf fnm d.i) = _
    rw [o5]
  have S := scope_of o2
  have htake : (d.N.take d.F.np).length = d.F.np := by
    rw [List.length_take, o3]
    omega
  have ndp : (d.N.take d.F.np).Nodup := S.nd.sublist (List.take_sublist ..)
  refine ⟨⟨d.name, d.name, dArgs d.st, dBody d.st, dScope d.st, .none, kV, doc, pm, cdv, ct, oc, an, od, osl, d.N, d.N.take d.F.np, ?_, hcd, S, htake, o3, o4, o6, fun us hl => bind_plain (ps := d.N.take d.F.np) o1 rfl ndp hl, fun z => ?_, fun q hq e => hkl d hd q hq e kV doc pm cdv ct an⟩, ?_⟩
  · rw [hA]
    exact lk
  · have hp := htf d hd z
    obtain ⟨ca, rfl⟩ := He.codeIn_ref hcd
    have e1 : (He.cT K (d.name, none)).1 = ca := He.codeOf_eq (p := (d.name, none)) lk rfl
    refine ⟨ca, (He.cT K (d.name, none)).2, rfl, ?_, List.mem_map.mpr ⟨_, hp, rfl⟩, fun p hq e => ?_⟩
    · have := hTB _ hp
      rwa [e1] at this
    · obtain ⟨q, hq2, rfl⟩ := List.mem_map.mp hq
      have := cx.tu _ hp q hq2 e
      show lamQ q.1 = lamQ d.name
      rw [this]
  · rw [hA]
    exact F.kp
end
end Cl
set_option autoImplicit false
set_option Elab.async false
set_option linter.all false
set_option maxRecDepth 100000
set_option maxHeartbeats 4000000
/-! The draws' defs, the law's def, the end. -/
namespace Cl
open PySem PySem.Spec PyProof.Rows L2
section
variable {P : Program} {w : World} {K : PySem.W.Frag} {mg : Str → Option Value} {base : Heap} {nm : Nm} {fd : FuncData} {st : Stmt}
def lcl (sc : Scope) (x : Str) : Bool := decide (sc.names.lookup x = some .local) && dbg x
theorem lcl_ok {sc : Scope} {x : Str} (h : lcl sc x = true) : sc.names.lookup x = some .local ∧ dbg x = true := by
  unfold lcl at h
  simp only [Bool.and_eq_true, decide_eq_true_eq] at h
  exact h
/-- the text of the mixing -/
def MixT (cell k : Str) (b : List Stmt) : Prop := ∀ (X : Cx) (vs : List V) (H : Hp) (Q : VK) (Ef : XK), X.N = [cell, k] → [cell, k].Nodup → X.env.scope.names.lookup cell = some .local → X.env.scope.names.lookup k = some .local → dbg cell = true → dbg k = true → X.env.scope.kind = .function →
  L2.Gl X "int" → X.mg "int" = none → spMixed vs H Q Ef → ∃ t, PSs X b t ∧ t { nx := fun _ H' => Q .non H', rt := Q } (start [cell, k] vs) H
theorem mix_fn {cell k : Str} (F : FunD K "_law_mixed" "_law_mixed" (dArgs st) (dBody st) (dScope st) [] [] (He.ga K "_law_mixed") fd) (hp : plainB (dArgs st) [cell, k] = true) (hs : scopeB [cell, k] [cell, k] (dScope st) = true) (hl : (lcl (dScope st) cell && lcl (dScope st) k) = true)
    (gi : (dScope st).names.lookup ("int" : Str) = some .globalImplicit) (mi : mg "int" = none) (T : MixT cell k (dBody st)) :
    FnG P w K mg base 1 (He.ga K "_law_mixed") fd [cell, k] spMixed ∧ L2.Binds K fd [cell, k] [] ∧ PySem.W.keepIn K (.ref (He.ga K "_law_mixed")) = true := by
  obtain ⟨kV, doc, pm, cdv, ct, oc, an, od, osl, rfl, lk, hcd⟩ := fun_of F
  have S := scope_of hs
  rw [Bool.and_eq_true] at hl
  obtain ⟨a1, a2⟩ := lcl_ok hl.1
  obtain ⟨b1, b2⟩ := lcl_ok hl.2
  refine ⟨fnG_of (k := 0) lk hcd S fun A outer s H vs Q Ef hgd hr hsp => ?_, Binds.all fun us h => bind_plain hp rfl S.nd h, F.kp⟩
  exact T (cxOf (L2.CX P w) P w K mg base [cell, k] "_law_mixed" (dScope st) (He.ga K "_law_mixed") cdv A outer s H Ef) vs H Q Ef rfl S.nd a1 b1 a2 b2 S.kind gi mi hsp
/-- the text of the draw -/
def DrwT (N : List Str) (b : List Stmt) : Prop := ∀ (X : Cx) (G : Gl0) (W : WX) (fm : Addr) (fd : FuncData) (psm : List Str) (vs : List V) (H : Hp) (Q : VK) (Ef : XK), X.N = N → X.N.Nodup → (∀ x ∈ N, X.env.scope.names.lookup x = some .local ∧ dbg x = true) → X.A.units + 1 < cLine → X.A.guards = some [] → Room 1 X.A → Takes X W →
  L2.Gl X "int" → X.mg "int" = none → L2.Gl X "len" → X.mg "len" = none → L2.Gl X "_law_mixed" → X.mg "_law_mixed" = some (.ref fm) → PySem.W.keepIn X.K (.ref fm) = true → FnG X.prog X.w X.K X.mg X.base 1 fm fd psm spMixed → psm.length = 2 → L2.Binds X.K fd psm [] → spDraw G vs H Q Ef →
  ∃ t, PSs X b t ∧ t { nx := fun _ H' => Q .non H', rt := Q } (start N vs) H
theorem drw_fn {G : Gl0} {N psm : List Str} {fdm : FuncData} {fm : Addr} (F : FunD K "_law_draw" "_law_draw" (dArgs st) (dBody st) (dScope st) [] [] (He.ga K "_law_draw") fd) (hp : plainB (dArgs st) (N.take 2) = true) (hs : scopeB N (N.take 2) (dScope st) = true) (hl : (N.all fun x => lcl (dScope st) x) = true) (h2 : (N.take 2).length = 2)
    (gi : (dScope st).names.lookup ("int" : Str) = some .globalImplicit) (mi : mg "int" = none) (ge : (dScope st).names.lookup ("len" : Str) = some .globalImplicit) (ml : mg "len" = none) (gm : (dScope st).names.lookup ("_law_mixed" : Str) = some .globalImplicit) (mm : mg "_law_mixed" = some (.ref fm))
    (hm : FnG P w K mg base 1 fm fdm psm spMixed ∧ L2.Binds K fdm psm [] ∧ PySem.W.keepIn K (.ref fm) = true) (hpm : psm.length = 2) (md : mg "_law_draw" = some (.ref (He.ga K "_law_draw"))) (T : DrwT N (dBody st)) : DrawAt P w K mg base G := by
  obtain ⟨kV, doc, pm, cdv, ct, oc, an, od, osl, rfl, lk, hcd⟩ := fun_of F
  have S := scope_of hs
  refine ⟨_, _, N.take 2, md, F.kp, fnG_of (k := 1) lk hcd S fun A outer s H vs Q Ef hgd hr hsp => ?_, h2, Binds.all fun us h => bind_plain hp rfl (S.nd.sublist (List.take_sublist ..)) h⟩
  exact T (cxOf (L2.CX P w) P w K mg base N "_law_draw" (dScope st) (He.ga K "_law_draw") cdv A outer s H Ef) G (fun cls dx _ H => Ef cls dx H) fm fdm psm vs H Q Ef rfl S.nd (fun x hx => lcl_ok (List.all_eq_true.mp hl x hx)) (by have := hr.un; show (A.deeper _).units + 1 < cLine; omega) hgd hr (takes_of rfl rfl rfl rfl) gi mi ge ml gm mm hm.2.2 hm.1 hpm hm.2.1 hsp
/-- the text of the making -/
def BegT (sc : Scope) (N : List Str) (b : List Stmt) : Prop := ∀ (X : Cx) (vs : List V) (H : Hp) (Q : VK) (Ef : XK), X.N = N → X.env.scope = sc → X.A.units + 64 < cLine → X.calm = true → X.mg "list" = none → spBegin X.K vs H Q Ef → ∃ t, PSs X b t ∧ t { nx := fun _ H' => Q .non H', rt := Q } (start N vs) H
theorem beg_fn {N : List Str} (F : FunD K "_law_begin" "_law_begin" (dArgs st) (dBody st) (dScope st) [] [] (He.ga K "_law_begin") fd) (hp : plainB (dArgs st) (N.take 1) = true) (hs : scopeB N (N.take 1) (dScope st) = true) (ml : mg "list" = none) (T : BegT (dScope st) N (dBody st)) :
    FnG P w K mg base 1 (He.ga K "_law_begin") fd (N.take 1) (spBegin K) ∧ L2.Binds K fd (N.take 1) [] ∧ PySem.W.keepIn K (.ref (He.ga K "_law_begin")) = true := by
  obtain ⟨kV, doc, pm, cdv, ct, oc, an, od, osl, rfl, lk, hcd⟩ := fun_of F
  have S := scope_of hs
  refine ⟨fnG_of (k := 0) lk hcd S fun A outer s H vs Q Ef hgd hr hsp => ?_, Binds.all fun us h => bind_plain hp rfl (S.nd.sublist (List.take_sublist ..)) h, F.kp⟩
  exact T (cxOf (L2.CX P w) P w K mg base N "_law_begin" (dScope st) (He.ga K "_law_begin") cdv A outer s H Ef) vs H Q Ef rfl rfl (by have := hr.un; show (A.deeper _).units + 64 < cLine; omega) rfl ml hsp
/-- the law's first statement -/
def LawT (scr stn : Str) (pre rest : List Stmt) (b : List Stmt) : Prop := ∃ p1 p2 p3 p4 p5, b = pre ++ .Assign [.Name stn p1] (.Call (.Name "_law_begin" p2) [.Name scr p3] [] p4) p5 :: rest
end
/-- what a law's text must show -/
def hdB (tf : List He.Defn) : Bool := tf.any fun p => decide (p.1 = ("law" : Str)) && p.2.isNone
theorem hdB_ok {tf : List He.Defn} (h : hdB tf = true) : (("law" : Str), none) ∈ tf := by
  unfold hdB at h
  rw [List.any_eq_true] at h
  obtain ⟨⟨x, y⟩, hp, h⟩ := h
  rw [Bool.and_eq_true, decide_eq_true_eq, Option.isNone_iff_eq_none] at h
  obtain ⟨h1, h2⟩ := h
  subst h1 h2
  exact hp
structure LawF (P : Program) (T : Tab) (ds : List DfR) (nm : Nm) (fnm cnm : List (Nat × Str)) (tf : List He.Defn) (fn : List He.DefD) (sMix sDrw sBeg sLaw : Stmt) (preE : List E) (restS : Cl.S) (n : Nat) : Prop where
  hT : ∀ f, T f = (lOf ds).lookup f
  ok : (ds.all fun d => d.ok nm fnm) = true
  fin : ∀ d ∈ ds, d.dd ∈ fn
  tfo : ∀ d ∈ ds, d.hd = true → (d.name, none) ∈ tf
  kb : ∀ d ∈ ds, ∀ q ∈ nm.kl, q.1 = d.i → ∀ (kV doc pm cdv ct : Value) (an : Option Addr), KBd (PySem.W.fnOf d.name d.name (dArgs d.st) (dBody d.st) (dScope d.st) .none kV doc pm an cdv ct) (d.N.take d.F.np) q.2.1 q.2.2.1 q.2.2.2
  bl : nm.bl.contains "int" = true ∧ nm.bl.contains "len" = true ∧ nm.bl.contains "list" = true
  hl : ∀ x f, nm.hl.lookup x = some f → nm.fl.lookup x = some f ∧ ∃ d ∈ ds, d.i = f ∧ (lOf ds).lookup f = some d.F ∧ d.hd = false ∧ d.F.np = 1
  fm : ddOf "_law_mixed" sMix ∈ fn
  fd : ddOf "_law_draw" sDrw ∈ fn
  fb : ddOf "_law_begin" sBeg ∈ fn
  fl : ddOf "law" sLaw ∈ fn
  sup : (P.main.scope.names.lookup ("super" : Str)).isSome = false
  mix : ∃ cell k, plainB (dArgs sMix) [cell, k] = true ∧ scopeB [cell, k] [cell, k] (dScope sMix) = true ∧ (lcl (dScope sMix) cell && lcl (dScope sMix) k) = true ∧ (dScope sMix).names.lookup ("int" : Str) = some .globalImplicit ∧ MixT cell k (dBody sMix)
  drw : ∃ N, plainB (dArgs sDrw) (N.take 2) = true ∧ scopeB N (N.take 2) (dScope sDrw) = true ∧ (N.all fun x => lcl (dScope sDrw) x) = true ∧ (N.take 2).length = 2 ∧ (dScope sDrw).names.lookup ("int" : Str) = some .globalImplicit ∧ (dScope sDrw).names.lookup ("len" : Str) = some .globalImplicit ∧ (dScope sDrw).names.lookup ("_law_mixed" : Str) = some .globalImplicit ∧ DrwT N (dBody sDrw)
  beg : ∃ N, plainB (dArgs sBeg) (N.take 1) = true ∧ scopeB N (N.take 1) (dScope sBeg) = true ∧ (N.take 1).length = 1 ∧ BegT (dScope sBeg) N (dBody sBeg)
  law : ∃ scr stn N pre rest, plainB (dArgs sLaw) [scr] = true ∧ scopeB N [scr] (dScope sLaw) = true ∧ N[0]? = some scr ∧ N[1]? = some stn ∧ (lcl (dScope sLaw) scr && lcl (dScope sLaw) stn) = true ∧ (dScope sLaw).names.lookup ("_law_begin" : Str) = some .globalImplicit ∧ LawT scr stn pre rest (dBody sLaw) ∧
    preB nm N ⟨dScope sLaw, fun _ => true, true, true, hdB tf⟩ preE pre = true ∧ (∀ e ∈ preE, wp (evE (run T n) .stuck e (List.replicate N.length none)) (fun d => d = .bl false) (fun _ _ => False)) ∧ chkS nm N restS rest ⟨dScope sLaw, fun _ => true, true, true, hdB tf⟩ = true ∧ wp (exS (run T n) .stuck restS (lawEnv N.length)) (fun p => ∃ e, p = (e, .rt (.bl true))) (fun _ _ => False)
  wt : wgtS (KW (lOf ds) n 0) (KW (lOf ds) n) 0 restS ≤ BIG
  pwt : (preE.map (wgt (KW (lOf ds) n 0) (KW (lOf ds) n) 0)).sum ≤ BIG
section
variable {P : Program} {T : Tab} {ds : List DfR} {nm : Nm} {fnm cnm : List (Nat × Str)} {tf : List He.Defn} {fn : List He.DefD} {sMix sDrw sBeg sLaw : Stmt} {preE : List E} {restS : Cl.S} {n : Nat} {w : World} {K : PySem.W.Frag} {mg : Str → Option Value} {h : Heap} {fa : Addr}
abbrev csOf (K : PySem.W.Frag) (tf : List He.Defn) : List (Addr × Addr) := tf.map (He.cT K)
theorem law_facts (L : LawF P T ds nm fnm cnm tf fn sMix sDrw sBeg sLaw preE restS n) (KX : K.In h) (hm : h.Ns mainGlobals mg) (hfa : mg "law" = some (.ref fa)) (c : SaysC fn tf (exB P T nm fnm cnm tf) h K) :
    ∃ (fd : FuncData) (x : Str), (∀ (s : Shared) (u : Value), BindsTo s fd ⟨[u], []⟩ [(x, u)]) ∧
      ∀ base : Heap, K.In base → base.Ns mainGlobals mg → (∀ p ∈ csOf K tf, LamX.TabB base mg p.1 p.2) → FnG P w K mg base (3 * n + 2 + 3) fa fd [x] (spLaw (G0 P w K mg h T nm fnm cnm tf)) := by
  have cx := exB_ok c.x
  have e : mg "law" = some (.ref (He.ga K "law")) := PySem.W.mg_of KX hm (cx.hn "law" (by simp [handN]))
  rw [hfa] at e
  cases e
  have eM : mg "_law_mixed" = some (.ref (He.ga K "_law_mixed")) := PySem.W.mg_of KX hm (cx.hn _ (by simp [handN]))
  have eD : mg "_law_draw" = some (.ref (He.ga K "_law_draw")) := PySem.W.mg_of KX hm (cx.hn _ (by simp [handN]))
  have eB : mg "_law_begin" = some (.ref (He.ga K "_law_begin")) := PySem.W.mg_of KX hm (cx.hn _ (by simp [handN]))
  obtain ⟨fdm, Fm⟩ := c.d.defs L.fm
  obtain ⟨fdd, Fd⟩ := c.d.defs L.fd
  obtain ⟨fdb, Fb⟩ := c.d.defs L.fb
  obtain ⟨fdl, Fl⟩ := c.d.defs L.fl
  have mi : mg "int" = none := PySem.W.mg_none_of KX hm (cx.bl _ (List.contains_iff_mem.mp L.bl.1))
  have me : mg "len" = none := PySem.W.mg_none_of KX hm (cx.bl _ (List.contains_iff_mem.mp L.bl.2.1))
  have ml : mg "list" = none := PySem.W.mg_none_of KX hm (cx.bl _ (List.contains_iff_mem.mp L.bl.2.2))
  obtain ⟨cell, k, m1, m2, m3, m4, m5⟩ := L.mix
  obtain ⟨N, r1, r2, r3, r4, r5, r6, r7, r8⟩ := L.drw
  obtain ⟨NB, b1, b2, b3, b4⟩ := L.beg
  obtain ⟨scr, stn, NL, pre, rest, l1, l2, l3, l4, l5, l6, ⟨p1, p2, p3, p4, p5, l7⟩, lp1, lp2, l8, l9⟩ := L.law
  obtain ⟨kV, doc, pm, cdv, ct, oc, an, od, osl, rfl, lk, hcd⟩ := fun_of (st := sLaw) Fl
  have S := scope_of l2
  rw [Bool.and_eq_true] at l5
  obtain ⟨a1, a2⟩ := lcl_ok l5.1
  obtain ⟨c1, c2⟩ := lcl_ok l5.2
  refine ⟨_, scr, fun s u => .of_eq (bind_plain (fd := PySem.W.fnOf "law" "law" (dArgs sLaw) (dBody sLaw) (dScope sLaw) .none kV doc pm an cdv ct) (us := [u]) l1 rfl (List.nodup_cons.mpr ⟨by simp, List.nodup_nil⟩) rfl), fun base KB GB hTB => ?_⟩
  have hTB' : ∀ p ∈ tf, LamX.TabB base mg (He.cT K p).1 (He.cT K p).2 := fun p hp => hTB _ (List.mem_map.mpr ⟨p, hp, rfl⟩)
  let G := G0 P w K mg base T nm fnm cnm tf
  have hg : GlOk G nm mg K := ex_gl KX hm cx
  have hcl : ClOk G nm P mg K := ex_cl KX hm L.sup cx
  have hex : ExOk G nm mg K := ex_ex KX hm L.sup cx
  have defs := ex_defs (P := P) (w := w) (mg := mg) (base := base) (nm := nm) (fnm := fnm) (cnm := cnm) (T := T) c.d cx L.fin L.ok L.tfo hTB' L.kb
  have defs2 : ∀ f F, (lOf ds).lookup f = some F → ∃ hd, Def1 G nm K base mg true hd f F := fun f F hf => by
    obtain ⟨d, hd, rfl, rfl⟩ := lOf_mem hf
    exact ⟨_, defs d hd⟩
  have hlo : HlOk G nm K base mg (lOf ds) := ⟨fun x f hx => by
    obtain ⟨q1, d, hd, rfl, q2, q3, q4⟩ := L.hl x f hx
    refine ⟨(hg.fl x _ q1).1, d.F, q2, q4, ?_⟩
    have z := defs d hd
    rwa [q3] at z⟩
  have hdr : DrawAt P w K mg base G := drw_fn (w := w) (base := base) (G := G) Fd r1 r2 r3 r4 r5 mi r6 me r7 eM (mix_fn Fm m1 m2 m3 m4 mi m5) rfl eD r8
  obtain ⟨g1, g2, g3⟩ := beg_fn (P := P) (w := w) (mg := mg) (base := base) Fb b1 b2 ml b4
  have htb : hdB tf = true → TabOk G base mg cdv "law" := fun z => by
    have hp := hdB_ok z
    obtain ⟨ca, rfl⟩ := He.codeIn_ref hcd
    have e1 : (He.cT K (("law" : Str), none)).1 = ca := He.codeOf_eq (p := (("law" : Str), none)) lk rfl
    refine ⟨ca, (He.cT K (("law" : Str), none)).2, rfl, ?_, List.mem_map.mpr ⟨_, hp, rfl⟩, fun p hq e => ?_⟩
    · have := hTB' _ hp
      rwa [e1] at this
    · obtain ⟨q, hq2, rfl⟩ := List.mem_map.mp hq
      have := cx.tu _ hp q hq2 e
      show lamQ q.1 = lamQ "law"
      rw [this]
  rw [l7] at lk ⊢
  exact law_fn (G := G) (l := lOf ds) (N := NL) rfl hg hcl hex L.hT defs2 hlo hdr lk hcd htb S l3 l4 a1 c1 a2 c2 l6 l8 g1 (by omega) b3 g2 eB g3 lp1 lp2 L.pwt l9 L.wt
theorem bits_lt {z : Int} (h : Builtin.Int.intBits z ≤ 1048576) : z.natAbs < BITS :=
  Nat.lt_of_lt_of_le (PySem.intBits_le_iff.mp h) (Nat.pow_le_pow_right (by decide) (by decide))
theorem law_walk {l : PySem.W.OpenLaw} {q : Program} {loose : List Str} {XP : (Str → Option Value) → Heap → Prop} {m : List Addr} {d : DefRec} (L : LawF l.prog T ds nm fnm cnm tf fn sMix sDrw sBeg sLaw preE restS n) (hn : l.most = some 63) (hdf : d.params.defaults = []) (hd : d.name = ("law" : Str)) (room : Room (3 * n + 2 + 3) callerA) :
    PySem.W.WalkO q loose XP (hookC m fn tf (exB l.prog T nm fnm cnm tf)).says l.row.toRowW d [] (fun f vs => PySem.call f vs) := by
  refine Att.attach_callB hn hdf fun w s₀ s₁ mg mb fa o pm cd doc a vs ns G Y ho hd' hcd hmg hobj hints hlen hbits hg => ?_
  obtain ⟨K, KX, c⟩ := Y
  rw [hd] at hmg
  obtain ⟨fd, x, hb, F⟩ := law_facts (w := w) L KX G.T.g hmg c
  have q1 : ∀ p ∈ csOf K tf, s₁.heap.get? p.2 = some eTab := fun p hp => by
    obtain ⟨y, hy, rfl⟩ := List.mem_map.mp hp
    exact c.emp y hy
  have q2 : ∀ p ∈ csOf K tf, K.lookup p.2 = none := fun p hp => by
    obtain ⟨y, hy, rfl⟩ := List.mem_map.mp hp
    exact c.out y hy
  have q3 : ∀ p ∈ csOf K tf, PySem.W.CodeHd s₁.heap p.1 p.2 := fun p hp => by
    obtain ⟨y, hy, rfl⟩ := List.mem_map.mp hp
    exact PySem.W.codeHd_of_K KX (c.hd y hy)
  refine law_end KX G.T.g G.T.b G.T.builtins G.T.nolimit hg q1 q2 q3 G.T.bmain hobj hints (Nat.le_trans hlen (by rw [sizeLine_eq]; decide)) room F hb fun H hH hS => ?_
  refine ⟨a, ns, rfl, hS, hlen, fun z hz => bits_lt (hbits z hz), fun p hp => ?_, fun _ => rfl⟩
  obtain ⟨y, hy, rfl⟩ := List.mem_map.mp hp
  exact hH (He.cT K y) (List.mem_map.mpr ⟨y, hy, rfl⟩)
end
end Cl
set_option autoImplicit false
set_option Elab.async false
set_option linter.all false
set_option maxRecDepth 100000
set_option maxHeartbeats 4000000
namespace Cl
open PySem PySem.Spec PyProof.Rows L2
section
variable {X : Cx}
theorem begin_body2 {scr cells lefts cell : Str} {scl : Scope} {q0 q1 q2 q3 q4 q5 q6 q7 q8 q9 q10 q11 q12 q13 q14 q15 q16 q17 q18 q19 q20 q21 q22 q23 q24 q25 q26 q27 q28 q29 q30 q31 : Pos} {j0 j1 j2 j3 j4 j5 j6 j7 : Nat} {vs : List V} {H : Hp} {Q : VK} {Ef : XK}
    (hN : X.N = [scr, cells, lefts, cell]) (nd : [scr, cells, lefts, cell].Nodup) (l0 : X.env.scope.names.lookup scr = some .local) (l1 : X.env.scope.names.lookup cells = some .local) (l3 : X.env.scope.names.lookup lefts = some .local) (d0 : dbg scr = true) (d1 : dbg cells = true) (d3 : dbg lefts = true) (d2 : dbg cell = true) (hu : X.A.units + 64 < cLine) (hcalm : X.calm = true)
    (hl : L2.Gl X "list") (ml : X.mg "list" = none) (ok : BlkOk X.N X.env.scope scl [(cell, 3)]) (ll : (relS scl X.env.scope).names.lookup cell = some .local) (hk : X.env.scope.kind = .function) (hsw : swB (.ListComp (.IfExp (.Compare (.Name cell q15) [.GtE] [.BinOp (.Constant (.int 10) j4 q16) .Pow (.Constant (.int 18) j5 q17) q18] q19) (.Name cell q20) (.Constant (.int 0) j6 q21) q22) [⟨.Name cell q23, .Name cells q24, [], 0⟩] scl q25) lefts q29 X.env.scope = true) (h : spBegin X.K vs H Q Ef) :
    ∃ t, PSs X [.Assign [.Name cells q0] (.IfExp (.Compare (.Name scr q1) [.NotEq] [.List [] q2] q3) (.Call (.Name "list" q4) [.Name scr q5] [] q6) (.List [.Constant (.int 0) j0 q7] q8) q9) q10,
      .Assign [.Name lefts q29] (.ListComp (.IfExp (.Compare (.Name cell q15) [.GtE] [.BinOp (.Constant (.int 10) j4 q16) .Pow (.Constant (.int 18) j5 q17) q18] q19) (.Name cell q20) (.Constant (.int 0) j6 q21) q22) [⟨.Name cell q23, .Name cells q24, [], 0⟩] scl q25) q30,
      .Return (some (.Dict [some (.Constant (.str "cells") j1 q11), some (.Constant (.str "lefts") j2 q12), some (.Constant (.str "at") j3 q13)]
        [.Name cells q14, .Name lefts q31, .Constant (.int 0) j7 q26] q27)) q28] t ∧
      t { nx := fun _ H' => Q .non H', rt := Q } (start [scr, cells, lefts, cell] vs) H := by
  have nd' : X.N.Nodup := by rw [hN]; exact nd
  have n0 : X.N[0]? = some scr := by rw [hN]; rfl
  have n1 : X.N[1]? = some cells := by rw [hN]; rfl
  have n3 : X.N[2]? = some lefts := by rw [hN]; rfl
  have n2 : X.N[3]? = some cell := by rw [hN]; rfl
  have v3 : ∀ {p : Pos}, PE X (.Name lefts p) (tVar 2) := pe_var n3 (.inl l3) (dbg_of d3).1 (dbg_of d3).2
  have v0 : ∀ {p : Pos}, PE X (.Name scr p) (tVar 0) := pe_var n0 (.inl l0) (dbg_of d0).1 (dbg_of d0).2
  have v1 : ∀ {p : Pos}, PE X (.Name cells p) (tVar 1) := pe_var n1 (.inl l1) (dbg_of d1).1 (dbg_of d1).2
  have f1 : X.fn cells = true ∨ X.env.scope.names.lookup cells = some .local := .inr l1
  obtain ⟨a, ns, rfl, hS, h63, hbits, hQ⟩ := h
  refine ⟨_, pss_cons (ps_set (i := 1) nd' n1 (.inl l1) (pe_ifExp (pt_cmpR (op_neD hu) v0 (pe_lst pa_nil) (by first | rfl | exact nomark _)) (pe_callTy call_list_of hl ml (by rfl) (pa_cons v0 pa_nil)) (pe_lst (pa_cons pe_int pa_nil))))
    (pss_cons (ps_setLc (own := [(cell, 3)]) hcalm nd' n3 l3 (swB_true hk hsw).1 (pi_list v1) ok
      (fun s H C cl fp => pg_name (i := 3) nd' n2 (.inl ll) (.inr ll)) (fun s H C cl fp => pts_nil)
      (fun s H C cl fp => pe_ifExp (pt_cmpR op_ge (pe_var n2 (.inl ll) (dbg_of d2).1 (dbg_of d2).2) (pe_op op_pow pe_int pe_int) (by first | rfl | exact nomark _)) (pe_var n2 (.inl ll) (dbg_of d2).1 (dbg_of d2).2) pe_int))
    (pss_one (ps_ret (pe_disp (pps_cons pe_str v1 (pps_cons pe_str v3
      (pps_cons pe_str pe_int pps_nil))) (by rfl) (by rfl) (fun z => by cases z) (by simp))))), ?_⟩
  have e0 : start [scr, cells, lefts, cell] [V.ref a] = [some (.ref a), none, none, none] := rfl
  rw [e0]
  have hlen : (ns.map V.int).length = ns.length := List.length_map ..
  -- what follows, from the cells' list
  have fin : ∀ (zs : List Int) (sc : Addr) (H1 : Hp), (∀ b o, H b = some o → H1 b = some o) → H sc = none → H1 sc = some (.lst (zs.map V.int)) → 0 < zs.length → zs.length ≤ 63 → (∀ n ∈ zs, n.natAbs < BITS) →
      (tSeq (tAsg (tLc (iList X.K (tVar 1)) (gName 3) tYes (tIf (tTest (tOp (rI0 fun i j => .bl (decide (j ≤ i))) (tVar 3) (tOp (rI CPow fun i j => .int (i ^ j.toNat)) (tC (.int 10)) (tC (.int 18))))) (tVar 3) (tC (.int 0))) [3]) (gName 2)) (tRet (tDisp [(tC (.str (Str.ofString "cells")), tVar 1), (tC (.str (Str.ofString "lefts")), tVar 2), (tC (.str (Str.ofString "at")), tC (.int 0))])))
        { nx := fun _ H' => Q .non H', rt := Q } [some (.ref a), some (.ref sc), none, none] H1 := by
    intro zs sc H1 kp nsc hsc z0 z63 zb
    refine ⟨_, rfl, sc, rfl, ⟨_, SqL.of hsc⟩, fun sl nsl => ?_⟩
    have ne1 : sc ≠ sl := fun y => by rw [y, nsl] at hsc; cases hsc
    refine ⟨fun i m H' => i + m = zs.length ∧ H' = upd H1 sl (.lst (((zs.take i).map leftOf).map V.int)), ⟨zs.length, by omega, rfl⟩, ?_⟩
    rintro i m H' ⟨hm, rfl⟩
    have hsc3 : upd H1 sl (.lst (((zs.take i).map leftOf).map V.int)) sc = some (.lst (zs.map V.int)) := by rw [upd_ne ne1]; exact hsc
    by_cases hi : i < zs.length
    · right
      have ex : (zs.map V.int)[i]? = some (.int zs[i]) := by rw [List.getElem?_map, List.getElem?_eq_getElem hi]; rfl
      refine ⟨⟨zs.map V.int, .int zs[i], SqL.of hsc3, ex⟩, fun H' => H' = upd H1 sl (.lst (((zs.take (i + 1)).map leftOf).map V.int)), fun H' z => ⟨m - 1, by omega, by omega, z⟩, fun x H' hy => ?_⟩
      obtain ⟨rfl, hy⟩ := hy
      have hx := hy (zs.map V.int) (SqL.of hsc3)
      rw [ex] at hx
      cases hx
      refine ⟨rfl, ?_⟩
      simp only [tYes, ↓reduceIte]
      refine ⟨_, rfl, 10, 18, rfl, rfl, (by constructor <;> decide), _, _, rfl, rfl, _, rfl, ?_⟩
      have last : ∀ y : Int, leftOf zs[i] = y → ∃ acc, upd H1 sl (.lst (((zs.take i).map leftOf).map V.int)) sl = some (.lst acc) ∧ acc.length < sizeLine ∧
          upd (upd H1 sl (.lst (((zs.take i).map leftOf).map V.int))) sl (.lst (acc ++ [V.int y])) = upd H1 sl (.lst (((zs.take (i + 1)).map leftOf).map V.int)) := fun y hy => by
        refine ⟨_, upd_same, ?_, ?_⟩
        · have : sizeLine > 1000 := by rw [sizeLine_eq]; decide
          simp
          omega
        · rw [upd_upd, List.take_succ, List.getElem?_eq_getElem hi, Option.toList_some, List.map_append, List.map_append, List.map_cons, List.map_nil, hy]
          rfl
      show if decide ((10 : Int) ^ (18 : Int).toNat ≤ zs[i]) = true then _ else _
      by_cases hc : (1000000000000000000 : Int) ≤ zs[i]
      · rw [if_pos (decide_eq_true (by have : (10 : Int) ^ (18 : Int).toNat = 1000000000000000000 := by decide
                                       rw [this]; exact hc))]
        exact ⟨_, rfl, last zs[i] (if_pos hc)⟩
      · rw [if_neg (by
          have : (10 : Int) ^ (18 : Int).toNat = 1000000000000000000 := by decide
          rw [this, decide_eq_false hc]
          decide)]
        exact last 0 (if_neg hc)
    · left
      have e1 : zs.take i = zs := List.take_of_length_le (by omega)
      rw [e1] at hsc3 ⊢
      refine ⟨⟨zs.map V.int, SqL.of hsc3, by simp; omega⟩, ?_⟩
      intro sp nsp
      have nsp1 : H1 sp = none := by
        cases e : H1 sp with
        | none => rfl
        | some o =>
          rw [upd_ne (fun y => by
            rw [← y, upd_same] at nsp
            cases nsp)] at nsp
          rw [e] at nsp
          cases nsp
      have ne2 : sp ≠ sl := fun y => by
        rw [y, upd_same] at nsp
        cases nsp
      have ne0 : sc ≠ sp := fun y => by rw [y, nsp1] at hsc; cases hsc
      refine ⟨_, rfl, _, rfl, upd_same, [(keyS "cells", .ref sc), (keyS "lefts", .ref sl), (keyS "at", .int 0)], rfl, by simp, ?_⟩
      have nn : ∀ b, H1 b = none → H b = none := fun b e1 => by
        cases e : H b with
        | none => rfl
        | some o => rw [kp _ _ e] at e1; cases e1
      refine hQ sp sc sl _ ⟨nn _ nsp1, nsc, nn _ nsl, fun b o hb => ?_, ⟨⟨zs, zs.map leftOf, 0⟩, ?_, ?_, ?_, by simp, z0, by show zs.length ≤ 1000; omega, zb, fun c hc => ?_, rfl⟩, ne1⟩
      · have h1 := kp _ _ hb
        rw [upd_ne (fun y => by rw [y, nsp1] at h1; cases h1), upd_ne (fun y => by rw [y, nsp1] at h1; cases h1), upd_ne (fun y => by rw [y, nsl] at h1; cases h1)]
        exact h1
      · rw [upd_same]
        rfl
      · rw [upd_ne ne0, upd_ne ne0]
        exact hsc3
      · rw [upd_ne (fun y => ne2 y.symm), upd_ne (fun y => ne2 y.symm), upd_same]
      · obtain ⟨y, hy, rfl⟩ := List.mem_map.mp hc
        unfold leftOf
        split
        · exact ⟨by omega, zb y hy⟩
        · exact ⟨by decide, by show 0 < BITS; exact Nat.two_pow_pos _⟩
  -- the cells' list
  refine ⟨_, rfl, (by show 0 ≤ sizeLine; rw [sizeLine_eq]; decide), fun p np => ?_⟩
  have hS2 : SqL X.K (upd H p (.lst [])) a (ns.map V.int) := SqL.same (same_upd np) hS
  refine ⟨_, _, .lst hS2 (dp_ints ns), .lst (SqL.of upd_same) .nil, shaped_ints ns, rfl, _, rfl, ?_⟩
  rw [eqv_nil]
  cases ns with
  | nil =>
    show (if (!true) = true then _ else _)
    rw [if_neg (by decide)]
    refine ⟨(by show 1 ≤ sizeLine; rw [sizeLine_eq]; decide), fun q nq => ?_⟩
    refine fin [0] q _ (fun b o hb => same_upd nq _ _ (same_upd np _ _ hb)) ?_ upd_same (by decide) (by decide) (fun n hn => ?_)
    · cases e : H q with
      | none => rfl
      | some o => rw [same_upd np _ _ e] at nq; cases nq
    · rw [List.mem_singleton.mp hn]
      show 0 < BITS
      exact Nat.two_pow_pos _
  | cons n0 ns0 =>
    show (if (!false) = true then _ else _)
    rw [if_pos (by decide)]
    refine ⟨_, rfl, a, _, rfl, .inl hS2, fun q nq => ?_⟩
    refine fin (n0 :: ns0) q _ (fun b o hb => same_upd nq _ _ (same_upd np _ _ hb)) ?_ upd_same (by simp) h63 hbits
    cases e : H q with
    | none => rfl
    | some o => rw [same_upd np _ _ e] at nq; cases nq
end
end Cl
set_option autoImplicit false
set_option Elab.async false
set_option linter.all false
set_option maxRecDepth 100000
set_option maxHeartbeats 4000000
/-! How many draws a law may take: a bound that is quickly reckoned. -/
namespace Cl
section
variable (be : Nat)
def cfE : E → Nat
  | .cons a r => cfE a + cfE r
  | .list a => cfE a
  | .frz a => cfE a
  | .bin _ a b => cfE a + cfE b
  | .neg a => cfE a
  | .cmp _ a b => cfE a + cfE b
  | .chain _ _ a b c => cfE a + cfE b + cfE c
  | .not a => cfE a
  | .and a b => cfE a + cfE b
  | .or a b => cfE a + cfE b
  | .ite c a b => cfE c + cfE a + cfE b
  | .idx a b => cfE a + cfE b
  | .slc a l h => cfE a + cfE l + cfE h
  | .rev a => cfE a
  | .call _ a => cfE a
  | .callk _ _ a b => cfE a + cfE b
  | .callv _ a => cfE a
  | .heard _ b => be * cfE b
  | .force _ => 1
  | .prim _ a => cfE a
  | .meth _ a b => cfE a + cfE b
  | .comp _ _ it _ c e => cfE it + LIM * (cfE c + cfE e)
  | .comp2 _ _ it _ c _ _ it1 _ c1 e => cfE it + LIM * (cfE c + cfE it1 + LIM * (cfE c1 + cfE e))
  | .draw a b => cfE a + cfE b
  | _ => 0
def cfS : S → Nat
  | .kill _ r | .frz _ r | .pass r => cfS r
  | .set _ _ e r | .sets _ e r | .mset _ e r | .app _ e r | .ext _ e r | .rem _ e r | .apop _ _ e r | .expr e r => cfE be e + cfS r
  | .setix _ a b r | .ins _ a b r => cfE be a + cfE be b + cfS r
  | .ite c a b r => cfE be c + cfS a + cfS b + cfS r
  | .for_ _ it _ b r => cfE be it + LIM * cfS b + cfS r
  | .whl c b r => LIM * (cfE be c + cfS b) + cfS r
  | .ret e => cfE be e
  | .raise _ e => cfE be e
  | .try_ b h r => cfS b + cfS h + cfS r
  | .hand _ _ b r => cfS b + cfS r
  | _ => 0
end
section
variable {k al be t : Nat} {kh : Nat → Nat}
theorem lim_le {x y z : Nat} (h : x ≤ y + t * z) : LIM * x ≤ LIM * y + t * (LIM * z) := by
  have h1 := Nat.mul_le_mul_left LIM h
  rw [Nat.mul_add] at h1
  rw [Nat.mul_left_comm t LIM z]
  exact h1
theorem wgt_le (h1 : k ≤ al) (h2 : ∀ x, kh x ≤ al + be * x) : ∀ e : E, wgt k kh t e ≤ wgt al (fun x => al + be * x) 0 e + t * cfE be e := by
  intro e
  induction e with
  | heard f b ih =>
    simp only [wgt, cfE]
    have z := h2 (wgt k kh t b)
    have z2 := Nat.mul_le_mul_left be ih
    rw [Nat.mul_add, Nat.mul_left_comm be t] at z2
    omega
  | force => simp only [wgt, cfE]; omega
  | comp own w it t' c elt i1 i2 i3 =>
    simp only [wgt, cfE, Nat.mul_add] at *
    have z2 := lim_le i2
    have z3 := lim_le i3
    omega
  | comp2 own w it t' c own1 w1 it1 t1 c1 elt i1 i2 i3 i4 i5 =>
    simp only [wgt, cfE, Nat.mul_add] at *
    have z2 := lim_le i2
    have z3 := lim_le i3
    have z4 := lim_le (lim_le i4)
    have z5 := lim_le (lim_le i5)
    omega
  | _ => simp only [wgt, cfE, Nat.mul_add, Nat.mul_zero] at * <;> omega
theorem wgtS_le (h1 : k ≤ al) (h2 : ∀ x, kh x ≤ al + be * x) : ∀ s : S, wgtS k kh t s ≤ wgtS al (fun x => al + be * x) 0 s + t * cfS be s := by
  have w := fun e => wgt_le (t := t) h1 h2 e
  intro s
  induction s with
  | set i o e r ih => have := w e; simp only [wgtS, cfS, Nat.mul_add] at *; omega
  | sets _ e r ih => have := w e; simp only [wgtS, cfS, Nat.mul_add] at *; omega
  | mset _ e r ih => have := w e; simp only [wgtS, cfS, Nat.mul_add] at *; omega
  | app _ e r ih => have := w e; simp only [wgtS, cfS, Nat.mul_add] at *; omega
  | ext _ e r ih => have := w e; simp only [wgtS, cfS, Nat.mul_add] at *; omega
  | rem _ e r ih => have := w e; simp only [wgtS, cfS, Nat.mul_add] at *; omega
  | apop _ _ e r ih => have := w e; simp only [wgtS, cfS, Nat.mul_add] at *; omega
  | expr e r ih => have := w e; simp only [wgtS, cfS, Nat.mul_add] at *; omega
  | setix _ a b r ih => have := w a; have := w b; simp only [wgtS, cfS, Nat.mul_add] at *; omega
  | ins _ a b r ih => have := w a; have := w b; simp only [wgtS, cfS, Nat.mul_add] at *; omega
  | ite c a b r i1 i2 i3 => have := w c; simp only [wgtS, cfS, Nat.mul_add] at *; omega
  | for_ _ it _ b r i1 i2 =>
    have := w it
    have z := lim_le i1
    simp only [wgtS, cfS, Nat.mul_add] at *
    omega
  | whl c b r i1 i2 =>
    have z := lim_le i1
    have z2 := lim_le (w c)
    simp only [wgtS, cfS, Nat.mul_add] at *
    omega
  | ret e => exact w e
  | raise _ e => exact w e
  | _ => simp only [wgtS, cfS, Nat.mul_add, Nat.mul_zero] at * <;> omega
end
def frN {α : Type} (n : Nat) (k : Nat → α) : α := match n with
  | 0 => k 0
  | m + 1 => k (m + 1)
theorem frN_eq {α : Type} (n : Nat) (k : Nat → α) : frN n k = k n := by cases n <;> rfl
/-- bounds of a level: a + b * t -/
def UA {α : Type} (l : List (Nat × Fn)) : Nat → (Nat → Nat → α) → α
  | 0, k => k 0 0
  | n + 1, k => UA l n fun al be => frN ((l.map fun p => wgtS al (fun x => al + be * x) 0 p.2.body).foldl max 0) fun a => frN ((l.map fun p => cfS be p.2.body).foldl max 0) fun b => k a b
theorem foldl_le {l : List Nat} {a m : Nat} (h : ∀ x ∈ l, x ≤ m) (ha : a ≤ m) : l.foldl max a ≤ m := by
  induction l generalizing a with
  | nil => exact ha
  | cons x l ih => exact ih (fun y hy => h y (List.mem_cons_of_mem _ hy)) (by have := h x (List.mem_cons_self ..); omega)
theorem UA_ok (l : List (Nat × Fn)) : ∀ n, ∃ al be, (∀ {α : Type} (k : Nat → Nat → α), UA l n k = k al be) ∧ ∀ t, KW l n t ≤ al + be * t
  | 0 => ⟨0, 0, fun k => rfl, fun t => Nat.zero_le _⟩
  | n + 1 => by
    obtain ⟨al, be, h1, h2⟩ := UA_ok l n
    refine ⟨(l.map fun p => wgtS al (fun x => al + be * x) 0 p.2.body).foldl max 0, (l.map fun p => cfS be p.2.body).foldl max 0, fun k => ?_, fun t => ?_⟩
    · rw [UA, h1, frN_eq, frN_eq]
    · rw [KW]
      refine foldl_le (fun x hx => ?_) (Nat.zero_le _)
      obtain ⟨p, hp, rfl⟩ := List.mem_map.mp hx
      have h3 := wgtS_le (t := t) (k := KW l n 0) (kh := KW l n) (al := al) (be := be) (by have := h2 0; omega) h2 p.2.body
      have a1 := le_foldl_max (l.map fun p => wgtS al (fun x => al + be * x) 0 p.2.body) 0 _ (.inr (List.mem_map.mpr ⟨p, hp, rfl⟩))
      have a2 := le_foldl_max (l.map fun p => cfS be p.2.body) 0 _ (.inr (List.mem_map.mpr ⟨p, hp, rfl⟩))
      have a3 := Nat.mul_le_mul_left t a2
      rw [Nat.mul_comm t (List.foldl _ _ _)] at a3
      omega
theorem wt_ok {l : List (Nat × Fn)} {n : Nat} {s : S} {m : Nat} (h : (UA l n fun al be => decide (wgtS al (fun x => al + be * x) 0 s ≤ m)) = true) : wgtS (KW l n 0) (KW l n) 0 s ≤ m := by
  obtain ⟨al, be, h1, h2⟩ := UA_ok l n
  rw [h1] at h
  have h3 := wgtS_le (t := 0) (k := KW l n 0) (kh := KW l n) (al := al) (be := be) (by have := h2 0; omega) h2 s
  have := of_decide_eq_true h
  omega
theorem wt_okP {l : List (Nat × Fn)} {n : Nat} {es : List E} {m : Nat} (h : (UA l n fun al be => decide ((es.map (wgt al (fun x => al + be * x) 0)).sum ≤ m)) = true) : (es.map (wgt (KW l n 0) (KW l n) 0)).sum ≤ m := by
  obtain ⟨al, be, h1, h2⟩ := UA_ok l n
  rw [h1] at h
  refine Nat.le_trans ?_ (of_decide_eq_true h)
  clear h
  induction es with
  | nil => exact Nat.le_refl _
  | cons e es ih =>
    have h3 := wgt_le (t := 0) (k := KW l n 0) (kh := KW l n) (al := al) (be := be) (by have := h2 0; omega) h2 e
    simp only [List.map_cons, List.sum_cons]
    omega
end Cl
set_option maxRecDepth 100000
namespace Cl
/-- is_from(value, low, high): 0 value 1 low 2 high -/
def f0 : Fn := ⟨3, 3,
  S.ret (E.and (E.prim .isInt (E.cons (E.var 0) E.nil)) (E.and (E.not (E.prim .isBool (E.cons (E.var 0) E.nil))) (E.chain .le .le (E.var 1) (E.var 0) (E.var 2))))⟩
/-- is_holder(value): 0 value 1 item -/
def f1 : Fn := ⟨1, 2,
  S.ite (E.or (E.not (E.prim .isTuple (E.cons (E.var 0) E.nil))) (E.cmp .gt (E.prim .len (E.cons (E.var 0) E.nil)) (E.glo "MOST_SHAPES" (D.int 60))))
    (S.ret (E.con (D.bl false)))
    (S.done) <| 
  S.ret (E.cmp .eq (E.prim .len (E.cons (E.comp [1] .seq (E.var 0) (Tg.v 1) (E.not (E.call 0 (E.cons (E.var 1) (E.cons (E.con (D.int 0)) (E.cons (E.glo "MOST_PLACES" (D.int 12)) E.nil))))) (E.con (D.int 1))) E.nil)) (E.con (D.int 0)))⟩
/-- need_holder(value): 0 value -/
def f2 : Fn := ⟨1, 1,
  S.ite (E.not (E.call 1 (E.cons (E.var 0) E.nil)))
    (S.raise 1 (E.var 0))
    (S.done) <| 
  S.ret (E.var 0)⟩
/-- need_index(value, size): 0 value 1 size -/
def f3 : Fn := ⟨2, 2,
  S.ite (E.not (E.call 0 (E.cons (E.var 0) (E.cons (E.con (D.int 0)) (E.cons (E.bin .sub (E.var 1) (E.con (D.int 1))) E.nil)))))
    (S.raise 12 (E.var 0))
    (S.done) <| 
  S.ret (E.var 0)⟩
/-- power_so(number, times): 0 number 1 times 2 found 3 step -/
def f4 : Fn := ⟨2, 4,
  S.set 2 false (E.con (D.int 1)) <| 
  S.for_ .rng1 (E.cons (E.var 1) E.nil) (Tg.v 3)
    (S.set 2 false (E.frz (E.bin .mul (E.var 2) (E.var 0))) <| (S.kill [3] S.done)) <| 
  S.kill [3] <| 
  S.ret (E.var 2)⟩
/-- fillings_so(holder, many): 0 holder 1 many 2 places -/
def f5 : Fn := ⟨2, 3,
  S.ret (E.prim .sum (E.cons (E.comp [2] .seq (E.var 0) (Tg.v 2) (E.con (D.bl true)) (E.call 4 (E.cons (E.var 1) (E.cons (E.var 2) E.nil)))) E.nil))⟩
/-- need_many(value): 0 value -/
def f6 : Fn := ⟨1, 1,
  S.ite (E.not (E.call 0 (E.cons (E.var 0) (E.cons (E.con (D.int 0)) (E.cons (E.glo "MOST_THING" (D.int 1000000000000000000000000000000000000000000000000000000000000)) E.nil)))))
    (S.raise 13 (E.var 0))
    (S.done) <| 
  S.ret (E.var 0)⟩
/-- count_fillings(holder, many): 0 holder 1 many -/
def f7 : Fn := ⟨2, 2,
  S.expr (E.call 2 (E.cons (E.var 0) E.nil)) <| 
  S.ret (E.call 5 (E.cons (E.var 0) (E.cons (E.call 6 (E.cons (E.var 1) E.nil)) E.nil)))⟩
/-- is_thing(value): 0 value -/
def f8 : Fn := ⟨1, 1,
  S.ret (E.call 0 (E.cons (E.var 0) (E.cons (E.con (D.int 0)) (E.cons (E.glo "MOST_THING" (D.int 1000000000000000000000000000000000000000000000000000000000000)) E.nil))))⟩
/-- is_filling(holder, value): 0 holder 1 value 2 thing -/
def f9 : Fn := ⟨2, 3,
  S.ite (E.or (E.not (E.prim .isTuple (E.cons (E.var 1) E.nil))) (E.or (E.cmp .ne (E.prim .len (E.cons (E.var 1) E.nil)) (E.con (D.int 2))) (E.not (E.prim .isTuple (E.cons (E.idx (E.var 1) (E.con (D.int 1))) E.nil)))))
    (S.ret (E.con (D.bl false)))
    (S.done) <| 
  S.ite (E.or (E.not (E.call 0 (E.cons (E.idx (E.var 1) (E.con (D.int 0))) (E.cons (E.con (D.int 0)) (E.cons (E.bin .sub (E.prim .len (E.cons (E.var 0) E.nil)) (E.con (D.int 1))) E.nil))))) (E.cmp .ne (E.prim .len (E.cons (E.idx (E.var 1) (E.con (D.int 1))) E.nil)) (E.idx (E.var 0) (E.idx (E.var 1) (E.con (D.int 0))))))
    (S.ret (E.con (D.bl false)))
    (S.done) <| 
  S.ret (E.cmp .eq (E.prim .len (E.cons (E.comp [2] .seq (E.idx (E.var 1) (E.con (D.int 1))) (Tg.v 2) (E.not (E.call 8 (E.cons (E.var 2) E.nil))) (E.con (D.int 1))) E.nil)) (E.con (D.int 0)))⟩
/-- check_filling(holder, value): 0 holder 1 value -/
def f10 : Fn := ⟨2, 2,
  S.ite (E.not (E.call 9 (E.cons (E.var 0) (E.cons (E.var 1) E.nil))))
    (S.raise 2 (E.var 1))
    (S.done) <| 
  S.ret (E.var 1)⟩
/-- rows_of(things, size): 0 things 1 size 2 found 3 step 4 longer 5 row 6 thing -/
def f12 : Fn := ⟨2, 7,
  S.set 2 false (E.frz (E.list (E.cons E.nil E.nil))) <| 
  S.for_ .rng1 (E.cons (E.var 1) E.nil) (Tg.v 3)
    (S.set 4 true (E.list E.nil) <| 
     S.for_ .seq (E.var 2) (Tg.v 5)
       (S.ext 4 (E.comp [6] .seq (E.var 0) (Tg.v 6) (E.con (D.bl true)) (E.frz (E.bin .add (E.var 5) (E.cons (E.var 6) E.nil)))) <| (S.kill [5] S.done)) <| 
     S.kill [5] <| 
     S.set 2 false (E.frz (E.prim .list (E.cons (E.bor 4) E.nil))) <| (S.kill [3, 4, 5] S.done)) <| 
  S.kill [3, 4, 5] <| 
  S.ret (E.var 2)⟩
/-- _law_of(_law_state, _law_some): 0 _law_state 1 _law_some -/
def f21 : Fn := ⟨2, 2,
  S.ret (E.idx (E.var 1) (E.draw (E.var 0) (E.prim .len (E.cons (E.var 1) E.nil))))⟩
/-- _law_holder(_law_state, _law_many_so, _law_most): 0 _law_state 1 _law_many_so 2 _law_most 3 _law_step -/
def f22 : Fn := ⟨3, 4,
  S.ret (E.prim .tuple (E.cons (E.comp [3] .rng1 (E.cons (E.draw (E.var 0) (E.bin .add (E.var 1) (E.con (D.int 1)))) E.nil) (Tg.v 3) (E.con (D.bl true)) (E.draw (E.var 0) (E.bin .add (E.var 2) (E.con (D.int 1))))) E.nil))⟩
/-- _law_full(_law_state, _law_many_so, _law_most): 0 _law_state 1 _law_many_so 2 _law_most 3 _law_found 4 _law_step -/
def f23 : Fn := ⟨3, 5,
  S.set 3 false (E.frz (E.comp [4] .rng1 (E.cons (E.draw (E.var 0) (E.var 1)) E.nil) (Tg.v 4) (E.con (D.bl true)) (E.draw (E.var 0) (E.bin .add (E.var 2) (E.con (D.int 1)))))) <| 
  S.ret (E.prim .tuple (E.cons (E.bin .add (E.var 3) (E.list (E.cons (E.frz (E.bin .add (E.con (D.int 1)) (E.draw (E.var 0) (E.var 2)))) E.nil))) E.nil))⟩
/-- _law_rows(_law_many_so, _law_size): 0 _law_many_so 1 _law_size 2 _law_found 3 _law_step 4 _law_more 5 _law_row 6 _law_mark -/
def f24 : Fn := ⟨2, 7,
  S.set 2 false (E.frz (E.list (E.cons E.nil E.nil))) <| 
  S.for_ .rng1 (E.cons (E.var 0) E.nil) (Tg.v 3)
    (S.set 4 false (E.frz (E.list E.nil)) <| 
     S.for_ .seq (E.var 2) (Tg.v 5)
       (S.set 4 false (E.frz (E.bin .add (E.var 4) (E.comp [6] .rng1 (E.cons (E.var 1) E.nil) (Tg.v 6) (E.con (D.bl true)) (E.frz (E.bin .add (E.var 5) (E.cons (E.var 6) E.nil)))))) <| (S.kill [5] S.done)) <| 
     S.kill [5] <| 
     S.set 2 false (E.frz (E.prim .list (E.cons (E.var 4) E.nil))) <| (S.kill [3, 4, 5] S.done)) <| 
  S.kill [3, 4, 5] <| 
  S.ret (E.var 2)⟩
/-- _law_like(_law_got, _law_due): 0 _law_got 1 _law_due -/
def f27 : Fn := ⟨2, 2,
  S.ret (E.cmp .eq (E.prim .repr (E.cons (E.var 0) E.nil)) (E.prim .repr (E.cons (E.var 1) E.nil)))⟩
/-- check_size(shapes, places): 0 shapes 1 places -/
def f231 : Fn := ⟨2, 2,
  S.ite (E.cmp .gt (E.var 0) (E.glo "MOST_SHAPES" (D.int 60)))
    (S.raise 15 (E.glo "MOST_SHAPES" (D.int 60)))
    (S.done) <| 
  S.ite (E.cmp .gt (E.var 1) (E.glo "MOST_PLACES" (D.int 12)))
    (S.raise 15 (E.glo "MOST_PLACES" (D.int 12)))
    (S.done) <| S.done⟩
/-- greatest(holder): 0 holder -/
def f232 : Fn := ⟨1, 1,
  S.ret (E.prim .maxD (E.cons (E.var 0) (E.cons (E.con (D.int 0)) E.nil)))⟩
/-- _law_power(_law_base, _law_times): 0 _law_base 1 _law_times 2 _law_found 3 _law_step -/
def f244 : Fn := ⟨2, 4,
  S.set 2 false (E.con (D.int 1)) <| 
  S.for_ .rng1 (E.cons (E.var 1) E.nil) (Tg.v 3)
    (S.set 2 false (E.frz (E.bin .mul (E.var 2) (E.var 0))) <| (S.kill [3] S.done)) <| 
  S.kill [3] <| 
  S.ret (E.var 2)⟩
/-- _law_count(_law_near_so, _law_size): 0 _law_near_so 1 _law_size 2 _law_wide -/
def f245 : Fn := ⟨2, 3,
  S.ret (E.prim .sum (E.cons (E.comp [2] .seq (E.var 0) (Tg.v 2) (E.con (D.bl true)) (E.call 244 (E.cons (E.var 1) (E.cons (E.var 2) E.nil)))) E.nil))⟩
/-- _law_odd(_law_state): 0 _law_state 1 _law_some -/
def f250 : Fn := ⟨1, 2,
  S.set 1 false (E.frz (E.list (E.cons (E.con D.non) (E.cons (E.con (D.int 3)) (E.cons (E.con (D.bl true)) (E.cons (E.con (D.str "")) (E.cons (E.frz (E.list (E.cons (E.con (D.int 1)) (E.cons (E.con (D.int 2)) E.nil)))) (E.cons (E.cons (E.con (D.int 13)) E.nil) (E.cons (E.cons (E.con (D.int 0)) (E.cons (E.neg (E.con (D.int 1))) E.nil)) (E.cons (E.cons (E.con (D.bl true)) E.nil) (E.cons (E.cons (E.cons (E.con (D.int 1)) E.nil) E.nil) (E.cons (E.cons (E.con (D.int 1)) (E.cons (E.con D.non) E.nil)) (E.cons (E.cons (E.con (D.int 2)) (E.cons (E.con (D.str "1")) E.nil)) E.nil))))))))))))) <| 
  S.ret (E.call 21 (E.cons (E.var 0) (E.cons (E.frz (E.bin .add (E.var 1) (E.list (E.cons (E.frz (E.bin .mul (E.cons (E.con (D.int 0)) E.nil) (E.con (D.int 61)))) E.nil)))) E.nil)))⟩
/-- _law_refusal(_law_tell): 0 _law_tell 1 _law_found 2 _law_answer 3 e -/
def f252 : Fn := ⟨1, 4,
  S.sets (Tg.cons (Tg.v 1) (Tg.cons (Tg.v 2) Tg.nil)) (E.cons (E.con D.non) (E.cons (E.con D.non) E.nil)) <| 
  S.try_ (S.set 2 false (E.force 0) <| S.done)
    (S.hand 1 (some 3) (S.set 1 false (E.cons (E.con (D.str "holder")) (E.cons (E.attr 3 "value") E.nil)) <| S.done) (S.hand 2 (some 3) (S.set 1 false (E.cons (E.con (D.str "filling")) (E.cons (E.attr 3 "value") E.nil)) <| S.done) (S.hand 3 (some 3) (S.set 1 false (E.cons (E.con (D.str "program")) (E.cons (E.attr 3 "place") E.nil)) <| S.done) (S.hand 12 (some 3) (S.set 1 false (E.cons (E.con (D.str "index")) (E.cons (E.attr 3 "value") E.nil)) <| S.done) (S.hand 13 (some 3) (S.set 1 false (E.cons (E.con (D.str "parameter")) (E.cons (E.attr 3 "value") E.nil)) <| S.done) (S.hand 15 (some 3) (S.set 1 false (E.cons (E.con (D.str "too great")) (E.cons (E.attr 3 "most") E.nil)) <| S.done) (S.hand 14 none (S.set 1 false (E.cons (E.con (D.str "no row")) E.nil) <| S.done) (S.hand 0 none (S.set 1 false (E.cons (E.con (D.str "other")) E.nil) <| S.done) (S.done))))))))) <| 
  S.ret (E.ite (E.cmp .is (E.var 1) (E.con D.non)) (E.cons (E.con (D.str "told")) (E.cons (E.var 2) E.nil)) (E.var 1))⟩
/-- _law_filled(_law_state, _law_near_so, _law_most): 0 _law_state 1 _law_near_so 2 _law_most 3 _law_pick 4 _law_step -/
def f273 : Fn := ⟨3, 5,
  S.set 3 false (E.draw (E.var 0) (E.prim .len (E.cons (E.var 1) E.nil))) <| 
  S.ret (E.cons (E.var 3) (E.cons (E.prim .tuple (E.cons (E.comp [4] .rng1 (E.cons (E.idx (E.var 1) (E.var 3)) E.nil) (Tg.v 4) (E.con (D.bl true)) (E.draw (E.var 0) (E.var 2))) E.nil)) E.nil))⟩
/-- into_count(one, other): 0 one 1 other 2 places -/
def f413 : Fn := ⟨2, 3,
  S.ret (E.prim .sum (E.cons (E.comp [2] .seq (E.var 0) (Tg.v 2) (E.con (D.bl true)) (E.call 4 (E.cons (E.prim .len (E.cons (E.var 1) E.nil)) (E.cons (E.var 2) E.nil)))) E.nil))⟩
/-- into_so(one, other): 0 one 1 other 2 shape 3 places 4 row -/
def f414 : Fn := ⟨2, 5,
  S.ret (E.frz (E.comp2 [2, 3, 4] .enum (E.cons (E.var 0) E.nil) (Tg.cons (Tg.v 2) (Tg.cons (Tg.v 3) Tg.nil)) (E.con (D.bl true)) [4] .seq (E.call 12 (E.cons (E.frz (E.prim .listRange (E.cons (E.prim .len (E.cons (E.var 1) E.nil)) E.nil))) (E.cons (E.var 3) E.nil))) (Tg.v 4) (E.con (D.bl true)) (E.cons (E.var 2) (E.cons (E.var 4) E.nil))))⟩
/-- into_sizes(one, other): 0 one 1 other 2 inner 3 shape 4 row -/
def f415 : Fn := ⟨2, 5,
  S.ret (E.prim .tuple (E.cons (E.comp [3, 4] .seq (E.call 414 (E.cons (E.var 0) (E.cons (E.var 1) E.nil))) (Tg.cons (Tg.v 3) (Tg.cons (Tg.v 4) Tg.nil)) (E.con (D.bl true)) (E.prim .sum (E.cons (E.comp [2] .seq (E.var 4) (Tg.v 2) (E.con (D.bl true)) (E.idx (E.var 1) (E.var 2))) E.nil))) E.nil))⟩
/-- into_bound(one, other): 0 one 1 other -/
def f416 : Fn := ⟨2, 2,
  S.expr (E.call 231 (E.cons (E.call 413 (E.cons (E.var 0) (E.cons (E.var 1) E.nil))) (E.cons (E.frz (E.bin .mul (E.call 232 (E.cons (E.var 0) E.nil)) (E.call 232 (E.cons (E.var 1) E.nil)))) E.nil))) <| 
  S.ret (E.call 415 (E.cons (E.var 0) (E.cons (E.var 1) E.nil)))⟩
/-- number_so(one, size, shape, row): 0 one 1 size 2 shape 3 row 4 found 5 inner 6 places -/
def f417 : Fn := ⟨4, 7,
  S.set 4 false (E.con (D.int 0)) <| 
  S.for_ .seq (E.var 3) (Tg.v 5)
    (S.set 4 false (E.frz (E.bin .add (E.bin .mul (E.var 4) (E.var 1)) (E.var 5))) <| (S.kill [5] S.done)) <| 
  S.kill [5] <| 
  S.ret (E.frz (E.bin .add (E.var 4) (E.prim .sum (E.cons (E.comp [6] .seq (E.frz (E.slc (E.var 0) E.absent (E.var 2))) (Tg.v 6) (E.con (D.bl true)) (E.call 4 (E.cons (E.var 1) (E.cons (E.var 6) E.nil)))) E.nil))))⟩
/-- starts_of(other, row): 0 other 1 row 2 found 3 at 4 inner -/
def f418 : Fn := ⟨2, 5,
  S.set 2 true (E.list E.nil) <| 
  S.set 3 false (E.con (D.int 0)) <| 
  S.for_ .seq (E.var 1) (Tg.v 4)
    (S.app 2 (E.var 3) <| 
     S.set 3 false (E.frz (E.bin .add (E.var 3) (E.idx (E.var 0) (E.var 4)))) <| (S.kill [4] S.done)) <| 
  S.kill [3, 4] <| 
  S.frz [2] <| 
  S.ret (E.var 2)⟩
/-- put_into(one, other): 0 one 1 other -/
def f419 : Fn := ⟨2, 2,
  S.expr (E.call 2 (E.cons (E.var 0) E.nil)) <| 
  S.ret (E.call 416 (E.cons (E.var 0) (E.cons (E.call 2 (E.cons (E.var 1) E.nil)) E.nil)))⟩
/-- check_row(one, other, shape, row): 0 one 1 other 2 shape 3 row 4 inner -/
def f420 : Fn := ⟨4, 5,
  S.expr (E.call 3 (E.cons (E.var 2) (E.cons (E.prim .len (E.cons (E.var 0) E.nil)) E.nil))) <| 
  S.ite (E.or (E.not (E.prim .isTuple (E.cons (E.var 3) E.nil))) (E.cmp .ne (E.prim .len (E.cons (E.var 3) E.nil)) (E.idx (E.var 0) (E.var 2))))
    (S.raise 13 (E.var 3))
    (S.done) <| 
  S.for_ .seq (E.var 3) (Tg.v 4)
    (S.expr (E.call 3 (E.cons (E.var 4) (E.cons (E.prim .len (E.cons (E.var 1) E.nil)) E.nil))) <| (S.kill [4] S.done)) <| 
  S.kill [4] <| S.done⟩
/-- shape_into(one, other, shape, shapes): 0 one 1 other 2 shape 3 shapes -/
def f421 : Fn := ⟨4, 4,
  S.expr (E.call 2 (E.cons (E.var 0) E.nil)) <| 
  S.expr (E.call 2 (E.cons (E.var 1) E.nil)) <| 
  S.expr (E.call 420 (E.cons (E.var 0) (E.cons (E.var 1) (E.cons (E.var 2) (E.cons (E.var 3) E.nil))))) <| 
  S.expr (E.call 416 (E.cons (E.var 0) (E.cons (E.var 1) E.nil))) <| 
  S.ret (E.call 417 (E.cons (E.var 0) (E.cons (E.prim .len (E.cons (E.var 1) E.nil)) (E.cons (E.var 2) (E.cons (E.var 3) E.nil)))))⟩
/-- parts_into(one, other, number): 0 one 1 other 2 number 3 found -/
def f422 : Fn := ⟨3, 4,
  S.expr (E.call 2 (E.cons (E.var 0) E.nil)) <| 
  S.expr (E.call 2 (E.cons (E.var 1) E.nil)) <| 
  S.expr (E.call 416 (E.cons (E.var 0) (E.cons (E.var 1) E.nil))) <| 
  S.set 3 false (E.call 414 (E.cons (E.var 0) (E.cons (E.var 1) E.nil))) <| 
  S.ret (E.idx (E.var 3) (E.call 3 (E.cons (E.var 2) (E.cons (E.prim .len (E.cons (E.var 3) E.nil)) E.nil))))⟩
/-- filling_into(one, other, shape, fillings): 0 one 1 other 2 shape 3 fillings 4 value 5 row 6 things 7 thing -/
def f423 : Fn := ⟨4, 8,
  S.expr (E.call 2 (E.cons (E.var 0) E.nil)) <| 
  S.expr (E.call 2 (E.cons (E.var 1) E.nil)) <| 
  S.expr (E.call 3 (E.cons (E.var 2) (E.cons (E.prim .len (E.cons (E.var 0) E.nil)) E.nil))) <| 
  S.ite (E.or (E.not (E.prim .isTuple (E.cons (E.var 3) E.nil))) (E.cmp .ne (E.prim .len (E.cons (E.var 3) E.nil)) (E.idx (E.var 0) (E.var 2))))
    (S.raise 13 (E.var 3))
    (S.done) <| 
  S.for_ .seq (E.var 3) (Tg.v 4)
    (S.expr (E.call 10 (E.cons (E.var 1) (E.cons (E.var 4) E.nil))) <| S.done) <| 
  S.expr (E.call 416 (E.cons (E.var 0) (E.cons (E.var 1) E.nil))) <| 
  S.set 5 false (E.prim .tuple (E.cons (E.comp [4] .seq (E.var 3) (Tg.v 4) (E.con (D.bl true)) (E.idx (E.var 4) (E.con (D.int 0)))) E.nil)) <| 
  S.set 6 false (E.frz (E.comp2 [4, 7] .seq (E.var 3) (Tg.v 4) (E.con (D.bl true)) [7] .seq (E.idx (E.var 4) (E.con (D.int 1))) (Tg.v 7) (E.con (D.bl true)) (E.var 7))) <| 
  S.ret (E.cons (E.call 417 (E.cons (E.var 0) (E.cons (E.prim .len (E.cons (E.var 1) E.nil)) (E.cons (E.var 2) (E.cons (E.var 5) E.nil))))) (E.cons (E.prim .tuple (E.cons (E.var 6) E.nil)) E.nil))⟩
/-- out_so(one, other, filling): 0 one 1 other 2 filling 3 shape 4 row 5 found 6 inner 7 at -/
def f424 : Fn := ⟨3, 8,
  S.sets (Tg.cons (Tg.v 3) (Tg.cons (Tg.v 4) Tg.nil)) (E.idx (E.call 414 (E.cons (E.var 0) (E.cons (E.var 1) E.nil))) (E.idx (E.var 2) (E.con (D.int 0)))) <| 
  S.set 5 true (E.list E.nil) <| 
  S.for_ .zip (E.cons (E.var 4) (E.cons (E.call 418 (E.cons (E.var 1) (E.cons (E.var 4) E.nil))) E.nil)) (Tg.cons (Tg.v 6) (Tg.cons (Tg.v 7) Tg.nil))
    (S.app 5 (E.cons (E.var 6) (E.cons (E.frz (E.slc (E.idx (E.var 2) (E.con (D.int 1))) (E.var 7) (E.bin .add (E.var 7) (E.idx (E.var 1) (E.var 6))))) E.nil)) <| (S.kill [6, 7] S.done)) <| 
  S.kill [6, 7] <| 
  S.ret (E.cons (E.var 3) (E.cons (E.prim .tuple (E.cons (E.bor 5) E.nil)) E.nil))⟩
/-- fillings_out(one, other, filling): 0 one 1 other 2 filling -/
def f425 : Fn := ⟨3, 3,
  S.expr (E.call 2 (E.cons (E.var 0) E.nil)) <| 
  S.expr (E.call 2 (E.cons (E.var 1) E.nil)) <| 
  S.ret (E.call 424 (E.cons (E.var 0) (E.cons (E.var 1) (E.cons (E.call 10 (E.cons (E.call 416 (E.cons (E.var 0) (E.cons (E.var 1) E.nil))) (E.cons (E.var 2) E.nil))) E.nil))))⟩
/-- _law_into(_law_near_so, _law_far_so): 0 _law_near_so 1 _law_far_so 2 _law_found 3 _law_pick 4 _law_wide 5 _law_row -/
def f426 : Fn := ⟨2, 6,
  S.set 2 false (E.frz (E.list E.nil)) <| 
  S.for_ .enum (E.cons (E.var 0) E.nil) (Tg.cons (Tg.v 3) (Tg.cons (Tg.v 4) Tg.nil))
    (S.set 2 false (E.frz (E.bin .add (E.var 2) (E.comp [5] .seq (E.call 24 (E.cons (E.var 4) (E.cons (E.prim .len (E.cons (E.var 1) E.nil)) E.nil))) (Tg.v 5) (E.con (D.bl true)) (E.cons (E.var 3) (E.cons (E.var 5) E.nil))))) <| (S.kill [3, 4] S.done)) <| 
  S.kill [3, 4] <| 
  S.ret (E.var 2)⟩
/-- _law_sizes(_law_near_so, _law_far_so): 0 _law_near_so 1 _law_far_so 2 _law_mark 3 _law_pick 4 _law_row -/
def f427 : Fn := ⟨2, 5,
  S.ret (E.prim .tuple (E.cons (E.comp [3, 4] .seq (E.call 426 (E.cons (E.var 0) (E.cons (E.var 1) E.nil))) (Tg.cons (Tg.v 3) (Tg.cons (Tg.v 4) Tg.nil)) (E.con (D.bl true)) (E.prim .sum (E.cons (E.comp [2] .seq (E.var 4) (Tg.v 2) (E.con (D.bl true)) (E.idx (E.var 1) (E.var 2))) E.nil))) E.nil))⟩
/-- _law_odd_thing(_law_state): 0 _law_state -/
def f428 : Fn := ⟨1, 1,
  S.ret (E.call 21 (E.cons (E.var 0) (E.cons (E.frz (E.list (E.cons (E.con D.non) (E.cons (E.neg (E.con (D.int 1))) (E.cons (E.con (D.bl true)) (E.cons (E.con (D.str "0")) (E.cons (E.cons (E.con (D.int 1)) E.nil) (E.cons (E.frz (E.list E.nil)) (E.cons (E.frz (E.bin .add (E.bin .pow (E.con (D.int 10)) (E.con (D.int 60))) (E.con (D.int 1)))) E.nil))))))))) E.nil)))⟩
/-- _law_made(_law_near_so, _law_far_so): 0 _law_near_so 1 _law_far_so 2 _law_due 3 _law_told 4 _law_size 5 _law_at 6 _law_pick 7 _law_row 8 _law_got -/
def f429 : Fn := ⟨2, 9,
  S.sets (Tg.cons (Tg.v 2) (Tg.cons (Tg.v 3) Tg.nil)) (E.cons (E.call 427 (E.cons (E.var 0) (E.cons (E.var 1) E.nil))) (E.cons (E.call 419 (E.cons (E.var 0) (E.cons (E.var 1) E.nil))) E.nil)) <| 
  S.ite (E.not (E.call 27 (E.cons (E.var 3) (E.cons (E.var 2) E.nil))))
    (S.ret (E.con (D.bl false)))
    (S.done) <| 
  S.for_ .seq (E.cons (E.con (D.int 0)) (E.cons (E.con (D.int 1)) (E.cons (E.con (D.int 2)) (E.cons (E.con (D.int 3)) (E.cons (E.frz (E.bin .add (E.bin .pow (E.con (D.int 10)) (E.con (D.int 20))) (E.con (D.int 3)))) E.nil))))) (Tg.v 4)
    (S.ite (E.not (E.call 27 (E.cons (E.call 7 (E.cons (E.var 3) (E.cons (E.var 4) E.nil))) (E.cons (E.call 245 (E.cons (E.var 0) (E.cons (E.call 245 (E.cons (E.var 1) (E.cons (E.var 4) E.nil))) E.nil))) E.nil))))
       (S.ret (E.con (D.bl false)))
       (S.done) <| (S.kill [4] S.done)) <| 
  S.kill [4] <| 
  S.for_ .enum (E.cons (E.call 426 (E.cons (E.var 0) (E.cons (E.var 1) E.nil))) E.nil) (Tg.cons (Tg.v 5) (Tg.cons (Tg.cons (Tg.v 6) (Tg.cons (Tg.v 7) Tg.nil)) Tg.nil))
    (S.set 8 false (E.frz (E.list (E.cons (E.call 422 (E.cons (E.var 0) (E.cons (E.var 1) (E.cons (E.var 5) E.nil)))) (E.cons (E.call 421 (E.cons (E.var 0) (E.cons (E.var 1) (E.cons (E.var 6) (E.cons (E.var 7) E.nil))))) E.nil)))) <| 
     S.ite (E.not (E.call 27 (E.cons (E.var 8) (E.cons (E.frz (E.list (E.cons (E.cons (E.var 6) (E.cons (E.var 7) E.nil)) (E.cons (E.var 5) E.nil)))) E.nil))))
       (S.ret (E.con (D.bl false)))
       (S.done) <| (S.kill [5, 6, 7, 8] S.done)) <| 
  S.kill [5, 6, 7, 8] <| 
  S.for_ .seq (E.cons (E.prim .len (E.cons (E.var 2) E.nil)) (E.cons (E.neg (E.con (D.int 1))) (E.cons (E.con D.non) (E.cons (E.con (D.bl true)) E.nil)))) (Tg.v 5)
    (S.ite (E.not (E.call 27 (E.cons (E.heard 252 (E.call 422 (E.cons (E.var 0) (E.cons (E.var 1) (E.cons (E.var 5) E.nil))))) (E.cons (E.cons (E.con (D.str "index")) (E.cons (E.var 5) E.nil)) E.nil))))
       (S.ret (E.con (D.bl false)))
       (S.done) <| (S.kill [5] S.done)) <| 
  S.kill [5] <| 
  S.ret (E.con (D.bl true))⟩
/-- _law_fillings_there_and_back(_law_state): 0 _law_state 1 _law_near_so 2 _law_far_so 3 _law_pick 4 _law_inner_so 5 _law_spot 6 _law_row 7 _law_marks 8 _law_filled_so 9 _law_due -/
def f430 : Fn := ⟨1, 10,
  S.sets (Tg.cons (Tg.v 1) (Tg.cons (Tg.v 2) Tg.nil)) (E.cons (E.call 23 (E.cons (E.var 0) (E.cons (E.con (D.int 2)) (E.cons (E.con (D.int 3)) E.nil)))) (E.cons (E.call 23 (E.cons (E.var 0) (E.cons (E.con (D.int 2)) (E.cons (E.con (D.int 3)) E.nil)))) E.nil)) <| 
  S.set 3 false (E.draw (E.var 0) (E.prim .len (E.cons (E.var 1) E.nil))) <| 
  S.set 4 false (E.prim .tuple (E.cons (E.comp [5] .rng1 (E.cons (E.idx (E.var 1) (E.var 3)) E.nil) (Tg.v 5) (E.con (D.bl true)) (E.call 273 (E.cons (E.var 0) (E.cons (E.var 2) (E.cons (E.frz (E.bin .add (E.bin .pow (E.con (D.int 10)) (E.con (D.int 60))) (E.con (D.int 1)))) E.nil))))) E.nil)) <| 
  S.sets (Tg.cons (Tg.v 6) (Tg.cons (Tg.v 7) Tg.nil)) (E.cons (E.prim .tuple (E.cons (E.comp [8] .seq (E.var 4) (Tg.v 8) (E.con (D.bl true)) (E.idx (E.var 8) (E.con (D.int 0)))) E.nil)) (E.cons E.nil E.nil)) <| 
  S.for_ .seq (E.var 4) (Tg.v 8)
    (S.set 7 false (E.frz (E.bin .add (E.var 7) (E.idx (E.var 8) (E.con (D.int 1))))) <| (S.kill [8] S.done)) <| 
  S.kill [8] <| 
  S.set 9 false (E.cons (E.meth .index (E.call 426 (E.cons (E.var 1) (E.cons (E.var 2) E.nil))) (E.cons (E.var 3) (E.cons (E.var 6) E.nil))) (E.cons (E.var 7) E.nil)) <| 
  S.ite (E.not (E.call 27 (E.cons (E.call 423 (E.cons (E.var 1) (E.cons (E.var 2) (E.cons (E.var 3) (E.cons (E.var 4) E.nil))))) (E.cons (E.var 9) E.nil))))
    (S.ret (E.con (D.bl false)))
    (S.done) <| 
  S.ret (E.call 27 (E.cons (E.call 425 (E.cons (E.var 1) (E.cons (E.var 2) (E.cons (E.var 9) E.nil)))) (E.cons (E.cons (E.var 3) (E.cons (E.var 4) E.nil)) E.nil)))⟩
/-- _law_refused(_law_state): 0 _law_state 1 _law_near_so 2 _law_far_so 3 _law_odd_here 4 _law_told 5 _law_pick 6 _law_wide 7 _law_good 8 _law_none 9 _law_worse 10 _law_due 11 _law_thing_so 12 _law_last 13 _law_bad 14 _law_row -/
def f431 : Fn := ⟨1, 15,
  S.sets (Tg.cons (Tg.v 1) (Tg.cons (Tg.v 2) (Tg.cons (Tg.v 3) Tg.nil))) (E.cons (E.call 23 (E.cons (E.var 0) (E.cons (E.con (D.int 2)) (E.cons (E.con (D.int 2)) E.nil)))) (E.cons (E.call 23 (E.cons (E.var 0) (E.cons (E.con (D.int 3)) (E.cons (E.con (D.int 3)) E.nil)))) (E.cons (E.call 250 (E.cons (E.var 0) E.nil)) E.nil))) <| 
  S.set 4 true (E.list (E.cons (E.heard 252 (E.call 419 (E.cons (E.var 3) (E.cons (E.con D.non) E.nil)))) E.nil)) <| 
  S.app 4 (E.heard 252 (E.call 419 (E.cons (E.var 1) (E.cons (E.var 3) E.nil)))) <| 
  S.app 4 (E.heard 252 (E.call 422 (E.cons (E.var 3) (E.cons (E.con D.non) (E.cons (E.con D.non) E.nil))))) <| 
  S.app 4 (E.heard 252 (E.call 422 (E.cons (E.var 1) (E.cons (E.var 3) (E.cons (E.con D.non) E.nil))))) <| 
  S.app 4 (E.heard 252 (E.call 421 (E.cons (E.var 1) (E.cons (E.var 3) (E.cons (E.con D.non) (E.cons (E.con D.non) E.nil)))))) <| 
  S.app 4 (E.heard 252 (E.call 423 (E.cons (E.var 1) (E.cons (E.var 3) (E.cons (E.con D.non) (E.cons (E.con D.non) E.nil)))))) <| 
  S.frz [4] <| 
  S.ite (E.not (E.call 27 (E.cons (E.var 4) (E.cons (E.frz (E.bin .mul (E.list (E.cons (E.cons (E.con (D.str "holder")) (E.cons (E.var 3) E.nil)) E.nil)) (E.con (D.int 6)))) E.nil))))
    (S.ret (E.con (D.bl false)))
    (S.done) <| 
  S.sets (Tg.cons (Tg.v 5) (Tg.cons (Tg.v 6) Tg.nil)) (E.cons (E.bin .sub (E.prim .len (E.cons (E.var 1) E.nil)) (E.con (D.int 1))) (E.cons (E.idx (E.var 1) (E.neg (E.con (D.int 1)))) E.nil)) <| 
  S.sets (Tg.cons (Tg.v 7) (Tg.cons (Tg.v 8) Tg.nil)) (E.cons (E.frz (E.bin .mul (E.cons (E.con (D.int 0)) E.nil) (E.var 6))) (E.cons (E.call 21 (E.cons (E.var 0) (E.cons (E.frz (E.list (E.cons (E.con D.non) (E.cons (E.prim .len (E.cons (E.var 2) E.nil)) (E.cons (E.con (D.bl true)) (E.cons (E.neg (E.con (D.int 1))) (E.cons (E.con (D.str "0")) E.nil))))))) E.nil))) E.nil)) <| 
  S.set 9 false (E.call 21 (E.cons (E.var 0) (E.cons (E.frz (E.list (E.cons (E.con D.non) (E.cons (E.frz (E.prim .list (E.cons (E.var 7) E.nil))) (E.cons (E.frz (E.bin .add (E.var 7) (E.cons (E.con (D.int 0)) E.nil))) (E.cons (E.frz (E.slc (E.var 7) (E.con (D.int 1)) E.absent)) (E.cons (E.con (D.int 0)) E.nil))))))) E.nil))) <| 
  S.set 4 true (E.list (E.cons (E.heard 252 (E.call 421 (E.cons (E.var 1) (E.cons (E.var 2) (E.cons (E.prim .len (E.cons (E.var 1) E.nil)) (E.cons (E.var 9) E.nil)))))) E.nil)) <| 
  S.app 4 (E.heard 252 (E.call 421 (E.cons (E.var 1) (E.cons (E.var 2) (E.cons (E.var 5) (E.cons (E.var 9) E.nil)))))) <| 
  S.app 4 (E.heard 252 (E.call 421 (E.cons (E.var 1) (E.cons (E.var 2) (E.cons (E.var 5) (E.cons (E.frz (E.bin .add (E.slc (E.var 7) (E.con (D.int 1)) E.absent) (E.cons (E.var 8) E.nil))) E.nil)))))) <| 
  S.app 4 (E.heard 252 (E.call 423 (E.cons (E.var 1) (E.cons (E.var 2) (E.cons (E.prim .len (E.cons (E.var 1) E.nil)) (E.cons (E.var 9) E.nil)))))) <| 
  S.app 4 (E.heard 252 (E.call 423 (E.cons (E.var 1) (E.cons (E.var 2) (E.cons (E.var 5) (E.cons (E.var 9) E.nil)))))) <| 
  S.set 10 false (E.frz (E.list (E.cons (E.cons (E.con (D.str "index")) (E.cons (E.prim .len (E.cons (E.var 1) E.nil)) E.nil)) (E.cons (E.cons (E.con (D.str "parameter")) (E.cons (E.var 9) E.nil)) (E.cons (E.cons (E.con (D.str "index")) (E.cons (E.var 8) E.nil)) E.nil))))) <| 
  S.frz [4] <| 
  S.ite (E.not (E.call 27 (E.cons (E.var 4) (E.cons (E.frz (E.bin .add (E.var 10) (E.slc (E.var 10) E.absent (E.con (D.int 2))))) E.nil))))
    (S.ret (E.con (D.bl false)))
    (S.done) <| 
  S.sets (Tg.cons (Tg.v 11) (Tg.cons (Tg.v 12) Tg.nil)) (E.cons (E.call 428 (E.cons (E.var 0) E.nil)) (E.cons (E.bin .sub (E.prim .len (E.cons (E.var 2) E.nil)) (E.con (D.int 1))) E.nil)) <| 
  S.set 13 false (E.cons (E.var 12) (E.cons (E.frz (E.bin .mul (E.cons (E.var 11) E.nil) (E.idx (E.var 2) (E.var 12)))) E.nil)) <| 
  S.set 14 false (E.frz (E.bin .add (E.bin .mul (E.cons (E.cons (E.var 12) (E.cons (E.frz (E.bin .mul (E.cons (E.con (D.int 0)) E.nil) (E.idx (E.var 2) (E.var 12)))) E.nil)) E.nil) (E.bin .sub (E.var 6) (E.con (D.int 1)))) (E.cons (E.var 13) E.nil))) <| 
  S.set 4 true (E.list (E.cons (E.heard 252 (E.call 423 (E.cons (E.var 1) (E.cons (E.var 2) (E.cons (E.var 5) (E.cons (E.var 14) E.nil)))))) E.nil)) <| 
  S.app 4 (E.heard 252 (E.call 425 (E.cons (E.var 1) (E.cons (E.var 2) (E.cons (E.cons (E.var 5) (E.cons (E.var 14) E.nil)) E.nil))))) <| 
  S.app 4 (E.heard 252 (E.call 425 (E.cons (E.var 3) (E.cons (E.con D.non) (E.cons (E.var 14) E.nil))))) <| 
  S.frz [4] <| 
  S.ret (E.call 27 (E.cons (E.var 4) (E.cons (E.frz (E.list (E.cons (E.cons (E.con (D.str "filling")) (E.cons (E.var 13) E.nil)) (E.cons (E.cons (E.con (D.str "filling")) (E.cons (E.cons (E.var 5) (E.cons (E.var 14) E.nil)) E.nil)) (E.cons (E.cons (E.con (D.str "holder")) (E.cons (E.var 3) E.nil)) E.nil))))) E.nil)))⟩
/-- _law_bounds(): 0 _law_six 1 _law_far_so 2 _law_wide_so 3 _law_told 4 _law_due 5 _law_sixty -/
def f432 : Fn := ⟨0, 6,
  S.sets (Tg.cons (Tg.v 0) (Tg.cons (Tg.v 1) (Tg.cons (Tg.v 2) Tg.nil))) (E.cons (E.cons (E.con (D.int 1)) (E.cons (E.con (D.int 2)) (E.cons (E.con (D.int 2)) E.nil))) (E.cons (E.frz (E.bin .mul (E.cons (E.con (D.int 12)) E.nil) (E.con (D.int 6)))) (E.cons (E.cons (E.con (D.int 2)) (E.cons (E.con (D.int 7)) E.nil)) E.nil))) <| 
  S.set 3 true (E.list (E.cons (E.heard 252 (E.call 419 (E.cons (E.var 0) (E.cons (E.var 1) E.nil)))) E.nil)) <| 
  S.app 3 (E.heard 252 (E.call 419 (E.cons (E.cons (E.con (D.int 2)) (E.cons (E.con (D.int 0)) E.nil)) (E.cons (E.var 2) E.nil)))) <| 
  S.app 3 (E.heard 252 (E.call 422 (E.cons (E.var 0) (E.cons (E.var 1) (E.cons (E.con D.non) E.nil))))) <| 
  S.app 3 (E.heard 252 (E.call 425 (E.cons (E.cons (E.con (D.int 2)) E.nil) (E.cons (E.var 2) (E.cons (E.con D.non) E.nil))))) <| 
  S.app 3 (E.heard 252 (E.call 421 (E.cons (E.cons (E.con (D.int 2)) E.nil) (E.cons (E.var 2) (E.cons (E.con (D.int 0)) (E.cons (E.cons (E.con (D.int 0)) (E.cons (E.con (D.int 0)) E.nil)) E.nil)))))) <| 
  S.app 3 (E.heard 252 (E.call 421 (E.cons (E.cons (E.con (D.int 2)) E.nil) (E.cons (E.var 2) (E.cons (E.con (D.int 0)) (E.cons (E.cons (E.con (D.int 0)) (E.cons (E.con (D.int 2)) E.nil)) E.nil)))))) <| 
  S.app 3 (E.heard 252 (E.call 423 (E.cons (E.cons (E.con (D.int 2)) E.nil) (E.cons (E.var 2) (E.cons (E.con (D.int 0)) (E.cons (E.frz (E.bin .mul (E.cons (E.cons (E.con (D.int 0)) (E.cons (E.cons (E.con (D.int 1)) (E.cons (E.con (D.int 1)) E.nil)) E.nil)) E.nil) (E.con (D.int 2)))) E.nil)))))) <| 
  S.app 3 (E.heard 252 (E.call 423 (E.cons (E.cons (E.con (D.int 2)) E.nil) (E.cons (E.var 2) (E.cons (E.con (D.int 0)) (E.cons (E.frz (E.bin .mul (E.cons (E.cons (E.con (D.int 0)) (E.cons (E.cons (E.con (D.int 1)) E.nil) E.nil)) E.nil) (E.con (D.int 2)))) E.nil)))))) <| 
  S.set 4 false (E.frz (E.list (E.cons (E.cons (E.con (D.str "too great")) (E.cons (E.con (D.int 60)) E.nil)) (E.cons (E.cons (E.con (D.str "too great")) (E.cons (E.con (D.int 12)) E.nil)) (E.cons (E.cons (E.con (D.str "too great")) (E.cons (E.con (D.int 60)) E.nil)) (E.cons (E.cons (E.con (D.str "too great")) (E.cons (E.con (D.int 12)) E.nil)) (E.cons (E.cons (E.con (D.str "too great")) (E.cons (E.con (D.int 12)) E.nil)) E.nil))))))) <| 
  S.set 4 false (E.frz (E.bin .add (E.var 4) (E.list (E.cons (E.cons (E.con (D.str "index")) (E.cons (E.con (D.int 2)) E.nil)) (E.cons (E.cons (E.con (D.str "too great")) (E.cons (E.con (D.int 12)) E.nil)) (E.cons (E.cons (E.con (D.str "filling")) (E.cons (E.cons (E.con (D.int 0)) (E.cons (E.cons (E.con (D.int 1)) E.nil) E.nil)) E.nil)) E.nil)))))) <| 
  S.frz [3] <| 
  S.ite (E.not (E.call 27 (E.cons (E.var 3) (E.cons (E.var 4) E.nil))))
    (S.ret (E.con (D.bl false)))
    (S.done) <| 
  S.set 5 false (E.frz (E.bin .mul (E.cons (E.con (D.int 0)) E.nil) (E.con (D.int 60)))) <| 
  S.set 3 true (E.list (E.cons (E.heard 252 (E.call 419 (E.cons (E.cons (E.con (D.int 12)) E.nil) (E.cons (E.var 5) E.nil)))) E.nil)) <| 
  S.app 3 (E.heard 252 (E.call 419 (E.cons (E.frz (E.bin .mul (E.cons (E.con (D.int 12)) E.nil) (E.con (D.int 60)))) (E.cons (E.frz (E.bin .mul (E.cons (E.con (D.int 12)) E.nil) (E.con (D.int 60)))) E.nil)))) <| 
  S.app 3 (E.heard 252 (E.call 422 (E.cons (E.cons (E.con (D.int 12)) E.nil) (E.cons (E.var 5) (E.cons (E.con D.non) E.nil))))) <| 
  S.app 3 (E.heard 252 (E.call 421 (E.cons (E.cons (E.con (D.int 12)) E.nil) (E.cons (E.var 5) (E.cons (E.con (D.int 0)) (E.cons (E.frz (E.bin .mul (E.cons (E.con (D.int 0)) E.nil) (E.con (D.int 12)))) E.nil)))))) <| 
  S.app 3 (E.heard 252 (E.call 423 (E.cons (E.cons (E.con (D.int 12)) E.nil) (E.cons (E.var 5) (E.cons (E.con (D.int 0)) (E.cons (E.frz (E.bin .mul (E.cons (E.cons (E.con (D.int 0)) (E.cons E.nil E.nil)) E.nil) (E.con (D.int 12)))) E.nil)))))) <| 
  S.app 3 (E.heard 252 (E.call 425 (E.cons (E.cons (E.con (D.int 12)) E.nil) (E.cons (E.var 5) (E.cons (E.con D.non) E.nil))))) <| 
  S.frz [3] <| 
  S.ite (E.not (E.call 27 (E.cons (E.var 3) (E.cons (E.frz (E.bin .mul (E.list (E.cons (E.cons (E.con (D.str "too great")) (E.cons (E.con (D.int 60)) E.nil)) E.nil)) (E.con (D.int 6)))) E.nil))))
    (S.ret (E.con (D.bl false)))
    (S.done) <| 
  S.set 3 true (E.list (E.cons (E.call 419 (E.cons (E.frz (E.bin .mul (E.cons (E.con (D.int 1)) E.nil) (E.con (D.int 10)))) (E.cons (E.frz (E.bin .mul (E.cons (E.con (D.int 12)) E.nil) (E.con (D.int 6)))) E.nil))) (E.cons (E.call 419 (E.cons (E.cons (E.con (D.int 3)) (E.cons (E.con (D.int 1)) E.nil)) (E.cons (E.cons (E.con (D.int 4)) E.nil) E.nil))) (E.cons (E.call 419 (E.cons (E.cons (E.con (D.int 12)) (E.cons (E.con (D.int 0)) E.nil)) (E.cons E.nil E.nil))) (E.cons (E.call 419 (E.cons E.nil (E.cons (E.cons (E.con (D.int 12)) E.nil) E.nil))) E.nil))))) <| 
  S.frz [3] <| 
  S.ret (E.call 27 (E.cons (E.var 3) (E.cons (E.frz (E.list (E.cons (E.frz (E.bin .mul (E.cons (E.con (D.int 12)) E.nil) (E.con (D.int 60)))) (E.cons (E.cons (E.con (D.int 12)) (E.cons (E.con (D.int 4)) E.nil)) (E.cons (E.cons (E.con (D.int 0)) E.nil) (E.cons E.nil E.nil)))))) E.nil)))⟩
/-- _law_called(): 0 _law_told -/
def f433 : Fn := ⟨0, 1,
  S.set 0 true (E.list (E.cons (E.callk 419 [0, 1] E.nil (E.cons (E.cons (E.con (D.int 2)) E.nil) (E.cons (E.cons (E.con (D.int 1)) (E.cons (E.con (D.int 0)) E.nil)) E.nil))) (E.cons (E.callk 421 [0, 1, 2, 3] E.nil (E.cons (E.cons (E.con (D.int 2)) E.nil) (E.cons (E.cons (E.con (D.int 1)) (E.cons (E.con (D.int 0)) E.nil)) (E.cons (E.con (D.int 0)) (E.cons (E.cons (E.con (D.int 0)) (E.cons (E.con (D.int 1)) E.nil)) E.nil))))) E.nil))) <| 
  S.app 0 (E.callk 422 [0, 1, 2] E.nil (E.cons (E.cons (E.con (D.int 2)) E.nil) (E.cons (E.cons (E.con (D.int 1)) (E.cons (E.con (D.int 0)) E.nil)) (E.cons (E.con (D.int 2)) E.nil)))) <| 
  S.app 0 (E.callk 423 [0, 1, 2, 3] E.nil (E.cons (E.cons (E.con (D.int 2)) E.nil) (E.cons (E.cons (E.con (D.int 1)) (E.cons (E.con (D.int 0)) E.nil)) (E.cons (E.con (D.int 0)) (E.cons (E.cons (E.cons (E.con (D.int 1)) (E.cons E.nil E.nil)) (E.cons (E.cons (E.con (D.int 0)) (E.cons (E.cons (E.con (D.int 7)) E.nil) E.nil)) E.nil)) E.nil))))) <| 
  S.app 0 (E.callk 425 [0, 1, 2] E.nil (E.cons (E.cons (E.con (D.int 2)) E.nil) (E.cons (E.cons (E.con (D.int 1)) (E.cons (E.con (D.int 0)) E.nil)) (E.cons (E.cons (E.con (D.int 0)) (E.cons (E.cons (E.con (D.int 5)) (E.cons (E.con (D.int 4)) E.nil)) E.nil)) E.nil)))) <| 
  S.frz [0] <| 
  S.ret (E.call 27 (E.cons (E.var 0) (E.cons (E.frz (E.list (E.cons (E.cons (E.con (D.int 2)) (E.cons (E.con (D.int 1)) (E.cons (E.con (D.int 1)) (E.cons (E.con (D.int 0)) E.nil)))) (E.cons (E.con (D.int 1)) (E.cons (E.cons (E.con (D.int 0)) (E.cons (E.cons (E.con (D.int 1)) (E.cons (E.con (D.int 0)) E.nil)) E.nil)) (E.cons (E.cons (E.con (D.int 2)) (E.cons (E.cons (E.con (D.int 7)) E.nil) E.nil)) (E.cons (E.cons (E.con (D.int 0)) (E.cons (E.cons (E.cons (E.con (D.int 0)) (E.cons (E.cons (E.con (D.int 5)) E.nil) E.nil)) (E.cons (E.cons (E.con (D.int 0)) (E.cons (E.cons (E.con (D.int 4)) E.nil) E.nil)) E.nil)) E.nil)) E.nil))))))) E.nil)))⟩
def lawP : List E := []
def lawR : S := S.for_ .rng1 (E.cons (E.con (D.int 2)) E.nil) (Tg.v 2)
    (S.ite (E.or (E.not (E.call 429 (E.cons (E.call 22 (E.cons (E.var 1) (E.cons (E.con (D.int 2)) (E.cons (E.con (D.int 2)) E.nil)))) (E.cons (E.call 22 (E.cons (E.var 1) (E.cons (E.con (D.int 3)) (E.cons (E.con (D.int 3)) E.nil)))) E.nil)))) (E.not (E.call 431 (E.cons (E.var 1) E.nil))))
       (S.ret (E.con (D.bl false)))
       (S.done) <| 
     S.ite (E.not (E.call 430 (E.cons (E.var 1) E.nil)))
       (S.ret (E.con (D.bl false)))
       (S.done) <| (S.kill [2] S.done)) <| 
  S.kill [2] <| 
  S.ret (E.and (E.call 432 E.nil) (E.call 433 E.nil))
def tabL : List (Nat × Fn) := [(0, f0), (1, f1), (2, f2), (3, f3), (4, f4), (5, f5), (6, f6), (7, f7), (8, f8), (9, f9), (10, f10), (12, f12), (21, f21), (22, f22), (23, f23), (24, f24), (27, f27), (231, f231), (232, f232), (244, f244), (245, f245), (250, f250), (252, f252), (273, f273), (413, f413), (414, f414), (415, f415), (416, f416), (417, f417), (418, f418), (419, f419), (420, f420), (421, f421), (422, f422), (423, f423), (424, f424), (425, f425), (426, f426), (427, f427), (428, f428), (429, f429), (430, f430), (431, f431), (432, f432), (433, f433)]
def TT : Tab := fun i => tabL.lookup i
end Cl
set_option autoImplicit false
set_option Elab.async false
set_option linter.all false
set_option maxRecDepth 100000
set_option maxHeartbeats 0
namespace Cl
open PySem PySem.Spec PyProof.Rows L2
abbrev PR : Program := PySem.Challenge.pw_holdfills_k28_whole_put_into_one_another
def topS (i : Nat) : Stmt := PR.main.body.getD i (.Pass ⟨0, 0, 0, 0⟩)
abbrev d0 : DfR := ⟨0, ("is_from" : Str), [("value" : Str), ("low" : Str), ("high" : Str)], f0, false, topS 13⟩
abbrev d1 : DfR := ⟨1, ("is_holder" : Str), [("value" : Str), ("item" : Str)], f1, false, topS 14⟩
abbrev d2 : DfR := ⟨2, ("need_holder" : Str), [("value" : Str)], f2, false, topS 15⟩
abbrev d3 : DfR := ⟨3, ("need_index" : Str), [("value" : Str), ("size" : Str)], f3, false, topS 16⟩
abbrev d4 : DfR := ⟨4, ("power_so" : Str), [("number" : Str), ("times" : Str), ("found" : Str), ("step" : Str)], f4, false, topS 17⟩
abbrev d5 : DfR := ⟨5, ("fillings_so" : Str), [("holder" : Str), ("many" : Str), ("places" : Str)], f5, false, topS 18⟩
abbrev d6 : DfR := ⟨6, ("need_many" : Str), [("value" : Str)], f6, false, topS 19⟩
abbrev d7 : DfR := ⟨7, ("count_fillings" : Str), [("holder" : Str), ("many" : Str)], f7, false, topS 20⟩
abbrev d8 : DfR := ⟨8, ("is_thing" : Str), [("value" : Str)], f8, false, topS 22⟩
abbrev d9 : DfR := ⟨9, ("is_filling" : Str), [("holder" : Str), ("value" : Str), ("thing" : Str)], f9, false, topS 23⟩
abbrev d10 : DfR := ⟨10, ("check_filling" : Str), [("holder" : Str), ("value" : Str)], f10, false, topS 24⟩
abbrev d12 : DfR := ⟨12, ("rows_of" : Str), [("things" : Str), ("size" : Str), ("found" : Str), ("step" : Str), ("longer" : Str), ("row" : Str), ("thing" : Str)], f12, false, topS 25⟩
abbrev d21 : DfR := ⟨21, ("_law_of" : Str), [("_law_state" : Str), ("_law_some" : Str)], f21, false, topS 47⟩
abbrev d22 : DfR := ⟨22, ("_law_holder" : Str), [("_law_state" : Str), ("_law_many_so" : Str), ("_law_most" : Str), ("_law_step" : Str)], f22, false, topS 48⟩
abbrev d23 : DfR := ⟨23, ("_law_full" : Str), [("_law_state" : Str), ("_law_many_so" : Str), ("_law_most" : Str), ("_law_found" : Str), ("_law_step" : Str)], f23, false, topS 49⟩
abbrev d24 : DfR := ⟨24, ("_law_rows" : Str), [("_law_many_so" : Str), ("_law_size" : Str), ("_law_found" : Str), ("_law_step" : Str), ("_law_more" : Str), ("_law_row" : Str), ("_law_mark" : Str)], f24, false, topS 50⟩
abbrev d27 : DfR := ⟨27, ("_law_like" : Str), [("_law_got" : Str), ("_law_due" : Str)], f27, false, topS 58⟩
abbrev d231 : DfR := ⟨231, ("check_size" : Str), [("shapes" : Str), ("places" : Str)], f231, false, topS 27⟩
abbrev d232 : DfR := ⟨232, ("greatest" : Str), [("holder" : Str)], f232, false, topS 28⟩
abbrev d244 : DfR := ⟨244, ("_law_power" : Str), [("_law_base" : Str), ("_law_times" : Str), ("_law_found" : Str), ("_law_step" : Str)], f244, false, topS 53⟩
abbrev d245 : DfR := ⟨245, ("_law_count" : Str), [("_law_near_so" : Str), ("_law_size" : Str), ("_law_wide" : Str)], f245, false, topS 54⟩
abbrev d250 : DfR := ⟨250, ("_law_odd" : Str), [("_law_state" : Str), ("_law_some" : Str)], f250, false, topS 56⟩
abbrev d252 : DfR := ⟨252, ("_law_refusal" : Str), [("_law_tell" : Str), ("_law_found" : Str), ("_law_answer" : Str), ("e" : Str)], f252, false, topS 59⟩
abbrev d273 : DfR := ⟨273, ("_law_filled" : Str), [("_law_state" : Str), ("_law_near_so" : Str), ("_law_most" : Str), ("_law_pick" : Str), ("_law_step" : Str)], f273, false, topS 55⟩
abbrev d413 : DfR := ⟨413, ("into_count" : Str), [("one" : Str), ("other" : Str), ("places" : Str)], f413, false, topS 30⟩
abbrev d414 : DfR := ⟨414, ("into_so" : Str), [("one" : Str), ("other" : Str), ("shape" : Str), ("places" : Str), ("row" : Str)], f414, false, topS 31⟩
abbrev d415 : DfR := ⟨415, ("into_sizes" : Str), [("one" : Str), ("other" : Str), ("inner" : Str), ("shape" : Str), ("row" : Str)], f415, false, topS 32⟩
abbrev d416 : DfR := ⟨416, ("into_bound" : Str), [("one" : Str), ("other" : Str)], f416, false, topS 33⟩
abbrev d417 : DfR := ⟨417, ("number_so" : Str), [("one" : Str), ("size" : Str), ("shape" : Str), ("row" : Str), ("found" : Str), ("inner" : Str), ("places" : Str)], f417, false, topS 34⟩
abbrev d418 : DfR := ⟨418, ("starts_of" : Str), [("other" : Str), ("row" : Str), ("found" : Str), ("at" : Str), ("inner" : Str)], f418, false, topS 35⟩
abbrev d419 : DfR := ⟨419, ("put_into" : Str), [("one" : Str), ("other" : Str)], f419, false, topS 36⟩
abbrev d420 : DfR := ⟨420, ("check_row" : Str), [("one" : Str), ("other" : Str), ("shape" : Str), ("row" : Str), ("inner" : Str)], f420, false, topS 37⟩
abbrev d421 : DfR := ⟨421, ("shape_into" : Str), [("one" : Str), ("other" : Str), ("shape" : Str), ("shapes" : Str)], f421, false, topS 38⟩
abbrev d422 : DfR := ⟨422, ("parts_into" : Str), [("one" : Str), ("other" : Str), ("number" : Str), ("found" : Str)], f422, false, topS 39⟩
abbrev d423 : DfR := ⟨423, ("filling_into" : Str), [("one" : Str), ("other" : Str), ("shape" : Str), ("fillings" : Str), ("value" : Str), ("row" : Str), ("things" : Str), ("thing" : Str)], f423, false, topS 40⟩
abbrev d424 : DfR := ⟨424, ("out_so" : Str), [("one" : Str), ("other" : Str), ("filling" : Str), ("shape" : Str), ("row" : Str), ("found" : Str), ("inner" : Str), ("at" : Str)], f424, false, topS 41⟩
abbrev d425 : DfR := ⟨425, ("fillings_out" : Str), [("one" : Str), ("other" : Str), ("filling" : Str)], f425, false, topS 42⟩
abbrev d426 : DfR := ⟨426, ("_law_into" : Str), [("_law_near_so" : Str), ("_law_far_so" : Str), ("_law_found" : Str), ("_law_pick" : Str), ("_law_wide" : Str), ("_law_row" : Str)], f426, false, topS 51⟩
abbrev d427 : DfR := ⟨427, ("_law_sizes" : Str), [("_law_near_so" : Str), ("_law_far_so" : Str), ("_law_mark" : Str), ("_law_pick" : Str), ("_law_row" : Str)], f427, false, topS 52⟩
abbrev d428 : DfR := ⟨428, ("_law_odd_thing" : Str), [("_law_state" : Str)], f428, false, topS 57⟩
abbrev d429 : DfR := ⟨429, ("_law_made" : Str), [("_law_near_so" : Str), ("_law_far_so" : Str), ("_law_due" : Str), ("_law_told" : Str), ("_law_size" : Str), ("_law_at" : Str), ("_law_pick" : Str), ("_law_row" : Str), ("_law_got" : Str)], f429, true, topS 60⟩
abbrev d430 : DfR := ⟨430, ("_law_fillings_there_and_back" : Str), [("_law_state" : Str), ("_law_near_so" : Str), ("_law_far_so" : Str), ("_law_pick" : Str), ("_law_inner_so" : Str), ("_law_spot" : Str), ("_law_row" : Str), ("_law_marks" : Str), ("_law_filled_so" : Str), ("_law_due" : Str)], f430, false, topS 61⟩
abbrev d431 : DfR := ⟨431, ("_law_refused" : Str), [("_law_state" : Str), ("_law_near_so" : Str), ("_law_far_so" : Str), ("_law_odd_here" : Str), ("_law_told" : Str), ("_law_pick" : Str), ("_law_wide" : Str), ("_law_good" : Str), ("_law_none" : Str), ("_law_worse" : Str), ("_law_due" : Str), ("_law_thing_so" : Str), ("_law_last" : Str), ("_law_bad" : Str), ("_law_row" : Str)], f431, true, topS 62⟩
abbrev d432 : DfR := ⟨432, ("_law_bounds" : Str), [("_law_six" : Str), ("_law_far_so" : Str), ("_law_wide_so" : Str), ("_law_told" : Str), ("_law_due" : Str), ("_law_sixty" : Str)], f432, true, topS 63⟩
abbrev d433 : DfR := ⟨433, ("_law_called" : Str), [("_law_told" : Str)], f433, false, topS 64⟩
def DS : List DfR := [d0, d1, d2, d3, d4, d5, d6, d7, d8, d9, d10, d12, d21, d22, d23, d24, d27, d231, d232, d244, d245, d250, d252, d273, d413, d414, d415, d416, d417, d418, d419, d420, d421, d422, d423, d424, d425, d426, d427, d428, d429, d430, d431, d432, d433]
def FNM : List (Nat × Str) := [(0, ("is_from" : Str)), (1, ("is_holder" : Str)), (2, ("need_holder" : Str)), (3, ("need_index" : Str)), (4, ("power_so" : Str)), (5, ("fillings_so" : Str)), (6, ("need_many" : Str)), (7, ("count_fillings" : Str)), (8, ("is_thing" : Str)), (9, ("is_filling" : Str)), (10, ("check_filling" : Str)), (12, ("rows_of" : Str)), (21, ("_law_of" : Str)), (22, ("_law_holder" : Str)), (23, ("_law_full" : Str)), (24, ("_law_rows" : Str)), (27, ("_law_like" : Str)), (231, ("check_size" : Str)), (232, ("greatest" : Str)), (244, ("_law_power" : Str)), (245, ("_law_count" : Str)), (250, ("_law_odd" : Str)), (252, ("_law_refusal" : Str)), (273, ("_law_filled" : Str)), (413, ("into_count" : Str)), (414, ("into_so" : Str)), (415, ("into_sizes" : Str)), (416, ("into_bound" : Str)), (417, ("number_so" : Str)), (418, ("starts_of" : Str)), (419, ("put_into" : Str)), (420, ("check_row" : Str)), (421, ("shape_into" : Str)), (422, ("parts_into" : Str)), (423, ("filling_into" : Str)), (424, ("out_so" : Str)), (425, ("fillings_out" : Str)), (426, ("_law_into" : Str)), (427, ("_law_sizes" : Str)), (428, ("_law_odd_thing" : Str)), (429, ("_law_made" : Str)), (430, ("_law_fillings_there_and_back" : Str)), (431, ("_law_refused" : Str)), (432, ("_law_bounds" : Str)), (433, ("_law_called" : Str))]
def CNM : List (Nat × Str) := [(0, ("HoldError" : Str)), (1, ("BadHolder" : Str)), (2, ("BadFilling" : Str)), (3, ("BadProgram" : Str)), (12, ("BadIndex" : Str)), (13, ("BadParameter" : Str)), (14, ("NoRow" : Str)), (15, ("TooGreat" : Str))]
def NM : Nm := { fl := [(("is_from" : Str), 0), (("is_holder" : Str), 1), (("need_holder" : Str), 2), (("need_index" : Str), 3), (("power_so" : Str), 4), (("fillings_so" : Str), 5), (("need_many" : Str), 6), (("count_fillings" : Str), 7), (("is_thing" : Str), 8), (("is_filling" : Str), 9), (("check_filling" : Str), 10), (("rows_of" : Str), 12), (("_law_of" : Str), 21), (("_law_holder" : Str), 22), (("_law_full" : Str), 23), (("_law_rows" : Str), 24), (("_law_like" : Str), 27), (("check_size" : Str), 231), (("greatest" : Str), 232), (("_law_power" : Str), 244), (("_law_count" : Str), 245), (("_law_odd" : Str), 250), (("_law_refusal" : Str), 252), (("_law_filled" : Str), 273), (("into_count" : Str), 413), (("into_so" : Str), 414), (("into_sizes" : Str), 415), (("into_bound" : Str), 416), (("number_so" : Str), 417), (("starts_of" : Str), 418), (("put_into" : Str), 419), (("check_row" : Str), 420), (("shape_into" : Str), 421), (("parts_into" : Str), 422), (("filling_into" : Str), 423), (("out_so" : Str), 424), (("fillings_out" : Str), 425), (("_law_into" : Str), 426), (("_law_sizes" : Str), 427), (("_law_odd_thing" : Str), 428), (("_law_made" : Str), 429), (("_law_fillings_there_and_back" : Str), 430), (("_law_refused" : Str), 431), (("_law_bounds" : Str), 432), (("_law_called" : Str), 433)], gl := [(("MOST_SHAPES" : Str), (D.int 60)), (("MOST_PLACES" : Str), (D.int 12)), (("MOST_THING" : Str), (D.int 1000000000000000000000000000000000000000000000000000000000000)), (("is_from" : Str), D.fn 0), (("is_holder" : Str), D.fn 1), (("need_holder" : Str), D.fn 2), (("need_index" : Str), D.fn 3), (("power_so" : Str), D.fn 4), (("fillings_so" : Str), D.fn 5), (("need_many" : Str), D.fn 6), (("count_fillings" : Str), D.fn 7), (("is_thing" : Str), D.fn 8), (("is_filling" : Str), D.fn 9), (("check_filling" : Str), D.fn 10), (("rows_of" : Str), D.fn 12), (("_law_of" : Str), D.fn 21), (("_law_holder" : Str), D.fn 22), (("_law_full" : Str), D.fn 23), (("_law_rows" : Str), D.fn 24), (("_law_like" : Str), D.fn 27), (("check_size" : Str), D.fn 231), (("greatest" : Str), D.fn 232), (("_law_power" : Str), D.fn 244), (("_law_count" : Str), D.fn 245), (("_law_odd" : Str), D.fn 250), (("_law_refusal" : Str), D.fn 252), (("_law_filled" : Str), D.fn 273), (("into_count" : Str), D.fn 413), (("into_so" : Str), D.fn 414), (("into_sizes" : Str), D.fn 415), (("into_bound" : Str), D.fn 416), (("number_so" : Str), D.fn 417), (("starts_of" : Str), D.fn 418), (("put_into" : Str), D.fn 419), (("check_row" : Str), D.fn 420), (("shape_into" : Str), D.fn 421), (("parts_into" : Str), D.fn 422), (("filling_into" : Str), D.fn 423), (("out_so" : Str), D.fn 424), (("fillings_out" : Str), D.fn 425), (("_law_into" : Str), D.fn 426), (("_law_sizes" : Str), D.fn 427), (("_law_odd_thing" : Str), D.fn 428), (("_law_made" : Str), D.fn 429), (("_law_fillings_there_and_back" : Str), D.fn 430), (("_law_refused" : Str), D.fn 431), (("_law_bounds" : Str), D.fn 432), (("_law_called" : Str), D.fn 433)], bl := [("len" : Str), ("list" : Str), ("tuple" : Str), ("sum" : Str), ("repr" : Str), ("int" : Str), ("isinstance" : Str), ("bool" : Str), ("range" : Str), ("enumerate" : Str), ("zip" : Str), ("min" : Str), ("max" : Str), ("sorted" : Str), ("set" : Str), ("super" : Str)], cl := [(("BadHolder" : Str), 1), (("BadFilling" : Str), 2), (("BadIndex" : Str), 12), (("BadParameter" : Str), 13), (("TooGreat" : Str), 15)], xl := [(("HoldError" : Str), 0), (("BadHolder" : Str), 1), (("BadFilling" : Str), 2), (("BadProgram" : Str), 3), (("BadIndex" : Str), 12), (("BadParameter" : Str), 13), (("NoRow" : Str), 14), (("TooGreat" : Str), 15)], hl := [(("_law_refusal" : Str), 252)], kl := [(421, 0, [("one" : Str), ("other" : Str), ("shape" : Str), ("shapes" : Str)], [0, 1, 2, 3]), (419, 0, [("one" : Str), ("other" : Str)], [0, 1]), (422, 0, [("one" : Str), ("other" : Str), ("number" : Str)], [0, 1, 2]), (423, 0, [("one" : Str), ("other" : Str), ("shape" : Str), ("fillings" : Str)], [0, 1, 2, 3]), (425, 0, [("one" : Str), ("other" : Str), ("filling" : Str)], [0, 1, 2])] }
def TF : List He.Defn := [(("_law_made" : Str), none), (("_law_refused" : Str), none), (("_law_bounds" : Str), none)]
abbrev sMix : Stmt := topS 44
abbrev sDrw : Stmt := topS 46
abbrev sBeg : Stmt := topS 45
abbrev sLaw : Stmt := topS 65
def FNL : List He.DefD := DS.map DfR.dd ++ [ddOf "_law_mixed" sMix, ddOf "_law_draw" sDrw, ddOf "_law_begin" sBeg, ddOf "law" sLaw]
abbrev RR : PySem.W.OpenRow := PySem.W.OpenLaw.row PySem.Challenge.rw_holdfills_k28_whole_put_into_one_another
def NADDR : List Nat := List.range 900
def EX : PySem.W.Frag → Bool := exB PR TT NM FNM CNM TF
abbrev HK : PySem.W.Hook := hookC NADDR FNL TF EX
def OB (s : PySem.W.SharedT) : He.AlD × Bool := obsC NADDR FNL TF EX (HandSHeadRun.getT s)
theorem OB_eq (s : PySem.W.SharedT) : OB s = HK.obs s.abs := obsC_eq (HandSHeadRun.getT_eq s)
def loose0 : List Str := [("HoldError" : Str), ("BadHolder" : Str), ("BadFilling" : Str), ("BadProgram" : Str), ("BadIndex" : Str), ("BadParameter" : Str), ("NoRow" : Str), ("TooGreat" : Str), ("MOST_SHAPES" : Str), ("MOST_PLACES" : Str), ("MOST_THING" : Str), ("is_from" : Str), ("is_holder" : Str), ("need_holder" : Str), ("need_index" : Str), ("power_so" : Str), ("fillings_so" : Str), ("need_many" : Str), ("count_fillings" : Str), ("is_thing" : Str), ("is_filling" : Str), ("check_filling" : Str), ("rows_of" : Str), ("check_size" : Str), ("greatest" : Str), ("into_count" : Str), ("into_so" : Str), ("into_sizes" : Str), ("into_bound" : Str), ("number_so" : Str)]
def loose1 : List Str := [("starts_of" : Str), ("put_into" : Str), ("check_row" : Str), ("shape_into" : Str), ("parts_into" : Str), ("filling_into" : Str), ("out_so" : Str), ("fillings_out" : Str), ("_law_mixed" : Str), ("_law_begin" : Str), ("_law_draw" : Str), ("_law_of" : Str), ("_law_holder" : Str), ("_law_full" : Str), ("_law_rows" : Str), ("_law_into" : Str), ("_law_sizes" : Str), ("_law_power" : Str), ("_law_count" : Str), ("_law_filled" : Str), ("_law_odd" : Str), ("_law_odd_thing" : Str), ("_law_like" : Str), ("_law_refusal" : Str), ("_law_made" : Str), ("_law_fillings_there_and_back" : Str), ("_law_refused" : Str), ("_law_bounds" : Str), ("_law_called" : Str)]
def LOOSE : List Str := loose0 ++ loose1
def VW : Program := PySem.W.view RR.prog [65]
theorem runE (w : World) : HandSHeadRun.RunEq RR VW HK OB 20000 LOOSE w := by
  intro os
  kernel_rfl
end Cl
set_option autoImplicit false
set_option Elab.async false
set_option linter.all false
set_option maxRecDepth 100000
set_option maxHeartbeats 0
namespace Cl
open PySem PySem.Spec PyProof.Rows L2
theorem tab_eq : tabL = lOf DS := by kernel_rfl
theorem ds_ok : (DS.all fun d => d.ok NM FNM) = true := by kernel_rfl
theorem mem_hl {x : Str} {f : Nat} (h : NM.hl.lookup x = some f) : (x, f) ∈ NM.hl := look_mem h
theorem kb_ok : ∀ d ∈ DS, ∀ q ∈ NM.kl, q.1 = d.i → ∀ (kV doc pm cdv ct : Value) (an : Option Addr), KBd (PySem.W.fnOf d.name d.name (dArgs d.st) (dBody d.st) (dScope d.st) .none kV doc pm an cdv ct) (d.N.take d.F.np) q.2.1 q.2.2.1 q.2.2.2 := by
  intro d hd q hq e kV doc pm cdv ct an
  simp only [NM, List.mem_cons, List.not_mem_nil, or_false] at hq
  rcases hq with rfl | rfl | rfl | rfl | rfl
  · have ed : d = d421 := by
      have z : ∀ d ∈ DS, d.i = 421 → d.name = ("shape_into" : Str) := by decide +kernel
      simp only [DS, List.mem_cons, List.not_mem_nil, or_false] at hd
      rcases hd with rfl | rfl | rfl | rfl | rfl | rfl | rfl | rfl | rfl | rfl | rfl | rfl | rfl | rfl | rfl | rfl | rfl | rfl | rfl | rfl | rfl | rfl | rfl | rfl | rfl | rfl | rfl | rfl | rfl | rfl | rfl | rfl | rfl | rfl | rfl | rfl | rfl | rfl | rfl | rfl | rfl | rfl | rfl | rfl | rfl <;> first | rfl | (exact absurd e (by decide))
    subst ed
    intro us ws zs h1 h2 h3
    match us, ws, h1, h2 with
    | [], [w0, w1, w2, w3], _, _ =>
      cases h3
      kernel_rfl
  · have ed : d = d419 := by
      have z : ∀ d ∈ DS, d.i = 419 → d.name = ("put_into" : Str) := by decide +kernel
      simp only [DS, List.mem_cons, List.not_mem_nil, or_false] at hd
      rcases hd with rfl | rfl | rfl | rfl | rfl | rfl | rfl | rfl | rfl | rfl | rfl | rfl | rfl | rfl | rfl | rfl | rfl | rfl | rfl | rfl | rfl | rfl | rfl | rfl | rfl | rfl | rfl | rfl | rfl | rfl | rfl | rfl | rfl | rfl | rfl | rfl | rfl | rfl | rfl | rfl | rfl | rfl | rfl | rfl | rfl <;> first | rfl | (exact absurd e (by decide))
    subst ed
    intro us ws zs h1 h2 h3
    match us, ws, h1, h2 with
    | [], [w0, w1], _, _ =>
      cases h3
      kernel_rfl
  · have ed : d = d422 := by
      have z : ∀ d ∈ DS, d.i = 422 → d.name = ("parts_into" : Str) := by decide +kernel
      simp only [DS, List.mem_cons, List.not_mem_nil, or_false] at hd
      rcases hd with rfl | rfl | rfl | rfl | rfl | rfl | rfl | rfl | rfl | rfl | rfl | rfl | rfl | rfl | rfl | rfl | rfl | rfl | rfl | rfl | rfl | rfl | rfl | rfl | rfl | rfl | rfl | rfl | rfl | rfl | rfl | rfl | rfl | rfl | rfl | rfl | rfl | rfl | rfl | rfl | rfl | rfl | rfl | rfl | rfl <;> first | rfl | (exact absurd e (by decide))
    subst ed
    intro us ws zs h1 h2 h3
    match us, ws, h1, h2 with
    | [], [w0, w1, w2], _, _ =>
      cases h3
      kernel_rfl
  · have ed : d = d423 := by
      have z : ∀ d ∈ DS, d.i = 423 → d.name = ("filling_into" : Str) := by decide +kernel
      simp only [DS, List.mem_cons, List.not_mem_nil, or_false] at hd
      rcases hd with rfl | rfl | rfl | rfl | rfl | rfl | rfl | rfl | rfl | rfl | rfl | rfl | rfl | rfl | rfl | rfl | rfl | rfl | rfl | rfl | rfl | rfl | rfl | rfl | rfl | rfl | rfl | rfl | rfl | rfl | rfl | rfl | rfl | rfl | rfl | rfl | rfl | rfl | rfl | rfl | rfl | rfl | rfl | rfl | rfl <;> first | rfl | (exact absurd e (by decide))
    subst ed
    intro us ws zs h1 h2 h3
    match us, ws, h1, h2 with
    | [], [w0, w1, w2, w3], _, _ =>
      cases h3
      kernel_rfl
  · have ed : d = d425 := by
      have z : ∀ d ∈ DS, d.i = 425 → d.name = ("fillings_out" : Str) := by decide +kernel
      simp only [DS, List.mem_cons, List.not_mem_nil, or_false] at hd
      rcases hd with rfl | rfl | rfl | rfl | rfl | rfl | rfl | rfl | rfl | rfl | rfl | rfl | rfl | rfl | rfl | rfl | rfl | rfl | rfl | rfl | rfl | rfl | rfl | rfl | rfl | rfl | rfl | rfl | rfl | rfl | rfl | rfl | rfl | rfl | rfl | rfl | rfl | rfl | rfl | rfl | rfl | rfl | rfl | rfl | rfl <;> first | rfl | (exact absurd e (by decide))
    subst ed
    intro us ws zs h1 h2 h3
    match us, ws, h1, h2 with
    | [], [w0, w1, w2], _, _ =>
      cases h3
      kernel_rfl
theorem hl_ok : ∀ x f, NM.hl.lookup x = some f → NM.fl.lookup x = some f ∧ ∃ d ∈ DS, d.i = f ∧ (lOf DS).lookup f = some d.F ∧ d.hd = false ∧ d.F.np = 1 := by
  intro x f h
  have z := mem_hl h
  simp only [NM, List.mem_cons, List.not_mem_nil, or_false, Prod.mk.injEq] at z
  obtain ⟨rfl, rfl⟩ := z
  exact ⟨by decide +kernel, d252, by simp only [DS, List.mem_cons, true_or, or_true], rfl, by kernel_rfl, rfl, rfl⟩
theorem mix_t : MixT ("_law_cell" : Str) ("_law_k" : Str) (dBody sMix) := fun X vs H Q Ef h1 h2 h3 h4 h5 h6 h7 h8 h9 h => mixed_body h1 h2 h3 h4 h5 h6 h7 h8 h9 h
theorem drw_t : DrwT [("_law_state" : Str), ("_law_limit" : Str), ("_law_at" : Str), ("_law_turn" : Str), ("_law_left" : Str), ("_law_mixed_here" : Str)] (dBody sDrw) := fun X G W fm fd psm vs H Q Ef h1 h2 h3 h4 h5 h6 h7 h8 h9 h10 h11 h12 h13 h14 h15 h16 h17 h => draw_body (G := G) h1 h2 h3 h4 h5 h6 h7 h8 h9 h10 h11 h12 h13 h14 h15 h16 h17 h
theorem beg_t : BegT (dScope sBeg) [("_law_script" : Str), ("_law_cells_so" : Str), ("_law_cell" : Str)] (dBody sBeg) := fun X vs H Q Ef h1 h2 h3 h4 h5 h => begin_body h1 (by decide +kernel) (by rw [h2]; decide +kernel) (by rw [h2]; decide +kernel) (by decide +kernel) (by decide +kernel) (by decide +kernel) h3 h4 (by show X.env.scope.names.lookup _ = _; rw [h2]; decide +kernel) h5 (by rw [h1, h2]; exact blkOk_by (by decide +kernel)) (by rw [h2]; decide +kernel) h
theorem law_t : LawT ("_law_script" : Str) ("_law_state" : Str) ((dBody sLaw).take 0) ((dBody sLaw).drop 1) (dBody sLaw) := ⟨_, _, _, _, _, rfl⟩
theorem lawFacts (hp : ∀ e ∈ lawP, wp (evE (run TT 24) .stuck e (List.replicate 3 none)) (fun d => d = .bl false) (fun _ _ => False)) (hw : wp (exS (run TT 24) .stuck lawR (lawEnv 3)) (fun p => ∃ e, p = (e, .rt (.bl true))) (fun _ _ => False)) : LawF PR TT DS NM FNM CNM TF FNL sMix sDrw sBeg sLaw lawP lawR 24 where
  hT := fun f => by rw [← tab_eq]; rfl
  ok := ds_ok
  fin := fun d hd => List.mem_append_left _ (List.mem_map.mpr ⟨d, hd, rfl⟩)
  tfo := by decide +kernel
  kb := kb_ok
  bl := by decide +kernel
  hl := hl_ok
  fm := List.mem_append_right _ (by simp only [List.mem_cons, true_or, or_true])
  fd := List.mem_append_right _ (by simp only [List.mem_cons, true_or, or_true])
  fb := List.mem_append_right _ (by simp only [List.mem_cons, true_or, or_true])
  fl := List.mem_append_right _ (by simp only [List.mem_cons, true_or, or_true])
  sup := by decide +kernel
  mix := ⟨("_law_cell" : Str), ("_law_k" : Str), by decide +kernel, by decide +kernel, by decide +kernel, by decide +kernel, mix_t⟩
  drw := ⟨[("_law_state" : Str), ("_law_limit" : Str), ("_law_at" : Str), ("_law_turn" : Str), ("_law_left" : Str), ("_law_mixed_here" : Str)], by decide +kernel, by decide +kernel, by decide +kernel, rfl, by decide +kernel, by decide +kernel, by decide +kernel, drw_t⟩
  beg := ⟨[("_law_script" : Str), ("_law_cells_so" : Str), ("_law_cell" : Str)], by decide +kernel, by decide +kernel, rfl, beg_t⟩
  law := ⟨("_law_script" : Str), ("_law_state" : Str), [("_law_script" : Str), ("_law_state" : Str), ("_law_turn" : Str)], (dBody sLaw).take 0, (dBody sLaw).drop 1, by decide +kernel, by decide +kernel, rfl, rfl, by decide +kernel, by decide +kernel, law_t, by kernel_rfl, hp, by kernel_rfl, hw⟩
  wt := wt_ok (by kernel_rfl)
  pwt := wt_okP (by kernel_rfl)
end Cl
open PySem PySem.W PySem.Calls PyProof.Rows
theorem law_holds_of (hp : ∀ e ∈ Cl.lawP, Cl.wp (Cl.evE (Cl.run Cl.TT 24) .stuck e (List.replicate 3 none)) (fun d => d = .bl false) (fun _ _ => False)) (hw : Cl.wp (Cl.exS (Cl.run Cl.TT 24) .stuck Cl.lawR (Cl.lawEnv 3)) (fun p => ∃ e, p = (e, .rt (.bl true))) (fun _ _ => False)) : PySem.Challenge.rw_holdfills_k28_whole_put_into_one_another.Holds := by
  w_on; o_law
  refine HandSHeadRun.head_any (r := Cl.RR) (q := Cl.VW) (H := Cl.HK) (ob := Cl.OB) (M := 20000) (loose := Cl.LOOSE) (d := HandSHeadRun.topDef Cl.PR 65) (kwd := []) Cl.OB_eq
    (by kernel_rfl) (fun s => by kernel_rfl) Cl.runE (by kernel_rfl) (by kernel_rfl) (by kernel_rfl) (by rfl) (by first | assumption | decide +kernel) (by decide +kernel) ⟨rfl, rfl, rfl, rfl, rfl, by decide +kernel⟩ ?hw ?hc
  case hw => w_witness2
  case hc => exact Cl.law_walk (l := PySem.Challenge.rw_holdfills_k28_whole_put_into_one_another) (Cl.lawFacts hp hw) rfl (by kernel_rfl) (by kernel_rfl) ⟨rfl, by decide, by decide⟩
set_option autoImplicit false
set_option linter.all false
/-! Plain laws of the clean machine: how a run is stepped through. -/
namespace Cl.Q
@[simp] theorem ok_bind {α β : Type} (a : α) (f : α → M β) : (M.ok a).bind f = f a := rfl
@[simp] theorem exc_bind {α β : Type} (c : Nat) (d : D) (f : α → M β) : (M.exc c d : M α).bind f = .exc c d := rfl
@[simp] theorem nox_ok {α : Type} (a : α) : M.nox (.ok a) = .ok a := rfl
@[simp] theorem catch_ok (h : Nat → D → M (Env × Fl)) (a : Env × Fl) : catchM h (.ok a) = .ok a := rfl
@[simp] theorem catch_exc (h : Nat → D → M (Env × Fl)) (c : Nat) (d : D) : catchM h (.exc c d) = h c d := rfl
@[simp] theorem then_nx (e : Env) (k : Env → M (Env × Fl)) : thenS (.ok (e, .nx)) k = k e := rfl
@[simp] theorem then_rt (e : Env) (d : D) (k : Env → M (Env × Fl)) : thenS (.ok (e, .rt d)) k = .ok (e, .rt d) := rfl
@[simp] theorem then_bk (e : Env) (k : Env → M (Env × Fl)) : thenS (.ok (e, .bk)) k = .ok (e, .bk) := rfl
@[simp] theorem then_ct (e : Env) (k : Env → M (Env × Fl)) : thenS (.ok (e, .ct)) k = .ok (e, .ct) := rfl
@[simp] theorem then_exc (c : Nat) (d : D) (k : Env → M (Env × Fl)) : thenS (.exc c d) k = .exc c d := rfl
@[simp] theorem leave_rt (e : Env) (d : D) : leave (.ok (e, .rt d)) = .ok d := rfl
@[simp] theorem leave_nx (e : Env) : leave (.ok (e, .nx)) = .ok .non := rfl
@[simp] theorem leave_exc (c : Nat) (d : D) : leave (.exc c d) = .exc c d := rfl
@[simp] theorem asB_bl (b : Bool) : asB (.bl b) = .ok (.bl b) := rfl
theorem ite_ok {α : Type} {c : Prop} [Decidable c] (a b : α) : (if c then M.ok a else M.ok b) = M.ok (if c then a else b) := by split <;> rfl
section
variable {α β : Type} {Q : α → Prop} {E : Nat → D → Prop}
@[simp] theorem wp_ok (a : α) : wp (M.ok a) Q E = Q a := rfl
@[simp] theorem wp_exc (c : Nat) (d : D) : wp (M.exc c d) Q E = E c d := rfl
@[simp] theorem wp_draw (n : Nat) (k : Nat → M α) : wp (M.draw n k) Q E = ∀ v, v < n → wp (k v) Q E := rfl
@[simp] theorem wpb {Q : β → Prop} (f : α → M β) : ∀ m : M α, wp (m.bind f) Q E = wp m (fun a => wp (f a) Q E) E
  | .ok _ => rfl
  | .exc _ _ => rfl
  | .stuck => rfl
  | .draw n k => by
    show (∀ v, v < n → wp ((k v).bind f) Q E) = ∀ v, v < n → wp (k v) _ E
    exact propext ⟨fun h v hv => by rw [← wpb f (k v)]; exact h v hv, fun h v hv => by rw [wpb f (k v)]; exact h v hv⟩
@[simp] theorem wpn : ∀ m : M α, wp m.nox Q E = wp m Q (fun _ _ => False)
  | .ok _ => rfl
  | .exc _ _ => rfl
  | .stuck => rfl
  | .draw n k => by
    show (∀ v, v < n → wp ((k v).nox) Q E) = ∀ v, v < n → wp (k v) _ _
    exact propext ⟨fun h v hv => by rw [← wpn (k v)]; exact h v hv, fun h v hv => by rw [wpn (k v)]; exact h v hv⟩
theorem wp_imp {Q Q' : α → Prop} {E E' : Nat → D → Prop} (hQ : ∀ a, Q a → Q' a) (hE : ∀ c d, E c d → E' c d) : ∀ {m : M α}, wp m Q E → wp m Q' E'
  | .ok _, h => hQ _ h
  | .exc _ _, h => hE _ _ h
  | .stuck, h => h
  | .draw n k, h => fun v hv => wp_imp hQ hE (h v hv)
theorem wp_ite {c : Prop} [Decidable c] (a b : M α) : wp (if c then a else b) Q E = if c then wp a Q E else wp b Q E := by split <;> rfl
end
@[simp] theorem wp_leave' (m : M (Env × Fl)) (Q : D → Prop) (E : Nat → D → Prop) : wp (leave m) Q E = wp m (fun p => match p.2 with | .rt d => Q d | .nx => Q .non | _ => False) E := by
  unfold leave
  rw [wpb]
  congr 1
  funext p
  obtain ⟨e, f⟩ := p
  cases f <;> rfl
@[simp] theorem wp_then (m : M (Env × Fl)) (k : Env → M (Env × Fl)) (Q : Env × Fl → Prop) (E : Nat → D → Prop) : wp (thenS m k) Q E = wp m (fun p => match p.2 with | .nx => wp (k p.1) Q E | f => Q (p.1, f)) E := by
  unfold thenS
  rw [wpb]
  congr 1
  funext p
  obtain ⟨e, f⟩ := p
  cases f <;> rfl
/-- what holds of every way, told so that nothing unfolds it -/
@[irreducible] def W {α : Type} (m : M α) (Q : α → Prop) (E : Nat → D → Prop) : Prop := wp m Q E
section
variable {α β : Type} {Q : α → Prop} {E : Nat → D → Prop}
theorem W_wp {m : M α} : W m Q E = wp m Q E := by unfold W; rfl
@[simp] theorem W_ok (a : α) : W (M.ok a) Q E = Q a := by unfold W; rfl
@[simp] theorem W_exc (c : Nat) (d : D) : W (M.exc c d) Q E = E c d := by unfold W; rfl
@[simp] theorem Wb {Q : β → Prop} (f : α → M β) (m : M α) : W (m.bind f) Q E = W m (fun a => W (f a) Q E) E := by unfold W; exact wpb f m
@[simp] theorem Wn (m : M α) : W m.nox Q E = W m Q (fun _ _ => False) := by unfold W; exact wpn m
theorem W_imp {Q Q' : α → Prop} {E E' : Nat → D → Prop} (hQ : ∀ a, Q a → Q' a) (hE : ∀ c d, E c d → E' c d) {m : M α} (h : W m Q E) : W m Q' E' := by unfold W at *; exact wp_imp hQ hE h
@[simp] theorem W_leave (m : M (Env × Fl)) (Q : D → Prop) : W (leave m) Q E = W m (fun p => match p.2 with | .rt d => Q d | .nx => Q .non | _ => False) E := by unfold W; exact wp_leave' m Q E
@[simp] theorem W_then (m : M (Env × Fl)) (k : Env → M (Env × Fl)) (Q : Env × Fl → Prop) : W (thenS m k) Q E = W m (fun p => match p.2 with | .nx => W (k p.1) Q E | f => Q (p.1, f)) E := by unfold W; exact wp_then m k Q E
end
/-! ### the forms of expressions and statements -/
/-- a test's two ways -/
def ifD {α : Type} (x : D) (a b : M α) : M α := match x with
  | .bl true => a
  | .bl false => b
  | _ => .stuck
@[simp] theorem ifD_bl {α : Type} (k : Bool) (a b : M α) : ifD (.bl k) a b = if k = true then a else b := by cases k <;> rfl
/-- the row of a tuple -/
def tupD {α : Type} (x : D) (f : List D → M α) : M α := match x with
  | .tup xs => f xs
  | _ => .stuck
@[simp] theorem tupD_tup {α : Type} (xs : List D) (f : List D → M α) : tupD (.tup xs) f = f xs := rfl
/-- a draw -/
@[irreducible] def drawD : D → D → M D
  | .st, .int n => if 0 < n ∧ n < 2 ^ 9000 then .draw n.toNat fun v => .ok (.int (v : Int)) else .stuck
  | _, _ => .stuck
theorem wp_drawD {m : Int} {Q : D → Prop} {E : Nat → D → Prop} (h0 : 0 < m) (h1 : m ≤ 10 ^ 61) (h : ∀ v : Nat, (v : Int) < m → Q (.int (v : Nat))) : W (drawD .st (.int m)) Q E := by
  unfold W
  have e : drawD .st (.int m) = .draw m.toNat fun v => .ok (.int (v : Int)) := by
    unfold drawD
    exact if_pos ⟨h0, Int.lt_of_le_of_lt h1 (by decide +kernel)⟩
  rw [e]
  exact fun v hv => h v (by omega)
section
variable {F : Nat → M D → List D → M D} {th : M D} {env : Env}
@[simp] theorem ev_con (d : D) : evE F th (.con d) env = .ok d := by rw [evE]
@[simp] theorem ev_glo (x : PySem.Str) (d : D) : evE F th (.glo x d) env = .ok d := by rw [evE]
theorem ev_var (i : Nat) : evE F th (.var i) env = match env.at i with
    | some (d, false) => .ok d
    | _ => .stuck := by rw [evE] <;> rfl
theorem ev_bor (i : Nat) : evE F th (.bor i) env = match env.at i with
    | some (d, _) => .ok d
    | none => .stuck := by rw [evE] <;> rfl
theorem ev_callk (f : Nat) (perm : List Nat) (a k : E) : evE F th (.callk f perm a k) env = (evE F th a env).bind fun x => (evE F th k env).bind fun y => tupD x fun xs => tupD y fun ys => match pick (xs ++ ys) perm with
      | some zs => F f .stuck zs
      | none => .stuck := by
  rw [evE]
  congr 1
  funext x
  congr 1
  funext y
  cases x <;> cases y <;> rfl
theorem ev_slc_l (a lo : E) (h : lo ≠ .absent) : evE F th (.slc a lo .absent) env = (evE F th a env).bind fun x => ((evE F th lo env).bind asI).bind fun l => slcV x l none := by
  rw [evE]
  · rfl
  · exact h
theorem ev_slc_h (a hi : E) (h : hi ≠ .absent) : evE F th (.slc a .absent hi) env = (evE F th a env).bind fun x => ((evE F th hi env).bind asI).bind fun h => slcV x none h := by
  rw [evE]
  · rfl
  · exact h
theorem ev_slc_b (a lo hi : E) (h1 : lo ≠ .absent) (h2 : hi ≠ .absent) : evE F th (.slc a lo hi) env = (evE F th a env).bind fun x => ((evE F th lo env).bind asI).bind fun l => ((evE F th hi env).bind asI).bind fun h => slcV x l h := by
  rw [evE]
  · exact h1
  · exact h2
theorem ev_force (i : Nat) : evE F th (.force i) env = match env.at i with
    | some (.thk, _) => th
    | _ => .stuck := by rw [evE] <;> rfl
theorem ev_attr (i : Nat) (x : PySem.Str) : evE F th (.attr i x) env = match env.at i with
    | some (.exc c d, false) => if fldOf c = some x then .ok d else .stuck
    | _ => .stuck := by rw [evE] <;> rfl
theorem ev_isx (i k : Nat) : evE F th (.isx i k) env = match env.at i with
    | some (.exc c _, false) => if subc c k then .ok (.bl true) else .stuck
    | _ => .stuck := by rw [evE] <;> rfl
@[simp] theorem ev_nil : evE F th .nil env = .ok (.tup []) := by rw [evE]
@[simp] theorem ev_cons (a r : E) : evE F th (.cons a r) env = (evE F th a env).bind fun x => (evE F th r env).bind fun xs => tupD xs fun ys => .ok (.tup (x :: ys)) := by
  rw [evE] <;> rfl
@[simp] theorem ev_list (a : E) : evE F th (.list a) env = (evE F th a env).bind fun xs => tupD xs fun ys => .ok (.lst ys) := by
  rw [evE] <;> rfl
@[simp] theorem ev_frz (a : E) : evE F th (.frz a) env = evE F th a env := by rw [evE]
@[simp] theorem ev_bin (op : Op) (a b : E) : evE F th (.bin op a b) env = (evE F th a env).bind fun x => (evE F th b env).bind fun y => opV op x y := by rw [evE]
@[simp] theorem ev_neg (a : E) : evE F th (.neg a) env = (evE F th a env).bind fun x => match x with
  | .int i => .ok (.int (-i))
  | _ => .stuck := by
  rw [evE] <;> rfl
@[simp] theorem ev_cmp (op : Cm) (a b : E) : evE F th (.cmp op a b) env = (evE F th a env).bind fun x => (evE F th b env).bind fun y => cmpV op x y := by rw [evE]
@[simp] theorem ev_chain (op op' : Cm) (a b c : E) : evE F th (.chain op op' a b c) env = (evE F th a env).bind fun x => (evE F th b env).bind fun y => (cmpV op x y).bind fun r => ifD r ((evE F th c env).bind fun z => cmpV op' y z) (.ok (.bl false)) := by
  rw [evE] <;> rfl
@[simp] theorem ev_not (a : E) : evE F th (.not a) env = (evE F th a env).bind fun x => ifD x (.ok (.bl false)) (.ok (.bl true)) := by
  rw [evE]
  congr 1
  funext x
  cases x <;> first | rfl | (rename_i b; cases b <;> rfl)
@[simp] theorem ev_and (a b : E) : evE F th (.and a b) env = (evE F th a env).bind fun x => ifD x ((evE F th b env).bind asB) (.ok (.bl false)) := by
  rw [evE] <;> rfl
@[simp] theorem ev_or (a b : E) : evE F th (.or a b) env = (evE F th a env).bind fun x => ifD x (.ok (.bl true)) ((evE F th b env).bind asB) := by
  rw [evE] <;> rfl
@[simp] theorem ev_ite (c a b : E) : evE F th (.ite c a b) env = (evE F th c env).bind fun x => ifD x (evE F th a env) (evE F th b env) := by
  rw [evE] <;> rfl
@[simp] theorem ev_idx (a b : E) : evE F th (.idx a b) env = (evE F th a env).bind fun x => (evE F th b env).bind fun y => idxV x y := by rw [evE]
@[simp] theorem ev_rev (a : E) : evE F th (.rev a) env = (evE F th a env).bind fun x => match x with
    | .tup xs => .ok (.tup xs.reverse)
    | .lst xs => .ok (.lst xs.reverse)
    | _ => .stuck := by
  rw [evE] <;> rfl
/-- the row of a list -/
def lstD {α : Type} (x : D) (f : List D → M α) : M α := match x with
  | .lst xs => f xs
  | _ => .stuck
@[simp] theorem lstD_lst {α : Type} (xs : List D) (f : List D → M α) : lstD (.lst xs) f = f xs := rfl
@[simp] theorem ev_meth (m : Mt) (a b : E) : evE F th (.meth m a b) env = (evE F th a env).bind fun x => lstD x fun xs => (evE F th b env).bind fun y => methV m (.lst xs) y := by
  rw [evE]
  congr 1
@[simp] theorem ev_call (f : Nat) (a : E) : evE F th (.call f a) env = (evE F th a env).bind fun x => tupD x fun xs => F f .stuck xs := by
  rw [evE] <;> rfl
@[simp] theorem ev_prim (p : Pr) (a : E) : evE F th (.prim p a) env = (evE F th a env).bind fun x => tupD x fun xs => primV p xs := by
  rw [evE] <;> rfl
@[simp] theorem ev_draw (a b : E) : evE F th (.draw a b) env = (evE F th a env).bind fun x => (evE F th b env).bind fun y => drawD x y := by
  rw [evE]
  unfold drawD
  first | done | rfl
@[simp] theorem ev_heard (f : Nat) (b : E) : evE F th (.heard f b) env = (F f ((evE F th b (calm [] env)).bind pureM) [.thk]).bind pureM := by rw [evE]
@[simp] theorem ev_comp (own : List Nat) (w : Wk) (it : E) (t : Tg) (c elt : E) : evE F th (.comp own w it t c elt) env = (evE F th it env).bind fun x => (walkV w x).bind fun xs =>
      (compL (fun x => match asg t x (wipe env own) with
        | some env1 => M.nox ((evE F th c env1).bind fun b => ifD b ((evE F th elt env1).bind fun y => .ok (some y)) (.ok none))
        | none => .stuck) xs).bind fun ys => .ok (.lst ys) := by
  rw [evE] <;> rfl
@[simp] theorem ex_done : exS F th .done env = .ok (env, .nx) := by rw [exS]
@[simp] theorem ex_kill (is : List Nat) (r : S) : exS F th (.kill is r) env = exS F th r (wipe env is) := by rw [exS]
@[simp] theorem ex_frz (is : List Nat) (r : S) : exS F th (.frz is r) env = exS F th r (freeze env is) := by rw [exS]
@[simp] theorem ex_pass (r : S) : exS F th (.pass r) env = exS F th r env := by rw [exS]
@[simp] theorem ex_set (i : Nat) (own : Bool) (e : E) (r : S) : exS F th (.set i own e r) env = (evE F th e env).bind fun d => exS F th r (putAt env i (some (d, own && d.isL))) := by rw [exS]
@[simp] theorem ex_sets (t : Tg) (e : E) (r : S) : exS F th (.sets t e r) env = (evE F th e env).bind fun d => match asg t d env with
    | some env' => exS F th r env'
    | none => .stuck := by
  rw [exS] <;> rfl
@[simp] theorem ex_app (i : Nat) (e : E) (r : S) : exS F th (.app i e r) env = (ownL env i).bind fun xs => (evE F th e env).bind fun d => if xs.length < LIM then exS F th r (putAt env i (some (.lst (xs ++ [d]), true))) else .stuck := by rw [exS]
@[simp] theorem ex_ext (i : Nat) (e : E) (r : S) : exS F th (.ext i e r) env = (ownL env i).bind fun xs => (evE F th e env).bind fun d => match d with
    | .lst ys => if xs.length + ys.length ≤ LIM then exS F th r (putAt env i (some (.lst (xs ++ ys), true))) else .stuck
    | _ => .stuck := by
  rw [exS] <;> rfl
theorem eh_done (c : Nat) (d : D) : exH F th .done c d env = .exc c d := by rw [exH]
theorem eh_hand (k : Nat) (i : Option Nat) (b r : S) (c : Nat) (d : D) : exH F th (.hand k i b r) c d env = if subc c k then
      (M.nox (exS F th b (hold i c d env))).bind fun p => match p.2 with
        | .rt e => if e.pure then .ok (p.1, .rt e) else .stuck
        | f => .ok (gone i p.1, f)
    else exH F th r c d env := by
  rw [exH] <;> rfl
@[simp] theorem ex_expr (e : E) (r : S) : exS F th (.expr e r) env = (evE F th e env).bind fun _ => exS F th r env := by rw [exS]
@[simp] theorem ex_ite (c : E) (a b r : S) : exS F th (.ite c a b r) env = (evE F th c env).bind fun x => ifD x (thenS (exS F th a env) (exS F th r)) (thenS (exS F th b env) (exS F th r)) := by
  rw [exS] <;> rfl
@[simp] theorem ex_for (w : Wk) (it : E) (t : Tg) (b r : S) : exS F th (.for_ w it t b r) env = (evE F th it env).bind fun x => (walkV w x).bind fun xs =>
      thenS (forL (fun x env => match asg t x env with
        | some env' => exS F th b env'
        | none => .stuck) xs env) (exS F th r) := by
  rw [exS] <;> rfl
@[simp] theorem ex_ret (e : E) : exS F th (.ret e) env = (evE F th e env).bind fun d => .ok (env, .rt d) := by rw [exS]
@[simp] theorem ex_brk : exS F th .brk env = .ok (env, .bk) := by rw [exS]
@[simp] theorem ex_cnt : exS F th .cnt env = .ok (env, .ct) := by rw [exS]
@[simp] theorem ex_raise (c : Nat) (e : E) : exS F th (.raise c e) env = (evE F th e env).bind fun d => if d.pure then .exc c d else .stuck := by rw [exS]
@[simp] theorem ex_raise0 (c : Nat) : exS F th (.raise0 c) env = .exc c .non := by rw [exS]
@[simp] theorem ex_try (b h r : S) : exS F th (.try_ b h r) env = thenS (catchM (fun c d => exH F th h c d (calm (asgS b) env)) (exS F th b env)) (exS F th r) := by rw [exS]
end
/-! ### names -/
@[simp] theorem at_nil (i : Nat) : Env.at [] i = none := by cases i <;> rfl
@[simp] theorem at_zero (x : Option (D × Bool)) (r : Env) : Env.at (x :: r) 0 = x := rfl
@[simp] theorem at_succ (x : Option (D × Bool)) (r : Env) (i : Nat) : Env.at (x :: r) (i + 1) = Env.at r i := rfl
@[simp] theorem put_zero (x v : Option (D × Bool)) (r : Env) : putAt (x :: r) 0 v = v :: r := rfl
@[simp] theorem put_succ (x v : Option (D × Bool)) (r : Env) (i : Nat) : putAt (x :: r) (i + 1) v = x :: putAt r i v := rfl
@[simp] theorem wipe_nil (env : Env) : wipe env [] = env := rfl
@[simp] theorem wipe_cons (env : Env) (i : Nat) (is : List Nat) : wipe env (i :: is) = putAt (wipe env is) i none := rfl
@[simp] theorem frz_zero (d : D) (b : Bool) (r : Env) : frzAt (some (d, b) :: r) 0 = some (d, false) :: r := rfl
@[simp] theorem frz_none (r : Env) : frzAt (none :: r) 0 = none :: r := rfl
@[simp] theorem frz_succ (x : Option (D × Bool)) (r : Env) (i : Nat) : frzAt (x :: r) (i + 1) = x :: frzAt r i := rfl
@[simp] theorem freeze_nil (env : Env) : freeze env [] = env := rfl
@[simp] theorem freeze_cons (env : Env) (i : Nat) (is : List Nat) : freeze env (i :: is) = frzAt (freeze env is) i := rfl
@[simp] theorem asg_v (i : Nat) (d : D) (env : Env) : asg (.v i) d env = some (putAt env i (some (d, false))) := rfl
@[simp] theorem asg_cons (h t : Tg) (x : D) (xs : List D) (env : Env) : asg (.cons h t) (.tup (x :: xs)) env = (asg h x env).bind fun e => asg t (.tup xs) e := rfl
@[simp] theorem asg_nil (env : Env) : asg .nil (.tup []) env = some env := rfl
@[simp] theorem own_lst (env : Env) (i : Nat) : ownL env i = match env.at i with
  | some (.lst xs, true) => .ok xs
  | _ => .stuck := rfl
@[simp] theorem isL_lst (xs : List D) : D.isL (.lst xs) = true := rfl
@[simp] theorem isL_tup (xs : List D) : D.isL (.tup xs) = false := rfl
@[simp] theorem isL_int (i : Int) : D.isL (.int i) = false := rfl
/-! ### operations on plain values -/
@[simp] theorem op_add (a b : Int) : opV .add (.int a) (.int b) = .ok (.int (a + b)) := rfl
@[simp] theorem op_sub (a b : Int) : opV .sub (.int a) (.int b) = .ok (.int (a - b)) := rfl
theorem op_mul (a b : Int) (h : a.natAbs < 2 ^ 64 ∨ b.natAbs < 2 ^ 64 ∨ (a.natAbs < 2 ^ MULB ∧ b.natAbs < 2 ^ MULB)) : opV .mul (.int a) (.int b) = .ok (.int (a * b)) := if_pos h
theorem op_tadd (a b : List D) (h : a.length + b.length ≤ LIM) : opV .add (.tup a) (.tup b) = .ok (.tup (a ++ b)) := if_pos h
theorem op_ladd (a b : List D) (h : a.length + b.length ≤ LIM) : opV .add (.lst a) (.lst b) = .ok (.lst (a ++ b)) := if_pos h
@[simp] theorem cm_lt (a b : Int) : cmpV .lt (.int a) (.int b) = .ok (.bl (decide (a < b))) := rfl
@[simp] theorem cm_le (a b : Int) : cmpV .le (.int a) (.int b) = .ok (.bl (decide (a ≤ b))) := rfl
@[simp] theorem cm_gt (a b : Int) : cmpV .gt (.int a) (.int b) = .ok (.bl (decide (b < a))) := rfl
@[simp] theorem cm_ge (a b : Int) : cmpV .ge (.int a) (.int b) = .ok (.bl (decide (b ≤ a))) := rfl
@[simp] theorem cm_eq (a b : Int) : cmpV .eq (.int a) (.int b) = .ok (.bl (decide (a = b))) := rfl
@[simp] theorem cm_ne (a b : Int) : cmpV .ne (.int a) (.int b) = .ok (.bl (!decide (a = b))) := rfl
@[simp] theorem pr_len_t (xs : List D) : primV .len [.tup xs] = .ok (.int xs.length) := rfl
@[simp] theorem pr_len_l (xs : List D) : primV .len [.lst xs] = .ok (.int xs.length) := rfl
@[simp] theorem pr_list_t (xs : List D) : primV .list [.tup xs] = .ok (.lst xs) := rfl
@[simp] theorem pr_list_l (xs : List D) : primV .list [.lst xs] = .ok (.lst xs) := rfl
@[simp] theorem pr_tup_t (xs : List D) : primV .tuple [.tup xs] = .ok (.tup xs) := rfl
@[simp] theorem pr_tup_l (xs : List D) : primV .tuple [.lst xs] = .ok (.tup xs) := rfl
@[simp] theorem wk_t (xs : List D) : walkV .seq (.tup xs) = .ok xs := rfl
@[simp] theorem wk_l (xs : List D) : walkV .seq (.lst xs) = .ok xs := rfl
/-- plain data -/
def plainD : D → Bool
  | .non => true | .bl _ => true | .int _ => true | .str _ => true | .tup _ => true | .lst _ => true | _ => false
def isTupB : D → Bool | .tup _ => true | _ => false
def isLstB : D → Bool | .lst _ => true | _ => false
def isIntB : D → Bool | .int _ => true | .bl _ => true | _ => false
def isBlB : D → Bool | .bl _ => true | _ => false
@[simp] theorem pr_isT (xs : List D) : primV .isTuple [.tup xs] = .ok (.bl true) := rfl
@[simp] theorem pr_isInt_non : primV .isInt [.non] = .ok (.bl false) := rfl
@[simp] theorem pr_isInt_bl (b : Bool) : primV .isInt [.bl b] = .ok (.bl true) := rfl
@[simp] theorem pr_isInt_int (i : Int) : primV .isInt [.int i] = .ok (.bl true) := rfl
@[simp] theorem pr_isInt_str (x : PySem.Str) : primV .isInt [.str x] = .ok (.bl false) := rfl
@[simp] theorem pr_isInt_tup (xs : List D) : primV .isInt [.tup xs] = .ok (.bl false) := rfl
@[simp] theorem pr_isInt_lst (xs : List D) : primV .isInt [.lst xs] = .ok (.bl false) := rfl
@[simp] theorem pr_isBool_non : primV .isBool [.non] = .ok (.bl false) := rfl
@[simp] theorem pr_isBool_bl (b : Bool) : primV .isBool [.bl b] = .ok (.bl true) := rfl
@[simp] theorem pr_isBool_int (i : Int) : primV .isBool [.int i] = .ok (.bl false) := rfl
@[simp] theorem pr_isBool_str (x : PySem.Str) : primV .isBool [.str x] = .ok (.bl false) := rfl
@[simp] theorem pr_isBool_tup (xs : List D) : primV .isBool [.tup xs] = .ok (.bl false) := rfl
@[simp] theorem pr_isBool_lst (xs : List D) : primV .isBool [.lst xs] = .ok (.bl false) := rfl
@[simp] theorem pr_isTuple_non : primV .isTuple [.non] = .ok (.bl false) := rfl
@[simp] theorem pr_isTuple_bl (b : Bool) : primV .isTuple [.bl b] = .ok (.bl false) := rfl
@[simp] theorem pr_isTuple_int (i : Int) : primV .isTuple [.int i] = .ok (.bl false) := rfl
@[simp] theorem pr_isTuple_str (x : PySem.Str) : primV .isTuple [.str x] = .ok (.bl false) := rfl
@[simp] theorem pr_isTuple_lst (xs : List D) : primV .isTuple [.lst xs] = .ok (.bl false) := rfl
@[simp] theorem pr_isList_non : primV .isList [.non] = .ok (.bl false) := rfl
@[simp] theorem pr_isList_bl (b : Bool) : primV .isList [.bl b] = .ok (.bl false) := rfl
@[simp] theorem pr_isList_int (i : Int) : primV .isList [.int i] = .ok (.bl false) := rfl
@[simp] theorem pr_isList_str (x : PySem.Str) : primV .isList [.str x] = .ok (.bl false) := rfl
@[simp] theorem pr_isList_tup (xs : List D) : primV .isList [.tup xs] = .ok (.bl false) := rfl
@[simp] theorem pr_isList_lst (xs : List D) : primV .isList [.lst xs] = .ok (.bl true) := rfl
theorem pr_isTup {d : D} (h : plainD d = true) : primV .isTuple [d] = .ok (.bl (isTupB d)) := by cases d <;> first | rfl | cases h
theorem pr_isLst {d : D} (h : plainD d = true) : primV .isList [d] = .ok (.bl (isLstB d)) := by cases d <;> first | rfl | cases h
theorem pr_isInt {d : D} (h : plainD d = true) : primV .isInt [d] = .ok (.bl (isIntB d)) := by cases d <;> first | rfl | cases h
theorem pr_isBl {d : D} (h : plainD d = true) : primV .isBool [d] = .ok (.bl (isBlB d)) := by cases d <;> first | rfl | cases h
/-! ### a comprehension's turns -/
theorem comp_filter {α : Type} {turn : D → M (Option D)} (g t : α → D) (p : α → Bool) : ∀ (xs : List α), (∀ a ∈ xs, turn (g a) = .ok (if p a then some (t a) else none)) → compL turn (xs.map g) = .ok ((xs.filter p).map t)
  | [], _ => rfl
  | a :: xs, h => by
    rw [List.map_cons, compL, h a (List.mem_cons_self ..), ok_bind, comp_filter g t p xs fun b hb => h b (List.mem_cons_of_mem _ hb), ok_bind]
    cases hp : p a <;> simp [hp]
theorem comp_map {α : Type} {turn : D → M (Option D)} (g t : α → D) (xs : List α) (h : ∀ a ∈ xs, turn (g a) = .ok (some (t a))) : compL turn (xs.map g) = .ok (xs.map t) := by
  have := comp_filter (turn := turn) g t (fun _ => true) xs (fun a ha => by rw [h a ha]; rfl)
  rwa [List.filter_eq_self.mpr (fun _ _ => rfl)] at this
theorem comp_id {turn : D → M (Option D)} (t : D → D) (xs : List D) (h : ∀ a ∈ xs, turn a = .ok (some (t a))) : compL turn xs = .ok (xs.map t) := by
  have := comp_map (turn := turn) id t xs h
  simpa using this
theorem comp_fid {turn : D → M (Option D)} (t : D → D) (p : D → Bool) (xs : List D) (h : ∀ a ∈ xs, turn a = .ok (if p a then some (t a) else none)) : compL turn xs = .ok ((xs.filter p).map t) := by
  have := comp_filter (turn := turn) id t p xs h
  simpa using this
/-- with draws: what holds of each item -/
theorem comp_wp {turn : D → M (Option D)} {P : D → Prop} {Q : List D → Prop} {E : Nat → D → Prop} : ∀ (xs : List D), (∀ x ∈ xs, wp (turn x) (fun o => ∃ y, o = some y ∧ P y) E) → (∀ ys, ys.length = xs.length → (∀ y ∈ ys, P y) → Q ys) → wp (compL turn xs) Q E
  | [], _, k => k [] rfl fun y hy => by cases hy
  | x :: xs, h, k => by
    rw [compL, wpb]
    refine wp_imp (fun o ho => ?_) (fun _ _ z => z) (h x (List.mem_cons_self ..))
    obtain ⟨y, rfl, py⟩ := ho
    rw [wpb]
    refine comp_wp xs (fun z hz => h z (List.mem_cons_of_mem _ hz)) fun ys hl hy => ?_
    exact k (y :: ys) (by simp [hl]) fun z hz => by
      rcases List.mem_cons.mp hz with rfl | hz
      · exact py
      · exact hy z hz
/-! ### a loop's turns -/
theorem for_fold {α σ : Type} {turn : D → Env → M (Env × Fl)} (g : α → D) (mk : σ → Env) (step : σ → α → σ) : ∀ (xs : List α) (s : σ), (∀ a ∈ xs, ∀ s, turn (g a) (mk s) = .ok (mk (step s a), .nx)) → forL turn (xs.map g) (mk s) = .ok (mk (xs.foldl step s), .nx)
  | [], _, _ => rfl
  | a :: xs, s, h => by
    rw [List.map_cons, forL, h a (List.mem_cons_self ..) s, ok_bind]
    exact for_fold g mk step xs (step s a) fun b hb => h b (List.mem_cons_of_mem _ hb)
/-- with an invariant of the part that is walked -/
theorem for_inv {turn : D → Env → M (Env × Fl)} (I : List D → Env → Prop) {Q : Env × Fl → Prop} {E : Nat → D → Prop} {xs : List D} {env : Env} (h0 : I [] env)
    (h : ∀ pre x post env, xs = pre ++ x :: post → I pre env → wp (turn x env) (fun p => match p.2 with | .nx => I (pre ++ [x]) p.1 | .ct => I (pre ++ [x]) p.1 | .bk => Q (p.1, .nx) | .rt d => Q (p.1, .rt d)) E) (hQ : ∀ env, I xs env → Q (env, .nx)) : wp (forL turn xs env) Q E := by
  have key : ∀ (post pre : List D) (env : Env), xs = pre ++ post → I pre env → wp (forL turn post env) Q E := fun post => by
    induction post with
    | nil => intro pre env e i; rw [List.append_nil] at e; subst e; exact hQ env i
    | cons x post ih =>
      intro pre env e i
      rw [forL, wpb]
      refine wp_imp (fun p hp => ?_) (fun _ _ z => z) (h pre x post env e i)
      obtain ⟨e', f⟩ := p
      cases f with
      | nx => exact ih (pre ++ [x]) e' (by rw [e]; simp) hp
      | ct => exact ih (pre ++ [x]) e' (by rw [e]; simp) hp
      | bk => exact hp
      | rt d => exact hp
  exact key xs [] env rfl h0
/-- a loop that keeps its names -/
theorem for_same {turn : D → Env → M (Env × Fl)} {Q : Env × Fl → Prop} {E : Nat → D → Prop} {xs : List D} {env : Env}
    (h : ∀ x ∈ xs, wp (turn x env) (fun p => p = (env, .nx)) E) (hQ : Q (env, .nx)) : wp (forL turn xs env) Q E :=
  for_inv (fun _ e => e = env) rfl (fun pre x post env' e i => by
    subst i
    exact wp_imp (fun p hp => by subst hp; rfl) (fun _ _ z => z) (h x (by rw [e]; simp))) (fun e he => by subst he; exact hQ)
theorem comp_W {turn : D → M (Option D)} {P : D → Prop} {Q : List D → Prop} {E : Nat → D → Prop} (xs : List D) (h : ∀ x ∈ xs, W (turn x) (fun o => ∃ y, o = some y ∧ P y) E) (k : ∀ ys, ys.length = xs.length → (∀ y ∈ ys, P y) → Q ys) : W (compL turn xs) Q E := by
  unfold W at *
  exact comp_wp xs h k
theorem for_W {turn : D → Env → M (Env × Fl)} (I : List D → Env → Prop) {Q : Env × Fl → Prop} {E : Nat → D → Prop} {xs : List D} {env : Env} (h0 : I [] env)
    (h : ∀ pre x post env, xs = pre ++ x :: post → I pre env → W (turn x env) (fun p => match p.2 with | .nx => I (pre ++ [x]) p.1 | .ct => I (pre ++ [x]) p.1 | .bk => Q (p.1, .nx) | .rt d => Q (p.1, .rt d)) E) (hQ : ∀ env, I xs env → Q (env, .nx)) : W (forL turn xs env) Q E := by
  unfold W at *
  exact for_inv I h0 h hQ
theorem for_Ws {turn : D → Env → M (Env × Fl)} {Q : Env × Fl → Prop} {E : Nat → D → Prop} {xs : List D} {env : Env} (h : ∀ x ∈ xs, W (turn x env) (fun p => p = (env, .nx)) E) (hQ : Q (env, .nx)) : W (forL turn xs env) Q E := by
  unfold W at *
  exact for_same h hQ
/-! ### a def -/
theorem run_def {T : Tab} {n i : Nat} {f : Fn} (h : T i = some f) (th : M D) (ds : List D) (hl : ds.length = f.np) : run T (n + 1) i th ds = leave (exS (run T n) th f.body (enter f ds)) := by
  rw [run, h]
  simp only [hl, if_true]
/-! ### by the kernel -/
def okT : M D → Bool | .ok (.bl true) => true | _ => false
theorem okT_eq : ∀ {m : M D}, okT m = true → m = .ok (.bl true)
  | .ok (.bl true), _ => rfl
def nD (n : Nat) : D := .int (n : Int)
def isFrom (d : D) (lo hi : Int) : Bool := match d with | .int i => decide (lo ≤ i) && decide (i ≤ hi) | _ => false
end Cl.Q
set_option autoImplicit false
set_option linter.all false
set_option maxRecDepth 100000
set_option maxHeartbeats 1000000
namespace Cl.Q
section
variable {n : Nat} {th : M D} {Q : D → Prop} {E : Nat → D → Prop}
@[simp] theorem isL_non : D.isL .non = false := rfl
@[simp] theorem isL_bl (b : Bool) : D.isL (.bl b) = false := rfl
@[simp] theorem isL_str (b : PySem.Str) : D.isL (.str b) = false := rfl
@[simp] theorem ok_ite {α : Type} {c : Prop} [Decidable c] (a b : α) : (if c then M.ok a else M.ok b) = M.ok (if c then a else b) := ite_ok a b
theorem fit_plain {k : Nat} {d : D} (h : D.fit k d = true) : plainD d = true := by cases d <;> first | rfl | (cases k <;> cases h)
theorem fits_all {k : Nat} : ∀ {ds : List D}, D.fits k ds = true ↔ ∀ d ∈ ds, D.fit k d = true
  | [] => by simp [D.fits]
  | d :: ds => by simp [D.fits, fits_all (ds := ds)]
theorem fit_up : ∀ (k m : Nat) (d : D), k ≤ m → D.fit k d = true → D.fit m d = true := by
  intro k
  induction k with
  | zero =>
    intro m d _ h
    cases d <;> first | (cases h; done) | (cases m <;> exact h)
  | succ k ih =>
    intro m d hm h
    obtain ⟨m, rfl⟩ : ∃ m', m = m' + 1 := ⟨m - 1, by omega⟩
    cases d with
    | tup xs => simp only [D.fit, fits_all] at h ⊢; exact fun d hd => ih m d (by omega) (h d hd)
    | lst xs => simp only [D.fit, fits_all] at h ⊢; exact fun d hd => ih m d (by omega) (h d hd)
    | _ => first | exact h | (cases h; done)
theorem fit_pure {k : Nat} : ∀ {d : D}, D.fit k d = true → d.pure = true := by
  induction k with
  | zero => intro d h; cases d <;> first | rfl | cases h
  | succ k ih =>
    have all : ∀ {xs : List D}, D.fits k xs = true → D.pures xs = true := by
      intro xs
      induction xs with
      | nil => intro _; rfl
      | cons x xs ihx =>
        intro h
        simp only [D.fits, Bool.and_eq_true] at h
        simp only [D.pures, Bool.and_eq_true]
        exact ⟨ih h.1, ihx h.2⟩
    intro d h
    cases d with
    | tup xs => exact all h
    | lst xs => exact all h
    | _ => first | rfl | cases h
/-- the items of a row are data -/
def itemsFit (d : D) : Prop := ∀ ds, d = .tup ds → ∀ x ∈ ds, plainD x = true
theorem fit_items {k : Nat} {d : D} (h : D.fit k d = true) : itemsFit d := fun ds e x hx => by
  subst e
  cases k with
  | zero => cases h
  | succ k => exact fit_plain (fits_all.mp h x hx)
def isHolder : D → Bool
  | .tup ds => decide (ds.length ≤ 60) && ds.all fun x => isFrom x 0 12
  | _ => false
def MT : Int := 1000000000000000000000000000000000000000000000000000000000000
theorem run0 {d : D} (lo hi : Int) (h : plainD d = true) : run TT (n + 1) 0 th [d, .int lo, .int hi] = .ok (.bl (isFrom d lo hi)) := by
  rw [run_def (show TT 0 = some f0 from rfl) _ _ rfl]
  cases d <;> first | (cases h; done) | skip
  all_goals simp [f0, enter, ev_var, isFrom]
  all_goals (split <;> simp_all <;> omega)
theorem cmp_eq_int (a b : Int) : cmpV .eq (.int a) (.int b) = .ok (.bl (decide (a = b))) := by simp
theorem filter_len {p : D → Bool} (ds : List D) : decide ((((ds.filter fun x => !p x).map fun _ => D.int 1).length : Int) = 0) = ds.all p := by
  rw [List.length_map]
  induction ds with
  | nil => rfl
  | cons x ds ih =>
    rw [List.filter_cons, List.all_cons]
    cases h : p x
    · simp
      omega
    · simp only [Bool.not_true, Bool.false_eq_true, if_false, Bool.true_and]
      exact ih
theorem run1 {d : D} (h : plainD d = true) (hi : itemsFit d) : run TT (n + 2) 1 th [d] = .ok (.bl (isHolder d)) := by
  rw [run_def (show TT 1 = some f1 from rfl) _ _ rfl]
  cases d <;> first | (cases h; done) | skip
  case tup ds =>
    simp only [f1, enter]
    simp [ev_var]
    rw [comp_fid (fun _ => D.int 1) (fun x => !isFrom x 0 12) ds]
    · simp [isHolder]
      have e := filter_len (p := fun x => isFrom x 0 12) ds
      rw [List.length_map] at e
      split
      · rename_i z
        simp
        exact fun z2 => absurd z2 (by omega)
      · rename_i z
        simp [e, show ds.length ≤ 60 by omega]
        rw [Bool.eq_iff_iff]
        simp
    · intro a ha
      rw [run0 0 12 (hi ds rfl a ha)]
      cases isFrom a 0 12 <;> rfl
  all_goals simp [f1, enter, ev_var, isHolder]
theorem run2 {d : D} (hp : d.pure = true) (h : plainD d = true) (hi : itemsFit d) : run TT (n + 3) 2 th [d] = if isHolder d then .ok d else .exc 1 d := by
  rw [run_def (show TT 2 = some f2 from rfl) _ _ rfl]
  simp [f2, enter, ev_var, run1 h hi, hp]
  cases isHolder d <;> simp
theorem run3 {d : D} (m : Int) (hp : d.pure = true) (h : plainD d = true) : run TT (n + 2) 3 th [d, .int m] = if isFrom d 0 (m - 1) then .ok d else .exc 12 d := by
  rw [run_def (show TT 3 = some f3 from rfl) _ _ rfl]
  simp [f3, enter, ev_var, run0 0 (m - 1) h, hp]
  cases isFrom d 0 (m - 1) <;> simp
theorem run6 {d : D} (hp : d.pure = true) (h : plainD d = true) : run TT (n + 2) 6 th [d] = if isFrom d 0 MT then .ok d else .exc 13 d := by
  rw [run_def (show TT 6 = some f6 from rfl) _ _ rfl]
  simp [f6, enter, ev_var, run0 0 _ h, hp]
  show _ = if isFrom d 0 1000000000000000000000000000000000000000000000000000000000000 = true then _ else _
  cases isFrom d 0 1000000000000000000000000000000000000000000000000000000000000 <;> simp
theorem run8 {d : D} (h : plainD d = true) : run TT (n + 2) 8 th [d] = .ok (.bl (isFrom d 0 MT)) := by
  rw [run_def (show TT 8 = some f8 from rfl) _ _ rfl]
  simp [f8, enter, ev_var, run0 0 _ h]
  rfl
/-- whether a value is a filling of a holder -/
def isFill (hs : List D) (v : D) : Bool := match v with
  | .tup [i, .tup ts] => isFrom i 0 ((hs.length : Int) - 1) && (match i with
    | .int k => (match hs[k.toNat]? with | some (.int p) => decide ((ts.length : Int) = p) | _ => false)
    | _ => false) && ts.all fun t => isFrom t 0 MT
  | _ => false
theorem isFrom_int {d : D} {lo hi : Int} (h : isFrom d lo hi = true) : ∃ i, d = .int i ∧ lo ≤ i ∧ i ≤ hi := by
  cases d <;> first | (cases h; done) | skip
  rename_i i
  simp [isFrom] at h
  exact ⟨i, rfl, h⟩
/-- a holder of whole numbers -/
def intsD (hs : List D) : Prop := ∀ x ∈ hs, ∃ p : Nat, x = .int p
theorem run9 {hs : List D} {v : D} (hh : intsD hs) (h : D.fit 5 v = true) : run TT (n + 4) 9 th [.tup hs, v] = .ok (.bl (isFill hs v)) := by
  rw [run_def (show TT 9 = some f9 from rfl) _ _ rfl]
  cases v <;> first | (cases h; done) | skip
  case tup vs =>
    match vs, h with
    | [], _ => simp [f9, enter, ev_var, isFill, ite_ok]
    | [a], _ => simp [f9, enter, ev_var, isFill, ite_ok]
    | a :: b :: c :: r, _ =>
      have e : ¬ ((r.length : Int) + 1 + 1 + 1 = 2) := by omega
      simp [f9, enter, ev_var, isFill, ite_ok, e]
    | [a, b], h =>
      simp only [D.fit, D.fits, Bool.and_eq_true, and_true] at h
      have ha := fit_plain h.1
      have hb := fit_plain h.2
      have i1 : idxV (.tup [a, b]) (.int 1) = .ok b := rfl
      have i0 : idxV (.tup [a, b]) (.int 0) = .ok a := rfl
      cases b <;> first | (cases hb; done) | skip
      case tup ts =>
        have hts : ∀ t ∈ ts, plainD t = true := fun t ht => fit_items h.2 ts rfl t ht
        cases hf : isFrom a 0 ((hs.length : Int) - 1) with
        | false => simp [f9, enter, ev_var, isFill, ite_ok, i1, i0, run0 0 ((hs.length : Int) - 1) ha, hf]
        | true =>
          obtain ⟨k, rfl, k0, k1⟩ := isFrom_int hf
          have kl : k.toNat < hs.length := by omega
          obtain ⟨p, hp⟩ := hh hs[k.toNat] (List.getElem_mem kl)
          have eh : hs[k.toNat]? = some (.int (p : Int)) := by rw [List.getElem?_eq_getElem kl, hp]
          have i2 : idxV (.tup hs) (.int k) = .ok (.int p) := by
            show (match atD hs k with | some d => M.ok d | none => .stuck) = _
            unfold atD
            rw [if_pos k0, eh]
          simp [f9, enter, ev_var, isFill, i1, i0, i2, run0 0 ((hs.length : Int) - 1) ha, hf, eh]
          by_cases hl : (ts.length : Int) = p
          · simp [hl]
            rw [comp_fid (fun _ => D.int 1) (fun x => !isFrom x 0 MT) ts]
            · simp
              have e := filter_len (p := fun x => isFrom x 0 MT) ts
              rw [List.length_map] at e
              rw [Bool.eq_iff_iff]
              simp
            · intro t ht
              rw [run8 (hts t ht)]
              cases isFrom t 0 MT <;> rfl
          · simp [hl]
      all_goals simp [f9, enter, ev_var, isFill, ite_ok, i1]
  all_goals simp [f9, enter, ev_var, isFill]
theorem run10 {hs : List D} {v : D} (hh : intsD hs) (h : D.fit 5 v = true) : run TT (n + 5) 10 th [.tup hs, v] = if isFill hs v then .ok v else .exc 2 v := by
  rw [run_def (show TT 10 = some f10 from rfl) _ _ rfl]
  simp [f10, enter, ev_var, run9 hh h, fit_pure h]
  cases isFill hs v <;> simp
theorem ints_holder {hs : List D} (hh : isHolder (.tup hs) = true) : intsD hs ∧ hs.length ≤ 60 ∧ (∀ x ∈ hs, ∃ p : Nat, x = .int p ∧ p ≤ 12) := by
  simp only [isHolder, Bool.and_eq_true, decide_eq_true_eq, List.all_eq_true] at hh
  have z : ∀ x ∈ hs, ∃ p : Nat, x = .int p ∧ p ≤ 12 := fun x hx => by
    obtain ⟨i, rfl, i0, i1⟩ := isFrom_int (hh.2 x hx)
    exact ⟨i.toNat, by congr 1; omega, by omega⟩
  exact ⟨fun x hx => let ⟨p, e, _⟩ := z x hx; ⟨p, e⟩, hh.1, z⟩
theorem holder_items {hs : List D} (hh : intsD hs) : itemsFit (.tup hs) := fun ds e x hx => by
  cases e
  obtain ⟨p, rfl⟩ := hh x hx
  rfl
theorem ints_pure : ∀ {hs : List D}, intsD hs → D.pures hs = true
  | [], _ => rfl
  | x :: hs, h => by
    obtain ⟨p, rfl⟩ := h x (List.mem_cons_self ..)
    simp only [D.pures, Bool.and_eq_true]
    exact ⟨rfl, ints_pure fun y hy => h y (List.mem_cons_of_mem _ hy)⟩
theorem pow_small {a k : Nat} (ha : a ≤ 400) (hk : k ≤ 12) : a ^ k < 2 ^ MULB := by
  have h1 : a ^ k ≤ 400 ^ 12 := Nat.le_trans (Nat.pow_le_pow_left ha k) (Nat.pow_le_pow_right (by decide) hk)
  have h2 : 400 ^ 12 < 2 ^ 200 := by decide
  have h3 : (2 : Nat) ^ 200 ≤ 2 ^ MULB := Nat.pow_le_pow_right (by decide) (by decide)
  omega
theorem rng_map (s : Nat) : rng 0 (s : Int) = (List.range s).map fun k => D.int (k : Nat) := by
  unfold rng
  simp
theorem walk_rng (s : Nat) (h : s ≤ 1000000) : walkV .rng1 (.tup [.int (s : Int)]) = .ok ((List.range s).map fun k => D.int (k : Nat)) := by
  rw [← rng_map]
  exact if_pos ⟨by unfold LIM; omega, by omega⟩
/-- a power by turns -/
theorem run4 {a k : Nat} (ha : a < 2 ^ 64) (hk : k ≤ 1000000) : run TT (n + 1) 4 th [.int a, .int k] = .ok (.int ((a ^ k : Nat) : Int)) := by
  rw [run_def (show TT 4 = some f4 from rfl) _ _ rfl]
  simp only [f4, enter]
  simp [ev_var, walk_rng k hk]
  rw [for_fold (fun j : Nat => D.int (j : Nat)) (fun z : Int => [some (.int a, false), some (.int k, false), some (.int z, false), none]) (fun z _ => z * a) (List.range k) 1]
  · simp [ev_var]
    have key : ∀ (l : List Nat) (z : Int), l.foldl (fun z _ => z * (a : Int)) z = z * (a : Int) ^ l.length := by
      intro l
      induction l with
      | nil => intro z; simp
      | cons x l ih => intro z; rw [List.foldl_cons, ih, List.length_cons, Int.pow_succ, Int.mul_assoc, Int.mul_comm (a : Int)]
    rw [key]
    simp
  · intro j _ z
    have e : opV .mul (.int z) (.int a) = .ok (.int (z * a)) := op_mul _ _ (.inr (.inl (by simpa using ha)))
    simp [ev_var, e]
@[simp] theorem nD_def (p : Nat) : nD p = .int (p : Int) := rfl
/-- how many fillings -/
def fillN (ps : List Nat) (s : Nat) : Nat := (ps.map fun p => s ^ p).sum
theorem intL_map : ∀ l : List Int, intL (l.map D.int) = some l
  | [] => rfl
  | x :: l => by simp [intL, intL_map l]
theorem sum_cast : ∀ l : List Nat, (l.map fun x : Nat => (x : Int)).sum = ((l.sum : Nat) : Int)
  | [] => rfl
  | x :: l => by simp [sum_cast l]
def hol (ps : List Nat) : D := .tup (ps.map nD)
/-- all rows of so many numbers below s -/
def rowsD (s : Nat) : Nat → List (List D)
  | 0 => [[]]
  | k + 1 => (rowsD s k).flatMap fun r => (List.range s).map fun t => r ++ [D.int (t : Nat)]
theorem rows_len (s : Nat) : ∀ k, (rowsD s k).length = s ^ k
  | 0 => rfl
  | k + 1 => by
    rw [rowsD, List.length_flatMap]
    have e : (rowsD s k).map (List.length ∘ fun r => (List.range s).map fun t => r ++ [D.int (t : Nat)]) = List.replicate (rowsD s k).length s := by
      rw [List.eq_replicate_iff]
      simp
    simp [rows_len s k, Nat.pow_succ]
    have z : ∀ (l : List (List D)), (l.map fun _ => s).sum = l.length * s := fun l => by
      induction l with
      | nil => simp
      | cons x l ih => simp [ih, Nat.succ_mul, Nat.add_comm]
    rw [z, rows_len s k]
theorem rows_in {s k : Nat} : ∀ {r : List D}, r ∈ rowsD s k → r.length = k ∧ ∀ t ∈ r, ∃ j : Nat, t = .int j ∧ j < s := by
  induction k with
  | zero =>
    intro r h
    have : r = [] := by simpa [rowsD] using h
    subst this
    exact ⟨rfl, fun t h => nomatch h⟩
  | succ k ih =>
    intro r h
    simp only [rowsD, List.mem_flatMap, List.mem_map, List.mem_range] at h
    obtain ⟨q, hq, t, ht, rfl⟩ := h
    obtain ⟨a, b⟩ := ih hq
    refine ⟨by simp [a], fun x hx => ?_⟩
    rcases List.mem_append.mp hx with y | y
    · exact b x y
    · rw [List.mem_singleton.mp y]
      exact ⟨t, rfl, ht⟩
theorem run5 {ps : List Nat} {s : Nat} (hs : s < 2 ^ 64) (hp : ∀ p ∈ ps, p ≤ 12) : run TT (n + 2) 5 th [hol ps, .int s] = .ok (.int (fillN ps s : Nat)) := by
  rw [run_def (show TT 5 = some f5 from rfl) _ _ rfl]
  simp only [f5, enter, hol]
  simp [ev_var]
  rw [comp_map nD (fun p : Nat => D.int ((s ^ p : Nat) : Int)) ps]
  · have e : ps.map (fun p : Nat => D.int ((s ^ p : Nat) : Int)) = ((ps.map fun p => s ^ p).map fun x : Nat => (x : Int)).map D.int := by simp
    rw [e]
    simp only [ok_bind, tupD_tup, primV, items, intL_map, Option.map_some, oM, sum_cast, leave_rt]
    rfl
  · intro p h
    rw [nD_def, run4 hs (by have := hp p h; omega)]
    rfl
theorem from_int {i lo hi : Int} (h0 : lo ≤ i) (h1 : i ≤ hi) : isFrom (.int i) lo hi = true := by simp [isFrom, h0, h1]
theorem hold_is {ps : List Nat} (hl : ps.length ≤ 60) (hp : ∀ p ∈ ps, p ≤ 12) : isHolder (hol ps) = true := by
  simp only [hol, isHolder, Bool.and_eq_true, decide_eq_true_eq, List.all_eq_true, List.length_map]
  refine ⟨hl, fun x hx => ?_⟩
  obtain ⟨p, hp2, rfl⟩ := List.mem_map.mp hx
  exact from_int (by omega) (by have := hp p hp2; omega)
theorem hold_ints {ps : List Nat} : intsD (ps.map nD) := fun x hx => by
  obtain ⟨p, _, rfl⟩ := List.mem_map.mp hx
  exact ⟨p, rfl⟩
/-- what is let of a holder -/
structure HolOk (ps : List Nat) : Prop where
  l : ps.length ≤ 60
  p : ∀ p ∈ ps, p ≤ 12
theorem need_hold {ps : List Nat} (h : HolOk ps) : run TT (n + 3) 2 th [hol ps] = .ok (hol ps) := by
  rw [run2 (d := hol ps) (show D.pure (hol ps) = true from ints_pure hold_ints) rfl (holder_items hold_ints), hold_is h.l h.p]
  rfl
theorem need_many {s : Nat} (hs : s < 2 ^ 64) : run TT (n + 2) 6 th [.int s] = .ok (.int s) := by
  rw [run6 rfl rfl, from_int (by omega) (by unfold MT; omega)]
  rfl
theorem run7 {ps : List Nat} {s : Nat} (h : HolOk ps) (hs : s < 2 ^ 64) : run TT (n + 4) 7 th [hol ps, .int s] = .ok (.int (fillN ps s : Nat)) := by
  rw [run_def (show TT 7 = some f7 from rfl) _ _ rfl]
  simp [f7, enter, ev_var, need_hold h, need_many hs, run5 hs h.p]
def tupRows (s k : Nat) : List D := (rowsD s k).map D.tup
theorem rows_step (s k : Nat) : tupRows s (k + 1) = (tupRows s k).flatMap fun r => match r with | .tup xs => (List.range s).map fun t => D.tup (xs ++ [D.int (t : Nat)]) | _ => [] := by
  simp [tupRows, rowsD, List.flatMap_map, List.map_flatMap, Function.comp_def]
theorem foldl_app {α β : Type} (f : α → List β) : ∀ (l : List α) (acc : List β), l.foldl (fun a x => a ++ f x) acc = acc ++ l.flatMap f
  | [], acc => by simp
  | x :: l, acc => by rw [List.foldl_cons, foldl_app f l, List.flatMap_cons, List.append_assoc]
/-- a loop that adds to a row as long as all is small -/
theorem for_rows {α : Type} {turn : D → Env → M (Env × Fl)} (g : α → D) (mk : List D → Env) (f : α → List D) (m : Nat) : ∀ (xs : List α) (acc : List D), (acc ++ xs.flatMap f).length ≤ m → (∀ a ∈ xs, ∀ acc, (acc ++ f a).length ≤ m → turn (g a) (mk acc) = .ok (mk (acc ++ f a), .nx)) → forL turn (xs.map g) (mk acc) = .ok (mk (acc ++ xs.flatMap f), .nx)
  | [], acc, _, _ => by simp [forL]
  | a :: xs, acc, hl, h => by
    rw [List.flatMap_cons, ← List.append_assoc] at hl ⊢
    have h1 : (acc ++ f a).length ≤ m := by
      have := hl
      rw [List.length_append] at this
      omega
    rw [List.map_cons, forL, h a (List.mem_cons_self ..) acc h1, ok_bind]
    exact for_rows g mk f m xs _ hl fun b hb => h b (List.mem_cons_of_mem _ hb)
theorem for_rowsD {turn : D → Env → M (Env × Fl)} (mk : List D → Env) (f : D → List D) (m : Nat) (xs : List D) (acc : List D) (hl : (acc ++ xs.flatMap f).length ≤ m) (h : ∀ a ∈ xs, ∀ acc, (acc ++ f a).length ≤ m → turn a (mk acc) = .ok (mk (acc ++ f a), .nx)) : forL turn xs (mk acc) = .ok (mk (acc ++ xs.flatMap f), .nx) := by
  have := for_rows (turn := turn) id mk f m xs acc hl h
  rwa [List.map_id] at this
theorem pow_le {s j k m : Nat} (hj : j ≤ k) (h : s ^ k ≤ m) (hm : 1 ≤ m) : s ^ j ≤ m := by
  rcases Nat.eq_zero_or_pos s with rfl | h0
  · rcases Nat.eq_zero_or_pos j with rfl | h1
    · simpa using hm
    · rw [Nat.zero_pow h1]
      exact Nat.zero_le _
  · exact Nat.le_trans (Nat.pow_le_pow_right h0 hj) h
theorem for_ix {turn : D → Env → M (Env × Fl)} (mk : Nat → Env) (xs : List D) (h : ∀ j x, xs[j]? = some x → turn x (mk j) = .ok (mk (j + 1), .nx)) : forL turn xs (mk 0) = .ok (mk xs.length, .nx) := by
  have key : ∀ (ys : List D) (j : Nat), (∀ i x, ys[i]? = some x → turn x (mk (j + i)) = .ok (mk (j + i + 1), .nx)) → forL turn ys (mk j) = .ok (mk (j + ys.length), .nx) := by
    intro ys
    induction ys with
    | nil => intro j _; rfl
    | cons y ys ih =>
      intro j h
      have h0 := h 0 y rfl
      rw [Nat.add_zero] at h0
      rw [forL, h0, ok_bind]
      have := ih (j + 1) fun i x hx => by
        have := h (i + 1) x (by simpa using hx)
        rw [show j + (i + 1) = j + 1 + i by omega] at this
        exact this
      rw [show j + (y :: ys).length = j + 1 + ys.length by simp; omega]
      exact this
  have := key xs 0 fun i x hx => by
    rw [Nat.zero_add]
    exact h i x hx
  rwa [Nat.zero_add] at this
theorem rngm_get {k j : Nat} {x : D} (h : ((List.range k).map fun i : Nat => D.int (i : Nat))[j]? = some x) : j < k ∧ x = .int (j : Nat) := by
  rw [List.getElem?_map] at h
  by_cases hj : j < k
  · rw [List.getElem?_range hj] at h
    simp at h
    exact ⟨hj, h.symm⟩
  · rw [List.getElem?_eq_none_iff.mpr (by simp; omega)] at h
    cases h
def rowF (s : Nat) (r : D) : List D := match r with
  | .tup xs => (List.range s).map fun t => D.tup (xs ++ [D.int (t : Nat)])
  | _ => []
theorem rows_step' (s k : Nat) : tupRows s (k + 1) = (tupRows s k).flatMap (rowF s) := rows_step s k
theorem tupRows_len (s k : Nat) : (tupRows s k).length = s ^ k := by simp [tupRows, rows_len]
theorem tupRows_get {s k : Nat} {r : D} (h : r ∈ tupRows s k) : ∃ xs, r = .tup xs ∧ xs ∈ rowsD s k := by
  obtain ⟨xs, hx, rfl⟩ := List.mem_map.mp h
  exact ⟨xs, rfl, hx⟩
theorem run24 {s k : Nat} (hs : s ≤ 400) (hk : k ≤ 12) (hp : s ^ k ≤ 400) : run TT (n + 1) 24 th [.int k, .int s] = .ok (.lst (tupRows s k)) := by
  rw [run_def (show TT 24 = some f24 from rfl) _ _ rfl]
  simp only [f24, enter]
  simp [ev_var, walk_rng k (by omega)]
  rw [show ([D.tup []] : List D) = tupRows s 0 from rfl, for_ix (fun j => [some (D.int k, false), some (D.int s, false), some (D.lst (tupRows s j), false), none, none, none, none])]
  · simp [ev_var]
  · intro j x hx
    obtain ⟨hj, rfl⟩ := rngm_get hx
    have hl : (tupRows s (j + 1)).length ≤ 400 := by rw [tupRows_len]; exact pow_le (by omega) hp (by decide)
    simp [ev_var]
    rw [for_rowsD (fun acc => [some (D.int k, false), some (D.int s, false), some (D.lst (tupRows s j), false), some (D.int j, false), some (D.lst acc, false), none, none]) (rowF s) 400 (tupRows s j) []]
    · simp [ev_var, ← rows_step']
    · rw [List.nil_append, ← rows_step']
      exact hl
    · intro r hr acc ha
      obtain ⟨xs, rfl, hxs⟩ := tupRows_get hr
      obtain ⟨l1, l2⟩ := rows_in hxs
      simp [ev_var, walk_rng s (by omega)]
      rw [comp_map (fun t : Nat => D.int (t : Nat)) (fun t : Nat => D.tup (xs ++ [D.int (t : Nat)])) (List.range s)]
      · have e : opV .add (.lst acc) (.lst ((List.range s).map fun t : Nat => D.tup (xs ++ [D.int (t : Nat)]))) = .ok (.lst (acc ++ rowF s (.tup xs))) := op_ladd _ _ (by
          have ha' : (acc ++ rowF s (.tup xs)).length ≤ 400 := ha
          rw [List.length_append] at ha'
          exact Nat.le_trans ha' (by unfold LIM; omega))
        simp [e]
      · intro t ht
        have e : opV .add (.tup xs) (.tup [.int (t : Nat)]) = .ok (.tup (xs ++ [.int (t : Nat)])) := op_tadd _ _ (by simp [l1]; unfold LIM; omega)
        simp [e]
def rngs (s : Nat) : List D := (List.range s).map fun t => D.int (t : Nat)
theorem run12 {s k : Nat} (hk : k ≤ 12) (hp : s ^ k ≤ 400) : run TT (n + 1) 12 th [.lst (rngs s), .int k] = .ok (.lst (tupRows s k)) := by
  rw [run_def (show TT 12 = some f12 from rfl) _ _ rfl]
  simp only [f12, enter]
  simp [ev_var, walk_rng k (by omega)]
  rw [show ([D.tup []] : List D) = tupRows s 0 from rfl, for_ix (fun j => [some (D.lst (rngs s), false), some (D.int k, false), some (D.lst (tupRows s j), false), none, none, none, none])]
  · simp [ev_var]
  · intro j x hx
    obtain ⟨hj, rfl⟩ := rngm_get hx
    have hl : (tupRows s (j + 1)).length ≤ 400 := by rw [tupRows_len]; exact pow_le (by omega) hp (by decide)
    simp [ev_var]
    rw [for_rowsD (fun acc => [some (D.lst (rngs s), false), some (D.int k, false), some (D.lst (tupRows s j), false), some (D.int j, false), some (D.lst acc, true), none, none]) (rowF s) 400 (tupRows s j) []]
    · simp [ev_bor, ← rows_step']
    · rw [List.nil_append, ← rows_step']
      exact hl
    · intro r hr acc ha
      obtain ⟨xs, rfl, hxs⟩ := tupRows_get hr
      obtain ⟨l1, l2⟩ := rows_in hxs
      simp [ev_var, ex_ext]
      have ha' : acc.length + (rowF s (.tup xs)).length ≤ 400 := by rw [← List.length_append]; exact ha
      rw [show rngs s = (List.range s).map fun t : Nat => D.int (t : Nat) from rfl, comp_map (fun t : Nat => D.int (t : Nat)) (fun t : Nat => D.tup (xs ++ [D.int (t : Nat)])) (List.range s)]
      · have e : ((List.range s).map fun t : Nat => D.tup (xs ++ [D.int (t : Nat)])) = rowF s (.tup xs) := rfl
        rw [e]
        have hL : acc.length + (rowF s (.tup xs)).length ≤ LIM := Nat.le_trans ha' (by unfold LIM; omega)
        simp [hL]
      · intro t ht
        have e : opV .add (.tup xs) (.tup [.int (t : Nat)]) = .ok (.tup (xs ++ [.int (t : Nat)])) := op_tadd _ _ (by simp [l1]; unfold LIM; omega)
        simp [e]
/-- the fillings of a shape -/
def shapeF (s : Nat) (q : Nat × Nat) : List D := (tupRows s q.1).map fun r => .tup [.int (q.2 : Nat), r]
def fillD (ps : List Nat) (s : Nat) : List D := ps.zipIdx.flatMap (shapeF s)
theorem zip_map (ps : List Nat) : (ps.map nD).zipIdx.map (fun p => D.tup [.int (p.2 : Nat), p.1]) = ps.zipIdx.map fun p => D.tup [.int (p.2 : Nat), nD p.1] := by
  rw [List.zipIdx_map, List.map_map]
  rfl
theorem fill_len : ∀ (ps : List Nat) (s i : Nat), ((ps.zipIdx i).flatMap (shapeF s)).length = fillN ps s
  | [], s, i => rfl
  | p :: ps, s, i => by
    rw [List.zipIdx_cons, List.flatMap_cons, List.length_append, fill_len ps s (i + 1)]
    simp [shapeF, tupRows_len, fillN]
theorem fill_term {ps : List Nat} {s : Nat} : ∀ {p : Nat}, p ∈ ps → s ^ p ≤ fillN ps s := by
  intro p h
  induction ps with
  | nil => cases h
  | cons q ps ih =>
    rcases List.mem_cons.mp h with rfl | h
    · simp [fillN]
    · have := ih h
      simp only [fillN, List.map_cons, List.sum_cons] at this ⊢
      omega
theorem pr_lr {s : Nat} (h : s ≤ 1000000) : primV .listRange [.int (s : Nat)] = .ok (.lst (rngs s)) := by
  have e : primV .listRange [.int (s : Nat)] = .ok (.lst (rng 0 (s : Nat))) := if_pos ⟨by unfold LIM; omega, by omega⟩
  rw [e, rng_map]
  rfl
theorem pr_tr {s : Nat} (h : s ≤ 1000000) : primV .tupleRange [.int (s : Nat)] = .ok (.tup (rngs s)) := by
  have e : primV .tupleRange [.int (s : Nat)] = .ok (.tup (rng 0 (s : Nat))) := if_pos ⟨by unfold LIM; omega, by omega⟩
  rw [e, rng_map]
  rfl
theorem idx_hol {ps : List Nat} {i p : Nat} (h : ps[i]? = some p) : idxV (.tup (ps.map nD)) (.int (i : Nat)) = .ok (nD p) := by
  show (match atD (ps.map nD) (i : Int) with | some d => M.ok d | none => .stuck) = _
  unfold atD
  rw [if_pos (by omega), Int.toNat_natCast, List.getElem?_map, h]
  rfl
theorem idx_tup {xs : List D} {i : Nat} {d : D} (h : xs[i]? = some d) : idxV (.tup xs) (.int (i : Nat)) = .ok d := by
  show (match atD xs (i : Int) with | some d => M.ok d | none => .stuck) = _
  unfold atD
  rw [if_pos (by omega), Int.toNat_natCast, h]
theorem idx_lst {xs : List D} {i : Nat} {d : D} (h : xs[i]? = some d) : idxV (.lst xs) (.int (i : Nat)) = .ok d := by
  show (match atD xs (i : Int) with | some d => M.ok d | none => .stuck) = _
  unfold atD
  rw [if_pos (by omega), Int.toNat_natCast, h]
def ownD (i p : Nat) : D := .tup [.int (i : Nat), .tup (rngs p)]
/-- rows of things -/
def things (ts : List D) : Prop := ∀ t ∈ ts, isFrom t 0 MT = true
/-- fillings by numbers -/
def fillI (i : Nat) (ts : List Nat) : D := .tup [.int (i : Nat), .tup (ts.map nD)]
theorem things_nat {ts : List Nat} (h : ∀ t ∈ ts, t ≤ 10 ^ 60) : things (ts.map nD) := fun t ht => by
  obtain ⟨j, hj, rfl⟩ := List.mem_map.mp ht
  have := h j hj
  exact from_int (by omega) (by unfold MT; omega)
theorem isFill_of {ps : List Nat} {i p : Nat} {ts : List D} (h : ps[i]? = some p) (hl : ts.length = p) (ht : things ts) : isFill (ps.map nD) (.tup [.int (i : Nat), .tup ts]) = true := by
  have hi := (List.getElem?_eq_some_iff.mp h).1
  simp only [isFill, List.length_map, Int.toNat_natCast, List.getElem?_map, h, Bool.and_eq_true, List.all_eq_true]
  refine ⟨⟨from_int (by omega) (by omega), ?_⟩, ht⟩
  show decide ((ts.length : Int) = (p : Nat)) = true
  simp [hl]
theorem fit_things {ts : List D} (h : things ts) : D.fits 3 ts = true := fits_all.mpr fun t ht => by
  obtain ⟨i, rfl, _⟩ := isFrom_int (h t ht)
  rfl
/-- what may be told as a text -/
structure Rok (d : D) : Prop where
  f : D.fit 60 d = true
  l : D.low d = true
  w : D.wid d ≤ 16000000
theorem dsame_rfl : ∀ d : D, D.same d d = true := by
  intro d
  have key : ∀ k : Nat, ∀ d : D, sizeOf d ≤ k → D.same d d = true := by
    intro k
    induction k with
    | zero => intro d h; cases d <;> simp at h
    | succ k ih =>
      have rows : ∀ xs : List D, sizeOf xs ≤ k → D.sames xs xs = true := by
        intro xs
        induction xs with
        | nil => intro _; rfl
        | cons x xs ihx =>
          intro h
          simp at h
          simp only [D.sames, Bool.and_eq_true]
          exact ⟨ih x (by omega), ihx (by omega)⟩
      intro d h
      cases d with
      | rep d => simp at h; simp only [D.same]; exact ih d (by omega)
      | tup xs => simp at h; simp only [D.same]; exact rows xs (by omega)
      | lst xs => simp at h; simp only [D.same]; exact rows xs (by omega)
      | exc c d => simp at h; simp only [D.same, Bool.and_eq_true]; exact ⟨by simp, ih d (by omega)⟩
      | _ => simp [D.same]
  exact key _ d (Nat.le_refl _)
theorem run27 {d : D} (h : Rok d) : run TT (n + 1) 27 th [d, d] = .ok (.bl true) := by
  rw [run_def (show TT 27 = some f27 from rfl) _ _ rfl]
  have e : primV .repr [d] = .ok (.rep d) := if_pos (by simp [h.f, h.l, h.w])
  have e2 : cmpV .eq (.rep d) (.rep d) = .ok (.bl true) := if_pos (dsame_rfl d)
  simp [f27, enter, ev_var, e, e2]
/-- one of some -/
theorem wp21 {xs : List D} {Q : D → Prop} {E : Nat → D → Prop} (h0 : 0 < xs.length) (hl : xs.length ≤ 1000000) (h : ∀ x ∈ xs, Q x) (d : D) (hd : d = .tup xs ∨ d = .lst xs) : W (run TT (n + 1) 21 th [.st, d]) Q E := by
  rw [run_def (show TT 21 = some f21 from rfl) _ _ rfl]
  have e : primV .len [d] = .ok (.int (xs.length : Nat)) := by rcases hd with rfl | rfl <;> rfl
  simp only [f21, enter]
  simp [ev_var, e]
  refine wp_drawD (by omega) (by omega) fun v hv => ?_
  have hv' : v < xs.length := by omega
  have e2 : idxV d (.int (v : Nat)) = .ok xs[v] := by rcases hd with rfl | rfl; exact idx_tup (List.getElem?_eq_getElem hv'); exact idx_lst (List.getElem?_eq_getElem hv')
  simp [e2]
  exact h _ (List.getElem_mem hv')
theorem nats_of {b : Nat} : ∀ {ys : List D}, (∀ y ∈ ys, ∃ p : Nat, y = nD p ∧ p ≤ b) → ∃ ps : List Nat, ys = ps.map nD ∧ ps.length = ys.length ∧ ∀ p ∈ ps, p ≤ b
  | [], _ => ⟨[], rfl, rfl, fun _ h => nomatch h⟩
  | y :: ys, h => by
    obtain ⟨p, rfl, hp⟩ := h y (List.mem_cons_self ..)
    obtain ⟨ps, rfl, hl, hb⟩ := nats_of fun z hz => h z (List.mem_cons_of_mem _ hz)
    exact ⟨p :: ps, rfl, by simp, fun q hq => by
      rcases List.mem_cons.mp hq with rfl | hq
      · exact hp
      · exact hb q hq⟩
theorem wp22 {a b : Nat} (ha : a ≤ 1000) (hb : b ≤ 1000) (h : ∀ ps : List Nat, ps.length ≤ a → (∀ p ∈ ps, p ≤ b) → Q (hol ps)) : W (run TT (n + 1) 22 th [.st, .int a, .int b]) Q E := by
  rw [run_def (show TT 22 = some f22 from rfl) _ _ rfl]
  simp only [f22, enter]
  simp [ev_var]
  refine wp_drawD (by omega) (by omega) fun v hv => ?_
  simp [walk_rng v (by omega)]
  refine comp_W (P := fun y => ∃ p : Nat, y = nD p ∧ p ≤ b) _ (fun x hx => ?_) fun ys hl hy => ?_
  · rw [Wn, Wb]
    refine wp_drawD (by omega) (by omega) fun u hu => ?_
    rw [W_ok]
    exact ⟨_, rfl, u, rfl, by omega⟩
  · obtain ⟨ps, rfl, l2, hp⟩ := nats_of hy
    exact h ps (by simp at hl; omega) hp
theorem wp23 {a b : Nat} (ha : 0 < a ∧ a ≤ 1000) (hb : 0 < b ∧ b ≤ 1000) (h : ∀ ps : List Nat, 0 < ps.length → ps.length ≤ a → (∀ p ∈ ps, p ≤ b) → Q (hol ps)) : W (run TT (n + 1) 23 th [.st, .int a, .int b]) Q E := by
  rw [run_def (show TT 23 = some f23 from rfl) _ _ rfl]
  simp only [f23, enter]
  simp [ev_var]
  refine wp_drawD (by omega) (by omega) fun v hv => ?_
  simp [walk_rng v (by omega)]
  refine comp_W (P := fun y => ∃ p : Nat, y = nD p ∧ p ≤ b) _ (fun x hx => ?_) fun ys hl hy => ?_
  · rw [Wn, Wb]
    refine wp_drawD (by omega) (by omega) fun u hu => ?_
    rw [W_ok]
    exact ⟨_, rfl, u, rfl, by omega⟩
  · obtain ⟨ps, rfl, l2, hp⟩ := nats_of hy
    refine wp_drawD (by omega) (by omega) fun u hu => ?_
    simp at hl
    have e : opV .add (.lst (ps.map nD)) (.lst [.int (1 + (u : Int))]) = .ok (.lst ((ps ++ [1 + u]).map nD)) := by
      rw [op_ladd _ _ (by simp; unfold LIM; omega)]
      simp
    simp [e]
    have := h (ps ++ [1 + u]) (by simp) (by simp; omega) fun p hp2 => by
      rcases List.mem_append.mp hp2 with z | z
      · exact hp p z
      · rw [List.mem_singleton.mp z]; omega
    simpa [hol] using this
/-- a loop that leaves at the first item that is not so -/
theorem for_all_rt {turn : D → Env → M (Env × Fl)} {k : Env → M (Env × Fl)} {env e2 : Env} {d d2 : D} (p : D → Bool) (e' : D → Env) : ∀ (xs : List D), (∀ x ∈ xs, turn x env = if p x then .ok (env, .nx) else .ok (e' x, .rt d)) → k env = .ok (e2, .rt d2) →
    leave (thenS (forL turn xs env) k) = .ok (if xs.all p then d2 else d)
  | [], _, hk => by simp [forL, hk]
  | x :: xs, h, hk => by
    rw [forL, h x (List.mem_cons_self ..)]
    cases hp : p x with
    | false => simp [hp]
    | true =>
      simp [hp]
      have := for_all_rt p e' xs (fun y hy => h y (List.mem_cons_of_mem _ hy)) hk
      simpa using this
theorem MT_pos : (0 : Int) < MT := by decide +kernel
theorem MT_le : MT ≤ 10 ^ 61 := by decide +kernel
theorem pow60 : opV .pow (.int 10) (.int 60) = .ok (.int MT) := rfl
theorem things_app {ts us : List D} (h : things ts) (g : things us) : things (ts ++ us) := fun t ht => (List.mem_append.mp ht).elim (h t) (g t)
/-- a filling as it is or with one part changed -/
structure Bent (v : D) : Prop where
  f : D.fit 4 v = true
  l : D.low v = true
  w : D.wid v ≤ 100000
theorem things_fit {ts : List D} {k : Nat} (h : things ts) : D.fits k ts = true := fits_all.mpr fun t ht => by
  obtain ⟨i, rfl, _⟩ := isFrom_int (h t ht)
  cases k <;> rfl
theorem things_low : ∀ {ts : List D}, things ts → D.lows ts = true
  | [], _ => rfl
  | t :: ts, h => by
    obtain ⟨i, rfl, h0, h1⟩ := isFrom_int (h t (List.mem_cons_self ..))
    simp only [D.lows, D.low, Bool.and_eq_true, decide_eq_true_eq]
    refine ⟨?_, things_low fun x hx => h x (List.mem_cons_of_mem _ hx)⟩
    have : i.natAbs ≤ 10 ^ 60 := by unfold MT at h1; omega
    exact Nat.lt_of_le_of_lt this (Nat.pow_lt_pow_right (by decide) (by decide))
theorem things_wid : ∀ {ts : List D}, things ts → D.wids ts = 573 * ts.length
  | [], _ => rfl
  | t :: ts, h => by
    obtain ⟨i, rfl, h0, h1⟩ := isFrom_int (h t (List.mem_cons_self ..))
    simp only [D.wids, D.wid, List.length_cons, things_wid fun x hx => h x (List.mem_cons_of_mem _ hx)]
    omega
theorem low_small {i : Int} (h : i.natAbs ≤ 10 ^ 61) : D.low (.int i) = true := by
  simp only [D.low, decide_eq_true_eq]
  exact Nat.lt_of_le_of_lt h (Nat.pow_lt_pow_right (by decide) (by decide))
/-- small items -/
def Itm (t : D) : Prop := D.fit 2 t = true ∧ D.low t = true ∧ D.wid t ≤ 600
theorem itm_thing {t : D} (h : isFrom t 0 MT = true) : Itm t := by
  obtain ⟨i, rfl, h0, h1⟩ := isFrom_int h
  exact ⟨rfl, low_small (by unfold MT at h1; omega), by simp [D.wid]⟩
theorem itms_things {ts : List D} (h : things ts) : ∀ t ∈ ts, Itm t := fun t ht => itm_thing (h t ht)
theorem itm_rows : ∀ {ts : List D}, (∀ t ∈ ts, Itm t) → D.fits 2 ts = true ∧ D.lows ts = true ∧ D.wids ts ≤ 602 * ts.length
  | [], _ => ⟨rfl, rfl, Nat.le_refl _⟩
  | t :: ts, h => by
    obtain ⟨a1, a2, a3⟩ := h t (List.mem_cons_self ..)
    obtain ⟨b1, b2, b3⟩ := itm_rows fun x hx => h x (List.mem_cons_of_mem _ hx)
    simp only [D.fits, D.lows, D.wids, Bool.and_eq_true, List.length_cons]
    exact ⟨⟨a1, b1⟩, ⟨a2, b2⟩, by omega⟩
theorem fits_up {k m : Nat} {ts : List D} (h : k ≤ m) (f : D.fits k ts = true) : D.fits m ts = true := fits_all.mpr fun d hd => fit_up k m d h (fits_all.mp f d hd)
theorem bent_pair {i : Int} {ts : List D} (hi : i.natAbs ≤ 10 ^ 61) (h : ∀ t ∈ ts, Itm t) (hl : ts.length ≤ 30) : Bent (.tup [.int i, .tup ts]) := by
  obtain ⟨a, b, c⟩ := itm_rows h
  refine ⟨?_, ?_, ?_⟩
  · simp only [D.fit, D.fits, fits_up (show 2 ≤ 2 by omega) a, Bool.and_eq_true, and_true]
  · simp only [D.low, D.lows, b, Bool.and_eq_true, and_true]; exact low_small hi
  · simp only [D.wid, D.wids]
    omega
theorem bent_lst {i : Int} {ts : List D} (hi : i.natAbs ≤ 10 ^ 61) (h : ∀ t ∈ ts, Itm t) (hl : ts.length ≤ 30) : Bent (.lst [.int i, .tup ts]) := by
  obtain ⟨a, b, c⟩ := itm_rows h
  refine ⟨?_, ?_, ?_⟩
  · simp only [D.fit, D.fits, a, Bool.and_eq_true, and_true]
  · simp only [D.low, D.lows, b, Bool.and_eq_true, and_true]; exact low_small hi
  · simp only [D.wid, D.wids]
    omega
theorem bent_in {i : Int} {ts : List D} (hi : i.natAbs ≤ 10 ^ 61) (h : ∀ t ∈ ts, Itm t) (hl : ts.length ≤ 30) : Bent (.tup [.int i, .lst ts]) := by
  obtain ⟨a, b, c⟩ := itm_rows h
  refine ⟨?_, ?_, ?_⟩
  · simp only [D.fit, D.fits, a, Bool.and_eq_true, and_true]
  · simp only [D.low, D.lows, b, Bool.and_eq_true, and_true]; exact low_small hi
  · simp only [D.wid, D.wids]
    omega
theorem bent_three {i : Int} {ts : List D} (hi : i.natAbs ≤ 10 ^ 61) (h : ∀ t ∈ ts, Itm t) (hl : ts.length ≤ 30) : Bent (.tup [.int i, .tup ts, .tup ts]) := by
  obtain ⟨a, b, c⟩ := itm_rows h
  refine ⟨?_, ?_, ?_⟩
  · simp only [D.fit, D.fits, a, Bool.and_eq_true, and_true]
  · simp only [D.low, D.lows, b, Bool.and_eq_true, and_true]; exact low_small hi
  · simp only [D.wid, D.wids]
    omega
theorem cut_mem {xs : List D} {lo hi : Option Int} {t : D} (h : t ∈ cut xs lo hi) : t ∈ xs := List.mem_of_mem_drop (List.mem_of_mem_take h)
theorem cut_len {xs : List D} {lo hi : Option Int} : (cut xs lo hi).length ≤ xs.length := by
  unfold cut
  rw [List.length_take, List.length_drop]
  omega
theorem holok {ps : List Nat} (h1 : ps.length ≤ 60) (h2 : ∀ p ∈ ps, p ≤ 12) : HolOk ps := ⟨h1, h2⟩
theorem bent_rok {v : D} {x : PySem.Str} (h : Bent v) (hx : D.fit 4 (.str x) = true) (hw : D.wid (.str x) ≤ 1000) : Rok (.tup [.str x, v]) ∧ Rok (.tup [.str x, v, .bl true]) := by
  have f1 := fit_up 4 59 v (by omega) h.f
  have f2 := fit_up 4 59 (.str x) (by omega) hx
  refine ⟨⟨?_, ?_, ?_⟩, ⟨?_, ?_, ?_⟩⟩
  · simp only [D.fit, D.fits, f1, Bool.and_eq_true, and_true]; exact f2
  · simp only [D.low, D.lows, h.l, Bool.and_eq_true, and_true]
  · simp only [D.wids, D.wid] at hw ⊢
    have := h.w
    omega
  · simp only [D.fit, D.fits, f1, Bool.and_eq_true, and_true]; exact f2
  · simp only [D.low, D.lows, h.l, Bool.and_eq_true, and_true]
  · simp only [D.wids, D.wid] at hw ⊢
    have := h.w
    omega
theorem fit5 {v : D} (h : Bent v) : D.fit 5 v = true := fit_up 4 5 v (by omega) h.f
theorem fill_in {ps : List Nat} {s : Nat} {d : D} (h : d ∈ fillD ps s) : ∃ i p r, ps[i]? = some p ∧ r ∈ rowsD s p ∧ d = .tup [.int (i : Nat), .tup r] := by
  simp only [fillD, List.mem_flatMap, shapeF, tupRows, List.map_map, List.mem_map, Function.comp] at h
  obtain ⟨⟨p, i⟩, hp, r, hr, rfl⟩ := h
  have hz := List.mem_zipIdx hp
  refine ⟨i, p, r, ?_, hr, rfl⟩
  have hi : i < ps.length := by omega
  rw [List.getElem?_eq_getElem hi]
  congr 1
  have := hz.2.2
  simpa using this.symm
theorem rows_things {s k : Nat} {r : List D} (h : r ∈ rowsD s k) (hs : s ≤ 1000000) : things r := fun t ht => by
  obtain ⟨j, rfl, hj⟩ := (rows_in h).2 t ht
  exact from_int (by omega) (by unfold MT; omega)
/-- fillings, as they are told -/
def Fil (x : D) : Prop := D.fit 5 x = true ∧ D.low x = true ∧ D.wid x ≤ 8000
theorem fil_of {i : Nat} {ts : List D} (hi : i ≤ 100) (ht : things ts) (hl : ts.length ≤ 12) : Fil (.tup [.int (i : Nat), .tup ts]) := by
  refine ⟨?_, ?_, ?_⟩
  · simp only [D.fit, D.fits, things_fit ht, Bool.and_eq_true, and_true]
  · simp only [D.low, D.lows, things_low ht, Bool.and_eq_true, and_true]
    exact low_small (by omega)
  · simp only [D.wid, D.wids, things_wid ht]
    omega
theorem fil_rows : ∀ {xs : List D}, (∀ x ∈ xs, Fil x) → D.fits 5 xs = true ∧ D.lows xs = true ∧ D.wids xs ≤ 8002 * xs.length
  | [], _ => ⟨rfl, rfl, Nat.le_refl _⟩
  | t :: ts, h => by
    obtain ⟨a1, a2, a3⟩ := h t (List.mem_cons_self ..)
    obtain ⟨b1, b2, b3⟩ := fil_rows fun x hx => h x (List.mem_cons_of_mem _ hx)
    simp only [D.fits, D.lows, D.wids, Bool.and_eq_true, List.length_cons]
    exact ⟨⟨a1, b1⟩, ⟨a2, b2⟩, by omega⟩
theorem rok_rows {xs : List D} (h : ∀ x ∈ xs, Fil x) (hl : xs.length ≤ 400) : Rok (.tup xs) ∧ Rok (.lst xs) := by
  obtain ⟨a, b, c⟩ := fil_rows h
  have a' := fits_up (show 5 ≤ 59 by omega) a
  refine ⟨⟨a', b, ?_⟩, ⟨a', b, ?_⟩⟩ <;> · simp only [D.wid]; omega
theorem fill_fil {ps : List Nat} {s : Nat} {d : D} (ho : HolOk ps) (hs : s ≤ 400) (h : d ∈ fillD ps s) : Fil d := by
  obtain ⟨i, p, r, hi, hr, rfl⟩ := fill_in h
  have hl := (List.getElem?_eq_some_iff.mp hi).1
  have hp := ho.p p (List.mem_of_getElem? hi)
  exact fil_of (by have := ho.l; omega) (rows_things hr (by omega)) (by rw [(rows_in hr).1]; exact hp)
theorem map_getD (r : List D) : ((List.range r.length).map fun t => r.getD t .non) = r := by
  apply List.ext_getElem
  · simp
  · intro i h1 h2
    simp [List.getD_eq_getElem?_getD, List.getElem?_eq_getElem h2]
theorem sum_le {ps : List Nat} {s : Nat} (hl : ps.length ≤ 4) (hp : ∀ p ∈ ps, p ≤ 3) (hs : s ≤ 4) : fillN ps s ≤ 400 := by
  have key : ∀ (ps : List Nat), (∀ p ∈ ps, p ≤ 3) → fillN ps s ≤ 64 * ps.length := by
    intro ps
    induction ps with
    | nil => intro _; exact Nat.le_refl _
    | cons p ps ih =>
      intro h
      have h1 := ih fun q hq => h q (List.mem_cons_of_mem _ hq)
      have h2 : s ^ p ≤ 4 ^ 3 := Nat.le_trans (Nat.pow_le_pow_left hs p) (Nat.pow_le_pow_right (by decide) (h p (List.mem_cons_self ..)))
      simp only [fillN, List.map_cons, List.sum_cons, List.length_cons] at h1 ⊢
      omega
  have := key ps hp
  omega
theorem ne_nil {xs : List D} (h : D.fit 60 (.lst xs) = true) : cmpV .ne (.lst xs) (.lst []) = .ok (.bl (!xs.isEmpty)) := by
  have e : cmpV .ne (.lst xs) (.lst []) = .ok (.bl (!D.eqv (.lst xs) (.lst []))) := if_pos (by rw [h]; rfl)
  rw [e]
  cases xs <;> simp [D.eqv, D.eqvs]
/-- a program's rows: the goal's shape, and places -/
abbrev Tb := List (Nat × List Nat)
def rowT (r : Nat × List Nat) : D := .tup [.int (r.1 : Nat), .tup (r.2.map nD)]
def tabD (t : Tb) : D := .tup (t.map rowT)
structure TabOk (ps gs : List Nat) (t : Tb) : Prop where
  l : t.length = ps.length
  r : ∀ (i p : Nat), ps[i]? = some p → ∃ (g : Nat) (w : List Nat), t[i]? = some (g, w) ∧ gs[g]? = some w.length ∧ ∀ x ∈ w, x < p
/-- what a row picks -/
def pickL (w : List Nat) (xs : List D) : List D := w.map fun j => xs.getD j .non
def pickN (w ys : List Nat) : List Nat := w.map fun j => ys.getD j 0
theorem pick_nat {w ys : List Nat} (h : ∀ x ∈ w, x < ys.length) : pickL w (ys.map nD) = (pickN w ys).map nD := by
  simp only [pickL, pickN, List.map_map]
  refine List.map_congr_left fun x hx => ?_
  simp [List.getD_eq_getElem?_getD, List.getElem?_eq_getElem (h x hx)]
theorem get_some {xs : List D} {j : Nat} (h : j < xs.length) : xs[j]? = some (xs.getD j .non) := by
  rw [List.getD_eq_getElem?_getD, List.getElem?_eq_getElem h]
  rfl
/-- one program behind another -/
def behT (a b : Tb) : Tb := a.map fun r => ((b.getD r.1 (0, [])).1, pickN (b.getD r.1 (0, [])).2 r.2)
theorem getD_of {α : Type} {xs : List α} {i : Nat} {a d : α} (h : xs[i]? = some a) : xs.getD i d = a := by rw [List.getD_eq_getElem?_getD, h]; rfl
theorem behT_get {a b : Tb} {i g h : Nat} {w v : List Nat} (e1 : a[i]? = some (g, w)) (e2 : b[g]? = some (h, v)) : (behT a b)[i]? = some (h, pickN v w) := by
  simp only [behT, List.getElem?_map, e1, Option.map_some, getD_of e2]
theorem row_in {ps gs : List Nat} {t : Tb} (ok : TabOk ps gs t) {r : Nat × List Nat} (h : r ∈ t) : ∃ p, p ∈ ps ∧ gs[r.1]? = some r.2.length ∧ ∀ x ∈ r.2, x < p := by
  obtain ⟨i, hi, e⟩ := List.mem_iff_getElem.mp h
  have hl := ok.l
  have hi' : i < ps.length := by omega
  obtain ⟨g, w, h1, h2, h3⟩ := ok.r i _ (List.getElem?_eq_getElem hi')
  rw [List.getElem?_eq_getElem hi, e] at h1
  cases h1
  exact ⟨_, List.getElem_mem hi', h2, h3⟩
theorem tab_ok {ps gs hs : List Nat} {a b : Tb} (oa : TabOk ps gs a) (ob : TabOk gs hs b) : TabOk ps hs (behT a b) where
  l := by simp [behT, oa.l]
  r := fun i p hi => by
    obtain ⟨g, w, h1, h2, h3⟩ := oa.r i p hi
    obtain ⟨h, v, k1, k2, k3⟩ := ob.r g _ h2
    refine ⟨h, pickN v w, behT_get h1 k1, by simpa [pickN] using k2, fun x hx => ?_⟩
    obtain ⟨j, hj, rfl⟩ := List.mem_map.mp hx
    have hj' := k3 j hj
    rw [List.getD_eq_getElem?_getD, List.getElem?_eq_getElem hj']
    exact h3 _ (List.getElem_mem hj')
/-- the program that leaves all as it is -/
def stT (ps : List Nat) : Tb := ps.zipIdx.map fun p => (p.2, List.range p.1)
theorem stT_get {ps : List Nat} {i p : Nat} (h : ps[i]? = some p) : (stT ps)[i]? = some (i, List.range p) := by
  simp [stT, List.getElem?_map, List.getElem?_zipIdx, h]
theorem st_ok (ps : List Nat) : TabOk ps ps (stT ps) where
  l := by simp [stT]
  r := fun i p h => ⟨i, List.range p, stT_get h, by simpa using h, fun x hx => by simpa using hx⟩
theorem rngs_nat (s : Nat) : rngs s = (List.range s).map nD := rfl
/-- laws of programs -/
theorem tab_ext {ps gs : List Nat} {a b : Tb} (oa : TabOk ps gs a) (ob : TabOk ps gs b) (h : ∀ (i p : Nat), ps[i]? = some p → a[i]? = b[i]?) : a = b := by
  apply List.ext_getElem?
  intro i
  by_cases hi : i < ps.length
  · exact h i _ (List.getElem?_eq_getElem hi)
  · have h1 := oa.l
    have h2 := ob.l
    rw [List.getElem?_eq_none_iff.mpr (by omega), List.getElem?_eq_none_iff.mpr (by omega)]
theorem pick_range {v : List Nat} {m : Nat} (h : ∀ x ∈ v, x < m) : pickN v (List.range m) = v := by
  simp only [pickN]
  rw [List.map_congr_left (g := id) fun x hx => by simp [List.getD_eq_getElem?_getD, h x hx]]
  simp
theorem range_pick (w : List Nat) : pickN (List.range w.length) w = w := by
  apply List.ext_getElem
  · simp [pickN]
  · intro i h1 h2
    simp [pickN, List.getD_eq_getElem?_getD, List.getElem?_eq_getElem h2]
theorem pick_pick {u v w : List Nat} (h : ∀ x ∈ u, x < v.length) : pickN u (pickN v w) = pickN (pickN u v) w := by
  simp only [pickN, List.map_map]
  refine List.map_congr_left fun x hx => ?_
  simp [List.getD_eq_getElem?_getD, List.getElem?_eq_getElem (h x hx)]
theorem pickL_pick {u v : List Nat} {xs : List D} (h : ∀ x ∈ u, x < v.length) : pickL u (pickL v xs) = pickL (pickN u v) xs := by
  simp only [pickN, pickL, List.map_map]
  refine List.map_congr_left fun x hx => ?_
  simp [List.getD_eq_getElem?_getD, List.getElem?_eq_getElem (h x hx)]
theorem beh_assoc {ps gs hs ks : List Nat} {a b c : Tb} (oa : TabOk ps gs a) (ob : TabOk gs hs b) (oc : TabOk hs ks c) : behT (behT a b) c = behT a (behT b c) := by
  refine tab_ext (tab_ok (tab_ok oa ob) oc) (tab_ok oa (tab_ok ob oc)) fun i p hi => ?_
  obtain ⟨g, w, h1, h2, h3⟩ := oa.r i p hi
  obtain ⟨h, v, k1, k2, k3⟩ := ob.r g _ h2
  obtain ⟨k, u, l1, l2, l3⟩ := oc.r h _ k2
  rw [behT_get (behT_get h1 k1) l1, behT_get h1 (behT_get k1 l1), pick_pick l3]
theorem still_beh {ps gs : List Nat} {a : Tb} (oa : TabOk ps gs a) : behT (stT ps) a = a := by
  refine tab_ext (tab_ok (st_ok ps) oa) oa fun i p hi => ?_
  obtain ⟨g, w, h1, h2, h3⟩ := oa.r i p hi
  rw [behT_get (stT_get hi) h1, h1, pick_range h3]
theorem beh_still {ps gs : List Nat} {a : Tb} (oa : TabOk ps gs a) : behT a (stT gs) = a := by
  refine tab_ext (tab_ok oa (st_ok gs)) oa fun i p hi => ?_
  obtain ⟨g, w, h1, h2, h3⟩ := oa.r i p hi
  rw [behT_get h1 (stT_get h2), h1, range_pick]
/-- things named -/
def nameL (ns : List D) (js : List Nat) : List D := js.map fun j => ns.getD j .non
theorem hol_fit {ps : List Nat} {k : Nat} : D.fit (k + 1) (hol ps) = true := by
  simp only [hol, D.fit]
  refine fits_all.mpr fun d hd => ?_
  obtain ⟨p, _, rfl⟩ := List.mem_map.mp hd
  cases k <;> rfl
theorem hol_ne {ps : List Nat} : cmpV .ne (.tup (ps.map nD)) (.tup []) = .ok (.bl (!ps.isEmpty)) := by
  have e : cmpV .ne (.tup (ps.map nD)) (.tup []) = .ok (.bl (!D.eqv (.tup (ps.map nD)) (.tup []))) := if_pos (by rw [show D.fit 60 (.tup (ps.map nD)) = true from hol_fit]; rfl)
  rw [e]
  cases ps <;> simp [D.eqv, D.eqvs]
theorem hol_eq {ps : List Nat} : cmpV .eq (.tup (ps.map nD)) (.tup []) = .ok (.bl ps.isEmpty) := by
  have e : cmpV .eq (.tup (ps.map nD)) (.tup []) = .ok (.bl (D.eqv (.tup (ps.map nD)) (.tup []))) := if_pos (by rw [show D.fit 60 (.tup (ps.map nD)) = true from hol_fit]; rfl)
  rw [e]
  cases ps <;> simp [D.eqv, D.eqvs]
theorem any_zero (ps : List Nat) : ((ps.map nD).any fun x => D.eqv x (.int 0)) = decide (0 ∈ ps) := by
  induction ps with
  | nil => rfl
  | cons p ps ih =>
    rw [List.map_cons, List.any_cons, ih, nD_def]
    show (decide ((p : Int) = 0) || _) = _
    cases p with
    | zero => simp
    | succ p => simp [show ¬ ((p : Int) + 1 = 0) by omega]
theorem hol_in {ps : List Nat} : cmpV .isin (.int 0) (.tup (ps.map nD)) = .ok (.bl (decide (0 ∈ ps))) := by
  have e : cmpV .isin (.int 0) (.tup (ps.map nD)) = .ok (.bl ((ps.map nD).any fun x => D.eqv x (.int 0))) := if_pos (by rw [show D.fit 60 (.tup (ps.map nD)) = true from hol_fit]; rfl)
  rw [e, any_zero]
theorem hol_nin {ps : List Nat} : cmpV .notin (.int 0) (.tup (ps.map nD)) = .ok (.bl (!decide (0 ∈ ps))) := by
  have e : cmpV .notin (.int 0) (.tup (ps.map nD)) = .ok (.bl (!(ps.map nD).any fun x => D.eqv x (.int 0))) := if_pos (by rw [show D.fit 60 (.tup (ps.map nD)) = true from hol_fit]; rfl)
  rw [e, any_zero]
/-- a goal that programs from ps may reach -/
structure GoalOk (ps gs : List Nat) : Prop where
  ne : ps ≠ [] → gs ≠ []
  z : 0 ∈ ps → 0 ∈ gs
theorem lst_eq_nil {xs : List D} (h : D.fit 60 (.lst xs) = true) : cmpV .eq (.lst xs) (.lst []) = .ok (.bl xs.isEmpty) := by
  have e : cmpV .eq (.lst xs) (.lst []) = .ok (.bl (D.eqv (.lst xs) (.lst []))) := if_pos (by rw [h]; rfl)
  rw [e]
  cases xs <;> simp [D.eqv, D.eqvs]
theorem wk_enum (xs : List D) : walkV .enum (.tup [.tup xs]) = .ok (xs.zipIdx.map fun p => .tup [.int p.2, p.1]) := rfl
/-- where a row may go -/
def goodG (gs : List Nat) (p : Nat) : List Nat := (gs.zipIdx.filter fun q => decide (0 < p) || decide (q.1 = 0)).map fun q => q.2
theorem good_in {gs : List Nat} {p g : Nat} (h : g ∈ goodG gs p) : ∃ q, gs[g]? = some q ∧ (0 < p ∨ q = 0) := by
  simp only [goodG, List.mem_map, List.mem_filter, Bool.or_eq_true, decide_eq_true_eq] at h
  obtain ⟨⟨q, i⟩, ⟨hm, hq⟩, rfl⟩ := h
  have hz := List.mem_zipIdx hm
  have hi : i < gs.length := by omega
  refine ⟨q, ?_, hq⟩
  rw [List.getElem?_eq_getElem hi]
  congr 1
  simpa using hz.2.2.symm
theorem good_ne {ps gs : List Nat} {p : Nat} (ok : GoalOk ps gs) (h : p ∈ ps) : goodG gs p ≠ [] := by
  have hg : gs ≠ [] := ok.ne fun e => by rw [e] at h; cases h
  have key : ∃ q ∈ gs, 0 < p ∨ q = 0 := by
    rcases Nat.eq_zero_or_pos p with rfl | hp
    · exact ⟨0, ok.z h, .inr rfl⟩
    · obtain ⟨g, hg⟩ := List.exists_mem_of_ne_nil gs hg
      exact ⟨g, hg, .inl hp⟩
  obtain ⟨q, hq, hc⟩ := key
  obtain ⟨i, hi, e⟩ := List.mem_iff_getElem.mp hq
  have : i ∈ goodG gs p := by
    simp only [goodG, List.mem_map, List.mem_filter, Bool.or_eq_true, decide_eq_true_eq]
    exact ⟨(q, i), ⟨List.mk_mem_zipIdx_iff_getElem?.mpr (by rw [List.getElem?_eq_getElem hi, e]), hc⟩, rfl⟩
  intro e2
  rw [e2] at this
  cases this
theorem nats_lt {b : Nat} : ∀ {ys : List D}, (∀ y ∈ ys, ∃ p : Nat, y = nD p ∧ p < b) → ∃ ps : List Nat, ys = ps.map nD ∧ ps.length = ys.length ∧ ∀ p ∈ ps, p < b
  | [], _ => ⟨[], rfl, rfl, fun _ h => nomatch h⟩
  | y :: ys, h => by
    obtain ⟨p, rfl, hp⟩ := h y (List.mem_cons_self ..)
    obtain ⟨ps, rfl, hl, hb⟩ := nats_lt fun z hz => h z (List.mem_cons_of_mem _ hz)
    exact ⟨p :: ps, rfl, by simp, fun q hq => by
      rcases List.mem_cons.mp hq with rfl | hq
      · exact hp
      · exact hb q hq⟩
theorem gd_fit {gs : List Nat} {p : Nat} : D.fit 60 (.lst ((goodG gs p).map nD)) = true := by
  simp only [D.fit]
  refine fits_all.mpr fun d hd => ?_
  obtain ⟨p, _, rfl⟩ := List.mem_map.mp hd
  rfl
theorem for_const {turn : D → Env → M (Env × Fl)} {env : Env} : ∀ (xs : List D), (∀ x ∈ xs, turn x env = .ok (env, .nx)) → forL turn xs env = .ok (env, .nx)
  | [], _ => rfl
  | x :: xs, h => by
    rw [forL, h x (List.mem_cons_self ..), ok_bind]
    exact for_const xs fun y hy => h y (List.mem_cons_of_mem _ hy)
theorem rok_fil {x : D} (h : Fil x) : Rok x := ⟨fit_up 5 60 x (by omega) h.1, h.2.1, by have := h.2.2; omega⟩
theorem name_things {ns : List D} {js : List Nat} (h : things ns) (hj : ∀ j ∈ js, j < ns.length) : things (nameL ns js) := fun t ht => by
  obtain ⟨j, hm, rfl⟩ := List.mem_map.mp ht
  rw [List.getD_eq_getElem?_getD, List.getElem?_eq_getElem (hj j hm)]
  exact h _ (List.getElem_mem (hj j hm))
theorem pick_name {w js : List Nat} {ns : List D} (h : ∀ x ∈ w, x < js.length) : pickL w (nameL ns js) = nameL ns (pickN w js) := by
  simp only [pickL, nameL, pickN, List.map_map]
  refine List.map_congr_left fun x hx => ?_
  simp [List.getD_eq_getElem?_getD, List.getElem?_eq_getElem (h x hx)]
theorem pickN_lt {w js : List Nat} {s : Nat} (h : ∀ x ∈ w, x < js.length) (hj : ∀ j ∈ js, j < s) : ∀ j ∈ pickN w js, j < s := fun j hm => by
  obtain ⟨x, hx, rfl⟩ := List.mem_map.mp hm
  rw [List.getD_eq_getElem?_getD, List.getElem?_eq_getElem (h x hx)]
  exact hj _ (List.getElem_mem (h x hx))
/-- tables, as they are told -/
def Mid (d : D) : Prop := D.fit 6 d = true ∧ D.low d = true ∧ D.wid d ≤ 600000
theorem row_fil {ps gs : List Nat} {t : Tb} (hp : HolOk ps) (hg : HolOk gs) (ok : TabOk ps gs t) {x : D} (h : x ∈ t.map rowT) : Fil x := by
  obtain ⟨r, hr, rfl⟩ := List.mem_map.mp h
  obtain ⟨p, h1, h2, h3⟩ := row_in ok hr
  have hp12 := hp.p p h1
  have hg12 := hg.p _ (List.mem_of_getElem? h2)
  have hgl := (List.getElem?_eq_some_iff.mp h2).1
  have hg60 := hg.l
  exact fil_of (by omega) (things_nat fun j hj => by have := h3 j hj; omega) (by simp; omega)
theorem tab_mid {ps gs : List Nat} {t : Tb} (hp : HolOk ps) (hg : HolOk gs) (ok : TabOk ps gs t) : Mid (tabD t) := by
  obtain ⟨a, b, c⟩ := fil_rows (xs := t.map rowT) fun x hx => row_fil hp hg ok hx
  have := ok.l
  have := hp.l
  refine ⟨a, b, ?_⟩
  simp only [tabD, D.wid]
  simp at c
  omega
theorem rok_mid {d : D} (h : Mid d) : Rok d := ⟨fit_up 6 60 d (by omega) h.1, h.2.1, by have := h.2.2; omega⟩
theorem rok_two {a b : D} (h : Mid a) (g : Mid b) : Rok (.lst [a, b]) := by
  refine ⟨?_, ?_, ?_⟩
  · simp only [D.fit, D.fits, fit_up 6 59 a (by omega) h.1, fit_up 6 59 b (by omega) g.1, Bool.and_true]
  · simp only [D.low, D.lows, h.2.1, g.2.1, Bool.and_true]
  · have := h.2.2
    have := g.2.2
    simp only [D.wid, D.wids]
    omega
theorem comp2_flat {α : Type} {turn : Nat → D → M (List D)} (g : α → D) (f : α → List D) (m : Nat) : ∀ (xs : List α) (k : Nat), k + (xs.flatMap f).length ≤ m → (∀ a ∈ xs, ∀ k, k + (f a).length ≤ m → turn k (g a) = .ok (f a)) → compL2 turn k (xs.map g) = .ok (xs.flatMap f)
  | [], _, _, _ => rfl
  | a :: xs, k, hl, h => by
    rw [List.flatMap_cons, List.length_append] at hl
    rw [List.map_cons, compL2, h a (List.mem_cons_self ..) k (by omega), ok_bind, comp2_flat g f m xs (k + (f a).length) (by omega) fun b hb => h b (List.mem_cons_of_mem _ hb)]
    simp
theorem ev_comp2 {F : Nat → M D → List D → M D} {env : Env} (own : List Nat) (w : Wk) (it : Cl.E) (t : Tg) (c : Cl.E) (own1 : List Nat) (w1 : Wk) (it1 : Cl.E) (t1 : Tg) (c1 elt : Cl.E) : evE F th (.comp2 own w it t c own1 w1 it1 t1 c1 elt) env = (evE F th it env).bind fun x => (walkV w x).bind fun xs =>
      (compL2 (fun k x => match asg t x (wipe env own) with
        | some env1 => M.nox ((evE F th c env1).bind fun b => match b with
          | .bl true => ((evE F th it1 env1).bind (walkV w1)).bind fun xs1 => if k + xs1.length ≤ LIM then
            compL (fun x1 => match asg t1 x1 (wipe env1 own1) with
              | some env2 => (evE F th c1 env2).bind fun b => (match b with
                | .bl true => (evE F th elt env2).bind fun y => .ok (some y)
                | .bl false => .ok none
                | _ => .stuck)
              | none => .stuck) xs1
            else .stuck
          | .bl false => .ok []
          | _ => .stuck)
        | none => .stuck) 0 xs).bind fun ys => .ok (.lst ys) := by
  rw [evE] <;> rfl
theorem run231 {a b : Int} : run TT (n + 1) 231 th [.int a, .int b] = if a > 60 then .exc 15 (.int 60) else if b > 12 then .exc 15 (.int 12) else .ok .non := by
  rw [run_def (show TT 231 = some f231 from rfl) _ _ rfl]
  simp only [f231, enter]
  simp [ev_var]
  by_cases h1 : 60 < a
  · simp [h1, D.pure]
  · by_cases h2 : 12 < b
    · simp [h1, h2, D.pure]
    · simp [h1, h2]
theorem size_ok {a b : Int} (h1 : a ≤ 60) (h2 : b ≤ 12) : run TT (n + 1) 231 th [.int a, .int b] = .ok .non := by
  rw [run231, if_neg (by omega), if_neg (by omega)]
def grt : List Nat → Nat
  | [] => 0
  | p :: ps => max p (grt ps)
theorem imax_nat : ∀ (ps : List Nat) (p : Nat), iMax p (ps.map fun x : Nat => (x : Int)) = ((max p (grt ps) : Nat) : Int)
  | [], p => by simp [iMax, grt]
  | q :: ps, p => by
    have e : iMax p ((q :: ps).map fun x : Nat => (x : Int)) = iMax ((max p q : Nat) : Int) (ps.map fun x : Nat => (x : Int)) := by
      unfold iMax
      rw [List.map_cons, List.foldl_cons]
      congr 1
      by_cases h : p < q
      · rw [if_pos (by omega)]
        congr 1
        omega
      · rw [if_neg (by omega)]
        congr 1
        omega
    rw [e, imax_nat ps, grt, Nat.max_assoc]
theorem items_hol (ps : List Nat) : (items (.tup (ps.map nD))).bind intL = some (ps.map fun x : Nat => (x : Int)) := by
  show intL (ps.map nD) = _
  have : ps.map nD = (ps.map fun x : Nat => (x : Int)).map D.int := by simp [Function.comp_def]
  rw [this, intL_map]
theorem run232 {ps : List Nat} : run TT (n + 1) 232 th [hol ps] = .ok (.int (grt ps : Nat)) := by
  rw [run_def (show TT 232 = some f232 from rfl) _ _ rfl]
  simp only [f232, enter, hol]
  have e : primV .maxD [.tup (ps.map nD), .int 0] = .ok (.int (grt ps : Nat)) := by
    have h := items_hol ps
    cases ps with
    | nil => rfl
    | cons p ps =>
      simp only [primV]
      rw [h]
      show M.ok (D.int (iMax (p : Int) (ps.map fun x : Nat => (x : Int)))) = _
      rw [imax_nat]
      rfl
  simp [ev_var, e]
theorem hol_add {ps gs : List Nat} (h : ps.length + gs.length ≤ 1000) : opV .add (hol ps) (hol gs) = .ok (hol (ps ++ gs)) := by
  have e : opV .add (hol ps) (hol gs) = .ok (.tup (ps.map nD ++ gs.map nD)) := op_tadd _ _ (by simp; unfold LIM; omega)
  rw [e, hol, List.map_append]
theorem len_hol (ps : List Nat) : primV .len [hol ps] = .ok (.int (ps.length : Nat)) := by simp [hol]
def mulH (ps gs : List Nat) : List Nat := ps.flatMap fun p => gs.map fun g => p + g
theorem mulH_len (ps gs : List Nat) : (mulH ps gs).length = ps.length * gs.length := by
  induction ps with
  | nil => simp [mulH]
  | cons p ps ih =>
    simp only [mulH, List.flatMap_cons, List.length_append, List.length_map, List.length_cons] at ih ⊢
    rw [ih, Nat.succ_mul, Nat.add_comm]
/-- what two holders must keep for their sum, for their product -/
def SumOk (ps gs : List Nat) : Prop := ps.length + gs.length ≤ 60
structure MulOk (ps gs : List Nat) : Prop where
  l : ps.length * gs.length ≤ 60
  g : 0 < ps.length * gs.length → grt ps + grt gs ≤ 12
def movT (t : Tb) (k : Nat) : Tb := t.map fun r => (r.1 + k, r.2)
/-- the halves of a product -/
def fstT (ps gs : List Nat) : Tb := ps.zipIdx.flatMap fun p => gs.map fun _ => (p.2, List.range p.1)
def sndT (ps gs : List Nat) : Tb := ps.flatMap fun p => gs.zipIdx.map fun g => (g.2, (List.range g.1).map (p + ·))
theorem fst_len (ps gs : List Nat) : (fstT ps gs).length = ps.length * gs.length := by
  have key : ∀ (ps : List Nat) (i : Nat), ((ps.zipIdx i).flatMap fun p => gs.map fun _ => (p.2, List.range p.1)).length = ps.length * gs.length := by
    intro ps
    induction ps with
    | nil => intro i; simp
    | cons p ps ih => intro i; rw [List.zipIdx_cons, List.flatMap_cons, List.length_append, ih]; simp [Nat.succ_mul, Nat.add_comm]
  exact key ps 0
theorem snd_len (ps gs : List Nat) : (sndT ps gs).length = ps.length * gs.length := by
  induction ps with
  | nil => simp [sndT]
  | cons p ps ih =>
    simp only [sndT, List.flatMap_cons, List.length_append, List.length_map, List.length_zipIdx, List.length_cons] at ih ⊢
    rw [ih, Nat.succ_mul, Nat.add_comm]
theorem pw_small {a j : Nat} (ha : a ≤ 10 ^ 60) (hj : j ≤ 12) : a ^ j < 2 ^ MULB := by
  have h1 : a ^ j ≤ (10 ^ 60) ^ j := Nat.pow_le_pow_left ha j
  have h2 : (10 ^ 60) ^ j ≤ (10 ^ 60) ^ 12 := Nat.pow_le_pow_right (by decide) hj
  have h3 : ((10 : Nat) ^ 60) ^ 12 < 2 ^ 2400 := by decide +kernel
  have h4 : (2 : Nat) ^ 2400 ≤ 2 ^ MULB := Nat.pow_le_pow_right (by decide) (by decide)
  omega
theorem mul_pw {a j : Nat} (ha : a ≤ 10 ^ 60) (hj : j ≤ 12) : opV .mul (.int ((a ^ j : Nat) : Int)) (.int a) = .ok (.int ((a ^ (j + 1) : Nat) : Int)) := by
  have h1 := pw_small (a := a) ha hj
  have h2 := pw_small (a := a) (j := 1) ha (by omega)
  rw [Nat.pow_one] at h2
  rw [op_mul _ _ (.inr (.inr ⟨by simpa using h1, by simpa using h2⟩)), Nat.pow_succ]
  simp
theorem run4b {a k : Nat} (ha : a ≤ 10 ^ 60) (hk : k ≤ 12) : run TT (n + 1) 4 th [.int a, .int k] = .ok (.int ((a ^ k : Nat) : Int)) := by
  rw [run_def (show TT 4 = some f4 from rfl) _ _ rfl]
  simp only [f4, enter]
  simp [ev_var, walk_rng k (by omega)]
  rw [show (some (D.int 1, false) : Option (D × Bool)) = some (.int ((a ^ 0 : Nat) : Int), false) by simp, for_ix (fun j => [some (.int a, false), some (.int k, false), some (.int ((a ^ j : Nat) : Int), false), none])]
  · simp [ev_var]
  · intro j x hx
    obtain ⟨hj, rfl⟩ := rngm_get hx
    have e := mul_pw (a := a) (j := j) ha (by omega)
    simp only [Int.natCast_pow] at e
    simp [ev_var, e]
theorem run244 {a k : Nat} (ha : a ≤ 10 ^ 60) (hk : k ≤ 12) : run TT (n + 1) 244 th [.int a, .int k] = .ok (.int ((a ^ k : Nat) : Int)) := by
  rw [run_def (show TT 244 = some f244 from rfl) _ _ rfl]
  simp only [f244, enter]
  simp [ev_var, walk_rng k (by omega)]
  rw [show (some (D.int 1, false) : Option (D × Bool)) = some (.int ((a ^ 0 : Nat) : Int), false) by simp, for_ix (fun j => [some (.int a, false), some (.int k, false), some (.int ((a ^ j : Nat) : Int), false), none])]
  · simp [ev_var]
  · intro j x hx
    obtain ⟨hj, rfl⟩ := rngm_get hx
    have e := mul_pw (a := a) (j := j) ha (by omega)
    simp only [Int.natCast_pow] at e
    simp [ev_var, e]
theorem run245 {ps : List Nat} {s : Nat} (hs : s ≤ 10 ^ 60) (hp : ∀ p ∈ ps, p ≤ 12) : run TT (n + 2) 245 th [hol ps, .int s] = .ok (.int (fillN ps s : Nat)) := by
  rw [run_def (show TT 245 = some f245 from rfl) _ _ rfl]
  simp only [f245, enter, hol]
  simp [ev_var]
  rw [comp_map nD (fun p : Nat => D.int ((s ^ p : Nat) : Int)) ps]
  · have e : ps.map (fun p : Nat => D.int ((s ^ p : Nat) : Int)) = ((ps.map fun p => s ^ p).map fun x : Nat => (x : Int)).map D.int := by simp
    rw [e]
    simp only [ok_bind, tupD_tup, primV, items, intL_map, Option.map_some, oM, sum_cast, leave_rt]
    rfl
  · intro p h
    rw [nD_def, run244 hs (hp p h)]
    rfl
theorem run5b {ps : List Nat} {s : Nat} (hs : s ≤ 10 ^ 60) (hp : ∀ p ∈ ps, p ≤ 12) : run TT (n + 2) 5 th [hol ps, .int s] = .ok (.int (fillN ps s : Nat)) := by
  rw [run_def (show TT 5 = some f5 from rfl) _ _ rfl]
  simp only [f5, enter, hol]
  simp [ev_var]
  rw [comp_map nD (fun p : Nat => D.int ((s ^ p : Nat) : Int)) ps]
  · have e : ps.map (fun p : Nat => D.int ((s ^ p : Nat) : Int)) = ((ps.map fun p => s ^ p).map fun x : Nat => (x : Int)).map D.int := by simp
    rw [e]
    simp only [ok_bind, tupD_tup, primV, items, intL_map, Option.map_some, oM, sum_cast, leave_rt]
    rfl
  · intro p h
    rw [nD_def, run4b hs (hp p h)]
    rfl
theorem run7b {ps : List Nat} {s : Nat} (h : HolOk ps) (hs : s ≤ 10 ^ 60) : run TT (n + 4) 7 th [hol ps, .int s] = .ok (.int (fillN ps s : Nat)) := by
  rw [run_def (show TT 7 = some f7 from rfl) _ _ rfl]
  have e6 : run TT (n + 3) 6 .stuck [.int s] = .ok (.int s) := by
    rw [run6 rfl rfl, from_int (by omega) (by unfold MT; omega)]
    rfl
  simp [f7, enter, ev_var, need_hold h, e6, run5b hs h.p]
theorem fill_app (ps gs : List Nat) (s : Nat) : fillN (ps ++ gs) s = fillN ps s + fillN gs s := by simp [fillN]
theorem fill_mul (ps gs : List Nat) (s : Nat) : fillN (mulH ps gs) s = fillN ps s * fillN gs s := by
  have key : ∀ p : Nat, fillN (gs.map fun g => p + g) s = s ^ p * fillN gs s := fun p => by
    induction gs with
    | nil => simp [fillN]
    | cons g gs ih =>
      simp only [fillN, List.map_cons, List.sum_cons] at ih ⊢
      rw [ih, Nat.pow_add, Nat.mul_add]
  induction ps with
  | nil => simp [mulH, fillN]
  | cons p ps ih =>
    have e : mulH (p :: ps) gs = (gs.map fun g => p + g) ++ mulH ps gs := by simp [mulH]
    rw [e, fill_app, key, ih]
    simp [fillN, Nat.add_mul]
theorem grt_le {ps : List Nat} {m : Nat} (h : ∀ p ∈ ps, p ≤ m) : grt ps ≤ m := by
  induction ps with
  | nil => exact Nat.zero_le _
  | cons p ps ih =>
    have h1 := h p (List.mem_cons_self ..)
    have h2 := ih fun q hq => h q (List.mem_cons_of_mem _ hq)
    simp only [grt]
    omega
theorem mul_hol {ps gs : List Nat} {a b : Nat} (ha : ∀ p ∈ ps, p ≤ a) (hb : ∀ g ∈ gs, g ≤ b) (hab : a + b ≤ 12) (hl : ps.length * gs.length ≤ 60) : HolOk (mulH ps gs) where
  l := by rw [mulH_len]; exact hl
  p := fun x hx => by
    obtain ⟨p, hp, hx⟩ := List.mem_flatMap.mp hx
    obtain ⟨g, hg, rfl⟩ := List.mem_map.mp hx
    have := ha p hp
    have := hb g hg
    omega
theorem hol_mid {ps : List Nat} (h : HolOk ps) : Mid (hol ps) := by
  have key : ∀ qs : List Nat, (∀ p ∈ qs, p ≤ 12) → D.lows (qs.map nD) = true ∧ D.wids (qs.map nD) ≤ 700 * qs.length := by
    intro qs
    induction qs with
    | nil => intro _; exact ⟨rfl, Nat.le_refl _⟩
    | cons q qs ih =>
      intro hq
      obtain ⟨a, b⟩ := ih fun p hp => hq p (List.mem_cons_of_mem _ hp)
      have := hq q (List.mem_cons_self ..)
      refine ⟨?_, ?_⟩
      · simp only [List.map_cons, D.lows, a, Bool.and_true]
        exact low_small (by omega)
      · simp only [List.map_cons, D.wids, nD, D.wid, List.length_cons]
        omega
  obtain ⟨a, b⟩ := key ps h.p
  have := h.l
  refine ⟨hol_fit, a, ?_⟩
  simp only [hol, D.wid]
  omega
theorem fill_small {ps : List Nat} {s : Nat} (h : HolOk ps) (hs : s ≤ 10 ^ 30) : fillN ps s ≤ 60 * 10 ^ 360 := by
  have key : ∀ qs : List Nat, (∀ p ∈ qs, p ≤ 12) → fillN qs s ≤ qs.length * 10 ^ 360 := by
    intro qs
    induction qs with
    | nil => intro _; exact Nat.zero_le _
    | cons q qs ih =>
      intro hq
      have h1 := ih fun p hp => hq p (List.mem_cons_of_mem _ hp)
      have h2 : s ^ q ≤ 10 ^ 360 := by
        have a1 : s ^ q ≤ (10 ^ 30) ^ q := Nat.pow_le_pow_left hs q
        have a2 : ((10 : Nat) ^ 30) ^ q ≤ (10 ^ 30) ^ 12 := Nat.pow_le_pow_right (by decide) (hq q (List.mem_cons_self ..))
        have a3 : ((10 : Nat) ^ 30) ^ 12 = 10 ^ 360 := by decide +kernel
        omega
      simp only [fillN, List.map_cons, List.sum_cons, List.length_cons, Nat.succ_mul] at h1 ⊢
      omega
  have := key ps h.p
  have hl := h.l
  exact Nat.le_trans this (Nat.mul_le_mul_right _ hl)
theorem int_mid {a : Nat} (h : a ≤ 60 * 10 ^ 360) : Mid (.int (a : Nat)) := by
  refine ⟨rfl, ?_, by simp [D.wid]⟩
  simp only [D.low, decide_eq_true_eq, Int.natAbs_natCast]
  have : (60 : Nat) * 10 ^ 360 < 10 ^ 570 := by decide +kernel
  omega
def TG : Nat := 10 ^ 30
theorem flat_get {α β : Type} (f : α → List β) (m : Nat) (hf : ∀ x, (f x).length = m) : ∀ (xs : List α) (i j : Nat) (x : α), xs[i]? = some x → j < m → (xs.flatMap f)[i * m + j]? = (f x)[j]?
  | [], i, j, x, h, _ => by simp at h
  | y :: xs, 0, j, x, h, hj => by
    simp at h
    subst h
    rw [List.flatMap_cons, Nat.zero_mul, Nat.zero_add, List.getElem?_append_left (by rw [hf]; exact hj)]
  | y :: xs, i + 1, j, x, h, hj => by
    have h' : xs[i]? = some x := by simpa using h
    rw [List.flatMap_cons, List.getElem?_append_right (by rw [hf, Nat.succ_mul]; omega), hf, show (i + 1) * m + j - m = i * m + j by rw [Nat.succ_mul]; omega]
    exact flat_get f m hf xs i j x h' hj
theorem mulH_get {ps gs : List Nat} {i j p g : Nat} (h : ps[i]? = some p) (k : gs[j]? = some g) : (mulH ps gs)[i * gs.length + j]? = some (p + g) := by
  have hj := (List.getElem?_eq_some_iff.mp k).1
  rw [mulH, flat_get _ gs.length (fun x => by simp) ps i j p h hj, List.getElem?_map, k]
  rfl
theorem fst_get {ps gs : List Nat} {i j p : Nat} (h : ps[i]? = some p) (hj : j < gs.length) : (fstT ps gs)[i * gs.length + j]? = some (i, List.range p) := by
  rw [fstT, flat_get _ gs.length (fun x => by simp) ps.zipIdx i j (p, i) (by rw [List.getElem?_zipIdx, h]; simp) hj, List.getElem?_map, List.getElem?_eq_getElem hj]
  rfl
theorem snd_get {ps gs : List Nat} {i j p g : Nat} (h : ps[i]? = some p) (k : gs[j]? = some g) : (sndT ps gs)[i * gs.length + j]? = some (j, (List.range g).map (p + ·)) := by
  have hj := (List.getElem?_eq_some_iff.mp k).1
  rw [sndT, flat_get _ gs.length (fun x => by simp) ps i j p h hj, List.getElem?_map, List.getElem?_zipIdx, k]
  simp
/-- a place of a product -/
theorem mul_at {ps gs : List Nat} {x q : Nat} (h : (mulH ps gs)[x]? = some q) : ∃ i j p g, ps[i]? = some p ∧ gs[j]? = some g ∧ x = i * gs.length + j ∧ q = p + g := by
  have hx := (List.getElem?_eq_some_iff.mp h).1
  rw [mulH_len] at hx
  have hg : 0 < gs.length := by
    rcases Nat.eq_zero_or_pos gs.length with e | e
    · rw [e, Nat.mul_zero] at hx; omega
    · exact e
  have hi : x / gs.length < ps.length := Nat.div_lt_of_lt_mul (by rw [Nat.mul_comm]; exact hx)
  have hj : x % gs.length < gs.length := Nat.mod_lt _ hg
  have e : x = x / gs.length * gs.length + x % gs.length := (Nat.div_add_mod' x gs.length).symm
  refine ⟨x / gs.length, x % gs.length, _, _, List.getElem?_eq_getElem hi, List.getElem?_eq_getElem hj, e, ?_⟩
  rw [e, mulH_get (List.getElem?_eq_getElem hi) (List.getElem?_eq_getElem hj)] at h
  exact (Option.some.inj h).symm
theorem fst_ok (ps gs : List Nat) : TabOk (mulH ps gs) ps (fstT ps gs) where
  l := by rw [fst_len, mulH_len]
  r := fun x q h => by
    obtain ⟨i, j, p, g, h1, h2, rfl, rfl⟩ := mul_at h
    exact ⟨i, List.range p, fst_get h1 (List.getElem?_eq_some_iff.mp h2).1, by simpa using h1, fun y hy => by simp at hy; omega⟩
theorem snd_ok (ps gs : List Nat) : TabOk (mulH ps gs) gs (sndT ps gs) where
  l := by rw [snd_len, mulH_len]
  r := fun x q h => by
    obtain ⟨i, j, p, g, h1, h2, rfl, rfl⟩ := mul_at h
    exact ⟨j, _, snd_get h1 h2, by simpa using h2, fun y hy => by
      obtain ⟨z, hz, rfl⟩ := List.mem_map.mp hy
      simp at hz
      omega⟩
theorem pick_fst {ts us : List D} {p : Nat} (h : ts.length = p) : pickL (List.range p) (ts ++ us) = ts := by
  apply List.ext_getElem
  · simp [pickL, h]
  · intro i h1 h2
    simp [pickL, List.getD_eq_getElem?_getD, List.getElem?_append_left h2, List.getElem?_eq_getElem h2]
theorem pick_snd {ts us : List D} {p g : Nat} (h : ts.length = p) (k : us.length = g) : pickL ((List.range g).map (p + ·)) (ts ++ us) = us := by
  apply List.ext_getElem
  · simp [pickL, k]
  · intro i h1 h2
    have e : (ts ++ us)[ts.length + i]? = some us[i] := by rw [List.getElem?_append_right (by omega), show ts.length + i - ts.length = i by omega, List.getElem?_eq_getElem h2]
    simp [pickL, List.getD_eq_getElem?_getD, ← h, e]
theorem wp273 {ps : List Nat} (hp : HolOk ps) (h0 : 0 < ps.length) (h : ∀ i p ts, ps[i]? = some p → ts.length = p → things ts → Q (.tup [.int (i : Nat), .tup ts])) : W (run TT (n + 1) 273 th [.st, hol ps, .int (MT + 1)]) Q E := by
  rw [run_def (show TT 273 = some f273 from rfl) _ _ rfl]
  have hl := hp.l
  simp only [f273, enter, hol]
  simp [ev_var]
  refine wp_drawD (by omega) (by omega) fun i hi => ?_
  have hi' : i < ps.length := by omega
  have e1 : ps[i]? = some ps[i] := List.getElem?_eq_getElem hi'
  have hp12 := hp.p _ (List.getElem_mem hi')
  simp [idx_hol e1, walk_rng ps[i] (by omega)]
  refine comp_W (P := fun y => isFrom y 0 MT = true) _ (fun x hx => ?_) fun ys hl2 hy => ?_
  · obtain ⟨k, _, rfl⟩ := List.mem_map.mp hx
    simp [ev_var]
    have := MT_pos
    refine wp_drawD (by omega) (by decide +kernel) fun u hu => ?_
    try rw [W_ok]
    exact from_int (by omega) (by omega)
  · exact h i ps[i] ys e1 (by simpa using hl2) hy
/-- whether a value is a row of a program -/
def isRow (p : Nat) (gs : List D) (v : D) : Bool := match v with
  | .tup [i, .tup ts] => isFrom i 0 ((gs.length : Int) - 1) && (match i with
    | .int k => (match gs[k.toNat]? with | some (.int q) => decide ((ts.length : Int) = q) | _ => false)
    | _ => false) && ts.all fun t => isFrom t 0 ((p : Int) - 1)
  | _ => false
theorem for_first {α : Type} {turn : D → Env → M (Env × Fl)} {env : Env} (g : α → D) (bad : α → Option D) (c : Nat) : ∀ xs : List α, (∀ a ∈ xs, turn (g a) env = match bad a with | none => .ok (env, .nx) | some d => .exc c d) →
    forL turn (xs.map g) env = match xs.findSome? bad with | none => .ok (env, .nx) | some d => .exc c d
  | [], _ => rfl
  | a :: xs, h => by
    rw [List.map_cons, forL, h a (List.mem_cons_self ..), List.findSome?_cons]
    cases hb : bad a with
    | none =>
      simp only [ok_bind]
      exact for_first g bad c xs fun b hb => h b (List.mem_cons_of_mem _ hb)
    | some d => simp
/-- what is wrong with a program -/
def badTab (ps gs : List Nat) : D → Option D
  | .tup vs => if vs.length = ps.length then ps.zipIdx.findSome? fun q => if isRow q.1 (gs.map nD) (vs.getD q.2 .non) then none else some (.tup [.int (q.2 : Nat)]) else some (.tup [])
  | _ => some (.tup [])
/-- how a refusal is told -/
def toldR (c : Nat) (d : D) : D := match c with
  | 1 => .tup [.str "holder", d]
  | 2 => .tup [.str "filling", d]
  | 3 => .tup [.str "program", d]
  | 12 => .tup [.str "index", d]
  | 13 => .tup [.str "parameter", d]
  | 15 => .tup [.str "too great", d]
  | 14 => .tup [.str "no row"]
  | _ => .tup [.str "other"]
theorem run252_exc {c : Nat} {d : D} (hc : c = 1 ∨ c = 3 ∨ c = 13) (hp : d.pure = true) : run TT (n + 1) 252 (.exc c d) [.thk] = .ok (toldR c d) := by
  rw [run_def (show TT 252 = some f252 from rfl) _ _ rfl]
  simp only [f252, enter]
  rcases hc with rfl | rfl | rfl
  all_goals simp [ev_var, ev_force, eh_hand, calm, asgS, Tg.slots, hold, subc, gone, purge, D.pure, D.pures, fldOf, ev_attr, ev_isx, hp, toldR, cmpV]
/-- what is wrong with four holders -/
def badFour : D → Option (Nat × D)
  | .tup vs => if vs.length = 4 then (vs.findSome? fun x => if isHolder x then none else some x).map fun d => (1, d) else some (13, .tup vs)
  | v => some (13, v)
def fourD (a b c d : List Nat) : D := .tup [hol a, hol b, hol c, hol d]
theorem hol_fit5 {ps : List Nat} : D.fit 5 (hol ps) = true := hol_fit
theorem isRow_ok {p g : Nat} {gs w : List Nat} (hg : gs[g]? = some w.length) (hw : ∀ x ∈ w, x < p) : isRow p (gs.map nD) (rowT (g, w)) = true := by
  have hgl := (List.getElem?_eq_some_iff.mp hg).1
  simp only [isRow, rowT, List.length_map, Int.toNat_natCast, List.getElem?_map, hg, Bool.and_eq_true, List.all_eq_true]
  refine ⟨⟨from_int (by omega) (by omega), ?_⟩, fun t ht => ?_⟩
  · show decide ((w.length : Int) = (w.length : Nat)) = true
    simp
  · obtain ⟨x, hx, rfl⟩ := List.mem_map.mp ht
    have := hw x hx
    exact from_int (by omega) (by omega)
theorem badTab_ok {ps gs : List Nat} {t : Tb} (ok : TabOk ps gs t) : badTab ps gs (tabD t) = none := by
  have e : badTab ps gs (tabD t) = ps.zipIdx.findSome? (fun q => if isRow q.1 (gs.map nD) ((t.map rowT).getD q.2 .non) then none else some (.tup [.int (q.2 : Nat)])) := if_pos (by simp [ok.l])
  rw [e, List.findSome?_eq_none_iff]
  rintro ⟨p, i⟩ hpi
  have hz := List.mem_zipIdx hpi
  have hi : i < ps.length := by omega
  have e1 : ps[i]? = some p := by
    rw [List.getElem?_eq_getElem hi]
    congr 1
    simpa using hz.2.2.symm
  obtain ⟨g, w, h1, h2, h3⟩ := ok.r i p e1
  have eg : (t.map rowT).getD i .non = rowT (g, w) := getD_of (by rw [List.getElem?_map, h1]; rfl)
  show (if isRow p (gs.map nD) ((t.map rowT).getD i .non) then none else some _) = none
  rw [eg, isRow_ok h2 h3]
  rfl
theorem tab_fit (t : Tb) : D.fit 6 (tabD t) = true := by
  show D.fits 5 (t.map rowT) = true
  refine fits_all.mpr fun x hx => ?_
  obtain ⟨r, _, rfl⟩ := List.mem_map.mp hx
  show D.fits 4 [.int (r.1 : Nat), .tup (r.2.map nD)] = true
  simp only [D.fits, D.fit, Bool.and_true]
  refine fits_all.mpr fun y hy => ?_
  obtain ⟨z, _, rfl⟩ := List.mem_map.mp hy
  rfl
/-- two programs beside each other, of a product -/
def mulRow (k p : Nat) (r s : Nat × List Nat) : Nat × List Nat := (r.1 * k + s.1, r.2 ++ s.2.map (p + ·))
def mulT (k : Nat) (ps : List Nat) (t u : Tb) : Tb := (ps.zip t).flatMap fun q => u.map fun s => mulRow k q.1 q.2 s
theorem mulT_len (k : Nat) : ∀ (ps : List Nat) (t u : Tb), (mulT k ps t u).length = (ps.zip t).length * u.length
  | [], t, u => by simp [mulT]
  | p :: ps, [], u => by simp [mulT]
  | p :: ps, r :: t, u => by
    have := mulT_len k ps t u
    simp only [mulT, List.zip_cons_cons, List.flatMap_cons, List.length_append, List.length_map, List.length_cons] at this ⊢
    rw [this, Nat.succ_mul, Nat.add_comm]
theorem zip_rows (ps : List Nat) (t : Tb) : ((ps.map nD).zip (t.map rowT)).map (fun p => D.tup [p.1, p.2]) = (ps.zip t).map fun q => D.tup [nD q.1, rowT q.2] := by
  rw [List.zip_map, List.map_map]
  rfl
theorem wk_zip (xs ys : List D) : walkV .zip (.tup [.tup xs, .tup ys]) = .ok ((xs.zip ys).map fun p => .tup [p.1, p.2]) := rfl
theorem flat_one {α β : Type} (f : α → β) : ∀ u : List α, (u.flatMap fun s => [f s]) = u.map f
  | [] => rfl
  | x :: u => by rw [List.flatMap_cons, flat_one f u]; rfl
/-- what is no holder -/
structure Odd (v : D) : Prop where
  h : isHolder v = false
  f : D.fit 3 v = true
  l : D.low v = true
  w : D.wid v ≤ 60000
def oddB (v : D) : Bool := !isHolder v && D.fit 3 v && D.low v && decide (D.wid v ≤ 60000)
theorem odd_of {v : D} (h : oddB v = true) : Odd v := by
  simp only [oddB, Bool.and_eq_true, Bool.not_eq_true', decide_eq_true_eq] at h
  exact ⟨h.1.1.1, h.1.1.2, h.1.2, h.2⟩
def odds : List D := [.non, .int 3, .bl true, .str "", .lst [.int 1, .int 2], .tup [.int 13], .tup [.int 0, .int (-1)], .tup [.bl true], .tup [.tup [.int 1]], .tup [.int 1, .non], .tup [.int 2, .str "1"], .tup (List.replicate 61 (.int 0))]
theorem odds_all : (odds.all oddB) = true := by decide +kernel
theorem wp250 (h : ∀ v, Odd v → Q v) : W (run TT (n + 2) 250 th [.st]) Q E := by
  rw [run_def (show TT 250 = some f250 from rfl) _ _ rfl]
  have em : opV .mul (.tup [.int 0]) (.int 61) = .ok (.tup (List.replicate 61 (.int 0))) := rfl
  have ea : opV .add (.lst [.non, .int 3, .bl true, .str "", .lst [.int 1, .int 2], .tup [.int 13], .tup [.int 0, .int (-1)], .tup [.bl true], .tup [.tup [.int 1]], .tup [.int 1, .non], .tup [.int 2, .str "1"]]) (.lst [.tup (List.replicate 61 (.int 0))]) = .ok (.lst odds) := rfl
  generalize List.replicate 61 (D.int 0) = z at em ea
  simp only [f250, enter]
  simp [ev_var, em, ea]
  refine wp21 (n := n) (xs := odds) (by decide) (by decide) (fun y hy => ?_) _ (.inr rfl)
  exact h y (odd_of (List.all_eq_true.mp odds_all y hy))
theorem need_odd {v : D} (h : Odd v) : run TT (n + 3) 2 th [v] = .exc 1 v := by
  rw [run2 (fit_pure h.f) (fit_plain h.f) (fit_items h.f), h.h]
  rfl
theorem ev_callv {F : Nat → M D → List D → M D} {env : Env} (i f : Nat) (a : Cl.E) (h : env.at i = some (.fn f, false)) : evE F th (.callv i a) env = (evE F th a env).bind fun x => tupD x fun xs => F f .stuck xs := by
  rw [evE, h]
  rfl
theorem odd_rok {v : D} (h : Odd v) : Rok (.lst [.tup [.str "holder", v], .tup [.str "holder", v]]) := by
  have f1 := fit_up 3 58 v (by omega) h.f
  refine ⟨?_, ?_, ?_⟩
  · simp only [D.fit, D.fits, f1, Bool.and_true]
    decide +kernel
  · simp only [D.low, D.lows, h.l, Bool.and_true]
  · have := h.w
    have e : D.wid (.str "holder") ≤ 1000 := by decide +kernel
    simp only [D.wid, D.wids] at e ⊢
    omega
/-- a drawn program with its holders -/
structure Led (ps gs : List Nat) (t : Tb) : Prop where
  p0 : 0 < ps.length
  pl : ps.length ≤ 3
  pb : ∀ p ∈ ps, p ≤ 3
  g0 : 0 < gs.length
  gl : gs.length ≤ 4
  gb : ∀ g ∈ gs, g ≤ 3
  ok : TabOk ps gs t
theorem Led.hp {ps gs : List Nat} {t : Tb} (h : Led ps gs t) : HolOk ps := ⟨by have := h.pl; omega, fun p hp => by have := h.pb p hp; omega⟩
theorem Led.hg {ps gs : List Nat} {t : Tb} (h : Led ps gs t) : HolOk gs := ⟨by have := h.gl; omega, fun p hp => by have := h.gb p hp; omega⟩
/-- a value that may be told -/
def Say (d : D) : Prop := D.fit 7 d = true ∧ D.low d = true ∧ D.wid d ≤ 3000000
theorem say_mid {d : D} (h : Mid d) : Say d := ⟨fit_up 6 7 d (by omega) h.1, h.2.1, by have := h.2.2; omega⟩
theorem odd_mid {v : D} (h : Odd v) : Mid v := ⟨fit_up 3 6 v (by omega) h.f, h.l, by have := h.w; omega⟩
/-- rows of a few values -/
theorem say_rows {k : Nat} : ∀ {xs : List D}, (∀ x ∈ xs, D.fit k x = true ∧ D.low x = true ∧ D.wid x ≤ 60000) → D.fits k xs = true ∧ D.lows xs = true ∧ D.wids xs ≤ 60002 * xs.length
  | [], _ => ⟨rfl, rfl, Nat.le_refl _⟩
  | t :: ts, h => by
    obtain ⟨a1, a2, a3⟩ := h t (List.mem_cons_self ..)
    obtain ⟨b1, b2, b3⟩ := say_rows fun x hx => h x (List.mem_cons_of_mem _ hx)
    simp only [D.fits, D.lows, D.wids, Bool.and_eq_true, List.length_cons]
    exact ⟨⟨a1, b1⟩, ⟨a2, b2⟩, by omega⟩
def Sm (x : D) : Prop := D.fit 5 x = true ∧ D.low x = true ∧ D.wid x ≤ 60000
theorem hol_sm {ps : List Nat} (h : HolOk ps) : Sm (hol ps) := by
  have key : ∀ qs : List Nat, (∀ p ∈ qs, p ≤ 12) → D.lows (qs.map nD) = true ∧ D.wids (qs.map nD) ≤ 700 * qs.length := by
    intro qs
    induction qs with
    | nil => intro _; exact ⟨rfl, Nat.le_refl _⟩
    | cons q qs ih =>
      intro hq
      obtain ⟨a, b⟩ := ih fun p hp => hq p (List.mem_cons_of_mem _ hp)
      have := hq q (List.mem_cons_self ..)
      refine ⟨?_, ?_⟩
      · simp only [List.map_cons, D.lows, a, Bool.and_true]
        exact low_small (by omega)
      · simp only [List.map_cons, D.wids, nD, D.wid, List.length_cons]
        omega
  obtain ⟨a, b⟩ := key ps h.p
  have := h.l
  refine ⟨hol_fit, a, ?_⟩
  simp only [hol, D.wid]
  omega
theorem odd_sm {v : D} (h : Odd v) : Sm v := ⟨fit_up 3 5 v (by omega) h.f, h.l, h.w⟩
theorem sm_rows {xs : List D} (h : ∀ x ∈ xs, Sm x) (hl : xs.length ≤ 40) : (Say (.tup xs) ∧ D.fit 6 (.tup xs) = true) ∧ Say (.lst xs) ∧ D.fit 6 (.lst xs) = true := by
  obtain ⟨a, b, c⟩ := say_rows (k := 5) h
  have a6 := fits_up (show 5 ≤ 6 by omega) a
  refine ⟨⟨⟨a6, b, ?_⟩, a⟩, ⟨a6, b, ?_⟩, a⟩ <;> · simp only [D.wid]; omega
/-- what is wrong, and told -/
structure Wrong (v : D) (c : Nat) (x : D) : Prop where
  f : D.fit 6 v = true
  b : badFour v = some (c, x)
  c : c = 1 ∨ c = 13
  s : Say x
theorem sm_say {x : D} (h : Sm x) : Say x := ⟨fit_up 5 7 x (by omega) h.1, h.2.1, by have := h.2.2; omega⟩
theorem four_bad {xs : List D} {v : D} (hx : ∀ x ∈ xs, Sm x) (hl : xs.length ≠ 4) (h40 : xs.length ≤ 40) : Wrong (.tup xs) 13 (.tup xs) :=
  ⟨(sm_rows hx h40).1.2, if_neg hl, .inr rfl, (sm_rows hx h40).1.1⟩
theorem odd_single {v : D} (h : Odd v) (ht : ∀ xs, v = .tup xs → xs.length ≠ 4) : badFour v = some (13, v) := by
  cases v <;> first | rfl | skip
  rename_i xs
  exact if_neg (ht xs rfl)
theorem odds_not4 : (odds.all fun v => match v with | .tup xs => decide (xs.length ≠ 4) | _ => true) = true := by decide +kernel
theorem wp250' (h : ∀ v, Odd v → badFour v = some (13, v) → Q v) : W (run TT (n + 2) 250 th [.st]) Q E := by
  rw [run_def (show TT 250 = some f250 from rfl) _ _ rfl]
  have em : opV .mul (.tup [.int 0]) (.int 61) = .ok (.tup (List.replicate 61 (.int 0))) := rfl
  have ea : opV .add (.lst [.non, .int 3, .bl true, .str "", .lst [.int 1, .int 2], .tup [.int 13], .tup [.int 0, .int (-1)], .tup [.bl true], .tup [.tup [.int 1]], .tup [.int 1, .non], .tup [.int 2, .str "1"]]) (.lst [.tup (List.replicate 61 (.int 0))]) = .ok (.lst odds) := rfl
  generalize List.replicate 61 (D.int 0) = z at em ea
  simp only [f250, enter]
  simp [ev_var, em, ea]
  refine wp21 (n := n) (xs := odds) (by decide) (by decide) (fun y hy => ?_) _ (.inr rfl)
  have ho := odd_of (List.all_eq_true.mp odds_all y hy)
  refine h y ho (odd_single ho fun xs e => ?_)
  have := List.all_eq_true.mp odds_not4 y hy
  rw [e] at this
  simpa using this
theorem find_at {α β : Type} (f : α × Nat → Option β) (y : β) : ∀ (xs : List α) (o k : Nat) (p : α), (∀ i p, i < k → xs[i]? = some p → f (p, o + i) = none) → xs[k]? = some p → f (p, o + k) = some y → (xs.zipIdx o).findSome? f = some y
  | [], _, _, _, _, h, _ => by simp at h
  | x :: xs, o, 0, p, _, h, hy => by
    simp at h
    subst h
    rw [List.zipIdx_cons, List.findSome?_cons]
    have : f (x, o) = some y := hy
    rw [this]
  | x :: xs, o, k + 1, p, hn, h, hy => by
    rw [List.zipIdx_cons, List.findSome?_cons]
    have h0 : f (x, o) = none := hn 0 x (by omega) rfl
    rw [h0]
    refine find_at f y xs (o + 1) k p (fun i q hi hq => ?_) (by simpa using h) (by rw [show o + 1 + k = o + (k + 1) by omega]; exact hy)
    rw [show o + 1 + i = o + (i + 1) by omega]
    exact hn (i + 1) q (by omega) (by simpa using hq)
/-- a program with one row spoilt -/
theorem bad_at {ps gs : List Nat} {t : Tb} (ok : TabOk ps gs t) {k p : Nat} {b : D} (hk : ps[k]? = some p) (hb : isRow p (gs.map nD) b = false) : badTab ps gs (.tup ((t.map rowT).take k ++ [b] ++ (t.map rowT).drop (k + 1))) = some (.tup [.int (k : Nat)]) := by
  have hkl := (List.getElem?_eq_some_iff.mp hk).1
  have lt := ok.l
  have hlen : ((t.map rowT).take k ++ [b] ++ (t.map rowT).drop (k + 1)).length = ps.length := by simp; omega
  have e : badTab ps gs (.tup ((t.map rowT).take k ++ [b] ++ (t.map rowT).drop (k + 1))) = ps.zipIdx.findSome? (fun q => if isRow q.1 (gs.map nD) (((t.map rowT).take k ++ [b] ++ (t.map rowT).drop (k + 1)).getD q.2 .non) then none else some (.tup [.int (q.2 : Nat)])) := if_pos hlen
  rw [e]
  refine find_at _ _ ps 0 k p (fun i q hi hq => ?_) hk ?_
  · obtain ⟨g, w, h1, h2, h3⟩ := ok.r i q hq
    have eg : ((t.map rowT).take k ++ [b] ++ (t.map rowT).drop (k + 1)).getD i .non = rowT (g, w) := getD_of (by
      rw [List.append_assoc, List.getElem?_append_left (by simp; omega), List.getElem?_take_of_lt hi, List.getElem?_map, h1]
      rfl)
    rw [Nat.zero_add]
    show (if isRow q (gs.map nD) _ then none else some _) = none
    rw [eg, isRow_ok h2 h3]
    rfl
  · have eg : ((t.map rowT).take k ++ [b] ++ (t.map rowT).drop (k + 1)).getD k .non = b := getD_of (by
      rw [List.append_assoc, List.getElem?_append_right (by simp; omega)]
      simp [show k - min k t.length = 0 by omega])
    rw [Nat.zero_add]
    show (if isRow p (gs.map nD) _ then none else some _) = _
    rw [eg, hb]
    rfl
theorem mid_rok {d : D} (h : Mid d) : Rok d := ⟨fit_up 6 60 d (by omega) h.1, h.2.1, by have := h.2.2; omega⟩
theorem mid_rows {t : Tb} (hl : t.length ≤ 60) (hr : ∀ r ∈ t, r.1 ≤ 100 ∧ r.2.length ≤ 12 ∧ ∀ x ∈ r.2, x ≤ 100) : Mid (tabD t) := by
  obtain ⟨a, b, c⟩ := fil_rows (xs := t.map rowT) fun x hx => by
    obtain ⟨r, hm, rfl⟩ := List.mem_map.mp hx
    obtain ⟨q1, q2, q3⟩ := hr r hm
    exact fil_of q1 (things_nat fun j hj => by have := q3 j hj; omega) (by simpa using q2)
  refine ⟨a, b, ?_⟩
  simp only [tabD, D.wid]
  simp at c
  omega
theorem led_row {ps gs : List Nat} {t : Tb} (h : Led ps gs t) {r : Nat × List Nat} (hr : r ∈ t) : r.1 < 4 ∧ r.2.length ≤ 3 ∧ ∀ x ∈ r.2, x < 3 := by
  obtain ⟨p, q1, q2, q3⟩ := row_in h.ok hr
  have := (List.getElem?_eq_some_iff.mp q2).1
  have := h.gl
  have := h.pb p q1
  exact ⟨by omega, h.gb _ (List.mem_of_getElem? q2), fun x hx => by have := q3 x hx; omega⟩
/-- what the refusals tell together -/
theorem told_rok {x y v : D} {c : Nat} (hc : c = 1 ∨ c = 13) (hx : Say x) (hy : Say y) (hv : Say v) : Rok (.lst [.tup [.str "program", x], .tup [.str "program", y], toldR c v]) := by
  obtain ⟨x1, x2, x3⟩ := hx
  obtain ⟨y1, y2, y3⟩ := hy
  obtain ⟨v1, v2, v3⟩ := hv
  have fx := fit_up 7 58 x (by omega) x1
  have fy := fit_up 7 58 y (by omega) y1
  have fv := fit_up 7 58 v (by omega) v1
  have s1 : D.fit 58 (.str "program") = true := by decide +kernel
  have s2 : D.fit 58 (.str "holder") = true := by decide +kernel
  have s3 : D.fit 58 (.str "parameter") = true := by decide +kernel
  have w1 : D.wid (.str "program") ≤ 1000 := by decide +kernel
  have w2 : D.wid (.str "holder") ≤ 1000 := by decide +kernel
  have w3 : D.wid (.str "parameter") ≤ 1000 := by decide +kernel
  rcases hc with rfl | rfl
  · refine ⟨?_, ?_, ?_⟩
    · simp only [toldR, D.fit, D.fits, fx, fy, fv, Bool.and_true]
      decide +kernel
    · simp only [toldR, D.low, D.lows, x2, y2, v2, Bool.and_true]
    · simp only [toldR, D.wid, D.wids] at w1 w2 ⊢
      omega
  · refine ⟨?_, ?_, ?_⟩
    · simp only [toldR, D.fit, D.fits, fx, fy, fv, Bool.and_true]
      decide +kernel
    · simp only [toldR, D.low, D.lows, x2, y2, v2, Bool.and_true]
    · simp only [toldR, D.wid, D.wids] at w1 w3 ⊢
      omega
/-- comprehensions of two for-parts, all items taken -/
theorem comp2_ev {α β : Type} {F : Nat → M D → List D → M D} {env : Env} {own own1 : List Nat} {w w1 : Wk} {it it1 elt : Cl.E} {t t1 : Tg} (g : α → D) (h : α → β → D) (ys : α → List β) (e : α → β → D) (xs : List α)
    (hi : (evE F th it env).bind (walkV w) = .ok (xs.map g)) (hl : (xs.flatMap ys).length ≤ LIM)
    (h1 : ∀ a ∈ xs, ∃ env1, asg t (g a) (wipe env own) = some env1 ∧ (evE F th it1 env1).bind (walkV w1) = .ok ((ys a).map (h a)) ∧ ∀ b ∈ ys a, ∃ env2, asg t1 (h a b) (wipe env1 own1) = some env2 ∧ evE F th elt env2 = .ok (e a b)) :
    evE F th (.comp2 own w it t (.con (.bl true)) own1 w1 it1 t1 (.con (.bl true)) elt) env = .ok (.lst (xs.flatMap fun a => (ys a).map (e a))) := by
  rw [ev_comp2]
  cases hit : evE F th it env with
  | ok x =>
    rw [hit] at hi
    rw [ok_bind] at hi ⊢
    rw [hi, ok_bind]
    have el : ∀ l : List α, (l.flatMap fun a => (ys a).map (e a)).length = (l.flatMap ys).length := fun l => by
      induction l with
      | nil => rfl
      | cons a l ih => simp only [List.flatMap_cons, List.length_append, List.length_map, ih]
    rw [comp2_flat g (fun a => (ys a).map (e a)) LIM xs 0 (by rw [el]; omega)]
    · rfl
    · intro a ha k hk
      obtain ⟨env1, q1, q2, q3⟩ := h1 a ha
      rw [List.length_map] at hk
      rw [q1]
      simp only [ev_con, ok_bind]
      rw [q2]
      simp only [ok_bind, List.length_map, if_pos hk]
      rw [comp_map (h a) (e a) (ys a)]
      · rfl
      · intro b hb
        obtain ⟨env2, r1, r2⟩ := q3 b hb
        rw [r1]
        simp only [ev_con, ok_bind]
        rw [r2]
        rfl
  | exc c d => rw [hit] at hi; cases hi
  | stuck => rw [hit] at hi; cases hi
  | draw m k => rw [hit] at hi; cases hi
def besH (ps gs : List Nat) : List Nat := ps.flatMap fun p => gs.map fun g => p * g
theorem besH_len (ps gs : List Nat) : (besH ps gs).length = ps.length * gs.length := by
  induction ps with
  | nil => simp [besH]
  | cons p ps ih =>
    simp only [besH, List.flatMap_cons, List.length_append, List.length_map, List.length_cons] at ih ⊢
    rw [ih, Nat.succ_mul, Nat.add_comm]
theorem mul_nat {a b : Nat} (h : a < 2 ^ 64) : opV .mul (.int (a : Nat)) (.int (b : Nat)) = .ok (.int ((a * b : Nat) : Int)) := by
  rw [op_mul _ _ (.inl (by simpa using h))]
  simp
theorem grt_mem {ps : List Nat} {p : Nat} (h : p ∈ ps) : p ≤ grt ps := by
  induction ps with
  | nil => cases h
  | cons q ps ih =>
    rcases List.mem_cons.mp h with rfl | h
    · exact Nat.le_max_left ..
    · exact Nat.le_trans (ih h) (Nat.le_max_right ..)
structure BesOk (ps gs : List Nat) : Prop where
  l : ps.length * gs.length ≤ 60
  g : grt ps * grt gs ≤ 12
  p : ps.length ≤ 60
  s : grt ps ≤ 12
def besRow (k w : Nat) (r s : Nat × List Nat) : Nat × List Nat := (r.1 * k + s.1, r.2.flatMap fun x => s.2.map fun y => x * w + y)
def besT (k : Nat) (ls : List Nat) (t u : Tb) : Tb := t.flatMap fun r => (ls.zip u).map fun q => besRow k q.1 r q.2
theorem besT_len (k : Nat) (ls : List Nat) (u : Tb) : ∀ t : Tb, (besT k ls t u).length = t.length * (ls.zip u).length
  | [] => by simp [besT]
  | r :: t => by
    have := besT_len k ls u t
    simp only [besT, List.flatMap_cons, List.length_append, List.length_map, List.length_cons] at this ⊢
    rw [this, Nat.succ_mul, Nat.add_comm]
theorem besH_get {ps gs : List Nat} {i j p g : Nat} (h : ps[i]? = some p) (k : gs[j]? = some g) : (besH ps gs)[i * gs.length + j]? = some (p * g) := by
  have hj := (List.getElem?_eq_some_iff.mp k).1
  rw [besH, flat_get _ gs.length (fun x => by simp) ps i j p h hj, List.getElem?_map, k]
  rfl
theorem bes_at {ps gs : List Nat} {x q : Nat} (h : (besH ps gs)[x]? = some q) : ∃ i j p g, ps[i]? = some p ∧ gs[j]? = some g ∧ x = i * gs.length + j ∧ q = p * g := by
  have hx := (List.getElem?_eq_some_iff.mp h).1
  rw [besH_len] at hx
  have hg : 0 < gs.length := by
    rcases Nat.eq_zero_or_pos gs.length with e | e
    · rw [e, Nat.mul_zero] at hx; omega
    · exact e
  have hi : x / gs.length < ps.length := Nat.div_lt_of_lt_mul (by rw [Nat.mul_comm]; exact hx)
  have hj : x % gs.length < gs.length := Nat.mod_lt _ hg
  have e : x = x / gs.length * gs.length + x % gs.length := (Nat.div_add_mod' x gs.length).symm
  refine ⟨x / gs.length, x % gs.length, _, _, List.getElem?_eq_getElem hi, List.getElem?_eq_getElem hj, e, ?_⟩
  rw [e, besH_get (List.getElem?_eq_getElem hi) (List.getElem?_eq_getElem hj)] at h
  exact (Option.some.inj h).symm
theorem besT_get {k : Nat} {cs ds : List Nat} {t u : Tb} (ou : TabOk cs ds u) {i j c : Nat} {r s : Nat × List Nat} (h1 : t[i]? = some r) (hc : cs[j]? = some c) (h2 : u[j]? = some s) : (besT k cs t u)[i * cs.length + j]? = some (besRow k c r s) := by
  have hj := (List.getElem?_eq_some_iff.mp hc).1
  have hu := ou.l
  rw [besT, flat_get _ cs.length (fun x => by simp [hu]) t i j r h1 hj, List.getElem?_map, (List.getElem?_zip_eq_some (z := (c, s))).mpr ⟨hc, h2⟩]
  rfl
theorem flat_len (f : Nat → Nat → Nat) (ys : List Nat) : ∀ xs : List Nat, (xs.flatMap fun x => ys.map fun y => f x y).length = xs.length * ys.length
  | [] => by simp
  | x :: xs => by
    rw [List.flatMap_cons, List.length_append, flat_len f ys xs, List.length_map, List.length_cons, Nat.succ_mul, Nat.add_comm]
theorem place_lt {x y a c : Nat} (hx : x < a) (hy : y < c) : x * c + y < a * c := by
  have h : x * c + c ≤ a * c := by rw [← Nat.succ_mul]; exact Nat.mul_le_mul_right c hx
  omega
theorem bes_ok {a b c d : List Nat} {t u : Tb} (ot : TabOk a b t) (ou : TabOk c d u) : TabOk (besH a c) (besH b d) (besT d.length c t u) where
  l := by
    have := ot.l
    have := ou.l
    rw [besT_len, besH_len]
    simp [*]
  r := fun x q h => by
    obtain ⟨i, j, p, g, h1, h2, rfl, rfl⟩ := bes_at h
    obtain ⟨g1, w1, a1, a2, a3⟩ := ot.r i p h1
    obtain ⟨g2, w2, b1, b2, b3⟩ := ou.r j g h2
    refine ⟨_, _, besT_get ou a1 h2 b1, ?_, fun x hx => ?_⟩
    · rw [besH_get a2 b2, flat_len]
    · obtain ⟨y, hy, hx⟩ := List.mem_flatMap.mp hx
      obtain ⟨z, hz, rfl⟩ := List.mem_map.mp hx
      exact place_lt (a3 y hy) (b3 z hz)
theorem getD_flat (f : Nat → Nat → Nat) {xs ys : List Nat} {x y : Nat} (hx : x < xs.length) (hy : y < ys.length) : (xs.flatMap fun x => ys.map fun y => f x y).getD (x * ys.length + y) 0 = f (xs.getD x 0) (ys.getD y 0) := by
  have e : (xs.flatMap fun x => ys.map fun y => f x y)[x * ys.length + y]? = some (f xs[x] ys[y]) := by
    rw [flat_get _ ys.length (fun x => by simp) xs x y xs[x] (List.getElem?_eq_getElem hx) hy, List.getElem?_map, List.getElem?_eq_getElem hy]
    rfl
  rw [getD_of e, List.getD_eq_getElem?_getD, List.getD_eq_getElem?_getD, List.getElem?_eq_getElem hx, List.getElem?_eq_getElem hy]
  rfl
theorem flat_congr {α β : Type} {f g : α → List β} {xs : List α} (h : ∀ x ∈ xs, f x = g x) : xs.flatMap f = xs.flatMap g := by
  induction xs with
  | nil => rfl
  | cons x xs ih => rw [List.flatMap_cons, List.flatMap_cons, h x (List.mem_cons_self ..), ih fun y hy => h y (List.mem_cons_of_mem _ hy)]
/-- one behind the other, beside -/
theorem bes_beh {a b c d e f : List Nat} {t u v w : Tb} (ot : TabOk a b t) (ou : TabOk c d u) (ov : TabOk b e v) (ow : TabOk d f w) : behT (besT d.length c t u) (besT f.length d v w) = besT f.length c (behT t v) (behT u w) := by
  refine tab_ext (tab_ok (bes_ok ot ou) (bes_ok ov ow)) (bes_ok (tab_ok ot ov) (tab_ok ou ow)) fun x q h => ?_
  obtain ⟨i, j, p, g, h1, h2, rfl, rfl⟩ := bes_at h
  obtain ⟨g1, w1, a1, a2, a3⟩ := ot.r i p h1
  obtain ⟨g2, w2, b1, b2, b3⟩ := ou.r j g h2
  obtain ⟨k1, v1, c1, c2, c3⟩ := ov.r g1 _ a2
  obtain ⟨k2, v2, d1, d2, d3⟩ := ow.r g2 _ b2
  have e1 : (besT d.length c t u)[i * c.length + j]? = some (besRow d.length g (g1, w1) (g2, w2)) := besT_get ou a1 h2 b1
  have e2 : (besT f.length d v w)[g1 * d.length + g2]? = some (besRow f.length w2.length (k1, v1) (k2, v2)) := besT_get ow c1 b2 d1
  rw [behT_get e1 e2, besT_get (tab_ok ou ow) (behT_get a1 c1) h2 (behT_get b1 d1)]
  congr 2
  simp only [pickN, List.map_flatMap, List.flatMap_map, List.map_map]
  refine flat_congr fun x hx => ?_
  refine List.map_congr_left fun y hy => ?_
  have := getD_flat (fun x y => x * g + y) (c3 x hx) (d3 y hy)
  simpa using this
theorem zip_rows' (ps : List Nat) (t : Tb) : walkV .zip (.tup [hol ps, tabD t]) = .ok ((ps.zip t).map fun q => D.tup [D.int (q.1 : Nat), rowT q.2]) := by
  rw [hol, tabD, wk_zip, zip_rows]
  rfl
theorem row0 (r : Nat × List Nat) : idxV (rowT r) (.int 0) = .ok (.int (r.1 : Nat)) := rfl
theorem row1 (r : Nat × List Nat) : idxV (rowT r) (.int 1) = .ok (.tup (r.2.map nD)) := rfl
theorem tb_b {ps gs : List Nat} {t : Tb} (hp : HolOk ps) (hg : HolOk gs) (ok : TabOk ps gs t) {r : Nat × List Nat} (hr : r ∈ t) : r.1 < 60 ∧ r.2.length ≤ 12 ∧ ∀ x ∈ r.2, x < 12 := by
  obtain ⟨p, q1, q2, q3⟩ := row_in ok hr
  have := (List.getElem?_eq_some_iff.mp q2).1
  have := hg.l
  have := hp.p p q1
  exact ⟨by omega, hg.p _ (List.mem_of_getElem? q2), fun x hx => by have := q3 x hx; omega⟩
theorem bes_len60 {ps gs hs : List Nat} {t u : Tb} (hp : HolOk ps) (ot : TabOk ps gs t) (hc : HolOk hs) (k : Nat) : (besT k hs t u).length ≤ 3600 := by
  rw [besT_len]
  have h1 := ot.l
  have h2 := hp.l
  have h3 := hc.l
  have h4 : (hs.zip u).length ≤ 60 := by simp; omega
  exact Nat.mul_le_mul (show t.length ≤ 60 by omega) h4
/-- a holder behind another one -/
structure Onw (ps es : List Nat) (v : Tb) : Prop where
  e0 : 0 < es.length
  el : es.length ≤ 3
  eb : ∀ p ∈ es, p ≤ 3
  ok : TabOk ps es v
theorem Onw.he {ps es : List Nat} {v : Tb} (h : Onw ps es v) : HolOk es := ⟨by have := h.el; omega, fun p hp => by have := h.eb p hp; omega⟩
theorem grow {m : Nat} (ps gs : List Nat) (g0 : 0 < gs.length) (gl : gs.length ≤ m) (gb : ∀ g ∈ gs, g ≤ 3) (hm : m ≤ 3) : ∃ es : List Nat, es = (if 0 ∈ ps ∧ 0 ∉ gs then gs ++ [0] else gs) ∧ 0 < es.length ∧ es.length ≤ m + 1 ∧ (∀ g ∈ es, g ≤ 3) ∧ HolOk es ∧ GoalOk ps es := by
  refine ⟨_, rfl, ?_⟩
  by_cases h : 0 ∈ ps ∧ 0 ∉ gs
  · rw [if_pos h]
    have gb' : ∀ g ∈ gs ++ [0], g ≤ 3 := fun g hg => by
      rcases List.mem_append.mp hg with z | z
      · exact gb g z
      · rw [List.mem_singleton.mp z]; omega
    exact ⟨by simp, by simp; omega, gb', ⟨by simp; omega, fun p hp => by have := gb' p hp; omega⟩, ⟨fun _ => by simp, fun _ => by simp⟩⟩
  · rw [if_neg h]
    refine ⟨g0, by omega, gb, ⟨by omega, fun p hp => by have := gb p hp; omega⟩, ⟨fun _ e => ?_, fun z => ?_⟩⟩
    · rw [e] at g0; cases g0
    · exact Classical.byContradiction fun y => h ⟨z, y⟩
theorem hol_mid' {ps : List Nat} (h : HolOk ps) : Mid (hol ps) := hol_mid h
theorem besH_one (ps : List Nat) : besH [1] ps = ps ∧ besH ps [1] = ps ∧ besH ps [] = [] ∧ besH [] ps = [] := by
  refine ⟨by simp [besH], ?_, ?_, rfl⟩
  · induction ps with
    | nil => rfl
    | cons p ps ih =>
      simp only [besH, List.flatMap_cons, List.map_cons, List.map_nil, Nat.mul_one, List.cons_append, List.nil_append] at ih ⊢
      rw [ih]
  · induction ps with
    | nil => rfl
    | cons p ps ih => simpa [besH] using ih
theorem besH_app (ps qs gs : List Nat) : besH (ps ++ qs) gs = besH ps gs ++ besH qs gs := by simp [besH]
theorem besH_b {ps gs : List Nat} {a b : Nat} (hp : ∀ p ∈ ps, p ≤ a) (hg : ∀ p ∈ gs, p ≤ b) (hab : a * b ≤ 12) (hl : ps.length * gs.length ≤ 60) : HolOk (besH ps gs) := by
  refine ⟨by rw [besH_len]; exact hl, fun x hx => ?_⟩
  obtain ⟨p, hpm, hx⟩ := List.mem_flatMap.mp hx
  obtain ⟨g, hgm, rfl⟩ := List.mem_map.mp hx
  exact Nat.le_trans (Nat.mul_le_mul (hp p hpm) (hg g hgm)) hab
theorem bes_small {ps gs : List Nat} {a b k l : Nat} (hp : ∀ p ∈ ps, p ≤ a) (hg : ∀ p ∈ gs, p ≤ b) (hab : a * b ≤ 12) (ha : a ≤ 12) (pl : ps.length ≤ k) (gl : gs.length ≤ l) (kl : k * l ≤ 60) (k60 : k ≤ 60) : BesOk ps gs :=
  ⟨Nat.le_trans (Nat.mul_le_mul pl gl) kl, Nat.le_trans (Nat.mul_le_mul (grt_le hp) (grt_le hg)) hab, by omega, Nat.le_trans (grt_le hp) ha⟩
theorem rok_three {a b c : D} (h : Mid a) (g : Mid b) (k : Mid c) : Rok (.lst [a, b, c]) := by
  refine ⟨?_, ?_, ?_⟩
  · simp only [D.fit, D.fits, fit_up 6 59 a (by omega) h.1, fit_up 6 59 b (by omega) g.1, fit_up 6 59 c (by omega) k.1, Bool.and_true]
  · simp only [D.low, D.lows, h.2.1, g.2.1, k.2.1, Bool.and_true]
  · have := h.2.2
    have := g.2.2
    have := k.2.2
    simp only [D.wid, D.wids]
    omega
theorem mid_tab {ps gs : List Nat} {t : Tb} (hp : HolOk ps) (hg : HolOk gs) (ok : TabOk ps gs t) : Mid (tabD t) := tab_mid hp hg ok
theorem things_pick {w : List Nat} {xs : List D} (h : things xs) (hw : ∀ x ∈ w, x < xs.length) : things (pickL w xs) := fun y hy => by
  obtain ⟨j, hj, rfl⟩ := List.mem_map.mp hy
  have hjl := hw j hj
  rw [List.getD_eq_getElem?_getD, List.getElem?_eq_getElem hjl]
  exact h _ (List.getElem_mem hjl)
theorem led3 {ps gs : List Nat} {t : Tb} (h : Led ps gs t) : True := trivial
theorem say_tup {s : PySem.Str} {x : D} (hs : D.fit 7 (.str s) = true) (hw : D.wid (.str s) ≤ 1000) (hx : Say x) : D.fit 8 (.tup [.str s, x]) = true ∧ D.low (.tup [.str s, x]) = true ∧ D.wid (.tup [.str s, x]) ≤ 3002000 := by
  obtain ⟨x1, x2, x3⟩ := hx
  refine ⟨?_, ?_, ?_⟩
  · show D.fits 7 [.str s, x] = true
    simp only [D.fits, hs, x1, Bool.and_true]
  · simp only [D.low, D.lows, x2, Bool.and_true]
  · simp only [D.wid, D.wids] at hw ⊢
    omega
theorem say_told {x : D} {c : Nat} (hc : c = 1 ∨ c = 3 ∨ c = 13) (hx : Say x) : D.fit 8 (toldR c x) = true ∧ D.low (toldR c x) = true ∧ D.wid (toldR c x) ≤ 3002000 := by
  rcases hc with rfl | rfl | rfl
  · exact say_tup (by decide +kernel) (by decide +kernel) hx
  · exact say_tup (by decide +kernel) (by decide +kernel) hx
  · exact say_tup (by decide +kernel) (by decide +kernel) hx
/-- up to five refusals -/
theorem rok_told : ∀ {xs : List D}, (∀ d ∈ xs, D.fit 8 d = true ∧ D.low d = true ∧ D.wid d ≤ 3002000) → D.fits 8 xs = true ∧ D.lows xs = true ∧ D.wids xs ≤ 3002002 * xs.length
  | [], _ => ⟨rfl, rfl, Nat.le_refl _⟩
  | t :: ts, h => by
    obtain ⟨a1, a2, a3⟩ := h t (List.mem_cons_self ..)
    obtain ⟨b1, b2, b3⟩ := rok_told fun x hx => h x (List.mem_cons_of_mem _ hx)
    simp only [D.fits, D.lows, D.wids, Bool.and_eq_true, List.length_cons]
    exact ⟨⟨a1, b1⟩, ⟨a2, b2⟩, by omega⟩
def pairT (k : Nat) (t u : Tb) : Tb := (t.zip u).map fun q => (q.1.1 * k + q.2.1, q.1.2 ++ q.2.2)
theorem pairT_get {k i : Nat} {t u : Tb} {r s : Nat × List Nat} (h1 : t[i]? = some r) (h2 : u[i]? = some s) : (pairT k t u)[i]? = some (r.1 * k + s.1, r.2 ++ s.2) := by
  rw [pairT, List.getElem?_map, (List.getElem?_zip_eq_some (z := (r, s))).mpr ⟨h1, h2⟩]
  rfl
theorem pair_ok {ps gs hs : List Nat} {t u : Tb} (ot : TabOk ps gs t) (ou : TabOk ps hs u) : TabOk ps (mulH gs hs) (pairT hs.length t u) where
  l := by
    have := ot.l
    have := ou.l
    simp [pairT, *]
  r := fun i p h => by
    obtain ⟨g1, w1, a1, a2, a3⟩ := ot.r i p h
    obtain ⟨g2, w2, b1, b2, b3⟩ := ou.r i p h
    refine ⟨_, _, pairT_get a1 b1, ?_, fun x hx => ?_⟩
    · rw [mulH_get a2 b2]
      simp
    · rcases List.mem_append.mp hx with z | z
      · exact a3 x z
      · exact b3 x z
theorem pickN_fst {w v : List Nat} : pickN (List.range w.length) (w ++ v) = w := by
  apply List.ext_getElem
  · simp [pickN]
  · intro i h1 h2
    simp [pickN, List.getD_eq_getElem?_getD, List.getElem?_append_left h2, List.getElem?_eq_getElem h2]
theorem pickN_snd {w v : List Nat} : pickN ((List.range v.length).map (w.length + ·)) (w ++ v) = v := by
  apply List.ext_getElem
  · simp [pickN]
  · intro i h1 h2
    have e : (w ++ v)[w.length + i]? = some v[i] := by rw [List.getElem?_append_right (by omega), show w.length + i - w.length = i by omega, List.getElem?_eq_getElem h2]
    simp [pickN, List.getD_eq_getElem?_getD, e]
theorem pair_fst {ps gs hs : List Nat} {t u : Tb} (ot : TabOk ps gs t) (ou : TabOk ps hs u) : behT (pairT hs.length t u) (fstT gs hs) = t := by
  refine tab_ext (tab_ok (pair_ok ot ou) (fst_ok gs hs)) ot fun i p h => ?_
  obtain ⟨g1, w1, a1, a2, a3⟩ := ot.r i p h
  obtain ⟨g2, w2, b1, b2, b3⟩ := ou.r i p h
  rw [behT_get (pairT_get a1 b1) (fst_get a2 (List.getElem?_eq_some_iff.mp b2).1), a1, pickN_fst]
theorem pair_snd {ps gs hs : List Nat} {t u : Tb} (ot : TabOk ps gs t) (ou : TabOk ps hs u) : behT (pairT hs.length t u) (sndT gs hs) = u := by
  refine tab_ext (tab_ok (pair_ok ot ou) (snd_ok gs hs)) ou fun i p h => ?_
  obtain ⟨g1, w1, a1, a2, a3⟩ := ot.r i p h
  obtain ⟨g2, w2, b1, b2, b3⟩ := ou.r i p h
  rw [behT_get (pairT_get a1 b1) (snd_get a2 b2), b1, pickN_snd]
theorem either_ok {ps gs hs : List Nat} {t u : Tb} (ot : TabOk ps hs t) (ou : TabOk gs hs u) : TabOk (ps ++ gs) hs (t ++ u) where
  l := by simp [ot.l, ou.l]
  r := fun i p h => by
    have tl := ot.l
    by_cases hi : i < ps.length
    · rw [List.getElem?_append_left hi] at h
      rw [List.getElem?_append_left (by omega)]
      exact ot.r i p h
    · rw [List.getElem?_append_right (by omega)] at h
      rw [List.getElem?_append_right (by omega), tl]
      exact ou.r _ p h
theorem into1_ok (ps gs : List Nat) : TabOk ps (ps ++ gs) (stT ps) where
  l := by simp [stT]
  r := fun i p h => ⟨i, List.range p, stT_get h, by rw [List.getElem?_append_left (List.getElem?_eq_some_iff.mp h).1, h]; simp, fun x hx => by simpa using hx⟩
theorem mov_get {t : Tb} {i k : Nat} {r : Nat × List Nat} (h : t[i]? = some r) : (movT t k)[i]? = some (r.1 + k, r.2) := by
  simp [movT, List.getElem?_map, h]
theorem into2_ok (ps gs : List Nat) : TabOk gs (ps ++ gs) (movT (stT gs) ps.length) where
  l := by simp [movT, stT]
  r := fun i p h => ⟨i + ps.length, List.range p, mov_get (stT_get h), by rw [List.getElem?_append_right (by omega), show i + ps.length - ps.length = i by omega, h]; simp, fun x hx => by simpa using hx⟩
theorem either_1 {ps gs hs : List Nat} {t u : Tb} (ot : TabOk ps hs t) (ou : TabOk gs hs u) : behT (stT ps) (t ++ u) = t := by
  refine tab_ext (tab_ok (into1_ok ps gs) (either_ok ot ou)) ot fun i p h => ?_
  obtain ⟨g1, w1, a1, a2, a3⟩ := ot.r i p h
  have e : (t ++ u)[i]? = some (g1, w1) := by rw [List.getElem?_append_left (List.getElem?_eq_some_iff.mp a1).1, a1]
  rw [behT_get (stT_get h) e, a1, pick_range a3]
theorem either_2 {ps gs hs : List Nat} {t u : Tb} (ot : TabOk ps hs t) (ou : TabOk gs hs u) : behT (movT (stT gs) ps.length) (t ++ u) = u := by
  refine tab_ext (tab_ok (into2_ok ps gs) (either_ok ot ou)) ou fun i p h => ?_
  obtain ⟨g1, w1, a1, a2, a3⟩ := ou.r i p h
  have tl := ot.l
  have e : (t ++ u)[i + ps.length]? = some (g1, w1) := by rw [List.getElem?_append_right (by omega), show i + ps.length - t.length = i by omega, a1]
  rw [behT_get (mov_get (stT_get h)) e, a1, pick_range a3]
theorem wk_zip2 (t u : Tb) : walkV .zip (.tup [tabD t, tabD u]) = .ok ((t.zip u).map fun q => D.tup [rowT q.1, rowT q.2]) := by
  rw [tabD, tabD, wk_zip, List.zip_map, List.map_map]
  rfl
theorem zero_add (gs : List Nat) (h : gs.length ≤ 60) : opV .add (hol gs) (.tup [.int 0]) = .ok (hol (gs ++ [0])) := by
  have e : opV .add (hol gs) (.tup [.int 0]) = .ok (.tup (gs.map nD ++ [.int 0])) := op_tadd _ _ (by simp; unfold LIM; omega)
  rw [e]
  simp [hol]
end
end Cl.Q
set_option autoImplicit false
set_option linter.all false
set_option maxRecDepth 100000
set_option maxHeartbeats 1000000
namespace Cl.Q
/-! one holder put into another one -/
def rowsN (s : Nat) : Nat → List (List Nat)
  | 0 => [[]]
  | k + 1 => (rowsN s k).flatMap fun r => (List.range s).map fun t => r ++ [t]
theorem rowsN_D (s : Nat) : ∀ k, rowsD s k = (rowsN s k).map fun r => r.map nD
  | 0 => rfl
  | k + 1 => by
    simp only [rowsD, rowsN, rowsN_D s k, List.flatMap_map, List.map_flatMap, List.map_map, Function.comp_def, List.map_append]
    rfl
def intoN (ps : List Nat) (s : Nat) : List (Nat × List Nat) := ps.zipIdx.flatMap fun q => (rowsN s q.1).map fun r => (q.2, r)
theorem fillD_into (ps : List Nat) (s : Nat) : fillD ps s = (intoN ps s).map rowT := by
  simp only [fillD, intoN, List.map_flatMap]
  congr 1
  funext q
  simp [shapeF, tupRows, rowsN_D, rowT, Function.comp_def]
def sizeN (gs : List Nat) (q : Nat × List Nat) : Nat := (q.2.map fun j => gs.getD j 0).sum
def intoH (ps gs : List Nat) : List Nat := (intoN ps gs.length).map (sizeN gs)
theorem rowsN_in {s : Nat} : ∀ {k : Nat} {r : List Nat}, r ∈ rowsN s k → r.length = k ∧ ∀ x ∈ r, x < s
  | 0, r, h => by simp [rowsN] at h; subst h; simp
  | k + 1, r, h => by
    simp only [rowsN, List.mem_flatMap, List.mem_map, List.mem_range] at h
    obtain ⟨q, hq, t, ht, rfl⟩ := h
    obtain ⟨h1, h2⟩ := rowsN_in hq
    refine ⟨by simp [h1], fun x hx => ?_⟩
    rcases List.mem_append.mp hx with z | z
    · exact h2 x z
    · rw [List.mem_singleton.mp z]
      exact ht
theorem into_in {ps : List Nat} {s : Nat} {q : Nat × List Nat} (h : q ∈ intoN ps s) : ps[q.1]? = some q.2.length ∧ ∀ x ∈ q.2, x < s := by
  simp only [intoN, List.mem_flatMap, List.mem_map] at h
  obtain ⟨⟨p, i⟩, hm, r, hr, rfl⟩ := h
  obtain ⟨h1, h2⟩ := rowsN_in hr
  have hz := List.mem_zipIdx hm
  refine ⟨?_, h2⟩
  rw [List.getElem?_eq_getElem (by omega), h1]
  congr 1
  simpa using hz.2.2.symm
section
variable {n : Nat} {th : M D} {E : Nat → D → Prop}
theorem run413 {ps gs : List Nat} (hp : HolOk ps) (hg : HolOk gs) : run TT (n + 2) 413 th [hol ps, hol gs] = .ok (.int (fillN ps gs.length : Nat)) := by
  rw [run_def (show TT 413 = some f413 from rfl) _ _ rfl]
  have hl := hg.l
  have hs : gs.length < 2 ^ 64 := Nat.lt_of_le_of_lt hl (by decide)
  simp only [f413, enter, hol]
  simp [ev_var]
  rw [comp_map nD (fun p : Nat => D.int ((gs.length ^ p : Nat) : Int)) ps]
  · have e : ps.map (fun p : Nat => D.int ((gs.length ^ p : Nat) : Int)) = ((ps.map fun p => gs.length ^ p).map fun x : Nat => (x : Int)).map D.int := by simp
    rw [e]
    simp only [ok_bind, tupD_tup, primV, items, intL_map, Option.map_some, oM, sum_cast, leave_rt]
    rfl
  · intro p h
    rw [nD_def, run4 hs (by have := hp.p p h; omega)]
    rfl
theorem run414 {ps gs : List Nat} (hp : HolOk ps) (hg : HolOk gs) (hf : fillN ps gs.length ≤ 400) : run TT (n + 2) 414 th [hol ps, hol gs] = .ok (.lst ((intoN ps gs.length).map rowT)) := by
  rw [run_def (show TT 414 = some f414 from rfl) _ _ rfl]
  have hl := hg.l
  have wz : walkV .enum (.tup [hol ps]) = .ok (ps.zipIdx.map fun q => D.tup [.int (q.2 : Nat), nD q.1]) := by rw [hol, wk_enum, zip_map]
  simp only [f414, enter]
  simp only [ex_ret, ev_frz]
  rw [comp2_ev (fun q : Nat × Nat => D.tup [.int (q.2 : Nat), nD q.1]) (fun _ b => b) (fun q => tupRows gs.length q.1) (fun q b => D.tup [.int (q.2 : Nat), b]) ps.zipIdx]
  · rw [← fillD_into]
    rfl
  · simp [ev_var, wz]
  · have : (ps.zipIdx.flatMap fun q => tupRows gs.length q.1).length = fillN ps gs.length := by
      rw [← fill_len ps gs.length 0]
      simp only [List.length_flatMap, shapeF, List.length_map]
    rw [this]
    unfold LIM
    omega
  · rintro ⟨p, i⟩ hm
    have hz := List.mem_zipIdx hm
    have hpm : p ∈ ps := by
      rw [hz.2.2]
      exact List.getElem_mem _
    have e12 := run12 (n := n) (th := .stuck) (s := gs.length) (k := p) (hp.p p hpm) (Nat.le_trans (fill_term hpm) hf)
    refine ⟨_, rfl, ?_, fun b hb => ⟨_, rfl, ?_⟩⟩
    · simp [ev_var, hol, pr_lr (s := gs.length) (by omega), e12]
    · simp [ev_var]
theorem run426 {ps gs : List Nat} (hp : HolOk ps) (hg : HolOk gs) (hf : fillN ps gs.length ≤ 400) : run TT (n + 2) 426 th [hol ps, hol gs] = .ok (.lst ((intoN ps gs.length).map rowT)) := by
  rw [run_def (show TT 426 = some f426 from rfl) _ _ rfl]
  have hl := hg.l
  have wz : walkV .enum (.tup [hol ps]) = .ok (ps.zipIdx.map fun q => D.tup [.int (q.2 : Nat), nD q.1]) := by rw [hol, wk_enum, zip_map]
  have ln : ∀ qs : List Nat, primV .len [hol qs] = .ok (.int (qs.length : Nat)) := fun qs => by rw [hol, pr_len_t, List.length_map]
  simp only [f426, enter]
  simp [ev_var, wz]
  rw [for_rows (fun q : Nat × Nat => D.tup [.int (q.2 : Nat), .int (q.1 : Nat)]) (fun acc => [some (hol ps, false), some (hol gs, false), some (.lst acc, false), none, none, none]) (shapeF gs.length) 400 ps.zipIdx []]
  · simp [ev_var]
    rw [← fillD_into]
    rfl
  · simp only [List.nil_append]
    rw [fill_len ps gs.length 0]
    exact hf
  · rintro ⟨p, i⟩ hm acc hacc
    have hz := List.mem_zipIdx hm
    have hpm : p ∈ ps := by
      rw [hz.2.2]
      exact List.getElem_mem _
    have e24 := run24 (n := n) (th := .stuck) (s := gs.length) (k := p) (by omega) (hp.p p hpm) (Nat.le_trans (fill_term hpm) hf)
    simp [ev_var, ln, e24]
    rw [comp_id (fun b => D.tup [.int (i : Nat), b])]
    · have e : opV .add (.lst acc) (.lst ((tupRows gs.length p).map fun b => D.tup [.int (i : Nat), b])) = .ok (.lst (acc ++ (tupRows gs.length p).map fun b => D.tup [.int (i : Nat), b])) := op_ladd _ _ (by
        simp only [shapeF, List.length_append, List.length_map] at hacc ⊢
        unfold LIM
        omega)
      simp [e, shapeF]
    · intro b hb
      simp [ev_var]
theorem sum_nat (l : List Nat) : primV .sum [.lst (l.map nD)] = .ok (.int (l.sum : Nat)) := by
  have e : l.map nD = (l.map fun x : Nat => (x : Int)).map D.int := by simp [nD]
  rw [e]
  simp only [primV, items, intL_map, Option.map_some, oM, sum_cast]
theorem sizes_turn {gs : List Nat} {r : List Nat} (h2 : ∀ x ∈ r, x < gs.length) : compL (fun x => ((idxV (hol gs) x).bind fun y => M.ok (some y)).nox) (r.map nD) = .ok ((r.map fun j => gs.getD j 0).map nD) := by
  rw [comp_map nD (fun j => nD (gs.getD j 0)) r]
  · simp [Function.comp_def]
  · intro j hj
    rw [nD, hol, idx_hol (p := gs.getD j 0) (by rw [List.getD_eq_getElem?_getD, List.getElem?_eq_getElem (h2 j hj)]; rfl)]
    rfl
theorem run415 {ps gs : List Nat} (hp : HolOk ps) (hg : HolOk gs) (hf : fillN ps gs.length ≤ 400) : run TT (n + 3) 415 th [hol ps, hol gs] = .ok (hol (intoH ps gs)) := by
  rw [run_def (show TT 415 = some f415 from rfl) _ _ rfl]
  have e14 := run414 (n := n) (th := .stuck) hp hg hf
  simp only [f415, enter]
  simp [ev_var, e14]
  rw [comp_map rowT (fun q => D.int (sizeN gs q : Nat)) (intoN ps gs.length)]
  · simp [hol, intoH, nD, Function.comp_def]
  · rintro ⟨i, r⟩ hq
    obtain ⟨h1, h2⟩ := into_in hq
    simp only at h2
    simp only [rowT, asg_cons, asg_v, asg_nil, Option.bind_some]
    simp [ev_var]
    rw [sizes_turn h2]
    simp only [ok_bind, tupD_tup, sum_nat, nox_ok]
    rfl
theorem run427 {ps gs : List Nat} (hp : HolOk ps) (hg : HolOk gs) (hf : fillN ps gs.length ≤ 400) : run TT (n + 3) 427 th [hol ps, hol gs] = .ok (hol (intoH ps gs)) := by
  rw [run_def (show TT 427 = some f427 from rfl) _ _ rfl]
  have e14 := run426 (n := n) (th := .stuck) hp hg hf
  simp only [f427, enter]
  simp [ev_var, e14]
  rw [comp_map rowT (fun q => D.int (sizeN gs q : Nat)) (intoN ps gs.length)]
  · simp [hol, intoH, nD, Function.comp_def]
  · rintro ⟨i, r⟩ hq
    obtain ⟨h1, h2⟩ := into_in hq
    simp only at h2
    simp only [rowT, asg_cons, asg_v, asg_nil, Option.bind_some]
    simp [ev_var]
    rw [sizes_turn h2]
    simp only [ok_bind, tupD_tup, sum_nat, nox_ok]
    rfl
/-- within the bounds -/
structure IB (ps gs : List Nat) : Prop where
  p : HolOk ps
  g : HolOk gs
  c : fillN ps gs.length ≤ 60
  w : grt ps * grt gs ≤ 12
theorem grt12 {ps : List Nat} (h : HolOk ps) : grt ps ≤ 12 := grt_le h.p
theorem run416 {ps gs : List Nat} (h : IB ps gs) : run TT (n + 4) 416 th [hol ps, hol gs] = .ok (hol (intoH ps gs)) := by
  rw [run_def (show TT 416 = some f416 from rfl) _ _ rfl]
  have e1 := run413 (n := n + 1) (th := .stuck) h.p h.g
  have e2 := run232 (n := n + 2) (th := .stuck) (ps := ps)
  have e3 := run232 (n := n + 2) (th := .stuck) (ps := gs)
  have e4 := run415 (n := n) (th := .stuck) h.p h.g (Nat.le_trans h.c (by omega))
  have em : opV .mul (.int (grt ps : Nat)) (.int (grt gs : Nat)) = .ok (.int ((grt ps : Int) * (grt gs : Int))) := op_mul _ _ (.inl (by have := grt12 h.p; simp; omega))
  have e5 := run231 (n := n + 2) (th := .stuck) (a := (fillN ps gs.length : Nat)) (b := (grt ps : Int) * (grt gs : Int))
  have c := h.c
  have w := h.w
  have w' : ((grt ps : Nat) : Int) * ((grt gs : Nat) : Int) ≤ 12 := by
    have : (((grt ps * grt gs : Nat)) : Int) ≤ 12 := by omega
    simpa using this
  rw [if_neg (by omega), if_neg (by omega)] at e5
  simp only [f416, enter]
  simp [ev_var, e1, e2, e3, em, e5, e4]
theorem into_len (ps : List Nat) (s : Nat) : (intoN ps s).length = fillN ps s := by
  have := fill_len ps s 0
  rw [← this]
  have e := fillD_into ps s
  rw [fillD] at e
  rw [e, List.length_map]
theorem intoH_len (ps gs : List Nat) : (intoH ps gs).length = fillN ps gs.length := by rw [intoH, List.length_map, into_len]
theorem sum_le_mul {l : List Nat} {m : Nat} (h : ∀ x ∈ l, x ≤ m) : l.sum ≤ l.length * m := by
  induction l with
  | nil => simp
  | cons a l ih =>
    have h1 := h a (List.mem_cons_self ..)
    have h2 := ih fun x hx => h x (List.mem_cons_of_mem _ hx)
    rw [List.sum_cons, List.length_cons, Nat.succ_mul]
    omega
theorem intoH_ok {ps gs : List Nat} (h : IB ps gs) : HolOk (intoH ps gs) where
  l := by rw [intoH_len]; exact h.c
  p := fun p hp => by
    simp only [intoH, List.mem_map] at hp
    obtain ⟨q, hq, rfl⟩ := hp
    obtain ⟨h1, h2⟩ := into_in hq
    have h3 : q.2.length ≤ grt ps := grt_mem (List.mem_of_getElem? h1)
    refine Nat.le_trans (sum_le_mul (m := grt gs) fun x hx => ?_) ?_
    · obtain ⟨j, hj, rfl⟩ := List.mem_map.mp hx
      rw [List.getD_eq_getElem?_getD, List.getElem?_eq_getElem (h2 j hj)]
      exact grt_mem (List.getElem_mem _)
    · rw [List.length_map]
      exact Nat.le_trans (Nat.mul_le_mul_right _ h3) h.w
theorem cut_take {xs : List D} {k : Nat} (h : k ≤ xs.length) : cut xs none (some ((k : Nat) : Int)) = xs.take k := by
  have e : bnd xs.length xs.length (some ((k : Nat) : Int)) = k := by
    have : ¬ ((k : Nat) : Int) < 0 := by omega
    simp only [bnd, if_neg this]
    rw [Int.toNat_natCast]
    omega
  rw [cut, e]
  simp [bnd]
def numN (ps : List Nat) (s i : Nat) (r : List Nat) : Nat := r.foldl (fun a x => a * s + x) 0 + ((ps.take i).map fun p => s ^ p).sum
theorem run417 {ps r : List Nat} {s i : Nat} (hp : ∀ p ∈ ps, p ≤ 12) (hs : s ≤ 400) (hi : i ≤ ps.length) : run TT (n + 2) 417 th [hol ps, .int (s : Nat), .int (i : Nat), .tup (r.map nD)] = .ok (.int (numN ps s i r : Nat)) := by
  rw [run_def (show TT 417 = some f417 from rfl) _ _ rfl]
  simp only [f417, enter]
  simp [ev_var]
  rw [show D.int 0 = D.int ((0 : Nat) : Int) from rfl, for_fold nD (fun a : Nat => [some (hol ps, false), some (.int (s : Nat), false), some (.int (i : Nat), false), some (.tup (r.map nD), false), some (.int (a : Nat), false), none, none]) (fun a x => a * s + x) r 0]
  · have hc : cut (ps.map nD) none (some ((i : Nat) : Int)) = (ps.take i).map nD := by rw [cut_take (by simpa using hi), List.map_take]
    simp [ev_var, ev_slc_h, asI, hol, slcV, hc]
    rw [← List.map_take, comp_map nD (fun p : Nat => nD (s ^ p)) (ps.take i)]
    · have e : (ps.take i).map (fun p : Nat => nD (s ^ p)) = ((ps.take i).map fun p => s ^ p).map nD := by simp [Function.comp_def]
      rw [e]
      simp only [ok_bind, tupD_tup, sum_nat]
      simp [numN]
    · intro p h
      have := hp p (List.mem_of_mem_take h)
      rw [nD_def, run4 (Nat.lt_of_le_of_lt hs (by decide)) (by omega)]
      rfl
  · intro x hx a
    have em : opV .mul (.int (a : Nat)) (.int (s : Nat)) = .ok (.int ((a * s : Nat) : Int)) := by
      rw [op_mul _ _ (.inr (.inl (by simp; exact Nat.lt_of_le_of_lt hs (by decide))))]
      simp
    simp [ev_var, em]
end
end Cl.Q
set_option autoImplicit false
set_option linter.all false
set_option maxRecDepth 100000
set_option maxHeartbeats 1000000
namespace Cl.Q
/-- how many things are ahead of a place of a row of shapes -/
def preN (gs r : List Nat) (k : Nat) : Nat := ((r.take k).map fun j => gs.getD j 0).sum
theorem preN_succ {gs r : List Nat} {k j : Nat} (h : r[k]? = some j) : preN gs r (k + 1) = preN gs r k + gs.getD j 0 := by
  unfold preN
  rw [List.take_add_one, h]
  simp
def badRow (w : Nat) (v : D) : Bool := match v with
  | .tup xs => decide (xs.length ≠ w)
  | _ => true
theorem for_app {turn : D → Env → M (Env × Fl)} {env : Env} : ∀ (xs ys : List D), (∀ x ∈ xs, turn x env = .ok (env, .nx)) → forL turn (xs ++ ys) env = forL turn ys env
  | [], _, _ => rfl
  | x :: xs, ys, h => by
    rw [List.cons_append, forL, h x (List.mem_cons_self ..), ok_bind]
    exact for_app xs ys fun y hy => h y (List.mem_cons_of_mem _ hy)
section
variable {n : Nat} {th : M D} {E : Nat → D → Prop}
theorem hol_len (qs : List Nat) : primV .len [hol qs] = .ok (.int (qs.length : Nat)) := by rw [hol, pr_len_t, List.length_map]
def mk418 (gs r : List Nat) (k : Nat) : Env := [some (hol gs, false), some (.tup (r.map nD), false), some (.lst ((List.range k).map fun t => nD (preN gs r t)), true), some (.int (preN gs r k : Nat), false), none]
theorem run418 {gs r : List Nat} (hr : ∀ x ∈ r, x < gs.length) (hl : r.length ≤ 400) : run TT (n + 1) 418 th [hol gs, .tup (r.map nD)] = .ok (.lst ((List.range r.length).map fun k => nD (preN gs r k))) := by
  rw [run_def (show TT 418 = some f418 from rfl) _ _ rfl]
  simp only [f418, enter]
  simp [ev_var]
  have z : ([some (hol gs, false), some (D.tup (r.map nD), false), some (.lst [], true), some (.int 0, false), none] : Env) = mk418 gs r 0 := by simp [mk418, preN]
  rw [z, for_ix (mk418 gs r)]
  · simp [mk418, ev_var, Function.comp_def]
  · intro k x hx
    rw [List.getElem?_map] at hx
    cases hj : r[k]? with
    | none => rw [hj] at hx; cases hx
    | some j =>
    rw [hj] at hx
    simp at hx
    subst hx
    have hk := (List.getElem?_eq_some_iff.mp hj).1
    have hm := hr j (List.mem_of_getElem? hj)
    have c : k < LIM := by
      unfold LIM
      omega
    have ei : idxV (hol gs) (.int (j : Nat)) = .ok (nD (gs.getD j 0)) := by
      rw [hol, idx_hol (p := gs.getD j 0)]
      rw [List.getD_eq_getElem?_getD, List.getElem?_eq_getElem hm]
      rfl
    simp only [mk418, preN_succ hj]
    simp [ev_var, ei, c, List.range_succ]
theorem run419 {ps gs : List Nat} (h : IB ps gs) : run TT (n + 5) 419 th [hol ps, hol gs] = .ok (hol (intoH ps gs)) := by
  rw [run_def (show TT 419 = some f419 from rfl) _ _ rfl]
  have e1 := need_hold (n := n + 1) (th := .stuck) h.p
  have e2 := need_hold (n := n + 1) (th := .stuck) h.g
  have e3 := run416 (n := n) (th := .stuck) h
  simp only [f419, enter]
  simp [ev_var, e1, e2, e3]
theorem run419a {v w : D} (h : Odd v) : run TT (n + 4) 419 th [v, w] = .exc 1 v := by
  rw [run_def (show TT 419 = some f419 from rfl) _ _ rfl]
  have e1 := need_odd (n := n) (th := .stuck) h
  simp only [f419, enter]
  simp [ev_var, e1]
theorem run419b {ps : List Nat} {v : D} (hp : HolOk ps) (h : Odd v) : run TT (n + 4) 419 th [hol ps, v] = .exc 1 v := by
  rw [run_def (show TT 419 = some f419 from rfl) _ _ rfl]
  have e1 := need_odd (n := n) (th := .stuck) h
  have e2 := need_hold (n := n) (th := .stuck) hp
  simp only [f419, enter]
  simp [ev_var, e1, e2]
theorem run422a {v w x : D} (h : Odd v) : run TT (n + 4) 422 th [v, w, x] = .exc 1 v := by
  rw [run_def (show TT 422 = some f422 from rfl) _ _ rfl]
  have e1 := need_odd (n := n) (th := .stuck) h
  simp only [f422, enter]
  simp [ev_var, e1]
theorem run422b {ps : List Nat} {v x : D} (hp : HolOk ps) (h : Odd v) : run TT (n + 4) 422 th [hol ps, v, x] = .exc 1 v := by
  rw [run_def (show TT 422 = some f422 from rfl) _ _ rfl]
  have e1 := need_odd (n := n) (th := .stuck) h
  have e2 := need_hold (n := n) (th := .stuck) hp
  simp only [f422, enter]
  simp [ev_var, e1, e2]
theorem run421b {ps : List Nat} {v x y : D} (hp : HolOk ps) (h : Odd v) : run TT (n + 4) 421 th [hol ps, v, x, y] = .exc 1 v := by
  rw [run_def (show TT 421 = some f421 from rfl) _ _ rfl]
  have e1 := need_odd (n := n) (th := .stuck) h
  have e2 := need_hold (n := n) (th := .stuck) hp
  simp only [f421, enter]
  simp [ev_var, e1, e2]
theorem run423b {ps : List Nat} {v x y : D} (hp : HolOk ps) (h : Odd v) : run TT (n + 4) 423 th [hol ps, v, x, y] = .exc 1 v := by
  rw [run_def (show TT 423 = some f423 from rfl) _ _ rfl]
  have e1 := need_odd (n := n) (th := .stuck) h
  have e2 := need_hold (n := n) (th := .stuck) hp
  simp only [f423, enter]
  simp [ev_var, e1, e2]
theorem run425a {v w x : D} (h : Odd v) : run TT (n + 4) 425 th [v, w, x] = .exc 1 v := by
  rw [run_def (show TT 425 = some f425 from rfl) _ _ rfl]
  have e1 := need_odd (n := n) (th := .stuck) h
  simp only [f425, enter]
  simp [ev_var, e1]
/-- a shape's number that is too great -/
theorem idx_over {m : Nat} : isFrom (.int (m : Nat)) 0 ((m : Int) - 1) = false := by
  simp [isFrom]
  omega
theorem idx_in {m i : Nat} (h : i < m) : isFrom (.int (i : Nat)) 0 ((m : Int) - 1) = true := by
  simp [isFrom]
  omega
theorem run420i {ps gs : List Nat} {v : D} : run TT (n + 3) 420 th [hol ps, hol gs, .int (ps.length : Nat), v] = .exc 12 (.int (ps.length : Nat)) := by
  rw [run_def (show TT 420 = some f420 from rfl) _ _ rfl]
  have e1 := run3 (n := n) (th := .stuck) (d := .int (ps.length : Nat)) (ps.length : Nat) rfl rfl
  rw [idx_over] at e1
  simp at e1
  simp only [f420, enter]
  simp [ev_var, hol_len, e1]
theorem run420p {ps gs : List Nat} {i w : Nat} {v : D} (hi : ps[i]? = some w) (hv : D.fit 5 v = true) (hb : badRow w v = true) : run TT (n + 3) 420 th [hol ps, hol gs, .int (i : Nat), v] = .exc 13 v := by
  rw [run_def (show TT 420 = some f420 from rfl) _ _ rfl]
  have hlt := (List.getElem?_eq_some_iff.mp hi).1
  have e1 := run3 (n := n) (th := .stuck) (d := .int (i : Nat)) (ps.length : Nat) rfl rfl
  rw [idx_in hlt] at e1
  simp at e1
  have ex : idxV (hol ps) (.int (i : Nat)) = .ok (.int (w : Nat)) := idx_hol hi
  have hp := fit_pure hv
  simp only [f420, enter]
  cases v with
  | tup xs =>
    simp [badRow] at hb
    have hb' : ¬ ((xs.length : Nat) : Int) = (w : Nat) := by omega
    simp [ev_var, hol_len, e1, ex, hb', hb, hp]
  | _ => first | (simp [ev_var, hol_len, e1, pr_isTup (fit_plain hv), isTupB, hp]; done) | (simp [ev_var, hol_len, e1, hp]; done) | (cases hv)
theorem run420n {ps gs : List Nat} {i w : Nat} {v : D} (hi : ps[i]? = some (w + 1)) (h0 : 0 < gs.length) (hv : D.fit 5 v = true) (hb : isFrom v 0 ((gs.length : Int) - 1) = false) : run TT (n + 3) 420 th [hol ps, hol gs, .int (i : Nat), .tup (List.replicate w (.int 0) ++ [v])] = .exc 12 v := by
  rw [run_def (show TT 420 = some f420 from rfl) _ _ rfl]
  have hlt := (List.getElem?_eq_some_iff.mp hi).1
  have e1 := run3 (n := n) (th := .stuck) (d := .int (i : Nat)) (ps.length : Nat) rfl rfl
  rw [idx_in hlt] at e1
  simp at e1
  have ex : idxV (hol ps) (.int (i : Nat)) = .ok (.int ((w + 1 : Nat) : Int)) := idx_hol hi
  have hp := fit_pure hv
  have e2 := run3 (n := n) (th := .stuck) (d := .int 0) (gs.length : Nat) rfl rfl
  have i0 : isFrom (.int 0) 0 ((gs.length : Int) - 1) = true := idx_in (i := 0) h0
  rw [i0] at e2
  have e3 := run3 (n := n) (th := .stuck) (d := v) (gs.length : Nat) hp (fit_plain hv)
  rw [hb] at e3
  simp at e2 e3
  simp only [f420, enter]
  simp [ev_var, hol_len, e1, ex]
  rw [for_app]
  · simp [forL, ev_var, hol_len, e3]
  · intro x hx
    rw [(List.mem_replicate.mp hx).2]
    simp [ev_var, hol_len, e2]
end
end Cl.Q
set_option autoImplicit false
set_option linter.all false
set_option maxRecDepth 100000
set_option maxHeartbeats 1000000
namespace Cl.Q
theorem for_J {turn : D → Env → M (Env × Fl)} (J : Env → Prop) : ∀ (xs ys : List D) (env : Env), J env → (∀ x ∈ xs, ∀ e, J e → ∃ e', turn x e = .ok (e', .nx) ∧ J e') → ∃ e', J e' ∧ forL turn (xs ++ ys) env = forL turn ys e'
  | [], _, env, hj, _ => ⟨env, hj, rfl⟩
  | x :: xs, ys, env, hj, h => by
    obtain ⟨e1, h1, h2⟩ := h x (List.mem_cons_self ..) env hj
    obtain ⟨e2, h3, h4⟩ := for_J J xs ys e1 h2 fun y hy => h y (List.mem_cons_of_mem _ hy)
    refine ⟨e2, h3, ?_⟩
    rw [List.cons_append, forL, h1, ok_bind]
    exact h4
section
variable {n : Nat} {th : M D} {Q : D → Prop} {E : Nat → D → Prop}
theorem run252_e {c : Nat} {d : D} (hc : c = 1 ∨ c = 2 ∨ c = 12 ∨ c = 13) (hp : d.pure = true) : run TT (n + 1) 252 (.exc c d) [.thk] = .ok (toldR c d) := by
  rw [run_def (show TT 252 = some f252 from rfl) _ _ rfl]
  simp only [f252, enter]
  rcases hc with rfl | rfl | rfl | rfl
  all_goals simp [ev_var, ev_force, eh_hand, calm, asgS, Tg.slots, hold, subc, gone, purge, D.pure, D.pures, fldOf, ev_attr, ev_isx, hp, toldR, cmpV]
theorem wp23l {a b : Nat} (ha : 0 < a ∧ a ≤ 1000) (hb : 0 < b ∧ b ≤ 1000) (h : ∀ (ps : List Nat) (p : Nat), ps.length < a → (∀ p ∈ ps, p ≤ b) → p < b → Q (hol (ps ++ [p + 1]))) : W (run TT (n + 1) 23 th [.st, .int a, .int b]) Q E := by
  rw [run_def (show TT 23 = some f23 from rfl) _ _ rfl]
  simp only [f23, enter]
  simp [ev_var]
  refine wp_drawD (by omega) (by omega) fun v hv => ?_
  simp [walk_rng v (by omega)]
  refine comp_W (P := fun y => ∃ p : Nat, y = nD p ∧ p ≤ b) _ (fun x hx => ?_) fun ys hl hy => ?_
  · rw [Wn, Wb]
    refine wp_drawD (by omega) (by omega) fun u hu => ?_
    rw [W_ok]
    exact ⟨_, rfl, u, rfl, by omega⟩
  · obtain ⟨ps, rfl, l2, hp⟩ := nats_of hy
    refine wp_drawD (by omega) (by omega) fun u hu => ?_
    simp at hl
    have e : opV .add (.lst (ps.map nD)) (.lst [.int (1 + (u : Int))]) = .ok (.lst ((ps ++ [u + 1]).map nD)) := by
      rw [op_ladd _ _ (by simp; unfold LIM; omega)]
      simp
      omega
    simp [e]
    have := h ps u (by omega) hp (by omega)
    simpa [hol] using this
theorem run421i {ps gs : List Nat} {v : D} (hp : HolOk ps) (hg : HolOk gs) : run TT (n + 4) 421 th [hol ps, hol gs, .int (ps.length : Nat), v] = .exc 12 (.int (ps.length : Nat)) := by
  rw [run_def (show TT 421 = some f421 from rfl) _ _ rfl]
  have e1 := need_hold (n := n) (th := .stuck) hp
  have e2 := need_hold (n := n) (th := .stuck) hg
  have e3 := run420i (n := n) (th := .stuck) (ps := ps) (gs := gs) (v := v)
  simp only [f421, enter]
  simp [ev_var, e1, e2, e3]
theorem run421p {ps gs : List Nat} {i w : Nat} {v : D} (hp : HolOk ps) (hg : HolOk gs) (hi : ps[i]? = some w) (hv : D.fit 5 v = true) (hb : badRow w v = true) : run TT (n + 4) 421 th [hol ps, hol gs, .int (i : Nat), v] = .exc 13 v := by
  rw [run_def (show TT 421 = some f421 from rfl) _ _ rfl]
  have e1 := need_hold (n := n) (th := .stuck) hp
  have e2 := need_hold (n := n) (th := .stuck) hg
  have e3 := run420p (n := n) (th := .stuck) (gs := gs) hi hv hb
  simp only [f421, enter]
  simp [ev_var, e1, e2, e3]
theorem run421n {ps gs : List Nat} {i w : Nat} {v : D} (hp : HolOk ps) (hg : HolOk gs) (hi : ps[i]? = some (w + 1)) (h0 : 0 < gs.length) (hv : D.fit 5 v = true) (hb : isFrom v 0 ((gs.length : Int) - 1) = false) : run TT (n + 4) 421 th [hol ps, hol gs, .int (i : Nat), .tup (List.replicate w (.int 0) ++ [v])] = .exc 12 v := by
  rw [run_def (show TT 421 = some f421 from rfl) _ _ rfl]
  have e1 := need_hold (n := n) (th := .stuck) hp
  have e2 := need_hold (n := n) (th := .stuck) hg
  have e3 := run420n (n := n) (th := .stuck) hi h0 hv hb
  simp only [f421, enter]
  simp [ev_var, e1, e2, e3]
theorem run423i {ps gs : List Nat} {v : D} (hp : HolOk ps) (hg : HolOk gs) : run TT (n + 4) 423 th [hol ps, hol gs, .int (ps.length : Nat), v] = .exc 12 (.int (ps.length : Nat)) := by
  rw [run_def (show TT 423 = some f423 from rfl) _ _ rfl]
  have e1 := need_hold (n := n) (th := .stuck) hp
  have e2 := need_hold (n := n) (th := .stuck) hg
  have e3 := run3 (n := n + 1) (th := .stuck) (d := .int (ps.length : Nat)) (ps.length : Nat) rfl rfl
  rw [idx_over] at e3
  simp at e3
  simp only [f423, enter]
  simp [ev_var, hol_len, e1, e2, e3]
theorem run423p {ps gs : List Nat} {i w : Nat} {v : D} (hp : HolOk ps) (hg : HolOk gs) (hi : ps[i]? = some w) (hv : D.fit 5 v = true) (hb : badRow w v = true) : run TT (n + 4) 423 th [hol ps, hol gs, .int (i : Nat), v] = .exc 13 v := by
  rw [run_def (show TT 423 = some f423 from rfl) _ _ rfl]
  have e1 := need_hold (n := n) (th := .stuck) hp
  have e2 := need_hold (n := n) (th := .stuck) hg
  have hlt := (List.getElem?_eq_some_iff.mp hi).1
  have e3 := run3 (n := n + 1) (th := .stuck) (d := .int (i : Nat)) (ps.length : Nat) rfl rfl
  rw [idx_in hlt] at e3
  simp at e3
  have ex : idxV (hol ps) (.int (i : Nat)) = .ok (.int (w : Nat)) := idx_hol hi
  have hpu := fit_pure hv
  simp only [f423, enter]
  cases v with
  | tup xs =>
    simp [badRow] at hb
    have hb' : ¬ ((xs.length : Nat) : Int) = (w : Nat) := by omega
    simp [ev_var, hol_len, e1, e2, e3, ex, hb', hb, hpu]
  | _ => first | (simp [ev_var, hol_len, e1, e2, e3, pr_isTup (fit_plain hv), isTupB, hpu]; done) | (simp [ev_var, hol_len, e1, e2, e3, hpu]; done) | (cases hv)
theorem run423f {ps gs : List Nat} {i w : Nat} {v good : D} (hp : HolOk ps) (hg : HolOk gs) (hi : ps[i]? = some (w + 1)) (hv : D.fit 5 v = true) (hb : isFill (gs.map nD) v = false) (hgf : D.fit 5 good = true) (hgo : isFill (gs.map nD) good = true) : run TT (n + 6) 423 th [hol ps, hol gs, .int (i : Nat), .tup (List.replicate w good ++ [v])] = .exc 2 v := by
  rw [run_def (show TT 423 = some f423 from rfl) _ _ rfl]
  have e1 := need_hold (n := n + 2) (th := .stuck) hp
  have e2 := need_hold (n := n + 2) (th := .stuck) hg
  have hlt := (List.getElem?_eq_some_iff.mp hi).1
  have e3 := run3 (n := n + 3) (th := .stuck) (d := .int (i : Nat)) (ps.length : Nat) rfl rfl
  rw [idx_in hlt] at e3
  simp at e3
  have ex : idxV (hol ps) (.int (i : Nat)) = .ok (.int ((w + 1 : Nat) : Int)) := idx_hol hi
  have e4 := run10 (n := n) (th := .stuck) (hs := gs.map nD) hold_ints hv
  rw [hb] at e4
  have e5 := run10 (n := n) (th := .stuck) (hs := gs.map nD) hold_ints hgf
  rw [hgo] at e5
  simp at e4 e5
  have e4' : run TT (n + 5) 10 .stuck [hol gs, v] = .exc 2 v := e4
  have e5' : run TT (n + 5) 10 .stuck [hol gs, good] = .ok good := e5
  simp only [f423, enter]
  simp [ev_var, hol_len, e1, e2, e3, ex]
  obtain ⟨e', ⟨o, rfl⟩, h⟩ := for_J (turn := fun x env => match asg (.v 4) x env with
    | some env' => exS (run TT (n + 5)) th (S.expr (E.call 10 (E.cons (E.var 1) (E.cons (E.var 4) E.nil))) S.done) env'
    | none => .stuck) (fun e => ∃ o, e = [some (hol ps, false), some (hol gs, false), some (.int (i : Nat), false), some (.tup (List.replicate w good ++ [v]), false), o, none, none, none]) (List.replicate w good) [v] _ ⟨none, rfl⟩ (fun x hx e he => by
      obtain ⟨o, rfl⟩ := he
      rw [(List.mem_replicate.mp hx).2]
      exact ⟨[some (hol ps, false), some (hol gs, false), some (.int (i : Nat), false), some (.tup (List.replicate w good ++ [v]), false), some (good, false), none, none, none], by simp [ev_var, e5'], _, rfl⟩)
  simp [ev_var] at h
  rw [h]
  simp [forL, ev_var, e4']
theorem run425f {ps gs : List Nat} {v : D} (h : IB ps gs) (hv : D.fit 5 v = true) (hb : isFill ((intoH ps gs).map nD) v = false) : run TT (n + 7) 425 th [hol ps, hol gs, v] = .exc 2 v := by
  rw [run_def (show TT 425 = some f425 from rfl) _ _ rfl]
  have e1 := need_hold (n := n + 3) (th := .stuck) h.p
  have e2 := need_hold (n := n + 3) (th := .stuck) h.g
  have e3 := run416 (n := n + 2) (th := .stuck) h
  have e4 := run10 (n := n + 1) (th := .stuck) (hs := (intoH ps gs).map nD) hold_ints hv
  rw [hb] at e4
  simp at e4
  have e4' : run TT (n + 6) 10 .stuck [hol (intoH ps gs), v] = .exc 2 v := e4
  simp only [f425, enter]
  simp [ev_var, e1, e2, e3, e4']
end
end Cl.Q
set_option autoImplicit false
set_option linter.all false
set_option maxRecDepth 100000
set_option maxHeartbeats 2000000
namespace Cl.Q
/-- values with a bound on what is told of them -/
def Big (d : D) : Prop := D.fit 10 d = true ∧ D.low d = true ∧ D.wid d ≤ 700000
theorem big_rows : ∀ {xs : List D}, (∀ x ∈ xs, Big x) → D.fits 10 xs = true ∧ D.lows xs = true ∧ D.wids xs ≤ 700002 * xs.length
  | [], _ => ⟨rfl, rfl, Nat.le_refl _⟩
  | x :: xs, h => by
    obtain ⟨a, b, c⟩ := big_rows fun y hy => h y (List.mem_cons_of_mem _ hy)
    obtain ⟨p, q, r⟩ := h x (List.mem_cons_self ..)
    refine ⟨by simp only [D.fits, p, a, Bool.and_true], by simp only [D.lows, q, b, Bool.and_true], ?_⟩
    simp only [D.wids, List.length_cons, Nat.mul_succ]
    omega
theorem rok_big {xs : List D} (h : ∀ x ∈ xs, Big x) (hl : xs.length ≤ 20) : Rok (.lst xs) := by
  obtain ⟨a, b, c⟩ := big_rows h
  refine ⟨?_, ?_, ?_⟩
  · show D.fits 59 xs = true
    exact fits_up (by omega) a
  · exact b
  · simp only [D.wid]
    have := Nat.mul_le_mul_left 700002 hl
    omega
/-- a value as it is asked: to be told within errors -/
structure Ask (d : D) : Prop where
  f : D.fit 5 d = true
  l : D.low d = true
  w : D.wid d ≤ 600000
theorem ask_big {x : PySem.Str} {d : D} (hx : D.fit 5 (.str x) = true) (hw : D.wid (.str x) ≤ 1000) (h : Ask d) : Big (.tup [.str x, d]) := by
  refine ⟨?_, ?_, ?_⟩
  · simp only [D.fit, D.fits, Bool.and_eq_true, Bool.and_true]
    exact ⟨fit_up 5 9 _ (by omega) hx, fit_up 5 9 d (by omega) h.f⟩
  · simp only [D.low, D.lows, h.l, Bool.and_true]
  · have := h.w
    simp only [D.wid, D.wids] at hw ⊢
    omega
theorem told_big {c : Nat} {d : D} (hc : c = 1 ∨ c = 2 ∨ c = 12 ∨ c = 13) (h : Ask d) : Big (toldR c d) := by
  rcases hc with rfl | rfl | rfl | rfl <;> exact ask_big (by decide +kernel) (by decide +kernel) h
theorem ask_odd {v : D} (h : Odd v) : Ask v := ⟨fit_up 3 5 v (by omega) h.f, h.l, by have := h.w; omega⟩
theorem ask_nat {k : Nat} (h : k ≤ 1000) : Ask (.int (k : Nat)) := ⟨rfl, low_small (by simp; exact Nat.le_trans h (by decide +kernel)), by simp [D.wid]⟩
theorem hol_pure {ps : List Nat} : (hol ps).pure = true := fit_pure (k := 5) hol_fit
theorem tup2_pure {x : PySem.Str} {d : D} : (D.tup [.str x, d]).pure = d.pure := by simp [D.pure, D.pures]
theorem told_pure {c : Nat} {d : D} (hc : c = 1 ∨ c = 2 ∨ c = 12 ∨ c = 13) (h : d.pure = true) : pureM (toldR c d) = .ok (toldR c d) := by
  rcases hc with rfl | rfl | rfl | rfl <;> exact if_pos (by simp [toldR, tup2_pure, h])
/-- the holders that are asked -/
theorem ib_of {ps gs : List Nat} {a b c d : Nat} (h1 : ps.length ≤ a) (h2 : ∀ p ∈ ps, p ≤ b) (h3 : gs.length ≤ c) (h4 : ∀ p ∈ gs, p ≤ d) (ha : a ≤ 60) (hb : b ≤ 12) (hc : 1 ≤ c ∧ c ≤ 60) (hd : d ≤ 12) (hk : a * c ^ b ≤ 60) (hw : b * d ≤ 12) : IB ps gs where
  p := ⟨by omega, fun p hp => by have := h2 p hp; omega⟩
  g := ⟨by omega, fun p hp => by have := h4 p hp; omega⟩
  c := by
    refine Nat.le_trans (sum_le_mul (m := c ^ b) fun x hx => ?_) ?_
    · obtain ⟨p, hp, rfl⟩ := List.mem_map.mp hx
      exact Nat.le_trans (Nat.pow_le_pow_left h3 p) (Nat.pow_le_pow_right hc.1 (h2 p hp))
    · rw [List.length_map]
      exact Nat.le_trans (Nat.mul_le_mul_right _ h1) hk
  w := Nat.le_trans (Nat.mul_le_mul (grt_le h2) (grt_le h4)) hw
def nones (s : Nat) : List D := [.non, .int (s : Nat), .bl true, .int (-1), .str "0"]
def worses (w : Nat) : List D := [.non, .lst (List.replicate (w + 1) (.int 0)), .tup (List.replicate (w + 1) (.int 0) ++ [.int 0]), .tup (List.replicate w (.int 0)), .int 0]
theorem nones_ok {s : Nat} {v : D} (hs : s ≤ 100) (h : v ∈ nones s) : Ask v ∧ isFrom v 0 ((s : Int) - 1) = false := by
  simp [nones] at h
  rcases h with rfl | rfl | rfl | rfl | rfl
  · exact ⟨⟨rfl, rfl, by decide +kernel⟩, rfl⟩
  · exact ⟨ask_nat (by omega), idx_over⟩
  · exact ⟨⟨rfl, rfl, by decide +kernel⟩, rfl⟩
  · exact ⟨⟨rfl, by decide +kernel, by decide +kernel⟩, by simp [isFrom]⟩
  · exact ⟨⟨by decide +kernel, rfl, by decide +kernel⟩, rfl⟩
theorem zeros_fit {w k : Nat} : D.fits k (List.replicate w (.int 0)) = true := fits_all.mpr fun d hd => by
  rw [(List.mem_replicate.mp hd).2]
  cases k <;> rfl
theorem zeros_low : ∀ {w : Nat}, D.lows (List.replicate w (.int 0)) = true
  | 0 => rfl
  | w + 1 => by
    rw [List.replicate_succ]
    simp only [D.lows, zeros_low, Bool.and_true]
    decide +kernel
theorem zeros_wid : ∀ {w : Nat}, D.wids (List.replicate w (.int 0)) = 573 * w
  | 0 => rfl
  | w + 1 => by
    rw [List.replicate_succ]
    simp only [D.wids, zeros_wid, D.wid]
    omega
theorem worses_ok {w : Nat} {v : D} (hw : w ≤ 11) (h : v ∈ worses w) : Ask v ∧ badRow (w + 1) v = true := by
  simp only [worses, ← List.replicate_succ', List.mem_cons, List.not_mem_nil, or_false] at h
  rcases h with rfl | rfl | rfl | rfl | rfl
  · exact ⟨⟨rfl, rfl, by decide +kernel⟩, rfl⟩
  · refine ⟨⟨zeros_fit (k := 4), zeros_low, ?_⟩, rfl⟩
    simp only [D.wid, zeros_wid]
    omega
  · refine ⟨⟨zeros_fit (k := 4), zeros_low, ?_⟩, by simp [badRow]⟩
    simp only [D.wid, zeros_wid]
    omega
  · refine ⟨⟨zeros_fit (k := 4), zeros_low, ?_⟩, by simp [badRow]⟩
    simp only [D.wid, zeros_wid]
    omega
  · exact ⟨⟨rfl, by decide +kernel, by decide +kernel⟩, rfl⟩
def oddThings : List D := [.non, .int (-1), .bl true, .str "0", .tup [.int 1], .lst [], .int (MT + 1)]
def oddT (v : D) : Bool := !isFrom v 0 MT && D.fit 1 v && D.low v && decide (D.wid v ≤ 1000)
theorem oddT_all : (oddThings.all oddT) = true := by decide +kernel
section
variable {n : Nat} {th : M D} {Q : D → Prop} {E : Nat → D → Prop}
theorem wp428 (h : ∀ v, oddT v = true → Q v) : W (run TT (n + 2) 428 th [.st]) Q E := by
  rw [run_def (show TT 428 = some f428 from rfl) _ _ rfl]
  have e1 : opV .add (.int MT) (.int 1) = .ok (.int (MT + 1)) := rfl
  simp only [f428, enter]
  simp [ev_var, pow60, e1]
  refine wp21 (n := n) (xs := oddThings) (by decide) (by decide) (fun y hy => ?_) _ (.inr rfl)
  exact h y (List.all_eq_true.mp oddT_all y hy)
end
end Cl.Q
set_option autoImplicit false
set_option linter.all false
set_option maxRecDepth 100000
set_option maxHeartbeats 4000000
namespace Cl.Q
theorem reps_all {P : D → Prop} {k : Nat} {x : D} (h : P x) : ∀ y ∈ List.replicate k x, P y := fun y hy => by
  rw [(List.mem_replicate.mp hy).2]
  exact h
theorem reps_low {x : D} (h : D.low x = true) : ∀ k, D.lows (List.replicate k x) = true
  | 0 => rfl
  | k + 1 => by
    rw [List.replicate_succ]
    simp only [D.lows, h, reps_low h k, Bool.and_true]
theorem reps_wid {x : D} : ∀ k, D.wids (List.replicate k x) = (D.wid x + 2) * k
  | 0 => rfl
  | k + 1 => by
    rw [List.replicate_succ]
    simp only [D.wids, reps_wid k, Nat.mul_succ]
    omega
/-- a filling all of one thing -/
def oneF (i k : Nat) (t : D) : D := .tup [.int (i : Nat), .tup (List.replicate k t)]
theorem oneF_f {i k m : Nat} {t : D} (h : D.fit m t = true) : D.fit (m + 2) (oneF i k t) = true := by
  simp only [oneF, D.fit, D.fits, Bool.and_true]
  exact fits_all.mpr (reps_all h)
theorem oneF_l {i k : Nat} {t : D} (hi : i ≤ 1000) (h : D.low t = true) : D.low (oneF i k t) = true := by
  simp only [oneF, D.low, D.lows, reps_low h, Bool.and_true]
  exact (ask_nat hi).l
theorem oneF_w {i k : Nat} {t : D} : D.wid (oneF i k t) = (D.wid t + 2) * k + 581 := by
  simp only [oneF, D.wid, D.wids, reps_wid]
  omega
section
variable {n : Nat} {th : M D} {E : Nat → D → Prop}
theorem hol_last {ps : List Nat} {p : Nat} : idxV (hol (ps ++ [p])) (.int (-1)) = .ok (.int (p : Nat)) := by
  have e : (-1 + ((ps.length : Int) + 1)).toNat = ps.length := by omega
  have c : (1 : Int) ≤ (ps.length : Int) + 1 := by omega
  simp [idxV, hol, atD, c, e]
theorem drop_one {q : Nat} : cut (List.replicate (q + 1) (D.int 0)) (some 1) none = List.replicate q (.int 0) := by
  have e1 : bnd (List.replicate (q + 1) (D.int 0)).length 0 (some 1) = 1 := by simp [bnd]
  rw [cut, e1]
  simp [bnd, List.replicate_succ]
theorem zer_mul {k : Nat} (h : k ≤ 12) (x : D) : opV .mul (.tup [x]) (.int (k : Nat)) = .ok (.tup (List.replicate k x)) := by
  have e : opV .mul (.tup [x]) (.int (k : Nat)) = .ok (.tup (List.replicate ((k : Nat) : Int).toNat [x]).flatten) := if_pos ⟨by simp; unfold LIM; omega, Int.lt_of_le_of_lt (show (k : Int) ≤ 12 by omega) (by decide +kernel), Int.le_trans (show -(2 ^ 62) ≤ (0 : Int) by decide +kernel) (by omega)⟩
  rw [e, Int.toNat_natCast]
  congr 2
  induction k with
  | zero => rfl
  | succ k ih => simp [List.replicate_succ, ih (by omega)]
theorem wp431 : W (run TT (n + 9) 431 th [.st]) (fun d => d = .bl true) E := by
  rw [run_def (show TT 431 = some f431 from rfl) _ _ rfl]
  simp only [f431, enter]
  simp [ev_var]
  refine wp23l (n := n + 7) (a := 2) (b := 2) (by omega) (by omega) fun qs q hql hqp hq => ?_
  refine wp23l (n := n + 7) (a := 3) (b := 3) (by omega) (by omega) fun hs g hgl hgp hg => ?_
  refine wp250 (n := n + 6) fun v ov => ?_
  have mem1 : ∀ p ∈ qs ++ [q + 1], p ≤ 2 := fun p hp => by
    rcases List.mem_append.mp hp with z | z
    · exact hqp p z
    · rw [List.mem_singleton.mp z]; omega
  have mem2 : ∀ p ∈ hs ++ [g + 1], p ≤ 3 := fun p hp => by
    rcases List.mem_append.mp hp with z | z
    · exact hgp p z
    · rw [List.mem_singleton.mp z]; omega
  have ib : IB (qs ++ [q + 1]) (hs ++ [g + 1]) := ib_of (a := 2) (b := 2) (c := 3) (d := 3) (by simp; omega) mem1 (by simp; omega) mem2 (by omega) (by omega) (by omega) (by omega) (by omega) (by omega)
  have h1 := ib.p
  have h2 := ib.g
  have r1 := run419a (n := n + 4) (th := .stuck) (w := .non) ov
  have r2 := run419b (n := n + 4) (th := .stuck) h1 ov
  have r3 := run422a (n := n + 4) (th := .stuck) (w := .non) (x := .non) ov
  have r4 := run422b (n := n + 4) (th := .stuck) (x := .non) h1 ov
  have r5 := run421b (n := n + 4) (th := .stuck) (x := .non) (y := .non) h1 ov
  have r6 := run423b (n := n + 4) (th := .stuck) (x := .non) (y := .non) h1 ov
  have vp : v.pure = true := fit_pure ov.f
  have t1 := run252_e (n := n + 7) (c := 1) (d := v) (.inl rfl) vp
  have p1 := told_pure (c := 1) (d := v) (.inl rfl) vp
  have st0 : D.pure .st = true := rfl
  have hp0 : ∀ ps, (hol ps).pure = true := fun ps => hol_pure
  have l1 : 1 < LIM := by decide +kernel
  have l2 : 2 < LIM := by decide +kernel
  have l3 : 3 < LIM := by decide +kernel
  have l4 : 4 < LIM := by decide +kernel
  have l5 : 5 < LIM := by decide +kernel
  have m6 : ∀ x : D, opV .mul (.lst [x]) (.int 6) = .ok (.lst [x, x, x, x, x, x]) := fun x => rfl
  have tb := told_big (c := 1) (d := v) (.inl rfl) (ask_odd ov)
  have k1 := run27 (n := n + 7) (th := .stuck) (rok_big (xs := [toldR 1 v, toldR 1 v, toldR 1 v, toldR 1 v, toldR 1 v, toldR 1 v]) (by simp; exact tb) (by simp))
  have tr : toldR 1 v = .tup [.str "holder", v] := rfl
  rw [tr] at t1 p1 k1
  simp [calm, ev_var, st0, hp0, vp, r1, r2, r3, r4, r5, r6, t1, p1, l1, l2, l3, l4, l5, m6, k1]
  clear r1 r2 r3 r4 r5 r6 t1 p1 k1 tb tr
  generalize hPs : qs ++ [q + 1] = ps at *
  generalize hGs : hs ++ [g + 1] = gs at *
  have pl : ps.length = qs.length + 1 := by rw [← hPs]; simp
  have gl : gs.length = hs.length + 1 := by rw [← hGs]; simp
  have ei : ((ps.length : Nat) : Int) - 1 = (qs.length : Nat) := by omega
  have ex : idxV (hol ps) (.int (-1)) = .ok (.int ((q + 1 : Nat) : Int)) := by rw [← hPs]; exact hol_last
  have hi : ps[qs.length]? = some (q + 1) := by rw [← hPs]; simp
  have zm : opV .mul (.tup [.int 0]) (.int ((q + 1 : Nat) : Int)) = .ok (.tup (List.replicate (q + 1) (.int 0))) := zer_mul (by omega) _
  have za : opV .add (.tup (List.replicate (q + 1) (.int 0))) (.tup [.int 0]) = .ok (.tup (List.replicate (q + 1) (.int 0) ++ [.int 0])) := op_tadd _ _ (by simp; unfold LIM; omega)
  simp only [hol_len, W_ok, op_sub, ei, ex, zm]
  refine wp21 (n := n + 7) (xs := nones gs.length) (by simp [nones]) (by simp [nones]) (fun no hn => ?_) _ (.inr rfl)
  obtain ⟨an, fn⟩ := nones_ok (by omega) hn
  simp only [pr_list_t, W_ok, za]
  have es : ∀ env : Env, env.at 7 = some (.tup (List.replicate (q + 1) (.int 0)), false) → evE (run TT (n + 8)) th ((Cl.E.var 7).slc (Cl.E.con (D.int 1)) Cl.E.absent) env = .ok (.tup (List.replicate q (.int 0))) := fun env he => by
    rw [ev_slc_l _ _ (by simp)]
    simp [ev_var, he, asI, slcV, drop_one]
  rw [es _ (by simp)]
  simp only [W_ok]
  refine wp21 (n := n + 7) (xs := worses q) (by simp [worses]) (by simp [worses]) (fun wo hw => ?_) _ (.inr rfl)
  obtain ⟨aw, bw⟩ := worses_ok (by omega) hw
  have r1 := run421i (n := n + 4) (th := .stuck) (v := wo) h1 h2
  have r2 := run421p (n := n + 4) (th := .stuck) h1 h2 hi aw.f bw
  have r3 := run421n (n := n + 4) (th := .stuck) h1 h2 hi (by omega) an.f fn
  have r4 := run423i (n := n + 4) (th := .stuck) (v := wo) h1 h2
  have r5 := run423p (n := n + 4) (th := .stuck) h1 h2 hi aw.f bw
  have np : no.pure = true := fit_pure an.f
  have wp : wo.pure = true := fit_pure aw.f
  have al := ask_nat (k := ps.length) (by omega)
  have t1 := run252_e (n := n + 7) (c := 12) (d := .int (ps.length : Nat)) (by simp) rfl
  have t2 := run252_e (n := n + 7) (c := 13) (d := wo) (by simp) wp
  have t3 := run252_e (n := n + 7) (c := 12) (d := no) (by simp) np
  have p1 := told_pure (c := 12) (d := .int (ps.length : Nat)) (by simp) rfl
  have p2 := told_pure (c := 13) (d := wo) (by simp) wp
  have p3 := told_pure (c := 12) (d := no) (by simp) np
  have b1 := told_big (c := 12) (by simp) al
  have b2 := told_big (c := 13) (by simp) aw
  have b3 := told_big (c := 12) (by simp) an
  have k1 := run27 (n := n + 7) (th := .stuck) (rok_big (xs := [toldR 12 (.int (ps.length : Nat)), toldR 13 wo, toldR 12 no, toldR 12 (.int (ps.length : Nat)), toldR 13 wo]) (by simp; exact ⟨b1, b2, b3, b1, b2⟩) (by simp))
  have x1 : ∀ d, toldR 12 d = .tup [.str "index", d] := fun _ => rfl
  have x2 : ∀ d, toldR 13 d = .tup [.str "parameter", d] := fun _ => rfl
  simp only [x1, x2] at t1 t2 t3 p1 p2 p3 k1
  have o1 : opV .add (.tup (List.replicate q (.int 0))) (.tup [no]) = .ok (.tup (List.replicate q (.int 0) ++ [no])) := op_tadd _ _ (by simp; unfold LIM; omega)
  have zp : (D.tup (List.replicate (q + 1) (.int 0))).pure = true := fit_pure (k := 5) (zeros_fit (k := 4))
  have ip : ∀ k : Int, D.pure (.int k) = true := fun _ => rfl
  have c2 : ∀ a b c : D, cut [a, b, c] none (some 2) = [a, b] := fun _ _ _ => rfl
  have ol : ∀ a b : List D, a.length + b.length ≤ 100 → opV .add (.lst a) (.lst b) = .ok (.lst (a ++ b)) := fun a b h => op_ladd a b (by unfold LIM; omega)
  simp [calm, ev_var, ev_slc_l, ev_slc_h, asI, slcV, drop_one, c2, ol, st0, hp0, vp, np, wp, zp, ip, hol_len, o1, r1, r2, r3, r4, r5, t1, t2, t3, p1, p2, p3, l1, l2, l3, l4, l5, k1]
  clear r1 r2 r3 r4 r5 t1 t2 t3 p1 p2 p3 b1 b2 b3 k1 al
  have eg : ((gs.length : Nat) : Int) - 1 = (hs.length : Nat) := by omega
  have hg' : gs[hs.length]? = some (g + 1) := by rw [← hGs]; simp
  have exg : idxV (hol gs) (.int (hs.length : Nat)) = .ok (.int ((g + 1 : Nat) : Int)) := idx_hol hg'
  refine wp428 (n := n + 6) fun t ht => ?_
  simp only [oddT, Bool.and_eq_true, Bool.not_eq_true', decide_eq_true_eq] at ht
  obtain ⟨⟨⟨ht1, ht2⟩, ht3⟩, ht4⟩ := ht
  have zt := zer_mul (k := g + 1) (by omega) t
  have z0 := zer_mul (k := g + 1) (by omega) (.int 0)
  have zg := zer_mul (k := q) (by omega) (oneF hs.length (g + 1) (.int 0))
  have za2 : opV .add (.tup (List.replicate q (oneF hs.length (g + 1) (.int 0)))) (.tup [oneF hs.length (g + 1) t]) = .ok (.tup (List.replicate q (oneF hs.length (g + 1) (.int 0)) ++ [oneF hs.length (g + 1) t])) := op_tadd _ _ (by simp; unfold LIM; omega)
  have u1 : D.tup [.int (hs.length : Nat), .tup (List.replicate (g + 1) t)] = oneF hs.length (g + 1) t := rfl
  have u2 : D.tup [.int (hs.length : Nat), .tup (List.replicate (g + 1) (.int 0))] = oneF hs.length (g + 1) (.int 0) := rfl
  simp only [eg, exg, W_ok, zt, z0, u1, u2, zg, za2]
  have B0 : isFill (gs.map nD) (oneF hs.length (g + 1) t) = false := by
    simp only [oneF, isFill, Bool.and_eq_false_iff]
    refine .inr ?_
    rw [List.replicate_succ, List.all_cons, ht1]
    rfl
  have B1 : isFill (gs.map nD) (oneF hs.length (g + 1) (.int 0)) = true := isFill_of hg' (by simp) (reps_all (by decide +kernel))
  have f1 : D.fit 3 (oneF hs.length (g + 1) t) = true := oneF_f ht2
  have f0 : D.fit 3 (oneF hs.length (g + 1) (.int 0)) = true := oneF_f (m := 1) rfl
  have lo1 : D.low (oneF hs.length (g + 1) t) = true := oneF_l (by omega) ht3
  have lo0 : D.low (oneF hs.length (g + 1) (.int 0)) = true := oneF_l (by omega) (by decide +kernel)
  have w1 : D.wid (oneF hs.length (g + 1) t) ≤ 4000 := by
    rw [oneF_w]
    have := Nat.mul_le_mul (show D.wid t + 2 ≤ 1002 by omega) (show g + 1 ≤ 3 by omega)
    omega
  have w0 : D.wid (oneF hs.length (g + 1) (.int 0)) ≤ 4000 := by
    rw [oneF_w]
    have := Nat.mul_le_mul (show D.wid (.int 0) + 2 ≤ 1002 by decide +kernel) (show g + 1 ≤ 3 by omega)
    omega
  have a1 : Ask (oneF hs.length (g + 1) t) := ⟨fit_up 3 5 _ (by omega) f1, lo1, by omega⟩
  have a2 : Ask (.tup [.int (qs.length : Nat), .tup (List.replicate q (oneF hs.length (g + 1) (.int 0)) ++ [oneF hs.length (g + 1) t])]) := by
    refine ⟨?_, ?_, ?_⟩
    · simp only [D.fit, D.fits, Bool.and_true, Bool.true_and]
      refine fits_all.mpr fun d hd => ?_
      rcases List.mem_append.mp hd with z | z
      · exact reps_all (P := fun y => D.fit 3 y = true) f0 d z
      · rw [List.mem_singleton.mp z]
        exact f1
    · simp only [D.low, D.lows, Bool.and_true, Bool.and_eq_true]
      refine ⟨(ask_nat (k := qs.length) (by omega)).l, ?_⟩
      rcases (by omega : q = 0 ∨ q = 1) with rfl | rfl
      · simp only [List.replicate, List.nil_append, D.lows, lo1, Bool.and_true]
      · simp only [List.replicate, List.cons_append, List.nil_append, D.lows, lo1, lo0, Bool.and_true]
    · rcases (by omega : q = 0 ∨ q = 1) with rfl | rfl
      · simp only [List.replicate, List.nil_append, D.wid, D.wids]
        omega
      · simp only [List.replicate, List.cons_append, List.nil_append, D.wid, D.wids]
        omega
  have B2 : isFill ((intoH ps gs).map nD) (.tup [.int (qs.length : Nat), .tup (List.replicate q (oneF hs.length (g + 1) (.int 0)) ++ [oneF hs.length (g + 1) t])]) = false := by
    simp only [isFill, Bool.and_eq_false_iff]
    refine .inr ?_
    rw [List.all_append]
    simp [oneF, isFrom]
  have r1 := run423f (n := n + 2) (th := .stuck) h1 h2 hi a1.f B0 (fit_up 3 5 _ (by omega) f0) B1
  have r2 := run425f (n := n + 1) (th := .stuck) ib a2.f B2
  generalize oneF hs.length (g + 1) t = bad at *
  generalize List.replicate q (oneF hs.length (g + 1) (.int 0)) ++ [bad] = row at *
  have r3 := run425a (n := n + 4) (th := .stuck) (w := .non) (x := .tup row) ov
  have bp : bad.pure = true := fit_pure a1.f
  have rp2 : (D.tup [.int (qs.length : Nat), .tup row]).pure = true := fit_pure a2.f
  have rp : (D.tup row).pure = true := by simpa [D.pure, D.pures] using rp2
  have t1 := run252_e (n := n + 7) (c := 2) (d := bad) (by simp) bp
  have t2 := run252_e (n := n + 7) (c := 2) (d := .tup [.int (qs.length : Nat), .tup row]) (by simp) rp2
  have t3 := run252_e (n := n + 7) (c := 1) (d := v) (by simp) vp
  have p1 := told_pure (c := 2) (d := bad) (by simp) bp
  have p2 := told_pure (c := 2) (d := .tup [.int (qs.length : Nat), .tup row]) (by simp) rp2
  have p3 := told_pure (c := 1) (d := v) (by simp) vp
  have b1 := told_big (c := 2) (by simp) a1
  have b2 := told_big (c := 2) (by simp) a2
  have b3 := told_big (c := 1) (by simp) (ask_odd ov)
  have k1 := run27 (n := n + 7) (th := .stuck) (rok_big (xs := [toldR 2 bad, toldR 2 (.tup [.int (qs.length : Nat), .tup row]), toldR 1 v]) (by simp; exact ⟨b1, b2, b3⟩) (by simp))
  have y1 : ∀ d, toldR 2 d = .tup [.str "filling", d] := fun _ => rfl
  have y2 : ∀ d, toldR 1 d = .tup [.str "holder", d] := fun _ => rfl
  simp only [y1, y2] at t1 t2 t3 p1 p2 p3 k1
  simp [bp, rp, r1, r2, r3, t1, t2, t3, p1, p2, p3, l1, l2, k1]
end
end Cl.Q
set_option autoImplicit false
set_option linter.all false
set_option maxRecDepth 100000
set_option maxHeartbeats 4000000
namespace Cl.Q
abbrev Fl1 := Nat × List D
def fD (z : Fl1) : D := .tup [.int (z.1 : Nat), .tup z.2]
structure FlOk (gs : List Nat) (zs : List Fl1) : Prop where
  l : ∀ z ∈ zs, gs[z.1]? = some z.2.length ∧ things z.2
def marksL (zs : List Fl1) : List D := zs.flatMap fun z => z.2
def idxL (zs : List Fl1) : List Nat := zs.map fun z => z.1
theorem fls_of {gs : List Nat} : ∀ {ys : List D}, (∀ y ∈ ys, ∃ j ts, gs[j]? = some ts.length ∧ things ts ∧ y = D.tup [.int (j : Nat), .tup ts]) → ∃ zs : List Fl1, ys = zs.map fD ∧ FlOk gs zs
  | [], _ => ⟨[], rfl, ⟨fun _ h => nomatch h⟩⟩
  | y :: ys, h => by
    obtain ⟨j, ts, h1, h2, rfl⟩ := h y (List.mem_cons_self ..)
    obtain ⟨zs, rfl, ok⟩ := fls_of fun z hz => h z (List.mem_cons_of_mem _ hz)
    exact ⟨(j, ts) :: zs, rfl, ⟨fun z hz => by
      rcases List.mem_cons.mp hz with rfl | hz
      · exact ⟨h1, h2⟩
      · exact ok.l z hz⟩⟩
theorem rowsN_mem {s : Nat} : ∀ {k : Nat} {r : List Nat}, r.length = k → (∀ x ∈ r, x < s) → r ∈ rowsN s k := by
  intro k
  induction k with
  | zero => intro r h _; simp [rowsN, List.length_eq_zero_iff.mp h]
  | succ k ih =>
    intro r h hx
    have hne : r ≠ [] := by intro e; rw [e] at h; simp at h
    have e : r = r.dropLast ++ [r.getLast hne] := (List.dropLast_concat_getLast hne).symm
    rw [e]
    simp only [rowsN, List.mem_flatMap, List.mem_map, List.mem_range]
    refine ⟨r.dropLast, ih (by simp [h]) (fun x hm => hx x (List.dropLast_subset r hm)), r.getLast hne, hx _ (List.getLast_mem hne), rfl⟩
theorem into_mem {ps : List Nat} {s i : Nat} {r : List Nat} (h1 : ps[i]? = some r.length) (h2 : ∀ x ∈ r, x < s) : (i, r) ∈ intoN ps s := by
  simp only [intoN, List.mem_flatMap, List.mem_map]
  exact ⟨(r.length, i), List.mk_mem_zipIdx_iff_getElem?.mpr h1, r, rowsN_mem rfl h2, rfl⟩
/-- all holders of one or two shapes with at most three places -/
def smallPs : List (List Nat) := (List.range 4).flatMap fun a => [a] :: (List.range 4).map fun b => [a, b]
def numOk (ps : List Nat) (s : Nat) : Bool := (intoN ps s).all fun q => (match methV .index (.lst ((intoN ps s).map rowT)) (rowT q) with | .ok d => D.same d (.int (numN ps s q.1 q.2 : Nat)) | _ => false) && decide ((intoN ps s)[numN ps s q.1 q.2]? = some q)
theorem nums_ok : (smallPs.all fun ps => numOk ps 1 && numOk ps 2) = true := by decide +kernel
theorem int_same {d : D} {i : Int} (h : D.same d (.int i) = true) : d = .int i := by
  cases d <;> simp [D.same] at h
  rw [h]
theorem small_mem {ps : List Nat} (h0 : 0 < ps.length) (h1 : ps.length ≤ 2) (h2 : ∀ p ∈ ps, p ≤ 3) : ps ∈ smallPs := by
  match ps, h0, h1, h2 with
  | [a], _, _, h2 =>
    have := h2 a (by simp)
    simp only [smallPs, List.mem_flatMap, List.mem_range]
    exact ⟨a, by omega, by simp⟩
  | [a, b], _, _, h2 =>
    have := h2 a (by simp)
    have := h2 b (by simp)
    simp only [smallPs, List.mem_flatMap, List.mem_range]
    exact ⟨a, by omega, by simp; omega⟩
  | _ :: _ :: _ :: _, _, h1, _ => simp at h1
theorem num_at {ps : List Nat} {s i : Nat} {r : List Nat} (h0 : 0 < ps.length) (h1 : ps.length ≤ 2) (h2 : ∀ p ∈ ps, p ≤ 3) (hs : s = 1 ∨ s = 2) (e : ps[i]? = some r.length) (hx : ∀ x ∈ r, x < s) :
    methV .index (.lst ((intoN ps s).map rowT)) (.tup [.int (i : Nat), .tup (r.map nD)]) = .ok (.int (numN ps s i r : Nat)) ∧ (intoN ps s)[numN ps s i r]? = some (i, r) := by
  have h := List.all_eq_true.mp nums_ok ps (small_mem h0 h1 h2)
  simp only [Bool.and_eq_true] at h
  have h' : numOk ps s = true := by
    rcases hs with rfl | rfl
    · exact h.1
    · exact h.2
  have := List.all_eq_true.mp h' (i, r) (into_mem e hx)
  simp only [Bool.and_eq_true, decide_eq_true_eq] at this
  obtain ⟨a, b⟩ := this
  refine ⟨?_, b⟩
  split at a
  · rename_i d hd
    have := int_same a
    subst this
    exact hd
  · cases a
theorem preN_marks {gs : List Nat} : ∀ (zs : List Fl1), FlOk gs zs → ∀ k, preN gs (idxL zs) k = (marksL (zs.take k)).length := fun zs ok k => by
  have key : ∀ l : List Fl1, (∀ z ∈ l, z ∈ zs) → ((idxL l).map fun j => gs.getD j 0).sum = (marksL l).length := fun l hl => by
    induction l with
    | nil => rfl
    | cons z l ih =>
      have h1 := (ok.l z (hl z (List.mem_cons_self ..))).1
      have h2 := ih fun y hy => hl y (List.mem_cons_of_mem _ hy)
      simp only [idxL, marksL, List.map_cons, List.sum_cons, List.flatMap_cons, List.length_append] at h2 ⊢
      rw [h2, getD_of h1]
  rw [preN, idxL, ← List.map_take]
  exact key _ fun z hz => List.mem_of_mem_take hz
theorem slice_at {zs : List Fl1} {k : Nat} {z : Fl1} (h : zs[k]? = some z) : ((marksL zs).drop (marksL (zs.take k)).length).take z.2.length = z.2 := by
  have hk := (List.getElem?_eq_some_iff.mp h).1
  have e : zs = zs.take k ++ z :: zs.drop (k + 1) := by
    rw [← (List.getElem?_eq_some_iff.mp h).2, List.getElem_cons_drop, List.take_append_drop]
  have e2 : marksL zs = marksL (zs.take k) ++ (z.2 ++ marksL (zs.drop (k + 1))) := by
    rw [show marksL zs = marksL (zs.take k ++ z :: zs.drop (k + 1)) from by rw [← e]]
    simp only [marksL, List.flatMap_append, List.flatMap_cons]
  rw [e2, List.drop_left, List.take_left]
theorem flok_idx {gs : List Nat} {zs : List Fl1} (ok : FlOk gs zs) : ∀ x ∈ idxL zs, x < gs.length := fun x hx => by
  obtain ⟨z, hz, rfl⟩ := List.mem_map.mp hx
  exact (List.getElem?_eq_some_iff.mp (ok.l z hz).1).1
theorem flok_things {gs : List Nat} {zs : List Fl1} (ok : FlOk gs zs) : things (marksL zs) := fun t ht => by
  simp only [marksL, List.mem_flatMap] at ht
  obtain ⟨z, hz, ht⟩ := ht
  exact (ok.l z hz).2 t ht
theorem flok_size {gs : List Nat} {zs : List Fl1} {i : Nat} (ok : FlOk gs zs) : sizeN gs (i, idxL zs) = (marksL zs).length := by
  have := preN_marks zs ok zs.length
  rw [List.take_length] at this
  rw [← this, preN, show (idxL zs).take zs.length = idxL zs from by rw [List.take_of_length_le (by simp [idxL])]]
  rfl
theorem cut_mid {xs : List D} {a b : Nat} (h : a + b ≤ xs.length) : cut xs (some ((a : Nat) : Int)) (some (((a + b : Nat)) : Int)) = (xs.drop a).take b := by
  have e1 : bnd xs.length 0 (some ((a : Nat) : Int)) = a := by
    have : ¬ ((a : Nat) : Int) < 0 := by omega
    simp only [bnd, if_neg this]
    rw [Int.toNat_natCast]
    omega
  have e2 : bnd xs.length xs.length (some ((a + b : Nat) : Int)) = a + b := by
    have : ¬ ((a + b : Nat) : Int) < 0 := by omega
    simp only [bnd, if_neg this]
    rw [Int.toNat_natCast]
    omega
  rw [cut, e1, e2]
  congr 1
  omega
section
variable {n : Nat} {th : M D} {E : Nat → D → Prop}
theorem fl_fill {gs : List Nat} {zs : List Fl1} (ok : FlOk gs zs) {z : Fl1} (hz : z ∈ zs) (hl : ∀ z ∈ zs, z.2.length ≤ 12) : D.fit 5 (fD z) = true ∧ isFill (gs.map nD) (fD z) = true := by
  obtain ⟨h1, h2⟩ := ok.l z hz
  exact ⟨by simp only [fD, D.fit, D.fits, Bool.and_true]; exact things_fit h2, isFill_of h1 rfl h2⟩
theorem run423k {ps gs : List Nat} {i : Nat} {zs : List Fl1} (ib : IB ps gs) (hi : ps[i]? = some zs.length) (ok : FlOk gs zs) : run TT (n + 7) 423 th [hol ps, hol gs, .int (i : Nat), .tup (zs.map fD)] = .ok (.tup [.int (numN ps gs.length i (idxL zs) : Nat), .tup (marksL zs)]) := by
  rw [run_def (show TT 423 = some f423 from rfl) _ _ rfl]
  have hl12 : ∀ z ∈ zs, z.2.length ≤ 12 := fun z hz => by
    have := ib.g.p _ (List.mem_of_getElem? (ok.l z hz).1)
    omega
  have hz12 : zs.length ≤ 12 := ib.p.p _ (List.mem_of_getElem? hi)
  have e1 := need_hold (n := n + 3) (th := .stuck) ib.p
  have e2 := need_hold (n := n + 3) (th := .stuck) ib.g
  have hlt := (List.getElem?_eq_some_iff.mp hi).1
  have e3 := run3 (n := n + 4) (th := .stuck) (d := .int (i : Nat)) (ps.length : Nat) rfl rfl
  rw [idx_in hlt] at e3
  simp at e3
  have ex : idxV (hol ps) (.int (i : Nat)) = .ok (.int (zs.length : Nat)) := idx_hol hi
  have e4 : ∀ z ∈ zs, run TT (n + 6) 10 .stuck [hol gs, fD z] = .ok (fD z) := fun z hz => by
    obtain ⟨a, b⟩ := fl_fill ok hz hl12
    have := run10 (n := n + 1) (th := .stuck) (hs := gs.map nD) hold_ints a
    rw [b] at this
    exact this
  have e5 := run416 (n := n + 2) (th := .stuck) ib
  have e6 := run417 (n := n + 4) (th := .stuck) (ps := ps) (r := idxL zs) (s := gs.length) (i := i) ib.p.p (by have := ib.g.l; omega) (by omega)
  simp only [f423, enter]
  simp [ev_var, hol_len, e1, e2, e3, ex]
  obtain ⟨e', ⟨o, rfl⟩, h⟩ := for_J (turn := fun x env => match asg (.v 4) x env with
    | some env' => exS (run TT (n + 6)) th (S.expr (E.call 10 (E.cons (E.var 1) (E.cons (E.var 4) E.nil))) S.done) env'
    | none => .stuck) (fun e => ∃ o, e = [some (hol ps, false), some (hol gs, false), some (.int (i : Nat), false), some (.tup (zs.map fD), false), o, none, none, none]) (zs.map fD) [] _ ⟨none, rfl⟩ (fun x hx e he => by
      obtain ⟨o, rfl⟩ := he
      obtain ⟨z, hz, rfl⟩ := List.mem_map.mp hx
      exact ⟨[some (hol ps, false), some (hol gs, false), some (.int (i : Nat), false), some (.tup (zs.map fD), false), some (fD z, false), none, none, none], by simp [ev_var, e4 z hz], _, rfl⟩)
  simp [ev_var] at h
  rw [h]
  simp [forL, ev_var, e5]
  rw [comp_map fD (fun z => D.int (z.1 : Nat)) zs]
  rotate_left
  · intro z hz
    simp [ev_var, fD, idxV, atD]
  simp
  rw [comp2_ev fD (fun _ b => b) (fun z => z.2) (fun _ b => b) zs]
  rotate_left
  · simp [ev_var]
  · refine Nat.le_trans (show _ ≤ 144 from ?_) (by unfold LIM; omega)
    rw [List.length_flatMap]
    refine Nat.le_trans (sum_le_mul (m := 12) fun x hx => ?_) ?_
    · obtain ⟨z, hz, rfl⟩ := List.mem_map.mp hx
      exact hl12 z hz
    · rw [List.length_map]
      exact Nat.mul_le_mul_right 12 hz12
  · intro z hz
    exact ⟨_, rfl, by simp [ev_var, fD, idxV, atD], fun b hb => ⟨_, rfl, by simp [ev_var]⟩⟩
  have er : zs.map (fun z => D.int (z.1 : Nat)) = (idxL zs).map nD := by simp [idxL, Function.comp_def]
  simp only [ok_bind]
  rw [er]
  simp [ev_var, hol_len, e6, marksL]
end
end Cl.Q
set_option autoImplicit false
set_option linter.all false
set_option maxRecDepth 100000
set_option maxHeartbeats 4000000
namespace Cl.Q
section
variable {n : Nat} {th : M D} {E : Nat → D → Prop}
theorem flat_sing {α : Type} (f : α → D) (xs : List α) : (xs.flatMap fun a => [f a]) = xs.map f := by
  induction xs with
  | nil => rfl
  | cons x xs ih => simp [List.flatMap_cons, ih]
theorem zip_fls {gs : List Nat} {zs : List Fl1} (ok : FlOk gs zs) : walkV .zip (.tup [.tup ((idxL zs).map nD), .lst ((List.range (idxL zs).length).map fun k => nD (preN gs (idxL zs) k))]) = .ok ((List.range zs.length).map fun k => D.tup [.int ((zs.getD k (0, [])).1 : Nat), .int (preN gs (idxL zs) k : Nat)]) := by
  rw [walkV]
  congr 1
  apply List.ext_getElem?
  intro k
  have hl : (idxL zs).length = zs.length := by simp [idxL]
  by_cases hk : k < zs.length
  · have ea : ((idxL zs).map nD)[k]? = some (nD (zs.getD k (0, [])).1) := by
      rw [List.getElem?_map, idxL, List.getElem?_map, List.getElem?_eq_getElem hk, List.getD_eq_getElem?_getD, List.getElem?_eq_getElem hk]
      rfl
    have eb : ((List.range (idxL zs).length).map fun k => nD (preN gs (idxL zs) k))[k]? = some (nD (preN gs (idxL zs) k)) := by
      rw [List.getElem?_map, List.getElem?_range (by omega)]
      rfl
    have ec : (((idxL zs).map nD).zip ((List.range (idxL zs).length).map fun k => nD (preN gs (idxL zs) k)))[k]? = some (nD (zs.getD k (0, [])).1, nD (preN gs (idxL zs) k)) := List.getElem?_zip_eq_some.mpr ⟨ea, eb⟩
    rw [List.getElem?_map, List.getElem?_map, List.getElem?_range hk, ec]
    rfl
  · rw [List.getElem?_eq_none_iff.mpr (by simp [hl]; omega), List.getElem?_eq_none_iff.mpr (by simp; omega)]
theorem run424k {ps gs : List Nat} {i m : Nat} {zs : List Fl1} (ib : IB ps gs) (hi : ps[i]? = some zs.length) (ok : FlOk gs zs) (hm : (intoN ps gs.length)[m]? = some (i, idxL zs)) : run TT (n + 3) 424 th [hol ps, hol gs, .tup [.int (m : Nat), .tup (marksL zs)]] = .ok (.tup [.int (i : Nat), .tup (zs.map fD)]) := by
  rw [run_def (show TT 424 = some f424 from rfl) _ _ rfl]
  have hz12 : zs.length ≤ 12 := ib.p.p _ (List.mem_of_getElem? hi)
  have e1 := run414 (n := n) (th := .stuck) ib.p ib.g (Nat.le_trans ib.c (by omega))
  have e2 := run418 (n := n + 1) (th := .stuck) (flok_idx ok) (by simp [idxL]; omega)
  have ex : idxV (.lst ((intoN ps gs.length).map rowT)) (.int (m : Nat)) = .ok (.tup [.int (i : Nat), .tup ((idxL zs).map nD)]) := idx_lst (by rw [List.getElem?_map, hm]; rfl)
  have p0 : ∀ a b : D, idxV (.tup [a, b]) (.int 0) = .ok a := fun _ _ => rfl
  have p1 : ∀ a b : D, idxV (.tup [a, b]) (.int 1) = .ok b := fun _ _ => rfl
  simp only [f424, enter]
  simp [ev_var, e1, p0, ex]
  rw [e2]
  simp only [ok_bind, tupD_tup]
  rw [zip_fls ok]
  simp only [ok_bind]
  rw [for_rows (fun k : Nat => D.tup [.int ((zs.getD k (0, [])).1 : Nat), .int (preN gs (idxL zs) k : Nat)]) (fun acc => [some (hol ps, false), some (hol gs, false), some (.tup [.int (m : Nat), .tup (marksL zs)], false), some (.int (i : Nat), false), some (.tup ((idxL zs).map nD), false), some (.lst acc, true), none, none]) (fun k => [fD (zs.getD k (0, []))]) 12 (List.range zs.length) []]
  · have ez : (List.range zs.length).flatMap (fun k => [fD (zs.getD k (0, []))]) = zs.map fD := by
      rw [flat_sing]
      apply List.ext_getElem?
      intro k
      by_cases hk : k < zs.length
      · rw [List.getElem?_map, List.getElem?_map, List.getElem?_range hk, List.getElem?_eq_getElem hk, Option.map_some, Option.map_some, List.getD_eq_getElem?_getD, List.getElem?_eq_getElem hk]
        rfl
      · rw [List.getElem?_eq_none_iff.mpr (by simp; omega), List.getElem?_eq_none_iff.mpr (by simp; omega)]
    rw [List.nil_append, ez]
    simp [ev_var, ev_bor]
  · rw [List.nil_append, flat_sing, List.length_map, List.length_range]
    exact hz12
  · intro k hk acc hacc
    have hk := List.mem_range.mp hk
    have ez : zs[k]? = some (zs.getD k (0, [])) := by rw [List.getD_eq_getElem?_getD, List.getElem?_eq_getElem hk]; rfl
    have hz : zs.getD k (0, []) ∈ zs := List.mem_of_getElem? ez
    have hs := slice_at ez
    have hp := preN_marks zs ok k
    have ht : preN gs (idxL zs) k + (zs.getD k (0, [])).2.length ≤ (marksL zs).length := by
      rw [hp]
      have e : zs = zs.take k ++ zs.getD k (0, []) :: zs.drop (k + 1) := by
        have := (List.getElem?_eq_some_iff.mp ez).2
        rw [← this, List.getElem_cons_drop, List.take_append_drop]
      have e2 : marksL zs = marksL (zs.take k) ++ ((zs.getD k (0, [])).2 ++ marksL (zs.drop (k + 1))) := by
        rw [show marksL zs = marksL (zs.take k ++ zs.getD k (0, []) :: zs.drop (k + 1)) from by rw [← e]]
        simp only [marksL, List.flatMap_append, List.flatMap_cons]
      rw [e2]
      simp
    generalize zs.getD k (0, []) = z at *
    have hg := (ok.l z hz).1
    have eg : idxV (hol gs) (.int (z.1 : Nat)) = .ok (.int (z.2.length : Nat)) := idx_hol hg
    have lim : acc.length < LIM := by
      rw [List.length_append] at hacc
      unfold LIM
      simp at hacc
      omega
    have ec : cut (marksL zs) (some ((preN gs (idxL zs) k : Nat) : Int)) (some (((preN gs (idxL zs) k : Nat) : Int) + ((z.2.length : Nat) : Int))) = z.2 := by
      have := cut_mid (xs := marksL zs) ht
      rw [hp] at this ⊢
      rw [hs] at this
      simpa using this
    simp [ev_var, p1, eg, lim, ev_slc_b, asI, slcV, ec, fD]
theorem run425k {ps gs : List Nat} {i m : Nat} {zs : List Fl1} (ib : IB ps gs) (hi : ps[i]? = some zs.length) (ok : FlOk gs zs) (hm : (intoN ps gs.length)[m]? = some (i, idxL zs)) : run TT (n + 7) 425 th [hol ps, hol gs, .tup [.int (m : Nat), .tup (marksL zs)]] = .ok (.tup [.int (i : Nat), .tup (zs.map fD)]) := by
  rw [run_def (show TT 425 = some f425 from rfl) _ _ rfl]
  have e1 := need_hold (n := n + 3) (th := .stuck) ib.p
  have e2 := need_hold (n := n + 3) (th := .stuck) ib.g
  have e3 := run416 (n := n + 2) (th := .stuck) ib
  have ms : (intoH ps gs)[m]? = some (marksL zs).length := by
    rw [intoH, List.getElem?_map, hm, ← flok_size (i := i) ok]
    rfl
  have hv : D.fit 5 (.tup [.int (m : Nat), .tup (marksL zs)]) = true := by
    simp only [D.fit, D.fits, Bool.and_true]
    exact things_fit (flok_things ok)
  have e4 := run10 (n := n + 1) (th := .stuck) (hs := (intoH ps gs).map nD) hold_ints hv
  rw [isFill_of ms rfl (flok_things ok)] at e4
  simp at e4
  have e4' : run TT (n + 6) 10 .stuck [hol (intoH ps gs), .tup [.int (m : Nat), .tup (marksL zs)]] = .ok (.tup [.int (m : Nat), .tup (marksL zs)]) := e4
  have e5 := run424k (n := n + 3) (th := .stuck) ib hi ok hm
  simp only [f425, enter]
  simp [ev_var, e1, e2, e3, e4', e5]
theorem fls_rok {zs : List Fl1} {i : Nat} (hi : i ≤ 1000) (hl : zs.length ≤ 12) (h : ∀ z ∈ zs, things z.2 ∧ z.2.length ≤ 12 ∧ z.1 ≤ 100) : Rok (.tup [.int (i : Nat), .tup (zs.map fD)]) := by
  obtain ⟨a, b, c⟩ := fil_rows (xs := zs.map fD) fun x hx => by
    obtain ⟨z, hz, rfl⟩ := List.mem_map.mp hx
    obtain ⟨h1, h2, h3⟩ := h z hz
    exact fil_of h3 h1 h2
  refine ⟨?_, ?_, ?_⟩
  · simp only [D.fit, D.fits, Bool.and_true, Bool.true_and]
    exact fits_up (by omega) a
  · simp only [D.low, D.lows, Bool.and_true, Bool.and_eq_true]
    exact ⟨(ask_nat hi).l, b⟩
  · simp only [D.wid, D.wids]
    rw [List.length_map] at c
    have := Nat.mul_le_mul_left 8002 hl
    omega
theorem wp430 : W (run TT (n + 8) 430 th [.st]) (fun d => d = .bl true) E := by
  rw [run_def (show TT 430 = some f430 from rfl) _ _ rfl]
  simp only [f430, enter]
  simp [ev_var]
  refine wp23 (n := n + 6) (a := 2) (b := 3) (by omega) (by omega) fun ps p0 pl pp => ?_
  refine wp23 (n := n + 6) (a := 2) (b := 3) (by omega) (by omega) fun gs g0 gl gp => ?_
  have ib : IB ps gs := ib_of (a := 2) (b := 3) (c := 2) (d := 3) pl pp gl gp (by omega) (by omega) (by omega) (by omega) (by omega) (by omega)
  simp [ev_var, hol_len]
  refine wp_drawD (by omega) (Int.le_trans (show ((ps.length : Nat) : Int) ≤ 2 by omega) (by decide +kernel)) fun i hi => ?_
  have hi' : i < ps.length := by omega
  have ei : ps[i]? = some ps[i] := List.getElem?_eq_getElem hi'
  have pw := pp _ (List.getElem_mem hi')
  generalize ps[i] = w at ei pw
  have ex : idxV (hol ps) (.int (i : Nat)) = .ok (.int (w : Nat)) := idx_hol ei
  have em : opV .add (.int MT) (.int 1) = .ok (.int (MT + 1)) := rfl
  simp [ev_var, ex, walk_rng w (by omega), pow60, em]
  refine comp_W (P := fun y => ∃ j ts, gs[j]? = some ts.length ∧ things ts ∧ y = D.tup [.int (j : Nat), .tup ts]) _ (fun x hx => ?_) fun ys hl hy => ?_
  · simp [ev_var, pow60, em]
    refine wp273 (n := n + 6) ib.g g0 fun j p ts h1 h2 h3 => ?_
    subst h2
    simp
    exact ⟨j, ts, h1, h3, rfl, rfl⟩
  obtain ⟨zs, rfl, ok⟩ := fls_of hy
  have zl : zs.length = w := by simpa using hl
  subst zl
  have hl12 : ∀ z ∈ zs, z.2.length ≤ 3 := fun z hz => gp _ (List.mem_of_getElem? (ok.l z hz).1)
  have hl12' : ∀ z ∈ zs, z.2.length ≤ 12 := fun z hz => by have := hl12 z hz; omega
  have sl : gs.length = 1 ∨ gs.length = 2 := by omega
  have hx := flok_idx ok
  have ei' : ps[i]? = some (idxL zs).length := by rw [ei]; simp [idxL]
  obtain ⟨n1, n2⟩ := num_at p0 pl pp sl ei' hx
  have mt := flok_things ok
  have ms : (marksL zs).length ≤ 9 := by
    rw [marksL, List.length_flatMap]
    refine Nat.le_trans (sum_le_mul (m := 3) fun x hx => ?_) ?_
    · obtain ⟨z, hz, rfl⟩ := List.mem_map.mp hx
      exact hl12 z hz
    · rw [List.length_map]
      exact Nat.mul_le_mul_right 3 pw
  have r1 := run426 (n := n + 5) (th := .stuck) ib.p ib.g (Nat.le_trans ib.c (by omega))
  have r2 := run423k (n := n) (th := .stuck) ib ei ok
  have r3 := run425k (n := n) (th := .stuck) ib ei ok n2
  have nl : numN ps gs.length i (idxL zs) < 60 := by
    have := (List.getElem?_eq_some_iff.mp n2).1
    rw [into_len] at this
    have := ib.c
    omega
  have k1 := run27 (n := n + 6) (th := .stuck) (rok_fil (fil_of (i := numN ps gs.length i (idxL zs)) (by omega) mt (by omega)))
  have k2 := run27 (n := n + 6) (th := .stuck) (fls_rok (zs := zs) (i := i) (by omega) (by omega) fun z hz => ⟨(ok.l z hz).2, hl12' z hz, by have := (List.getElem?_eq_some_iff.mp (ok.l z hz).1).1; omega⟩)
  rw [comp_map fD (fun z => D.int (z.1 : Nat)) zs (fun z hz => by simp [fD, idxV, atD])]
  simp only [W_ok]
  rw [for_rows fD (fun acc => [some (.st, false), some (hol ps, false), some (hol gs, false), some (.int (i : Nat), false), some (.tup (zs.map fD), false), none, some (.tup (zs.map fun z => D.int (z.1 : Nat)), false), some (.tup acc, false), none, none]) (fun z => z.2) 9 zs []]
  rotate_left
  · exact ms
  · intro z hz acc hacc
    have e : opV .add (.tup acc) (.tup z.2) = .ok (.tup (acc ++ z.2)) := op_tadd _ _ (by
      rw [List.length_append] at hacc
      unfold LIM
      omega)
    have e1 : idxV (fD z) (.int 1) = .ok (.tup z.2) := rfl
    simp [ev_var, e1, e]
  have er : zs.map (fun z => D.int (z.1 : Nat)) = (idxL zs).map nD := by simp [idxL, Function.comp_def]
  rw [er]
  rw [show ([] ++ zs.flatMap fun z => z.2) = marksL zs from rfl]
  simp [ev_var, r1, n1, r2, k1, r3, k2]
end
end Cl.Q
set_option autoImplicit false
set_option linter.all false
set_option maxRecDepth 100000
set_option maxHeartbeats 4000000
namespace Cl.Q
theorem sum_mulr {α : Type} (f : α → Nat) (c : Nat) : ∀ l : List α, (l.map fun a => f a * c).sum = (l.map f).sum * c
  | [] => by simp
  | a :: l => by rw [List.map_cons, List.sum_cons, List.map_cons, List.sum_cons, sum_mulr f c l, Nat.add_mul]
theorem sum_mull {α : Type} (f : α → Nat) (c : Nat) : ∀ l : List α, (l.map fun a => c * f a).sum = c * (l.map f).sum
  | [] => by simp
  | a :: l => by rw [List.map_cons, List.sum_cons, List.map_cons, List.sum_cons, sum_mull f c l, Nat.mul_add]
theorem sum_flat {α β : Type} (f : α → List β) (g : β → Nat) : ∀ l : List α, ((l.flatMap f).map g).sum = (l.map fun a => ((f a).map g).sum).sum
  | [] => rfl
  | a :: l => by rw [List.flatMap_cons, List.map_append, List.sum_append, sum_flat f g l, List.map_cons, List.sum_cons]
theorem range_fill (gs : List Nat) (x : Nat) : ((List.range gs.length).map fun t => x ^ gs.getD t 0).sum = fillN gs x := by
  unfold fillN
  congr 1
  apply List.ext_getElem?
  intro i
  by_cases h : i < gs.length
  · rw [List.getElem?_map, List.getElem?_map, List.getElem?_range h, List.getElem?_eq_getElem h, Option.map_some, Option.map_some, List.getD_eq_getElem?_getD, List.getElem?_eq_getElem h]
    rfl
  · rw [List.getElem?_eq_none_iff.mpr (by simp; omega), List.getElem?_eq_none_iff.mpr (by simp; omega)]
theorem rows_pow (gs : List Nat) (x : Nat) : ∀ k, ((rowsN gs.length k).map fun r => x ^ (r.map fun j => gs.getD j 0).sum).sum = fillN gs x ^ k
  | 0 => by simp [rowsN]
  | k + 1 => by
    rw [rowsN, sum_flat]
    have e : ∀ r : List Nat, (((List.range gs.length).map fun t => r ++ [t]).map fun r => x ^ (r.map fun j => gs.getD j 0).sum).sum = x ^ (r.map fun j => gs.getD j 0).sum * fillN gs x := fun r => by
      rw [List.map_map, ← range_fill gs x, ← sum_mull]
      congr 1
      refine List.map_congr_left fun t _ => ?_
      simp [Nat.pow_add]
    simp only [e]
    rw [sum_mulr, rows_pow gs x k, Nat.pow_succ]
theorem fill_into (ps gs : List Nat) (x : Nat) : fillN (intoH ps gs) x = fillN ps (fillN gs x) := by
  rw [fillN, intoH, List.map_map, intoN, sum_flat]
  have e : ∀ q : Nat × Nat, ((((rowsN gs.length q.1).map fun r => (q.2, r)).map ((fun p => x ^ p) ∘ sizeN gs)).sum) = fillN gs x ^ q.1 := fun q => by
    rw [List.map_map, ← rows_pow gs x q.1]
    rfl
  simp only [e]
  rw [fillN]
  congr 1
  have : ∀ (l : List Nat) (i : Nat), (l.zipIdx i).map (fun q => fillN gs x ^ q.1) = l.map fun p => fillN gs x ^ p := fun l => by
    induction l with
    | nil => intro i; rfl
    | cons a l ih => intro i; simp [ih]
  exact this ps 0
/-- holders of at most two shapes with at most two places -/
def tinyPs : List (List Nat) := [] :: (List.range 3).flatMap fun a => [a] :: (List.range 3).map fun b => [a, b]
def atOk (ps : List Nat) (s : Nat) : Bool := (intoN ps s).zipIdx.all fun q => decide (numN ps s q.1.1 q.1.2 = q.2)
theorem ats_ok : (tinyPs.all fun ps => (List.range 4).all fun s => atOk ps s) = true := by decide +kernel
theorem tiny_mem {ps : List Nat} (h1 : ps.length ≤ 2) (h2 : ∀ p ∈ ps, p ≤ 2) : ps ∈ tinyPs := by
  match ps, h1, h2 with
  | [], _, _ => simp [tinyPs]
  | [a], _, h2 =>
    have := h2 a (by simp)
    refine List.mem_cons_of_mem _ ?_
    simp only [List.mem_flatMap, List.mem_range]
    exact ⟨a, by omega, by simp⟩
  | [a, b], _, h2 =>
    have := h2 a (by simp)
    have := h2 b (by simp)
    refine List.mem_cons_of_mem _ ?_
    simp only [List.mem_flatMap, List.mem_range]
    exact ⟨a, by omega, by simp; omega⟩
  | _ :: _ :: _ :: _, h1, _ => simp at h1
theorem at_num {ps : List Nat} {s k : Nat} {q : Nat × List Nat} (h1 : ps.length ≤ 2) (h2 : ∀ p ∈ ps, p ≤ 2) (hs : s ≤ 3) (h : (intoN ps s)[k]? = some q) : numN ps s q.1 q.2 = k := by
  have a := List.all_eq_true.mp ats_ok ps (tiny_mem h1 h2)
  have b := List.all_eq_true.mp a s (List.mem_range.mpr (by omega))
  have c := List.all_eq_true.mp b (q, k) (List.mk_mem_zipIdx_iff_getElem?.mpr h)
  simpa using c
theorem const_map' {α : Type} {turn : D → Env → M (Env × Fl)} {env : Env} (g : α → D) (xs : List α) (h : ∀ a ∈ xs, turn (g a) env = .ok (env, .nx)) : forL turn (xs.map g) env = .ok (env, .nx) := for_const _ fun x hx => by
  obtain ⟨a, ha, rfl⟩ := List.mem_map.mp hx
  exact h a ha
section
variable {n : Nat} {th : M D} {Q : D → Prop} {E : Nat → D → Prop}
theorem mul_big {a j : Nat} (ha : a < 2 ^ 1300) (hj : j ≤ 12) : opV .mul (.int ((a ^ j : Nat) : Int)) (.int (a : Nat)) = .ok (.int ((a ^ (j + 1) : Nat) : Int)) := by
  have h1 : a ^ j < 2 ^ 15601 := by
    refine Nat.lt_of_le_of_lt (Nat.pow_le_pow_left (Nat.le_of_lt ha) j) ?_
    rw [← Nat.pow_mul]
    exact Nat.pow_lt_pow_right (by omega) (by omega)
  have c1 : a ^ j < 2 ^ MULB := Nat.lt_of_lt_of_le h1 (Nat.pow_le_pow_right (by omega) (by decide))
  have c2 : a < 2 ^ MULB := Nat.lt_of_lt_of_le ha (Nat.pow_le_pow_right (by omega) (by decide))
  rw [op_mul _ _ (.inr (.inr ⟨by rw [Int.natAbs_natCast]; exact c1, by rw [Int.natAbs_natCast]; exact c2⟩)), Nat.pow_succ]
  simp
theorem run244c {a k : Nat} (ha : a < 2 ^ 1300) (hk : k ≤ 12) : run TT (n + 1) 244 th [.int a, .int k] = .ok (.int ((a ^ k : Nat) : Int)) := by
  rw [run_def (show TT 244 = some f244 from rfl) _ _ rfl]
  simp only [f244, enter]
  simp [ev_var, walk_rng k (by omega)]
  rw [show (some (D.int 1, false) : Option (D × Bool)) = some (.int ((a ^ 0 : Nat) : Int), false) by simp, for_ix (fun j => [some (.int a, false), some (.int k, false), some (.int ((a ^ j : Nat) : Int), false), none])]
  · simp [ev_var]
  · intro j x hx
    obtain ⟨hj, rfl⟩ := rngm_get hx
    have e := mul_big (a := a) (j := j) ha (by omega)
    simp only [Int.natCast_pow] at e
    simp [ev_var, e]
theorem run245c {ps : List Nat} {s : Nat} (hs : s < 2 ^ 1300) (hp : ∀ p ∈ ps, p ≤ 12) : run TT (n + 2) 245 th [hol ps, .int s] = .ok (.int (fillN ps s : Nat)) := by
  rw [run_def (show TT 245 = some f245 from rfl) _ _ rfl]
  simp only [f245, enter, hol]
  simp [ev_var]
  rw [comp_map nD (fun p : Nat => D.int ((s ^ p : Nat) : Int)) ps]
  · have e : ps.map (fun p : Nat => D.int ((s ^ p : Nat) : Int)) = ((ps.map fun p => s ^ p).map fun x : Nat => (x : Int)).map D.int := by simp
    rw [e]
    simp only [ok_bind, tupD_tup, primV, items, intL_map, Option.map_some, oM, sum_cast, leave_rt]
    rfl
  · intro p h
    rw [nD_def, run244c hs (hp p h)]
    rfl
theorem run420k {ps gs : List Nat} {i : Nat} {r : List Nat} (hi : ps[i]? = some r.length) (hr : ∀ x ∈ r, x < gs.length) : run TT (n + 3) 420 th [hol ps, hol gs, .int (i : Nat), .tup (r.map nD)] = .ok .non := by
  rw [run_def (show TT 420 = some f420 from rfl) _ _ rfl]
  have hlt := (List.getElem?_eq_some_iff.mp hi).1
  have e1 := run3 (n := n) (th := .stuck) (d := .int (i : Nat)) (ps.length : Nat) rfl rfl
  rw [idx_in hlt] at e1
  simp at e1
  have ex : idxV (hol ps) (.int (i : Nat)) = .ok (.int (r.length : Nat)) := idx_hol hi
  simp only [f420, enter]
  simp [ev_var, hol_len, e1, ex]
  rw [for_const]
  · simp
  · intro x hx
    obtain ⟨j, hj, rfl⟩ := List.mem_map.mp hx
    have e2 := run3 (n := n) (th := .stuck) (d := .int (j : Nat)) (gs.length : Nat) rfl rfl
    rw [idx_in (hr j hj)] at e2
    simp at e2
    simp [ev_var, hol_len, e2]
theorem run421k {ps gs : List Nat} {i : Nat} {r : List Nat} (ib : IB ps gs) (hi : ps[i]? = some r.length) (hr : ∀ x ∈ r, x < gs.length) : run TT (n + 6) 421 th [hol ps, hol gs, .int (i : Nat), .tup (r.map nD)] = .ok (.int (numN ps gs.length i r : Nat)) := by
  rw [run_def (show TT 421 = some f421 from rfl) _ _ rfl]
  have hlt := (List.getElem?_eq_some_iff.mp hi).1
  have e1 := need_hold (n := n + 2) (th := .stuck) ib.p
  have e2 := need_hold (n := n + 2) (th := .stuck) ib.g
  have e3 := run420k (n := n + 2) (th := .stuck) hi hr
  have e4 := run416 (n := n + 1) (th := .stuck) ib
  have e5 := run417 (n := n + 3) (th := .stuck) (ps := ps) (r := r) (s := gs.length) (i := i) ib.p.p (by have := ib.g.l; omega) (by omega)
  simp only [f421, enter]
  simp [ev_var, hol_len, e1, e2, e3, e4, e5]
theorem run422k {ps gs : List Nat} {k : Nat} {q : Nat × List Nat} (ib : IB ps gs) (h : (intoN ps gs.length)[k]? = some q) : run TT (n + 6) 422 th [hol ps, hol gs, .int (k : Nat)] = .ok (rowT q) := by
  rw [run_def (show TT 422 = some f422 from rfl) _ _ rfl]
  have hlt := (List.getElem?_eq_some_iff.mp h).1
  have e1 := need_hold (n := n + 2) (th := .stuck) ib.p
  have e2 := need_hold (n := n + 2) (th := .stuck) ib.g
  have e3 := run414 (n := n + 3) (th := .stuck) ib.p ib.g (Nat.le_trans ib.c (by omega))
  have e4 := run416 (n := n + 1) (th := .stuck) ib
  have e5 := run3 (n := n + 3) (th := .stuck) (d := .int (k : Nat)) ((intoN ps gs.length).length : Nat) rfl rfl
  rw [idx_in hlt] at e5
  simp at e5
  have ex : idxV (.lst ((intoN ps gs.length).map rowT)) (.int (k : Nat)) = .ok (rowT q) := idx_lst (by rw [List.getElem?_map, h]; rfl)
  simp only [f422, enter]
  simp [ev_var, e1, e2, e3, e4, e5, ex]
theorem run422x {ps gs : List Nat} {v : D} (ib : IB ps gs) (hv : D.fit 5 v = true) (h : isFrom v 0 (((intoN ps gs.length).length : Int) - 1) = false) : run TT (n + 6) 422 th [hol ps, hol gs, v] = .exc 12 v := by
  rw [run_def (show TT 422 = some f422 from rfl) _ _ rfl]
  have e1 := need_hold (n := n + 2) (th := .stuck) ib.p
  have e2 := need_hold (n := n + 2) (th := .stuck) ib.g
  have e3 := run414 (n := n + 3) (th := .stuck) ib.p ib.g (Nat.le_trans ib.c (by omega))
  have e4 := run416 (n := n + 1) (th := .stuck) ib
  have e5 := run3 (n := n + 3) (th := .stuck) (d := v) ((intoN ps gs.length).length : Nat) (fit_pure hv) (fit_plain hv)
  rw [h] at e5
  simp at e5
  simp only [f422, enter]
  simp [ev_var, e1, e2, e3, e4, e5]
theorem rok_hol {ps : List Nat} (h : HolOk ps) : Rok (hol ps) := by
  have ht : things (ps.map nD) := things_nat fun k hm => Nat.le_trans (h.p k hm) (by decide +kernel)
  refine ⟨hol_fit, things_low ht, ?_⟩
  have := h.l
  simp only [hol, D.wid, things_wid ht, List.length_map]
  omega
theorem run429 {ps gs : List Nat} (h1 : ps.length ≤ 2) (h2 : ∀ p ∈ ps, p ≤ 2) (h3 : gs.length ≤ 3) (h4 : ∀ p ∈ gs, p ≤ 3) : run TT (n + 8) 429 th [hol ps, hol gs] = .ok (.bl true) := by
  rw [run_def (show TT 429 = some f429 from rfl) _ _ rfl]
  have ib : IB ps gs := ib_of (a := 2) (b := 2) (c := 3) (d := 3) h1 h2 h3 h4 (by omega) (by omega) (by omega) (by omega) (by omega) (by omega)
  have ho := intoH_ok ib
  have hc : fillN ps gs.length ≤ 400 := Nat.le_trans ib.c (by omega)
  have e1 := run427 (n := n + 4) (th := .stuck) ib.p ib.g hc
  have e2 := run419 (n := n + 2) (th := .stuck) ib
  have e3 := run27 (n := n + 6) (th := .stuck) (rok_hol ho)
  have e4 := run426 (n := n + 5) (th := .stuck) ib.p ib.g hc
  have S : Int := 100000000000000000003
  have ep : opV .pow (.int 10) (.int 20) = .ok (.int 100000000000000000000) := rfl
  have e5 : ∀ s : Nat, s ≤ 10 ^ 30 → run TT (n + 7) 27 .stuck [.int (fillN (intoH ps gs) s : Nat), .int (fillN ps (fillN gs s) : Nat)] = .ok (.bl true) := fun s hs => by
    rw [← fill_into]
    refine run27 (n := n + 6) ⟨rfl, ?_, by simp [D.wid]⟩
    have := fill_small ho hs
    simp only [D.low, decide_eq_true_eq]
    rw [Int.natAbs_natCast]
    exact Nat.lt_of_le_of_lt this (by decide +kernel)
  have e6 : ∀ s : Nat, s ≤ 10 ^ 30 → run TT (n + 7) 7 .stuck [hol (intoH ps gs), .int (s : Nat)] = .ok (.int (fillN (intoH ps gs) s : Nat)) := fun s hs => run7b (n := n + 3) ho (Nat.le_trans hs (by decide +kernel))
  have e7 : ∀ s : Nat, s ≤ 10 ^ 30 → run TT (n + 7) 245 .stuck [hol gs, .int (s : Nat)] = .ok (.int (fillN gs s : Nat)) := fun s hs => run245 (n := n + 5) (Nat.le_trans hs (by decide +kernel)) ib.g.p
  have e8 : ∀ s : Nat, s ≤ 10 ^ 30 → run TT (n + 7) 245 .stuck [hol ps, .int (fillN gs s : Nat)] = .ok (.int (fillN ps (fillN gs s) : Nat)) := fun s hs => run245c (n := n + 5) (by
    exact Nat.lt_of_le_of_lt (fill_small ib.g hs) (by decide +kernel)) ib.p.p
  simp only [f429, enter]
  simp [ev_var, e1, e2, e3, ep]
  rw [for_const]
  rotate_left
  · intro x hx
    obtain ⟨s, rfl, hs⟩ : ∃ s : Nat, x = .int (s : Nat) ∧ s ≤ 10 ^ 30 := by
      simp only [List.mem_cons, List.not_mem_nil, or_false] at hx
      rcases hx with rfl | rfl | rfl | rfl | rfl
      · exact ⟨0, rfl, by decide +kernel⟩
      · exact ⟨1, rfl, by decide +kernel⟩
      · exact ⟨2, rfl, by decide +kernel⟩
      · exact ⟨3, rfl, by decide +kernel⟩
      · exact ⟨100000000000000000003, rfl, by decide +kernel⟩
    simp [ev_var, e6 s hs, e7 s hs, e8 s hs, e5 s hs]
  have we : walkV .enum (.tup [.lst ((intoN ps gs.length).map rowT)]) = .ok ((intoN ps gs.length).zipIdx.map fun q => D.tup [.int (q.2 : Nat), rowT q.1]) := by
    have : ∀ (l : List (Nat × List Nat)) (i : Nat), ((l.map rowT).zipIdx i).map (fun p => D.tup [.int (p.2 : Nat), p.1]) = (l.zipIdx i).map fun q => D.tup [.int (q.2 : Nat), rowT q.1] := fun l => by
      induction l with
      | nil => intro i; rfl
      | cons a l ih => intro i; simp [ih]
    exact congrArg M.ok (this _ 0)
  simp [ev_var, e4, we]
  rw [const_map']
  rotate_left
  · rintro ⟨q, k⟩ hm
    have hq : (intoN ps gs.length)[k]? = some q := List.mk_mem_zipIdx_iff_getElem?.mp hm
    obtain ⟨a1, a2⟩ := into_in (List.mem_of_getElem? hq)
    have hk := (List.getElem?_eq_some_iff.mp hq).1
    rw [into_len] at hk
    have r1 := run422k (n := n + 1) (th := .stuck) ib hq
    have r2 := run421k (n := n + 1) (th := .stuck) ib a1 a2
    rw [at_num h1 h2 h3 hq] at r2
    have hp12 := ib.p.p _ (List.mem_of_getElem? a1)
    have hil := (List.getElem?_eq_some_iff.mp a1).1
    have ic := ib.c
    have hgl : gs.length ≤ 3 := h3
    have fl : Fil (rowT q) := fil_of (by omega) (things_nat fun j hj => by have := a2 j hj; exact Nat.le_trans (show j ≤ 3 by omega) (by decide +kernel)) (by simpa using hp12)
    have k1 := run27 (n := n + 6) (th := .stuck) (rok_big (xs := [rowT q, .int (k : Nat)]) (by
      simp
      refine ⟨⟨fit_up 5 10 _ (by omega) fl.1, fl.2.1, by have := fl.2.2; omega⟩, ?_⟩
      have := ask_nat (k := k) (by omega)
      exact ⟨fit_up 5 10 _ (by omega) this.f, this.l, by have := this.w; omega⟩) (by simp))
    simp only [rowT] at r1 k1
    simp only [rowT, asg_cons, asg_v, asg_nil, Option.bind_some]
    simp [ev_var, r1, r2, k1]
  have hol_l : primV .len [hol (intoH ps gs)] = .ok (.int ((intoN ps gs.length).length : Nat)) := by rw [hol_len, intoH, List.length_map]
  simp [ev_var, hol_l]
  rw [for_const]
  · simp
  · intro x hx
    have hb : D.fit 5 x = true ∧ isFrom x 0 (((intoN ps gs.length).length : Int) - 1) = false ∧ Ask x := by
      simp only [List.mem_cons, List.not_mem_nil, or_false] at hx
      have ic := ib.c
      rcases hx with rfl | rfl | rfl | rfl
      · exact ⟨rfl, idx_over, ask_nat (by rw [into_len]; omega)⟩
      · exact ⟨rfl, by simp [isFrom], rfl, by decide +kernel, by decide +kernel⟩
      · exact ⟨rfl, rfl, rfl, rfl, by decide +kernel⟩
      · exact ⟨rfl, rfl, rfl, rfl, by decide +kernel⟩
    obtain ⟨b1, b2, b3⟩ := hb
    have bp := fit_pure b1
    have r := run422x (n := n + 1) (th := .stuck) ib b1 b2
    have t1 := run252_e (n := n + 6) (c := 12) (d := x) (by simp) bp
    have p1 := told_pure (c := 12) (d := x) (by simp) bp
    have tb := told_big (c := 12) (by simp) b3
    have k1 := run27 (n := n + 6) (th := .stuck) (d := toldR 12 x) ⟨fit_up 10 60 _ (by omega) tb.1, tb.2.1, by have := tb.2.2; omega⟩
    have x1 : toldR 12 x = .tup [.str "index", x] := rfl
    rw [x1] at t1 p1 k1
    have hp0 : ∀ ps, (hol ps).pure = true := fun ps => hol_pure
    simp [calm, ev_var, hp0, bp, r, t1, p1, k1]
theorem bounds_k28 : run TT 24 432 .stuck [] = .ok (.bl true) := okT_eq (by decide +kernel)
theorem called_k28 : run TT 24 433 .stuck [] = .ok (.bl true) := okT_eq (by decide +kernel)
end
theorem pre_clean : ∀ e ∈ lawP, wp (evE (run TT 24) .stuck e (List.replicate 3 none)) (fun d => d = .bl false) (fun _ _ => False) := fun e h => nomatch h
theorem law_clean : wp (exS (run TT 24) .stuck lawR (lawEnv 3)) (fun p => ∃ e, p = (e, .rt (.bl true))) (fun _ _ => False) := by
  rw [← W_wp]
  simp only [lawR, lawEnv]
  have h2 := wp431 (n := 15) (th := .stuck) (E := fun _ _ => False)
  have h3 := wp430 (n := 16) (th := .stuck) (E := fun _ _ => False)
  have hw : walkV .rng1 (.tup [.int 2]) = .ok ((List.range 2).map fun k => D.int (k : Nat)) := walk_rng 2 (by omega)
  simp [ev_var, hw]
  refine for_Ws ?_ ?_
  · intro x hx
    simp [ev_var]
    refine wp22 (n := 23) (a := 2) (b := 2) (by omega) (by omega) fun ps p1 p2 => ?_
    refine wp22 (n := 23) (a := 3) (b := 3) (by omega) (by omega) fun gs g1 g2 => ?_
    simp [run429 (n := 16) p1 p2 g1 g2, ev_var]
    refine W_imp (fun d hd => ?_) (fun _ _ h => h) h2
    subst hd
    simp [ev_var]
    refine W_imp (fun d hd => ?_) (fun _ _ h => h) h3
    subst hd
    simp
  · simp [ev_var, bounds_k28, called_k28]
end Cl.Q
open PySem PySem.W PySem.Calls PyProof.Rows
theorem PySem.Challenge.cw_holdfills_k28_whole_put_into_one_another_holds : PySem.Challenge.rw_holdfills_k28_whole_put_into_one_another.Holds := by
  exact law_holds_of Cl.Q.pre_clean Cl.Q.law_clean
