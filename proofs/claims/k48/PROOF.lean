import PyProof.Rows.All
import HandS.ForMost
import HandS.Wide
import HandS.Zip
import HandS.NoneIn
import HandS.Exc
import HandS.TryOnly
import HandS.WordsExc
import HandS.IsInst
import HandS.Deep
import HandS.Style
import HandS.CallSlots
import HandS.Defaults
import Wide.All
import OpenK.AllK
import Wide.FinOn
import KE.KStateDown
import Lean
import HandS.More
import HandS.Head0
import HandS.Head1
import HandS.Head2
import HandS.HeadEnd
import HandS.HeadHook1
import HandS.HeadHook2
import PySem.Challenge.RW_skyplaced_k48_numbers_of_triples
set_option Elab.async false
set_option linter.all false
/-! SK: a small language of our own, by values: the evaluator. -/
namespace SK

/-- a value, whole: lists, dicts and instances by what they hold -/
inductive D where
  | non
  | bl (b : Bool)
  | int (i : Int)
  | str (s : List Nat)
  | tup (xs : List D)
  | lst (xs : List D)
  | dic (ks vs : List D)
  | ins (c : Nat) (ns : List Nat) (vs : List D)
  | clo (n : Nat) (vs : List D)
  | scr (ns : List Int)
  deriving Inhabited

mutual
/-- Python's == of data without dicts and instances -/
def D.eqv : D → D → Bool
  | .non, .non => true
  | .bl a, .bl b => a == b
  | .int a, .int b => decide (a = b)
  | .bl a, .int b => decide ((if a then 1 else 0) = b)
  | .int a, .bl b => decide (a = (if b then 1 else 0))
  | .str a, .str b => a == b
  | .tup a, .tup b => D.eqvs a b
  | .lst a, .lst b => D.eqvs a b
  | _, _ => false
def D.eqvs : List D → List D → Bool
  | [], [] => true
  | x :: xs, y :: ys => D.eqv x y && D.eqvs xs ys
  | _, _ => false
end
mutual
/-- plain data, at most so deep -/
def D.pl : Nat → D → Bool
  | _, .non => true
  | _, .bl _ => true
  | _, .int _ => true
  | _, .str s => s.all fun c => decide (c < 128)
  | n + 1, .tup xs => D.pls n xs
  | n + 1, .lst xs => D.pls n xs
  | _, _ => false
def D.pls : Nat → List D → Bool
  | _, [] => true
  | n, x :: xs => D.pl n x && D.pls n xs
end

/-- a name's slot: nothing, a value that stands still, a container of its own -/
inductive Sl where
  | no
  | val (d : D)
  | own (d : D)
  deriving Inhabited
abbrev Env := List Sl

structure Exn where
  c : Nat
  ns : List Nat
  vs : List D

inductive Res (α : Type) where
  | ok (a : α) (e : Env)
  | exn (x : Exn) (e : Env)
  | bad
@[inline] def Res.bind {α β : Type} (r : Res α) (f : α → Env → Res β) : Res β :=
  match r with
  | .ok a e => f a e
  | .exn x e => .exn x e
  | .bad => .bad

/-- a result: stands still, a fresh container, a slot's container lent, the same to be changed -/
inductive Rv where
  | st (d : D)
  | fr (d : D)
  | s (i : Nat)
  | io (i : Nat)
/-- as a value that stands still -/
@[inline] def Res.val {α : Type} (r : Res Rv) (f : D → Env → Res α) : Res α :=
  match r with
  | .ok (.st d) e => f d e
  | .ok (.fr d) e => f d e
  | .ok _ _ => .bad
  | .exn x e => .exn x e
  | .bad => .bad

/-- an operand: a value, a slot's container lent, the same to be changed -/
inductive Opd where
  | v (d : D)
  | s (i : Nat)
  | io (i : Nat)
def Rv.opd : Rv → Opd
  | .st d => .v d
  | .fr d => .v d
  | .s i => .s i
  | .io i => .io i

/-- a call's end -/
inductive CRes where
  | ret (r : Rv) (outs : List D)
  | exn (x : Exn) (outs : List D)
  | bad

inductive Tg where
  | var (i : Nat)
  | tup (ts : List Tg)

inductive Op where
  | add | sub | mul | fdiv | mod | neg | pow | abs | toInt
  | eq | ne | lt | le | gt | ge | isN | notN | isIn | notIn | not
  | tup | lst (stars : List Bool)
  | idx | slc (lo hi : Bool) | len | sum | min | max | min2 | max2 | any | all | tuple | list
  | isInt | isBool | isStr | isTup | isLst | isDic | isRow | isCls (c : Nat)
  | fld (f : Nat)
inductive ItK where
  | seq | range1 | range2 | range3 | zip | enum

mutual
inductive Ex where
  | var (i : Nat)
  | frz (i : Nat)
  | bor (i : Nat)
  | io (i : Nat)
  | cst (d : D)
  | op (o : Op) (es : List Ex)
  | and_ (a b : Ex)
  | or_ (a b : Ex)
  | ite (c : Te) (a b : Ex)
  | call (f : Nat) (io : List Bool) (es : List Ex)
  | mk (c f : Nat) (io : List Bool) (es : List Ex)
  | comp (own : List Nat) (elt : Ex) (t : Tg) (k : ItK) (es : List Ex) (cs : List Te) (gs : List Gen)
  | chain (o o' : Op) (a b c : Ex)
inductive Te where
  | tr (e : Ex)
  | and_ (a b : Te)
  | or_ (a b : Te)
  | not (a : Te)
inductive Gen where
  | mk (t : Tg) (k : ItK) (es : List Ex) (cs : List Te)
end

inductive St where
  | set (i : Nat) (e : Ex)
  | own (i : Nat) (e : Ex)
  | unp (t : Tg) (e : Ex)
  | aug (i : Nat) (o : Op) (e : Ex)
  | setIdx (i : Nat) (k e : Ex)
  | augIdx (i : Nat) (j : Int) (o : Op) (e : Ex)
  | setFld (i f : Nat) (e : Ex)
  | app (i : Nat) (e : Ex)
  | expr (e : Ex)
  | ifs (c : Te) (a b : List St)
  | whl (c : Te) (b : List St)
  | for_ (t : Tg) (k : ItK) (es : List Ex) (b : List St)
  | ret (e : Ex)
  | retN
  | brk
  | cnt
  | pass
  | never

/-! ### operations on values -/
def SZ : Nat := 16777216
/-- places counted from the end too -/
def ixN (n : Nat) (i : Int) : Option Nat := if 0 ≤ i then (if i < n then some i.toNat else none) else if -(n : Int) ≤ i then some (i + n).toNat else none
def sIx (n d : Nat) : Option Int → Nat
  | none => d
  | some i => if 0 ≤ i then Nat.min i.toNat n else (i + n).toNat
def cut {α : Type} (xs : List α) (lo hi : Option Int) : List α := (xs.drop (sIx xs.length 0 lo)).take (sIx xs.length xs.length hi - sIx xs.length 0 lo)
def ints? : List D → Option (List Int)
  | [] => some []
  | .int i :: r => (ints? r).map (i :: ·)
  | _ :: _ => none
def bools? : List D → Option (List Bool)
  | [] => some []
  | .bl b :: r => (bools? r).map (b :: ·)
  | _ :: _ => none
def mulOk (a b : Int) : Bool := decide (a.natAbs < 18446744073709551616) || decide (b.natAbs < 18446744073709551616) || decide (a.natAbs.log2 + b.natAbs.log2 < 1000000)
def divOk (b : Int) : Bool := decide (0 < b) && decide (b.natAbs.log2 < 9000)
def lexLt : List Int → List Int → Bool
  | [], [] => false
  | [], _ :: _ => true
  | _ :: _, [] => false
  | x :: xs, y :: ys => if x = y then lexLt xs ys else decide (x < y)
/-- the items of a display, some of them to be spread -/
def spread : List Bool → List D → Option (List D)
  | [], [] => some []
  | false :: fs, d :: ds => (spread fs ds).map (d :: ·)
  | true :: fs, .lst xs :: ds => (spread fs ds).map (xs ++ ·)
  | true :: fs, .tup xs :: ds => (spread fs ds).map (xs ++ ·)
  | _, _ => none
def fldAt : Nat → List Nat → List D → Option D
  | f, n :: ns, v :: vs => if n = f then some v else fldAt f ns vs
  | _, _, _ => none
def fldSet : Nat → D → List Nat → List D → List Nat × List D
  | f, d, n :: ns, v :: vs => if n = f then (n :: ns, d :: vs) else let r := fldSet f d ns vs; (n :: r.1, v :: r.2)
  | f, d, _, _ => ([f], [d])
def maxL : Int → List Int → Int
  | m, [] => m
  | m, x :: r => maxL (if m < x then x else m) r
def minL : Int → List Int → Int
  | m, [] => m
  | m, x :: r => minL (if x < m then x else m) r
def isIn (x : D) (xs : List D) : Bool := xs.any fun y => D.eqv y x

def addD : D → D → Option D
  | .int a, .int b => some (.int (a + b))
  | .lst a, .lst b => if a.length + b.length ≤ SZ then some (.lst (a ++ b)) else none
  | .str a, .str b => if a.length + b.length ≤ SZ then some (.str (a ++ b)) else none
  | _, _ => none
def subD : D → D → Option D
  | .int a, .int b => some (.int (a - b))
  | _, _ => none
def mulD : D → D → Option D
  | .int a, .int b => if mulOk a b then some (.int (a * b)) else none
  | _, _ => none
def fdivD : D → D → Option D
  | .int a, .int b => if divOk b then some (.int (a / b)) else none
  | _, _ => none
def modD : D → D → Option D
  | .int a, .int b => if 0 < b then some (.int (a % b)) else none
  | _, _ => none
def powD : D → D → Option D
  | .int a, .int b => if 0 ≤ b ∧ b ≤ 1000 ∧ a.natAbs < 1000000 then some (.int (a ^ b.toNat)) else none
  | _, _ => none
def negD : D → Option D
  | .int a => some (.int (-a))
  | _ => none
def absD : D → Option D
  | .int a => some (.int (if a < 0 then -a else a))
  | _ => none
def toIntD : D → Option D
  | .int a => some (.int a)
  | _ => none
def eqD (a b : D) : Option Bool := match a with
  | .scr ns => match b with
    | .lst ys => if D.pls 40 ys then some (D.eqvs (ns.map .int) ys) else none
    | _ => none
  | a => if D.pl 40 a && D.pl 40 b then some (D.eqv a b) else none
def ltD : D → D → Option Bool
  | .int a, .int b => some (decide (a < b))
  | .tup a, .tup b => match ints? a, ints? b with
    | some x, some y => some (lexLt x y)
    | _, _ => none
  | _, _ => none
def gtD : D → D → Option Bool
  | .int a, .int b => some (decide (b < a))
  | _, _ => none
def geD : D → D → Option Bool
  | .int a, .int b => some (decide (b ≤ a))
  | _, _ => none
def leD : D → D → Option Bool
  | .int a, .int b => some (decide (a ≤ b))
  | _, _ => none
def isN : D → Bool
  | .non => true
  | _ => false
def notD : D → Option D
  | .bl b => some (.bl (!b))
  | _ => none
def idxD : D → D → Option D
  | .lst xs, .int i => (ixN xs.length i).bind fun j => xs[j]?
  | .tup xs, .int i => (ixN xs.length i).bind fun j => xs[j]?
  | .scr xs, .int i => ((ixN xs.length i).bind fun j => xs[j]?).map .int
  | .str xs, .int i => if xs.length ≤ SZ then ((ixN xs.length i).bind fun j => xs[j]?).map fun c => .str [c] else none
  | _, _ => none
def lenD : D → Option D
  | .lst xs => some (.int xs.length)
  | .tup xs => some (.int xs.length)
  | .scr xs => some (.int xs.length)
  | .str xs => if xs.length ≤ SZ then some (.int xs.length) else none
  | _ => none
def sumD : D → Option D
  | .lst xs => (ints? xs).map fun ns => .int ns.sum
  | _ => none
def maxD : D → Option D
  | .lst xs => match ints? xs with
    | some (n :: ns) => some (.int (maxL n ns))
    | _ => none
  | _ => none
def minD : D → Option D
  | .lst xs => match ints? xs with
    | some (n :: ns) => some (.int (minL n ns))
    | _ => none
  | _ => none
def max2D : D → D → Option D
  | .int a, .int b => some (.int (if b > a then b else a))
  | _, _ => none
def min2D : D → D → Option D
  | .int a, .int b => some (.int (if b < a then b else a))
  | _, _ => none
def anyD : D → Option D
  | .lst xs => (bools? xs).map fun bs => .bl (bs.any id)
  | _ => none
def allD : D → Option D
  | .lst xs => (bools? xs).map fun bs => .bl (bs.all id)
  | _ => none
def tupleD : D → Option D
  | .lst xs => some (.tup xs)
  | .tup xs => some (.tup xs)
  | _ => none
def listD : D → Option D
  | .lst xs => some (.lst xs)
  | .tup xs => some (.lst xs)
  | _ => none
def isInD (x : D) : D → Option Bool
  | .lst ys => if D.pl 40 x && D.pls 40 ys then some (isIn x ys) else none
  | .tup ys => if D.pl 40 x && D.pls 40 ys then some (isIn x ys) else none
  | _ => none
def isInt : D → Bool
  | .int _ => true
  | .bl _ => true
  | _ => false
def isBool : D → Bool
  | .bl _ => true
  | _ => false
def isTup : D → Bool
  | .tup _ => true
  | _ => false
def fldD (f : Nat) : D → Option D
  | .ins _ ns vs => fldAt f ns vs
  | _ => none
def opEval : Op → List D → Option D
  | .add, [a, b] => addD a b
  | .sub, [a, b] => subD a b
  | .mul, [a, b] => mulD a b
  | .fdiv, [a, b] => fdivD a b
  | .mod, [a, b] => modD a b
  | .pow, [a, b] => powD a b
  | .neg, [a] => negD a
  | .abs, [a] => absD a
  | .toInt, [a] => toIntD a
  | .eq, [a, b] => (eqD a b).map .bl
  | .ne, [a, b] => (eqD a b).map fun k => .bl (!k)
  | .lt, [a, b] => (ltD a b).map .bl
  | .gt, [a, b] => (gtD a b).map .bl
  | .le, [a, b] => (leD a b).map .bl
  | .ge, [a, b] => (geD a b).map .bl
  | .isN, [a] => some (.bl (isN a))
  | .notN, [a] => some (.bl (!isN a))
  | .not, [a] => notD a
  | .isIn, [a, b] => (isInD a b).map .bl
  | .notIn, [a, b] => (isInD a b).map fun k => .bl (!k)
  | .tup, ds => if ds.length ≤ SZ then some (.tup ds) else none
  | .lst fs, ds => match spread fs ds with
    | some xs => if xs.length ≤ SZ then some (.lst xs) else none
    | none => none
  | .idx, [a, b] => idxD a b
  | .len, [a] => lenD a
  | .sum, [a] => sumD a
  | .max, [a] => maxD a
  | .min, [a] => minD a
  | .max2, [a, b] => max2D a b
  | .min2, [a, b] => min2D a b
  | .any, [a] => anyD a
  | .all, [a] => allD a
  | .tuple, [a] => tupleD a
  | .list, [a] => listD a
  | .isInt, [a] => some (.bl (isInt a))
  | .isBool, [a] => some (.bl (isBool a))
  | .isTup, [a] => some (.bl (isTup a))
  | .fld f, [a] => fldD f a
  | _, _ => none

/-- whether a container that an operation gives is fresh -/
def opFresh : Op → Bool
  | .add | .lst _ | .list | .slc _ _ => true
  | _ => false
def rvOf (o : Op) (d : D) : Rv :=
  match opFresh o, d with
  | true, .lst xs => .fr (.lst xs)
  | true, .dic ks vs => .fr (.dic ks vs)
  | _, d => .st d

def seqIt : D → Option (List D)
  | .lst xs => some xs
  | .tup xs => some xs
  | _ => none
def rngOk (a b : Int) : Bool := decide (b - a ≤ 16777216) && (decide (-4611686018427387904 ≤ a) && decide (a < 4611686018427387904) && decide (-4611686018427387904 ≤ b) && decide (b < 4611686018427387904))
def rng (a b : Int) : List D := (List.range (b - a).toNat).map fun (k : Nat) => D.int (a + (k : Int))
def range1It : D → Option (List D)
  | .int n => if rngOk 0 n then some (rng 0 n) else none
  | _ => none
def range2It : D → D → Option (List D)
  | .int a, .int b => if rngOk a b then some (rng a b) else none
  | _, _ => none
def pairD (x y : D) : D := .tup [x, y]
def zipIt : D → D → Option (List D)
  | .lst xs, .lst ys => some (List.zipWith pairD xs ys)
  | .tup xs, .tup ys => some (List.zipWith pairD xs ys)
  | _, _ => none
def enumFrom : Int → List D → List D
  | _, [] => []
  | n, x :: r => pairD (.int n) x :: enumFrom (n + 1) r
def enumIt (d : D) : Option (List D) := (seqIt d).map (enumFrom 0)
def itEval : ItK → List D → Option (List D)
  | .seq, [a] => seqIt a
  | .range1, [a] => range1It a
  | .range2, [a, b] => range2It a b
  | .zip, [a, b] => zipIt a b
  | .enum, [a] => enumIt a
  | _, _ => none

/-! ### slots -/
def getV (e : Env) (i : Nat) : Option D := match e[i]? with
  | some (.val d) => some d
  | _ => none
def getB (e : Env) (i : Nat) : Option D := match e[i]? with
  | some (.val d) => some d
  | some (.own d) => some d
  | _ => none
def getO (e : Env) (i : Nat) : Option D := match e[i]? with
  | some (.own d) => some d
  | _ => none
def rd (e : Env) : Opd → Option D
  | .v d => some d
  | .s i => getB e i
  | .io i => getO e i
def rds (e : Env) : List Opd → Option (List D)
  | [] => some []
  | o :: os => match rd e o, rds e os with
    | some d, some ds => some (d :: ds)
    | _, _ => none
/-- the containers that a call has changed are written back -/
def wrs : List Opd → List D → Env → Option Env
  | [], [], e => some e
  | .io i :: os, d :: ds, e => wrs os ds (e.set i (.own d))
  | .v _ :: os, ds, e => wrs os ds e
  | _, _, _ => none
/-- the places that are changed, each once -/
def ios : List Opd → List Nat
  | [] => []
  | .io i :: os => i :: ios os
  | _ :: os => ios os
/-- the operands are lent to be changed just where they must be -/
def patOk : List Bool → List Opd → Bool
  | [], [] => true
  | true :: r, .io _ :: os => patOk r os
  | false :: r, .v _ :: os => patOk r os
  | _, _ => false
def nodupB : List Nat → Bool
  | [] => true
  | i :: r => !r.contains i && nodupB r
mutual
def asg : Tg → D → Env → Option Env
  | .var i, d, e => some (e.set i (.val d))
  | .tup ts, d, e => match d with
    | .tup ds => asgs ts ds e
    | .lst ds => asgs ts ds e
    | _ => none
def asgs : List Tg → List D → Env → Option Env
  | [], ds, e => match ds with
    | [] => some e
    | _ => none
  | t :: ts, ds, e => match ds with
    | d :: ds => match asg t d e with
      | some e1 => asgs ts ds e1
      | none => none
    | _ => none
end
mutual
/-- the slots of a target -/
def tgv : Tg → List Nat
  | .var i => [i]
  | .tup ts => tgvs ts
def tgvs : List Tg → List Nat
  | [] => []
  | t :: ts => tgv t ++ tgvs ts
end
def wipe (own : List Nat) (e : Env) : Env := match own with
  | [] => e
  | i :: r => (wipe r e).set i .no
/-- the slots of own as in the first -/
def back (own : List Nat) (e e' : Env) : Env := match own with
  | [] => e'
  | i :: r => (back r e e').set i (e.getD i .no)
/-- none of them holds a container of its own -/
def plainAt (own : List Nat) (e : Env) : Bool := own.all fun i => match e[i]? with
  | some (.own _) => false
  | _ => true
def truth : D → Option Bool
  | .bl b => some b
  | .non => some false
  | .int i => some (i != 0)
  | .lst xs => some (!xs.isEmpty)
  | .tup xs => some (!xs.isEmpty)
  | _ => none
def callEnd (os : List Opd) (e : Env) : CRes → Res Rv
  | .ret r outs => match wrs os outs e with
    | some e' => match r with
      | .st d => .ok (.st d) e'
      | .fr d => .ok (.fr d) e'
      | _ => .bad
    | none => .bad
  | .exn x outs => match wrs os outs e with
    | some e' => .exn x e'
    | none => .bad
  | .bad => .bad
/-- C(..): behind __init__ -/
def mkEnd (os : List Opd) (e : Env) : CRes → Res Rv
  | .ret (.st .non) (o :: outs) => match wrs os outs e with
    | some e' => .ok (.fr o) e'
    | none => .bad
  | .exn x (_ :: outs) => match wrs os outs e with
    | some e' => .exn x e'
    | none => .bad
  | _ => .bad
/-- over the items: what each gives, one behind the other -/
def compL (f : D → Env → Res (List D)) : List D → Env → Res (List D)
  | [], e => .ok [] e
  | d :: ds, e => (f d e).bind fun xs e1 => (compL f ds e1).bind fun ys e2 => .ok (xs ++ ys) e2
def Opd.isV : Opd → Bool
  | .v _ => true
  | _ => false
def keepFs : List Bool → List Opd → Bool
  | f :: fs, o :: os => (f || o.isV) && keepFs fs os
  | _, _ => true
/-- what is kept must stand still -/
def keepOk : Op → List Opd → Bool
  | .tup, os => os.all Opd.isV
  | .lst fs, os => keepFs fs os
  | _, _ => true
def opEnd (o : Op) (e : Env) (os : List Opd) : Res Rv := if keepOk o os then match rds e os with
  | some ds => match opEval o ds with
    | some d => .ok (rvOf o d) e
    | none => .bad
  | none => .bad else .bad
/-- what is walked -/
def itEnd (k : ItK) (e : Env) (os : List Opd) : Option (List D) := if os.all Opd.isV then match rds e os with
  | some ds => itEval k ds
  | none => none else none
/-- out of a comprehension nothing is raised -/
def compEnd (own : List Nat) (e1 : Env) : Res (List D) → Res Rv
  | .ok ys e5 => if ys.length ≤ SZ then .ok (.fr (.lst ys)) (back own e1 e5) else .bad
  | _ => .bad

section
variable (Φ : Nat → List D → CRes)
mutual
def ev : Ex → Env → Res Rv
  | .var i, e => match getV e i with
    | some d => .ok (.st d) e
    | none => .bad
  | .frz i, e => match e[i]? with
    | some (.own d) => .ok (.st d) (e.set i (.val d))
    | some (.val d) => .ok (.st d) e
    | _ => .bad
  | .bor i, e => match getB e i with
    | some _ => .ok (.s i) e
    | none => .bad
  | .io i, e => match getO e i with
    | some _ => .ok (.io i) e
    | none => .bad
  | .cst d, e => .ok (.st d) e
  | .op o es, e => (evs es e).bind fun os e1 => opEnd o e1 os
  | .and_ a b, e => (ev a e).val fun d e1 => match d with
    | .bl true => ev b e1
    | .bl false => .ok (.st (.bl false)) e1
    | _ => .bad
  | .or_ a b, e => (ev a e).val fun d e1 => match d with
    | .bl true => .ok (.st (.bl true)) e1
    | .bl false => ev b e1
    | _ => .bad
  | .ite c a b, e => (tst c e).bind fun k e1 => if k then ev a e1 else ev b e1
  | .call f io es, e => (evs es e).bind fun os e1 => if patOk io os && nodupB (ios os) then match rds e1 os with
    | some ds => callEnd os e1 (Φ f ds)
    | none => .bad else .bad
  | .mk c f io es, e => (evs es e).bind fun os e1 => if patOk io os && nodupB (ios os) then match rds e1 os with
    | some ds => mkEnd os e1 (Φ f (.ins c [] [] :: ds))
    | none => .bad else .bad
  | .comp own elt t k es cs gs, e => (evs es e).bind fun os e1 => match itEnd k e1 os with
    | some xs => if plainAt own e1 then compEnd own e1 (compL (fun x e2 => match asg t x (wipe own e2) with
        | some e3 => (tsts cs e3).bind fun b e4 => if b then gens (ev elt) gs e4 else .ok [] e4
        | none => .bad) xs e1) else .bad
    | none => .bad
  | .chain o o' a b c, e => (ev a e).val fun x e0 => (ev b e0).val fun y e1 => match opEval o [x, y] with
    | some (.bl true) => (ev c e1).val fun z e2 => match opEval o' [y, z] with
      | some d => .ok (.st d) e2
      | none => .bad
    | some (.bl false) => .ok (.st (.bl false)) e1
    | _ => .bad
def tst : Te → Env → Res Bool
  | .tr x, e => (ev x e).bind fun r e1 => match rd e1 r.opd with
    | some d => match truth d with
      | some b => .ok b e1
      | none => .bad
    | none => .bad
  | .and_ a b, e => (tst a e).bind fun k e1 => if k then tst b e1 else .ok false e1
  | .or_ a b, e => (tst a e).bind fun k e1 => if k then .ok true e1 else tst b e1
  | .not a, e => (tst a e).bind fun k e1 => .ok (!k) e1
def tsts : List Te → Env → Res Bool
  | [], e => .ok true e
  | c :: cs, e => (tst c e).bind fun k e1 => if k then tsts cs e1 else .ok false e1
/-- the other clauses of a comprehension -/
def gens (last : Env → Res Rv) : List Gen → Env → Res (List D)
  | [], e => (last e).val fun d e1 => .ok [d] e1
  | .mk t k es cs :: gs, e => (evs es e).bind fun os e1 => match itEnd k e1 os with
    | some xs => compL (fun x e2 => match asg t x (wipe (tgv t) e2) with
        | some e3 => (tsts cs e3).bind fun b e4 => if b then gens last gs e4 else .ok [] e4
        | none => .bad) xs e1
    | none => .bad
def evs : List Ex → Env → Res (List Opd)
  | [], e => .ok [] e
  | x :: es, e => (ev x e).bind fun r e1 => (evs es e1).bind fun os e2 => .ok (r.opd :: os) e2
end
end

/-! ### statements -/
inductive Out where
  | nx (e : Env)
  | ret (r : Rv) (e : Env)
  | brk (e : Env)
  | cnt (e : Env)
  | exn (x : Exn) (e : Env)
  | bad
def Res.out {α : Type} (r : Res α) (f : α → Env → Out) : Out :=
  match r with
  | .ok a e => f a e
  | .exn x e => .exn x e
  | .bad => .bad
def Res.vout (r : Res Rv) (f : D → Env → Out) : Out :=
  match r with
  | .ok (.st d) e => f d e
  | .ok (.fr d) e => f d e
  | .ok _ _ => .bad
  | .exn x e => .exn x e
  | .bad => .bad
def Out.seq (o : Out) (f : Env → Out) : Out :=
  match o with
  | .nx e => f e
  | r => r
def forL (body : D → Env → Out) : List D → Env → Out
  | [], e => .nx e
  | d :: ds, e => match body d e with
    | .nx e' => forL body ds e'
    | .cnt e' => forL body ds e'
    | .brk e' => .nx e'
    | r => r
def whileN (c : Env → Res Bool) (body : Env → Out) : Nat → Env → Out
  | 0, _ => .bad
  | n + 1, e => (c e).out fun k e1 => if k then (match body e1 with
    | .nx e2 => whileN c body n e2
    | .cnt e2 => whileN c body n e2
    | .brk e2 => .nx e2
    | r => r) else .nx e1
def intOf : Option D → Option Int
  | some (.int z) => some z
  | _ => none
def lstAt (e : Env) (i : Nat) : Option (List D) := match e[i]? with
  | some (.own (.lst xs)) => some xs
  | _ => none
def idxOf : D → Option Int
  | .int j => some j
  | _ => none

section
variable (Φ : Nat → List D → CRes) (F : Nat)
mutual
def exe : St → Env → Out
  | .set i x, e => (ev Φ x e).vout fun d e1 => .nx (e1.set i (.val d))
  | .own i x, e => (ev Φ x e).out fun r e1 => match r with
    | .fr d => .nx (e1.set i (.own d))
    | _ => .bad
  | .unp t x, e => (ev Φ x e).vout fun d e1 => match asg t d e1 with
    | some e2 => .nx e2
    | none => .bad
  | .aug i o x, e => match getV e i with
    | some d => (ev Φ x e).vout fun r e1 => match opEval o [d, r] with
      | some (.int z) => .nx (e1.set i (.val (.int z)))
      | _ => .bad
    | none => .bad
  | .setIdx i k x, e => (ev Φ x e).vout fun d e1 => (ev Φ k e1).vout fun kd e2 => match lstAt e2 i, idxOf kd with
    | some xs, some j => match ixN xs.length j with
      | some n => .nx (e2.set i (.own (.lst (xs.set n d))))
      | none => .bad
    | _, _ => .bad
  | .augIdx i j o x, e => match lstAt e i with
    | some xs => match ixN xs.length j with
      | some n => match xs[n]? with
        | some old => (ev Φ x e).vout fun r e1 => match opEval o [old, r], lstAt e1 i with
          | some (.int z), some ys => if ixN ys.length j = some n then .nx (e1.set i (.own (.lst (ys.set n (.int z))))) else .bad
          | _, _ => .bad
        | none => .bad
      | none => .bad
    | none => .bad
  | .setFld i f x, e => (ev Φ x e).vout fun d e1 => match e1[i]? with
    | some (.own (.ins c ns vs)) => if ns.length < 100 then .nx (e1.set i (.own (.ins c (fldSet f d ns vs).1 (fldSet f d ns vs).2))) else .bad
    | _ => .bad
  | .app i x, e => match lstAt e i with
    | some _ => (ev Φ x e).vout fun d e1 => match lstAt e1 i with
      | some xs => if xs.length < SZ then .nx (e1.set i (.own (.lst (xs ++ [d])))) else .bad
      | none => .bad
    | none => .bad
  | .expr x, e => (ev Φ x e).out fun _ e1 => .nx e1
  | .ifs c a b, e => (tst Φ c e).out fun k e1 => if k then exes a e1 else exes b e1
  | .whl c b, e => whileN (tst Φ c) (exes b) F e
  | .for_ t k es b, e => (evs Φ es e).out fun os e1 => match itEnd k e1 os with
    | some xs => forL (fun x e2 => match asg t x e2 with
          | some e3 => exes b e3
          | none => .bad) xs e1
    | none => .bad
  | .ret x, e => (ev Φ x e).out fun r e1 => .ret r e1
  | .retN, e => .ret (.st .non) e
  | .brk, e => .brk e
  | .cnt, e => .cnt e
  | .pass, e => .nx e
  | .never, _ => .bad
def exes : List St → Env → Out
  | [], e => .nx e
  | s :: ss, e => (exe s e).seq (exes ss)
end
end

/-- a def: which parameters it changes, how many names, its body -/
structure Fn where
  io : List Bool
  n : Nat
  body : List St
def initE : List Bool → List D → Env
  | true :: r, d :: ds => .own d :: initE r ds
  | false :: r, d :: ds => .val d :: initE r ds
  | _, _ => []
/-- the changed parameters at the end -/
def outsOf : List Bool → Env → Option (List D)
  | [], _ => some []
  | true :: r, .own d :: e => (outsOf r e).map (d :: ·)
  | false :: r, _ :: e => outsOf r e
  | _, _ => none
def fnEnd (io : List Bool) : Out → CRes
  | .nx e => match outsOf io e with
    | some o => .ret (.st .non) o
    | none => .bad
  | .ret r e => match outsOf io e with
    | some o => match r with
      | .st d => .ret (.st d) o
      | .fr d => .ret (.fr d) o
      | _ => .bad
    | none => .bad
  | .exn x e => match outsOf io e with
    | some o => .exn x o
    | none => .bad
  | _ => .bad
def evFn (Φ : Nat → List D → CRes) (F : Nat) (f : Fn) (ds : List D) : CRes :=
  if ds.length = f.io.length then fnEnd f.io (exes Φ F f.body (initE f.io ds ++ List.replicate (f.n - ds.length) .no)) else .bad
/-- a call, at most so deep -/
def callF (T : Nat → Option Fn) (F : Nat) : Nat → Nat → List D → CRes
  | 0, _, _ => .bad
  | k + 1, f, ds => match T f with
    | some fn => evFn (callF T F k) F fn ds
    | none => .bad
end SK

set_option Elab.async false
set_option linter.all false
set_option maxRecDepth 100000
set_option autoImplicit false
/-! SK over HandS: what a value of ours is in the heap; expressions and statements run as the evaluator says. -/
namespace SK
open PySem PySem.Spec PyProof.Rows L2

/-- where classes stand, what the fields are called, how an exception lies -/
structure Rc where
  K : PySem.W.Frag
  cl : Nat → Addr
  fnm : Nat → Str
  cs : List Nat
  rx : Exn → Value → Option Addr → Hp → Hp → Prop

mutual
def Rep (R : Rc) (S : Hp) : D → V → Prop
  | .non, v => v = .non
  | .bl b, v => v = .bl b
  | .int i, v => v = .int i
  | .str s, v => v = .str ⟨s.toArray⟩
  | .tup ds, v => ∃ a xs, v = .ref a ∧ SqT R.K S a xs ∧ xs.length ≤ sizeLine ∧ Reps R S ds xs
  | .lst ds, v => ∃ a xs, v = .ref a ∧ S a = some (.lst xs) ∧ xs.length ≤ sizeLine ∧ Reps R S ds xs
  | .scr ns, v => ∃ a, v = .ref a ∧ SqL R.K S a (ns.map V.int)
  | .dic _ _, _ => False
  | .ins c ns ds, v => c ∈ R.cs ∧ ∃ a dx fs, v = .ref a ∧ S a = some (.ins (R.cl c) dx fs) ∧ fs.map (·.1) = ns.map R.fnm ∧ Reps R S ds (fs.map (·.2))
  | .clo _ _, _ => False
def Reps (R : Rc) (S : Hp) : List D → List V → Prop
  | [], vs => vs = []
  | d :: ds, vs => ∃ v r, vs = v :: r ∧ Rep R S d v ∧ Reps R S ds r
end
/-- a container by its object, its parts standing still -/
def RepO (R : Rc) (S : Hp) : D → HO → Prop
  | .lst ds, o => ∃ xs, o = .lst xs ∧ xs.length ≤ sizeLine ∧ Reps R S ds xs
  | .ins c ns ds, o => c ∈ R.cs ∧ ∃ dx fs, o = .ins (R.cl c) dx fs ∧ fs.map (·.1) = ns.map R.fnm ∧ Reps R S ds (fs.map (·.2))
  | _, _ => False

theorem same_seqT {K : PySem.W.Frag} {H H' : Hp} {a : Addr} {xs : List V} (e : Same H H') (h : SqT K H a xs) : SqT K H' a xs := by
  rcases h with (h | ⟨o, h⟩) | h
  · exact .inl (.inl (e _ _ h))
  · exact .inl (.inr ⟨o, e _ _ h⟩)
  · exact .inr h
theorem same_upd {H : Hp} {p : Addr} {o : HO} (h : H p = none) : Same H (upd H p o) := fun b x e => by
  rw [upd_ne (ne_of_none e h)]
  exact e
section
variable {R : Rc} {S S' : Hp}
mutual
theorem Rep.mono (e : Same S S') : ∀ {d : D} {v : V}, Rep R S d v → Rep R S' d v
  | .non, _, h => h
  | .bl _, _, h => h
  | .int _, _, h => h
  | .str _, _, h => h
  | .tup _, _, ⟨a, xs, h1, h2, h3, h4⟩ => ⟨a, xs, h1, same_seqT e h2, h3, Reps.mono e h4⟩
  | .lst _, _, ⟨a, xs, h1, h2, h3, h4⟩ => ⟨a, xs, h1, e _ _ h2, h3, Reps.mono e h4⟩
  | .scr _, _, ⟨a, h1, h2⟩ => ⟨a, h1, e.seq h2⟩
  | .dic _ _, _, h => h.elim
  | .ins _ _ _, _, ⟨hc, a, dx, fs, h1, h2, h3, h4⟩ => ⟨hc, a, dx, fs, h1, e _ _ h2, h3, Reps.mono e h4⟩
  | .clo _ _, _, h => h.elim
theorem Reps.mono (e : Same S S') : ∀ {ds : List D} {vs : List V}, Reps R S ds vs → Reps R S' ds vs
  | [], _, h => h
  | _ :: _, _, ⟨v, r, h1, h2, h3⟩ => ⟨v, r, h1, Rep.mono e h2, Reps.mono e h3⟩
end
theorem RepO.mono (e : Same S S') : ∀ {d : D} {o : HO}, RepO R S d o → RepO R S' d o
  | .lst _, _, ⟨xs, h1, h2, h3⟩ => ⟨xs, h1, h2, h3.mono e⟩
  | .ins _ _ _, _, ⟨hc, dx, fs, h1, h2, h3⟩ => ⟨hc, dx, fs, h1, h2, h3.mono e⟩
  | .non, _, h => h.elim
  | .bl _, _, h => h.elim
  | .int _, _, h => h.elim
  | .str _, _, h => h.elim
  | .tup _, _, h => h.elim
  | .dic _ _, _, h => h.elim
  | .clo _ _, _, h => h.elim
  | .scr _, _, h => h.elim
theorem Reps.length : ∀ {ds : List D} {vs : List V}, Reps R S ds vs → ds.length = vs.length
  | [], vs, h => by rw [show vs = [] from h]; rfl
  | _ :: _, _, ⟨v, r, h1, h2, h3⟩ => by rw [h1, List.length_cons, List.length_cons, Reps.length h3]
theorem Reps.get : ∀ {ds : List D} {vs : List V} {i : Nat} {d : D}, Reps R S ds vs → ds[i]? = some d → ∃ v, vs[i]? = some v ∧ Rep R S d v
  | [], _, _, _, _, e => by simp at e
  | _ :: _, _, 0, _, ⟨v, r, h1, h2, h3⟩, e => by
    have e' := Option.some.inj e
    subst e'
    exact ⟨v, by rw [h1]; rfl, h2⟩
  | _ :: _, _, i + 1, _, ⟨v, r, h1, h2, h3⟩, e => by
    obtain ⟨w, a, b⟩ := Reps.get (i := i) h3 e
    exact ⟨w, by rw [h1]; exact a, b⟩
theorem Reps.of_get : ∀ {ds : List D} {vs : List V} {i : Nat} {v : V}, Reps R S ds vs → vs[i]? = some v → ∃ d, ds[i]? = some d ∧ Rep R S d v := fun {ds vs i v} h e => by
  have hl := h.length
  have hi : i < ds.length := by rw [hl]; exact (List.getElem?_eq_some_iff.mp e).1
  obtain ⟨w, a, b⟩ := h.get (List.getElem?_eq_getElem hi)
  rw [e] at a
  cases a
  exact ⟨_, List.getElem?_eq_getElem hi, b⟩
theorem Reps.append : ∀ {ds es : List D} {vs ws : List V}, Reps R S ds vs → Reps R S es ws → Reps R S (ds ++ es) (vs ++ ws)
  | [], _, _, _, h, k => by rw [show _ = [] from h]; exact k
  | _ :: _, _, _, _, ⟨v, r, h1, h2, h3⟩, k => by rw [h1]; exact ⟨v, r ++ _, rfl, h2, Reps.append h3 k⟩
theorem Reps.take : ∀ {ds : List D} {vs : List V} (n : Nat), Reps R S ds vs → Reps R S (ds.take n) (vs.take n)
  | _, _, 0, _ => by rw [List.take_zero, List.take_zero]; exact rfl
  | [], _, _ + 1, h => by rw [show _ = [] from h]; exact rfl
  | _ :: _, _, n + 1, ⟨v, r, h1, h2, h3⟩ => by rw [h1]; exact ⟨v, r.take n, rfl, h2, Reps.take n h3⟩
theorem Reps.drop : ∀ {ds : List D} {vs : List V} (n : Nat), Reps R S ds vs → Reps R S (ds.drop n) (vs.drop n)
  | _, _, 0, h => h
  | [], _, _ + 1, h => by rw [show _ = [] from h]; exact rfl
  | _ :: _, _, n + 1, ⟨v, r, h1, h2, h3⟩ => by rw [h1]; exact Reps.drop n h3
theorem Reps.set : ∀ {ds : List D} {vs : List V} {d : D} {v : V} (n : Nat), Reps R S ds vs → Rep R S d v → Reps R S (ds.set n d) (vs.set n v)
  | [], _, _, _, _, h, _ => by rw [show _ = [] from h]; exact rfl
  | _ :: _, _, _, _, 0, ⟨v, r, h1, h2, h3⟩, k => by rw [h1]; exact ⟨_, r, rfl, k, h3⟩
  | _ :: _, _, _, _, n + 1, ⟨v, r, h1, h2, h3⟩, k => by rw [h1]; exact ⟨v, _, rfl, h2, Reps.set n h3 k⟩
theorem Reps.one {d : D} {v : V} (h : Rep R S d v) : Reps R S [d] [v] := ⟨v, [], rfl, h, rfl⟩
theorem Reps.ints : ∀ {ds : List D} {vs : List V} {ns : List Int}, Reps R S ds vs → ints? ds = some ns → vs = ns.map V.int
  | [], _, _, h, e => by rw [show _ = [] from h]; cases e; rfl
  | .int i :: ds, _, ns, ⟨v, r, h1, h2, h3⟩, e => by
    have e' : (ints? ds).map (i :: ·) = some ns := e
    obtain ⟨ms, e1, e2⟩ := Option.map_eq_some_iff.mp e'
    subst e2
    rw [h1, show v = .int i from h2, Reps.ints h3 e1]
    rfl
  | .non :: _, _, _, _, e => nomatch e
  | .bl _ :: _, _, _, _, e => nomatch e
  | .str _ :: _, _, _, _, e => nomatch e
  | .tup _ :: _, _, _, _, e => nomatch e
  | .lst _ :: _, _, _, _, e => nomatch e
  | .dic _ _ :: _, _, _, _, e => nomatch e
  | .ins _ _ _ :: _, _, _, _, e => nomatch e
  | .clo _ _ :: _, _, _, _, e => nomatch e
  | .scr _ :: _, _, _, _, e => nomatch e
theorem Reps.bools : ∀ {ds : List D} {vs : List V} {ns : List Bool}, Reps R S ds vs → bools? ds = some ns → vs = ns.map V.bl
  | [], _, _, h, e => by rw [show _ = [] from h]; cases e; rfl
  | .bl i :: ds, _, ns, ⟨v, r, h1, h2, h3⟩, e => by
    have e' : (bools? ds).map (i :: ·) = some ns := e
    obtain ⟨ms, e1, e2⟩ := Option.map_eq_some_iff.mp e'
    subst e2
    rw [h1, show v = .bl i from h2, Reps.bools h3 e1]
    rfl
  | .non :: _, _, _, _, e => nomatch e
  | .int _ :: _, _, _, _, e => nomatch e
  | .str _ :: _, _, _, _, e => nomatch e
  | .tup _ :: _, _, _, _, e => nomatch e
  | .lst _ :: _, _, _, _, e => nomatch e
  | .dic _ _ :: _, _, _, _, e => nomatch e
  | .ins _ _ _ :: _, _, _, _, e => nomatch e
  | .clo _ _ :: _, _, _, _, e => nomatch e
  | .scr _ :: _, _, _, _, e => nomatch e
theorem Rep.of_obj {H : Hp} {a : Addr} {o : HO} (s : Same S H) (h : H a = some o) : ∀ {d : D}, RepO R S d o → Rep R H d (.ref a)
  | .lst _, ⟨xs, h1, h2, h3⟩ => ⟨a, xs, rfl, by rw [h, h1], h2, h3.mono s⟩
  | .ins _ _ _, ⟨hc, dx, fs, h1, h2, h3⟩ => ⟨hc, a, dx, fs, rfl, by rw [h, h1], h2, h3.mono s⟩
  | .non, h => h.elim
  | .bl _, h => h.elim
  | .int _, h => h.elim
  | .str _, h => h.elim
  | .tup _, h => h.elim
  | .dic _ _, h => h.elim
  | .clo _ _, h => h.elim
  | .scr _, h => h.elim
end

/-! ### a frame of ours -/
structure Fc where
  R : Rc
  Φ : Nat → List D → CRes
  F : Nat
  H0 : Hp
  S0 : Hp
  ioI : List Nat
  ioA : Nat → Addr

structure Ok (c : Fc) (S H : Hp) (σ : L2.St) (e : SK.Env) : Prop where
  sub : Same S H
  keep : ∀ (b : Addr) (o : HO), c.H0 b = some o → (∀ i ∈ c.ioI, c.ioA i ≠ b) → H b = some o
  dom : ∀ (b : Addr), H b = none → c.H0 b = none
  base : Same c.S0 S
  new : ∀ (b : Addr) (o : HO), S b = some o → c.S0 b = some o ∨ c.H0 b = none
  iod : ∀ i ∈ c.ioI, c.H0 (c.ioA i) ≠ none
  len : σ.length = e.length
  val : ∀ (i : Nat) (d : D), e[i]? = some (Sl.val d) → ∃ v : V, σ[i]? = some (some v) ∧ Rep c.R S d v
  own : ∀ (i : Nat) (d : D), e[i]? = some (Sl.own d) → ∃ (a : Addr) (o : HO), σ[i]? = some (some (V.ref a)) ∧ H a = some o ∧ S a = none ∧ RepO c.R S d o ∧ (i ∈ c.ioI → a = c.ioA i) ∧ (c.H0 a = none ∨ i ∈ c.ioI)
  apart : ∀ (i j : Nat) (d d' : D) (a : Addr), e[i]? = some (Sl.own d) → e[j]? = some (Sl.own d') → σ[i]? = some (some (V.ref a)) → σ[j]? = some (some (V.ref a)) → i = j

def RvOk (c : Fc) (S H : Hp) (σ : L2.St) (e : SK.Env) : Rv → V → Prop
  | .st d, v => Rep c.R S d v
  | .fr d, v => ∃ (a : Addr) (o : HO), v = V.ref a ∧ H a = some o ∧ S a = none ∧ RepO c.R S d o ∧ c.H0 a = none ∧ ∀ (i : Nat) (d' : D), e[i]? = some (Sl.own d') → σ[i]? ≠ some (some (V.ref a))
  | .s i, v => σ[i]? = some (some v)
  | .io i, v => σ[i]? = some (some v)

section
variable {c : Fc} {S S' H H' : Hp} {σ : L2.St} {e : SK.Env}
/-- a new object is laid that stands still -/
theorem Ok.laid {p : Addr} {o : HO} (k : Ok c S H σ e) (hp : H p = none) : Ok c (upd S p o) (upd H p o) σ e ∧ Same S (upd S p o) := by
  have sp : S p = none := k.sub.free hp
  have m : Same S (upd S p o) := same_upd sp
  refine ⟨⟨fun b u q => ?_, fun b u q n => ?_, fun b q => ?_, k.base.trans m, fun b u q => ?_, k.iod, k.len, fun i d q => ?_, fun i d q => ?_, k.apart⟩, m⟩
  · by_cases hb : b = p
    · subst hb; rw [upd_same] at q ⊢; exact q
    · rw [upd_ne hb] at q ⊢; exact k.sub b u q
  · have h := k.keep b u q n
    rw [upd_ne (ne_of_none h hp)]; exact h
  · by_cases hb : b = p
    · subst hb; rw [upd_same] at q; cases q
    · rw [upd_ne hb] at q; exact k.dom b q
  · by_cases hb : b = p
    · subst hb; exact .inr (k.dom _ hp)
    · rw [upd_ne hb] at q; exact k.new b u q
  · obtain ⟨v, h1, h2⟩ := k.val i d q
    exact ⟨v, h1, h2.mono m⟩
  · obtain ⟨a, ob, h1, h2, h3, h4, h5, h6⟩ := k.own i d q
    have ne : a ≠ p := ne_of_none h2 hp
    exact ⟨a, ob, h1, by rw [upd_ne ne]; exact h2, by rw [upd_ne ne]; exact h3, h4.mono m, h5, h6⟩
/-- a new object is laid, fresh -/
theorem Ok.made {p : Addr} {o : HO} (k : Ok c S H σ e) (hp : H p = none) : Ok c S (upd H p o) σ e := by
  refine ⟨fun b u q => ?_, fun b u q n => ?_, fun b q => ?_, k.base, k.new, k.iod, k.len, k.val, fun i d q => ?_, k.apart⟩
  · have h := k.sub b u q
    rw [upd_ne (ne_of_none h hp)]; exact h
  · have h := k.keep b u q n
    rw [upd_ne (ne_of_none h hp)]; exact h
  · by_cases hb : b = p
    · subst hb; rw [upd_same] at q; cases q
    · rw [upd_ne hb] at q; exact k.dom b q
  · obtain ⟨a, ob, h1, h2, h3, h4, h5, h6⟩ := k.own i d q
    have ne : a ≠ p := ne_of_none h2 hp
    exact ⟨a, ob, h1, by rw [upd_ne ne]; exact h2, h3, h4, h5, h6⟩
/-- a container stands still from now on -/
theorem Ok.still {a : Addr} {o : HO} (k : Ok c S H σ e) (ha : H a = some o) (hs : S a = none) (h0 : c.H0 a = none) (n : ∀ (i : Nat) (d' : D), e[i]? = some (Sl.own d') → σ[i]? ≠ some (some (V.ref a))) : Ok c (upd S a o) H σ e ∧ Same S (upd S a o) := by
  have m : Same S (upd S a o) := same_upd hs
  refine ⟨⟨fun b u q => ?_, k.keep, k.dom, k.base.trans m, fun b u q => ?_, k.iod, k.len, fun i d q => ?_, fun i d q => ?_, k.apart⟩, m⟩
  · by_cases hb : b = a
    · subst hb; rw [upd_same] at q; rw [ha]; exact q
    · rw [upd_ne hb] at q; exact k.sub b u q
  · by_cases hb : b = a
    · subst hb; exact .inr h0
    · rw [upd_ne hb] at q; exact k.new b u q
  · obtain ⟨v, h1, h2⟩ := k.val i d q
    exact ⟨v, h1, h2.mono m⟩
  · obtain ⟨b, ob, h1, h2, h3, h4, h5, h6⟩ := k.own i d q
    have ne : b ≠ a := fun z => n i d q (by rw [h1, z])
    exact ⟨b, ob, h1, h2, by rw [upd_ne ne]; exact h3, h4.mono m, h5, h6⟩
theorem Rep.at_ {R : Rc} {a : Addr} {o : HO} {d : D} (hs : S a = none) (h : RepO R S d o) : Rep R (upd S a o) d (.ref a) :=
  Rep.of_obj (S := S) (same_upd hs) upd_same h
/-- a result as a value that stands still -/
theorem Ok.froze {d : D} {v : V} (k : Ok c S H σ e) (h : RvOk c S H σ e (.fr d) v) : ∃ S1, Same S S1 ∧ Ok c S1 H σ e ∧ Rep c.R S1 d v := by
  obtain ⟨a, o, rfl, h1, h2, h3, h4, h5⟩ := h
  obtain ⟨k1, m⟩ := k.still h1 h2 h4 h5
  exact ⟨_, m, k1, Rep.at_ h2 h3⟩
/-- the value that an operand has now -/
theorem Ok.read {o : Opd} {d : D} {v : V} (k : Ok c S H σ e) (h : rd e o = some d) (hv : match o with | .v d' => Rep c.R S d' v | .s i => σ[i]? = some (some v) | .io i => σ[i]? = some (some v)) : Rep c.R H d v := by
  cases o with
  | v d' =>
    cases h
    exact Rep.mono k.sub hv
  | s i =>
    have h' : getB e i = some d := h
    unfold getB at h'
    split at h'
    · rename_i d' q
      cases h'
      obtain ⟨w, h1, h2⟩ := k.val i d q
      have hv' : σ[i]? = some (some v) := hv
      rw [hv'] at h1
      cases h1
      exact h2.mono k.sub
    · rename_i d' q
      cases h'
      obtain ⟨a, ob, h1, h2, h3, h4, _⟩ := k.own i d q
      have hv' : σ[i]? = some (some v) := hv
      rw [hv'] at h1
      cases h1
      exact Rep.of_obj k.sub h2 h4
    · cases h'
  | io i =>
    have h' : getO e i = some d := h
    unfold getO at h'
    split at h'
    · rename_i d' q
      cases h'
      obtain ⟨a, ob, h1, h2, h3, h4, _⟩ := k.own i d q
      have hv' : σ[i]? = some (some v) := hv
      rw [hv'] at h1
      cases h1
      exact Rep.of_obj k.sub h2 h4
    · cases h'
end

/-- what an evaluation leads to -/
def Post {α : Type} (c : Fc) (W : WX) (σ : L2.St) (S : Hp) (r : Res α) (k : α → SK.Env → Hp → Hp → Prop) : Prop :=
  match r with
  | .ok a e' => ∀ S' H', Same S S' → Ok c S' H' σ e' → k a e' S' H'
  | .exn y e' => ∀ cls d S' H', Same S S' → Ok c S' H' σ e' → c.R.rx y cls d S' H' → W cls d σ H'
  | .bad => False
section
variable {c : Fc} {W : WX} {S S1 H : Hp} {σ : L2.St} {e : SK.Env}
theorem Post.weak {α : Type} {r : Res α} {k : α → SK.Env → Hp → Hp → Prop} (m : Same S S1) (h : Post c W σ S r k) : Post c W σ S1 r k := by
  cases r with
  | ok a e' => exact fun S' H' m' => h S' H' (m.trans m')
  | exn y e' => exact fun cls d S' H' m' => h cls d S' H' (m.trans m')
  | bad => exact h
theorem Post.imp {α : Type} {r : Res α} {k k' : α → SK.Env → Hp → Hp → Prop} (h : Post c W σ S r k) (f : ∀ a e' S' H', Same S S' → Ok c S' H' σ e' → k a e' S' H' → k' a e' S' H') : Post c W σ S r k' := by
  cases r with
  | ok a e' => exact fun S' H' m' o => f _ _ _ _ m' o (h S' H' m' o)
  | exn y e' => exact h
  | bad => exact h
theorem Post.bind {α β : Type} {r : Res α} {f : α → SK.Env → Res β} {k : β → SK.Env → Hp → Hp → Prop} (h : Post c W σ S (r.bind f) k) : Post c W σ S r fun a e1 S1 H1 => Post c W σ S1 (f a e1) k := by
  cases r with
  | ok a e' => exact fun S' H' m o => Post.weak m h
  | exn y e' => exact h
  | bad => exact h
theorem Post.val {β : Type} {r : Res Rv} {f : D → SK.Env → Res β} {k : β → SK.Env → Hp → Hp → Prop} (h : Post c W σ S (r.val f) k) : Post c W σ S r fun a e1 S1 H1 => ∀ v, RvOk c S1 H1 σ e1 a v → ∃ d S2, Same S1 S2 ∧ Ok c S2 H1 σ e1 ∧ Rep c.R S2 d v ∧ Post c W σ S2 (f d e1) k := by
  cases r with
  | ok a e' =>
    intro S' H' m o v hv
    cases a with
    | st d => exact ⟨d, S', Same.refl _, o, hv, Post.weak m h⟩
    | fr d =>
      obtain ⟨S2, m2, o2, r2⟩ := o.froze hv
      exact ⟨d, S2, m2, o2, r2, Post.weak (m.trans m2) h⟩
    | s i => exact (show False from h).elim
    | io i => exact (show False from h).elim
  | exn y e' => exact h
  | bad => exact h
end

/-! ### the readings -/
def tEv (c : Fc) (W : WX) (x : Ex) : TE := fun σ H Q => ∃ S e, Ok c S H σ e ∧ Post c W σ S (ev c.Φ x e) fun r e' S' H' => ∀ v, RvOk c S' H' σ e' r v → Q v H'
def tTst (c : Fc) (W : WX) (x : Te) : TT := fun σ H Q => ∃ S e, Ok c S H σ e ∧ Post c W σ S (tst c.Φ x e) fun b _ _ H' => Q b H'
def tTsts (c : Fc) (W : WX) (x : List Te) : TT := fun σ H Q => ∃ S e, Ok c S H σ e ∧ Post c W σ S (tsts c.Φ x e) fun b _ _ H' => Q b H'
def OpdOk (c : Fc) (S : Hp) (σ : L2.St) : Opd → V → Prop
  | .v d, v => Rep c.R S d v
  | .s i, v => σ[i]? = some (some v)
  | .io i, v => σ[i]? = some (some v)
def OpdsOk (c : Fc) (S : Hp) (σ : L2.St) : List Opd → List V → Prop
  | [], vs => vs = []
  | o :: os, vs => ∃ v r, vs = v :: r ∧ OpdOk c S σ o v ∧ OpdsOk c S σ os r
def tEvs (c : Fc) (W : WX) (xs : List Ex) : TA := fun σ H Q => ∃ S e, Ok c S H σ e ∧ Post c W σ S (evs c.Φ xs e) fun os e' S' H' => ∀ vs, OpdsOk c S' σ os vs → Q vs H'

abbrev PD (c : Fc) (W : WX) (X : Cx) (x : Expr) (i : Ex) : Prop := PE X x (tEv c W i)
abbrev PTD (c : Fc) (W : WX) (X : Cx) (x : Expr) (i : Te) : Prop := PT X x (tTst c W i)
abbrev PAD (c : Fc) (W : WX) (X : Cx) (xs : List Expr) (is : List Ex) : Prop := PA X xs (tEvs c W is)

theorem PE.mono {X : Cx} {x : Expr} {t t' : TE} (h : PE X x t) (f : ∀ σ H Q, t' σ H Q → t σ H Q) : PE X x t' := ⟨fun pins s σ H Q I q => h.run pins s σ H Q I (f σ H Q q)⟩
theorem PT.mono {X : Cx} {x : Expr} {t t' : TT} (h : PT X x t) (f : ∀ σ H Q, t' σ H Q → t σ H Q) : PT X x t' := ⟨fun pins s σ H Q I q => h.run pins s σ H Q I (f σ H Q q)⟩
theorem PA.mono {X : Cx} {x : List Expr} {t t' : TA} (h : PA X x t) (f : ∀ σ H Q, t' σ H Q → t σ H Q) : PA X x t' := ⟨fun pos pins s σ H Q I q => h.run pos pins s σ H Q I (f σ H Q q)⟩
theorem PS.mono {X : Cx} {x : Stmt} {t t' : TS} (h : PS X x t) (f : ∀ D σ H, t' D σ H → t D σ H) : PS X x t' := ⟨fun pins s σ H D I q => h.run pins s σ H D I (f D σ H q)⟩
theorem PSs.mono {X : Cx} {x : List Stmt} {t t' : TS} (h : PSs X x t) (f : ∀ D σ H, t' D σ H → t D σ H) : PSs X x t' := ⟨fun pins s σ H D I q => h.run pins s σ H D I (f D σ H q)⟩
theorem PW.mono {X : Cx} {x : Expr} {t t' : TT} (h : PW X x t) (f : ∀ σ H Q, t' σ H Q → t σ H Q) : PW X x t' := ⟨fun wh pins s σ H Q I q => h.run wh pins s σ H Q I (f σ H Q q)⟩

section
variable {c : Fc} {W : WX} {S S' H : Hp} {σ : L2.St} {e : SK.Env} {X : Cx}
theorem OpdOk.mono (m : Same S S') : ∀ {o : Opd} {v : V}, OpdOk c S σ o v → OpdOk c S' σ o v
  | .v _, _, h => Rep.mono m h
  | .s _, _, h => h
  | .io _, _, h => h
theorem OpdsOk.mono (m : Same S S') : ∀ {o : List Opd} {v : List V}, OpdsOk c S σ o v → OpdsOk c S' σ o v
  | [], _, h => h
  | _ :: _, _, ⟨v, r, h1, h2, h3⟩ => ⟨v, r, h1, OpdOk.mono m h2, OpdsOk.mono m h3⟩
/-- a result as an operand -/
theorem Ok.opd {r : Rv} {v : V} (k : Ok c S H σ e) (h : RvOk c S H σ e r v) : ∃ S1, Same S S1 ∧ Ok c S1 H σ e ∧ OpdOk c S1 σ r.opd v := by
  cases r with
  | st d => exact ⟨S, Same.refl _, k, h⟩
  | fr d =>
    obtain ⟨S1, m, k1, h1⟩ := k.froze h
    exact ⟨S1, m, k1, h1⟩
  | s i => exact ⟨S, Same.refl _, k, h⟩
  | io i => exact ⟨S, Same.refl _, k, h⟩
/-- the first operand, then the others -/
theorem evs_cons {x : Ex} {xs : List Ex} {Q : List V → Hp → Prop} (h : tEvs c W (x :: xs) σ H Q) : tEv c W x σ H fun v H1 => tEvs c W xs σ H1 fun vs H2 => Q (v :: vs) H2 := by
  obtain ⟨S, e, k, h⟩ := h
  have h1 : Post c W σ S ((ev c.Φ x e).bind fun r e1 => (evs c.Φ xs e1).bind fun os e2 => .ok (r.opd :: os) e2) fun os e' S' H' => ∀ vs, OpdsOk c S' σ os vs → Q vs H' := h
  refine ⟨S, e, k, h1.bind.imp fun r e1 S1 H1 m o h2 v hv => ?_⟩
  obtain ⟨S2, m2, o2, hv2⟩ := o.opd hv
  refine ⟨S2, e1, o2, (Post.weak m2 h2).bind.imp fun os e2 S3 H3 m3 o3 h3 vs hvs => ?_⟩
  exact h3 S3 H3 (Same.refl _) o3 (v :: vs) ⟨v, vs, rfl, OpdOk.mono m3 hv2, hvs⟩
theorem evs_nil {Q : List V → Hp → Prop} (h : tEvs c W [] σ H Q) : Q [] H := by
  obtain ⟨S, e, k, h⟩ := h
  exact h S H (Same.refl _) k [] rfl
theorem evs1 {a : Ex} {Q : List V → Hp → Prop} (h : tEvs c W [a] σ H Q) : tEv c W a σ H fun v H1 => Q [v] H1 := by
  obtain ⟨S, e, k, h⟩ := evs_cons h
  exact ⟨S, e, k, h.imp fun _ _ _ _ _ _ f v hv => evs_nil (f v hv)⟩
theorem evs2 {a b : Ex} {Q : List V → Hp → Prop} (h : tEvs c W [a, b] σ H Q) : tEv c W a σ H fun v H1 => tEv c W b σ H1 fun w H2 => Q [v, w] H2 := by
  obtain ⟨S, e, k, h⟩ := evs_cons h
  exact ⟨S, e, k, h.imp fun _ _ _ _ _ _ f v hv => evs1 (f v hv)⟩
theorem pad_nil : PAD c W X [] [] := PA.mono pa_nil fun _ _ _ h => evs_nil h
theorem pad_cons {x : Expr} {xs : List Expr} {i : Ex} {is : List Ex} (ha : PD c W X x i) (hr : PAD c W X xs is) (hs : starEach (x :: xs) X.env = (false, eval x X.env) :: starEach xs X.env := by rfl) : PAD c W X (x :: xs) (i :: is) :=
  PA.mono (pa_cons ha hr hs) fun _ _ _ h => evs_cons h

/-! ### operations -/
/-- an operand at the operation: standing still, or a container of the frame's own -/
def RT (c : Fc) (S H : Hp) : Opd → D → V → Prop
  | .v _, d, v => Rep c.R S d v
  | _, d, v => Rep c.R S d v ∨ ∃ a o, v = .ref a ∧ H a = some o ∧ RepO c.R S d o
def RTs (c : Fc) (S H : Hp) : List Opd → List D → List V → Prop
  | [], ds, vs => ds = [] ∧ vs = []
  | o :: os, ds, vs => ∃ d r v t, ds = d :: r ∧ vs = v :: t ∧ RT c S H o d v ∧ RTs c S H os r t
theorem RT.rep (s : Same S H) : ∀ {o : Opd} {d : D} {v : V}, RT c S H o d v → Rep c.R H d v
  | .v _, _, _, h => Rep.mono s h
  | .s _, _, _, h => h.elim (fun h => Rep.mono s h) fun ⟨a, o, h1, h2, h3⟩ => by rw [h1]; exact Rep.of_obj s h2 h3
  | .io _, _, _, h => h.elim (fun h => Rep.mono s h) fun ⟨a, o, h1, h2, h3⟩ => by rw [h1]; exact Rep.of_obj s h2 h3
theorem RT.any : ∀ {o : Opd} {d : D} {v : V}, RT c S H o d v → Rep c.R S d v ∨ ∃ a o, v = .ref a ∧ H a = some o ∧ RepO c.R S d o
  | .v _, _, _, h => .inl h
  | .s _, _, _, h => h
  | .io _, _, _, h => h
theorem RT.lst (s : Same S H) {o : Opd} {ds : List D} {v : V} (h : RT c S H o (.lst ds) v) : ∃ a xs, v = .ref a ∧ H a = some (.lst xs) ∧ xs.length ≤ sizeLine ∧ Reps c.R S ds xs := by
  rcases h.any with ⟨a, xs, h1, h2, h3, h4⟩ | ⟨a, o, h1, h2, xs, h3, h4, h5⟩
  · exact ⟨a, xs, h1, s _ _ h2, h3, h4⟩
  · exact ⟨a, xs, h1, by rw [h2, h3], h4, h5⟩
theorem RT.tup (s : Same S H) {o : Opd} {ds : List D} {v : V} (h : RT c S H o (.tup ds) v) : ∃ a xs, v = .ref a ∧ SqT c.R.K H a xs ∧ xs.length ≤ sizeLine ∧ Reps c.R S ds xs := by
  rcases h.any with ⟨a, xs, h1, h2, h3, h4⟩ | ⟨a, o, h1, h2, h3⟩
  · exact ⟨a, xs, h1, same_seqT s h2, h3, h4⟩
  · exact h3.elim
theorem RT.ins (s : Same S H) {o : Opd} {k : Nat} {ns : List Nat} {ds : List D} {v : V} (h : RT c S H o (.ins k ns ds) v) : k ∈ c.R.cs ∧ ∃ a dx fs, v = .ref a ∧ H a = some (.ins (c.R.cl k) dx fs) ∧ fs.map (·.1) = ns.map c.R.fnm ∧ Reps c.R S ds (fs.map (·.2)) := by
  rcases h.any with ⟨hc, a, dx, fs, h1, h2, h3, h4⟩ | ⟨a, o, h1, h2, hc, dx, fs, h3, h4, h5⟩
  · exact ⟨hc, a, dx, fs, h1, s _ _ h2, h3, h4⟩
  · exact ⟨hc, a, dx, fs, h1, by rw [h2, h3], h4, h5⟩
theorem RT.scr (s : Same S H) {o : Opd} {ns : List Int} {v : V} (h : RT c S H o (.scr ns) v) : ∃ a, v = .ref a ∧ SqL c.R.K H a (ns.map V.int) := by
  rcases h.any with ⟨a, h1, h2⟩ | ⟨a, o, h1, h2, h3⟩
  · exact ⟨a, h1, s.seq h2⟩
  · exact h3.elim
theorem Ok.rt {o : Opd} {d : D} {v : V} (k : Ok c S H σ e) (h : rd e o = some d) (hv : OpdOk c S σ o v) : RT c S H o d v := by
  have main : ∀ i, getB e i = some d → σ[i]? = some (some v) → Rep c.R S d v ∨ ∃ a o, v = .ref a ∧ H a = some o ∧ RepO c.R S d o := fun i h' hv' => by
    unfold getB at h'
    split at h'
    · rename_i d' q
      cases h'
      obtain ⟨w, h1, h2⟩ := k.val i d q
      rw [hv'] at h1
      cases h1
      exact .inl h2
    · rename_i d' q
      cases h'
      obtain ⟨a, ob, h1, h2, h3, h4, _⟩ := k.own i d q
      rw [hv'] at h1
      cases h1
      exact .inr ⟨a, ob, rfl, h2, h4⟩
    · cases h'
  cases o with
  | v d' =>
    cases h
    exact hv
  | s i => exact main i h hv
  | io i =>
    refine main i ?_ hv
    have h' : getO e i = some d := h
    unfold getO at h'
    unfold getB
    split at h'
    · rename_i d' q
      rw [q]
      exact h'
    · cases h'
theorem Ok.rts (k : Ok c S H σ e) : ∀ {os : List Opd} {ds : List D} {vs : List V}, rds e os = some ds → OpdsOk c S σ os vs → RTs c S H os ds vs
  | [], ds, vs, h, hv => by
    cases h
    exact ⟨rfl, hv⟩
  | o :: os, ds, vs, h, ⟨v, r, h1, h2, h3⟩ => by
    unfold rds at h
    split at h
    · rename_i d r' q1 q2
      cases h
      exact ⟨d, r', v, r, rfl, h1, k.rt q1 h2, Ok.rts k q2 h3⟩
    · cases h
/-- the state ahead of an operation on values, and what its value must be -/
def OpPost (c : Fc) (σ : L2.St) (o : Op) (vs : List V) (H : Hp) (Q : VK) : Prop :=
  ∃ S e os ds d, Ok c S H σ e ∧ RTs c S H os ds vs ∧ keepOk o os = true ∧ opEval o ds = some d ∧ ∀ v S' H', Same S S' → Ok c S' H' σ e → RvOk c S' H' σ e (rvOf o d) v → Q v H'
theorem op_post {o : Op} {xs : List Ex} {Q : VK} (h : tEv c W (.op o xs) σ H Q) : tEvs c W xs σ H fun vs H1 => OpPost c σ o vs H1 Q := by
  obtain ⟨S, e, k, h⟩ := h
  have h1 : Post c W σ S ((evs c.Φ xs e).bind fun os e1 => opEnd o e1 os) fun r e' S' H' => ∀ v, RvOk c S' H' σ e' r v → Q v H' := h
  refine ⟨S, e, k, h1.bind.imp fun os e1 S1 H1 m k1 h2 vs hvs => ?_⟩
  unfold opEnd at h2
  split at h2
  · rename_i hk
    split at h2
    · rename_i ds q1
      split at h2
      · rename_i d q2
        exact ⟨S1, e1, os, ds, d, k1, k1.rts q1 hvs, hk, q2, fun v S' H' m' k' hv => h2 S' H' m' k' v hv⟩
      · exact (show False from h2).elim
    · exact (show False from h2).elim
  · exact (show False from h2).elim
theorem op1 {o : Op} {a : Ex} {Q : VK} (h : tEv c W (.op o [a]) σ H Q) : tEv c W a σ H fun x H1 => OpPost c σ o [x] H1 Q := evs1 (op_post h)
theorem op2 {o : Op} {a b : Ex} {Q : VK} (h : tEv c W (.op o [a, b]) σ H Q) : tEv c W a σ H fun x H1 => tEv c W b σ H1 fun y H2 => OpPost c σ o [x, y] H2 Q := evs2 (op_post h)
theorem RTs.nil {ds : List D} {vs : List V} (h : RTs c S H [] ds vs) : ds = [] ∧ vs = [] := h
theorem RTs.len : ∀ {os : List Opd} {ds : List D} {vs : List V}, RTs c S H os ds vs → os.length = vs.length ∧ ds.length = vs.length
  | [], _, _, ⟨h1, h2⟩ => by rw [h1, h2]; exact ⟨rfl, rfl⟩
  | _ :: _, _, _, ⟨d, r, v, t, h1, h2, h3, h4⟩ => by
    have q := RTs.len h4
    rw [h1, h2]
    simp only [List.length_cons]
    omega
theorem RTs.one {os : List Opd} {ds : List D} {x : V} (h : RTs c S H os ds [x]) : ∃ o d, os = [o] ∧ ds = [d] ∧ RT c S H o d x := by
  cases os with
  | nil => exact absurd h.2 (by simp)
  | cons o os =>
    obtain ⟨d, r, v, t, h1, h2, h3, h4⟩ := h
    cases h2
    cases os with
    | nil =>
      obtain ⟨h5, _⟩ := h4
      subst h5
      exact ⟨o, d, rfl, h1, h3⟩
    | cons o' os =>
      obtain ⟨_, _, _, _, _, h6, _⟩ := h4
      cases h6
theorem RTs.two {os : List Opd} {ds : List D} {x y : V} (h : RTs c S H os ds [x, y]) : ∃ o o' d d', os = [o, o'] ∧ ds = [d, d'] ∧ RT c S H o d x ∧ RT c S H o' d' y := by
  cases os with
  | nil => exact absurd h.2 (by simp)
  | cons o os =>
    obtain ⟨d, r, v, t, h1, h2, h3, h4⟩ := h
    cases h2
    obtain ⟨o', d', rfl, rfl, h5⟩ := h4.one
    exact ⟨o, o', d, d', rfl, h1, h3, h5⟩
theorem RTs.reps : ∀ {os : List Opd} {ds : List D} {vs : List V}, RTs c S H os ds vs → os.all Opd.isV = true → Reps c.R S ds vs
  | [], _, _, ⟨h1, h2⟩, _ => by rw [h1, h2]; exact rfl
  | o :: _, _, _, ⟨d, r, v, t, h1, h2, h3, h4⟩, hv => by
    rw [List.all_cons, Bool.and_eq_true] at hv
    rw [h1, h2]
    refine ⟨v, t, rfl, ?_, RTs.reps h4 hv.2⟩
    cases o with
    | v _ => exact h3
    | s _ => cases hv.1
    | io _ => cases hv.1
end
end SK

set_option Elab.async false
set_option linter.all false
set_option maxRecDepth 100000
set_option autoImplicit false
/-! SK over HandS: each operation. -/
namespace SK
open PySem PySem.Spec PyProof.Rows L2

/-- what of the text is asked of classes -/
structure ClsF (K : PySem.W.Frag) (C : Addr) : Prop where
  cl : Cls K C
  ha : PySem.W.findIn K (.ref C) "__class__" = some (some (.builtin "object.__class__"))
  hn : PySem.W.specialIn K (.builtin "object.__class__") "__get__" = some (some (.builtin "getset_descriptor.__get__"))
  htk : PySem.W.takesIn K (.builtin "object.__class__") = some true
  hm : PySem.W.mroIn K C (.type "object") = some true
  kt : ∀ T ∈ ["int", "bool", "str", "tuple", "list", "dict"], PySem.W.kitOne K (.ref C) (.type T) = some false
/-- a context of ours -/
structure XC (c : Fc) (X : Cx) : Prop where
  K : X.K = c.R.K
  calm : X.calm = true
  un : X.A.units + 65 < cLine
  cf : ∀ k ∈ c.R.cs, ClsF X.K (c.R.cl k)
theorem XC.un0 {c : Fc} {X : Cx} (h : XC c X) : X.A.units < cLine := by have := h.un; omega
theorem XC.un64 {c : Fc} {X : Cx} (h : XC c X) : X.A.units + 64 < cLine := by have := h.un; omega

section
variable {c : Fc} {W : WX} {S S' H : Hp} {σ : L2.St} {e : SK.Env} {X : Cx} {a b : Expr} {ia ib : Ex} {pos : Pos}
theorem tEv.imp {x : Ex} {Q Q' : VK} (h : tEv c W x σ H Q) (f : ∀ v H, Q v H → Q' v H) : tEv c W x σ H Q' := by
  obtain ⟨S, e, k, h⟩ := h
  exact ⟨S, e, k, h.imp fun _ _ _ _ _ _ g v hv => f _ _ (g v hv)⟩
theorem tEvs.imp {x : List Ex} {Q Q' : List V → Hp → Prop} (h : tEvs c W x σ H Q) (f : ∀ v H, Q v H → Q' v H) : tEvs c W x σ H Q' := by
  obtain ⟨S, e, k, h⟩ := h
  exact ⟨S, e, k, h.imp fun _ _ _ _ _ _ g v hv => f _ _ (g v hv)⟩
theorem op1m {o : Op} {r : V → Hp → VK → Prop} (f : ∀ x H Q, OpPost c σ o [x] H Q → r x H Q) {Q : VK} (h : tEv c W (.op o [ia]) σ H Q) : tUn r (tEv c W ia) σ H Q := (op1 h).imp fun _ _ h1 => f _ _ _ h1
theorem op2m {o : Op} {r : R2} (f : ∀ x y H Q, OpPost c σ o [x, y] H Q → r x y H Q) {Q : VK} (h : tEv c W (.op o [ia, ib]) σ H Q) : tOp r (tEv c W ia) (tEv c W ib) σ H Q :=
  (op2 h).imp fun _ _ h1 => h1.imp fun _ _ h2 => f _ _ _ _ h2
theorem opAm {o : Op} {is : List Ex} {r : List V → Hp → VK → Prop} (f : ∀ xs H Q, OpPost c σ o xs H Q → r xs H Q) {Q : VK} (h : tEv c W (.op o is) σ H Q) : tCB r (tEvs c W is) σ H Q := (op_post h).imp fun _ _ h1 => f _ _ _ h1

/-- the end of an operation: a value that stands still, a new tuple, a new list -/
abbrev Cont (c : Fc) (σ : L2.St) (S : Hp) (e : SK.Env) (r : Rv) (Q : VK) : Prop := ∀ v S' H', Same S S' → Ok c S' H' σ e → RvOk c S' H' σ e r v → Q v H'
theorem fin_st {d : D} {v : V} {Q : VK} (k : Ok c S H σ e) (q : Cont c σ S e (.st d) Q) (h : Rep c.R S d v) : Q v H := q v S H (Same.refl _) k h
theorem fin_tup {ds : List D} {xs : List V} {Q : VK} (k : Ok c S H σ e) (q : Cont c σ S e (.st (.tup ds)) Q) (hl : xs.length ≤ sizeLine) (h : Reps c.R S ds xs) : ∀ p, H p = none → Q (.ref p) (upd H p (.tup xs)) := fun p hp => by
  obtain ⟨k1, m⟩ := k.laid (o := .tup xs) hp
  exact q _ _ _ m k1 ⟨p, xs, rfl, .of upd_same, hl, h.mono m⟩
theorem fin_lst {ds : List D} {xs : List V} {Q : VK} (k : Ok c S H σ e) (q : Cont c σ S e (.fr (.lst ds)) Q) (hl : xs.length ≤ sizeLine) (h : Reps c.R S ds xs) : ∀ p, H p = none → Q (.ref p) (upd H p (.lst xs)) := fun p hp => by
  refine q _ _ _ (Same.refl _) (k.made hp) ⟨p, .lst xs, rfl, upd_same, k.sub.free hp, ⟨xs, rfl, hl, h⟩, k.dom _ hp, fun i d' hi z => ?_⟩
  obtain ⟨a, o, h1, h2, _⟩ := k.own i d' hi
  rw [z] at h1
  cases h1
  rw [h2] at hp
  cases hp
theorem szL {n : Nat} : n ≤ SZ ↔ n ≤ sizeLine := by rw [sizeLine_eq]; exact Iff.rfl
theorem rv_int (o : Op) (i : Int) : rvOf o (.int i) = .st (.int i) := by unfold rvOf; cases opFresh o <;> rfl
theorem rv_bl (o : Op) (i : Bool) : rvOf o (.bl i) = .st (.bl i) := by unfold rvOf; cases opFresh o <;> rfl
theorem rv_str (o : Op) (i : List Nat) : rvOf o (.str i) = .st (.str i) := by unfold rvOf; cases opFresh o <;> rfl
theorem rv_no {o : Op} (h : opFresh o = false) (d : D) : rvOf o d = .st d := by unfold rvOf; rw [h]

theorem post1 {o : Op} {x : V} {Q : VK} (h : OpPost c σ o [x] H Q) : ∃ S e p d r, Ok c S H σ e ∧ RT c S H p d x ∧ opEval o [d] = some r ∧ Cont c σ S e (rvOf o r) Q := by
  obtain ⟨S, e, os, ds, d, k, r, _, h1, q⟩ := h
  obtain ⟨p, d1, rfl, rfl, h2⟩ := r.one
  exact ⟨S, e, p, d1, d, k, h2, h1, q⟩
theorem post2 {o : Op} {x y : V} {Q : VK} (h : OpPost c σ o [x, y] H Q) : ∃ S e p p' d d' r, Ok c S H σ e ∧ RT c S H p d x ∧ RT c S H p' d' y ∧ opEval o [d, d'] = some r ∧ Cont c σ S e (rvOf o r) Q := by
  obtain ⟨S, e, os, ds, d, k, r, _, h1, q⟩ := h
  obtain ⟨p, p', d1, d2, rfl, rfl, h2, h3⟩ := r.two
  exact ⟨S, e, p, p', d1, d2, d, k, h2, h3, h1, q⟩
theorem RT.int (s : Same S H) {p : Opd} {i : Int} {x : V} (h : RT c S H p (.int i) x) : x = .int i := h.rep s
theorem RT.bl (s : Same S H) {p : Opd} {i : Bool} {x : V} (h : RT c S H p (.bl i) x) : x = .bl i := h.rep s
theorem RT.str (s : Same S H) {p : Opd} {i : List Nat} {x : V} (h : RT c S H p (.str i) x) : x = .str ⟨i.toArray⟩ := h.rep s

theorem str_len (l : List Nat) : (Str.mk l.toArray).length = l.length := by
  show (l.toArray).size = _
  exact List.size_toArray
theorem str_app (l r : List Nat) : Str.mk l.toArray ++ Str.mk r.toArray = Str.mk (l ++ r).toArray := by
  show Str.mk (l.toArray ++ r.toArray) = _
  congr 1
  exact List.append_toArray l r

/-! ### + - * // % ** -/
theorem pd_add (ha : PD c W X a ia) (hb : PD c W X b ib) : PD c W X (.BinOp a .Add b pos) (.op .add [ia, ib]) :=
  PE.mono (pe_op (op_add.or (op_cat.or op_add_str)) ha hb) fun σ H Q h => op2m (fun x y H Q h => by
    obtain ⟨S, e, p, p', d, d', r, k, h1, h2, h3, q⟩ := post2 h
    have h3 : addD d d' = some r := h3
    unfold addD at h3
    split at h3
    · cases h3
      rw [rv_int] at q
      exact .inl ⟨_, _, h1.int k.sub, h2.int k.sub, fin_st k q rfl⟩
    · rename_i xs ys
      split at h3
      · rename_i hz
        cases h3
        obtain ⟨l, us, rfl, e1, _, r1⟩ := h1.lst k.sub
        obtain ⟨l', ws, rfl, e2, _, r2⟩ := h2.lst k.sub
        have hz' : us.length + ws.length ≤ sizeLine := by rw [← r1.length, ← r2.length]; exact szL.mp hz
        exact .inr (.inl ⟨_, _, _, _, rfl, rfl, e1, e2, hz', fin_lst k q (by rw [List.length_append]; exact hz') (r1.append r2)⟩)
      · cases h3
    · rename_i xs ys
      split at h3
      · rename_i hz
        cases h3
        rw [rv_str] at q
        exact .inr (.inr ⟨_, _, h1.str k.sub, h2.str k.sub, by rw [str_len, str_len]; exact szL.mp hz, by rw [str_app]; exact fin_st k q rfl⟩)
      · cases h3
    · cases h3) h
theorem pd_sub (ha : PD c W X a ia) (hb : PD c W X b ib) : PD c W X (.BinOp a .Sub b pos) (.op .sub [ia, ib]) :=
  PE.mono (pe_op op_sub ha hb) fun σ H Q h => op2m (fun x y H Q h => by
    obtain ⟨S, e, p, p', d, d', r, k, h1, h2, h3, q⟩ := post2 h
    have h3 : subD d d' = some r := h3
    unfold subD at h3
    split at h3
    · cases h3
      exact ⟨_, _, h1.int k.sub, h2.int k.sub, fin_st k q rfl⟩
    · cases h3) h
theorem pd_mul (ha : PD c W X a ia) (hb : PD c W X b ib) : PD c W X (.BinOp a .Mult b pos) (.op .mul [ia, ib]) :=
  PE.mono (pe_op (op_mul.or op_mulW) ha hb) fun σ H Q h => op2m (fun x y H Q h => by
    obtain ⟨S, e, p, p', d, d', r, k, h1, h2, h3, q⟩ := post2 h
    have h3 : mulD d d' = some r := h3
    unfold mulD at h3
    split at h3
    · split at h3
      · rename_i hm
        cases h3
        have x1 := h1.int k.sub
        have x2 := h2.int k.sub
        unfold mulOk at hm
        rw [Bool.or_eq_true, Bool.or_eq_true] at hm
        rcases hm with (hm | hm) | hm
        · have hm := of_decide_eq_true hm
          exact .inl ⟨_, _, x1, x2, .inl ⟨by omega, by omega⟩, fin_st k q rfl⟩
        · have hm := of_decide_eq_true hm
          exact .inl ⟨_, _, x1, x2, .inr ⟨by omega, by omega⟩, fin_st k q rfl⟩
        · have hm2 := of_decide_eq_true hm
          exact .inr ⟨_, _, x1, x2, hm2, fin_st k q rfl⟩
      · cases h3
    · cases h3) h
theorem pd_fdiv (ha : PD c W X a ia) (hb : PD c W X b ib) : PD c W X (.BinOp a .FloorDiv b pos) (.op .fdiv [ia, ib]) :=
  PE.mono (pe_op op_fdivW ha hb) fun σ H Q h => op2m (fun x y H Q h => by
    obtain ⟨S, e, p, p', d, d', r, k, h1, h2, h3, q⟩ := post2 h
    have h3 : fdivD d d' = some r := h3
    unfold fdivD at h3
    split at h3
    · split at h3
      · rename_i hm
        cases h3
        unfold divOk at hm
        rw [Bool.and_eq_true] at hm
        exact ⟨_, _, h1.int k.sub, h2.int k.sub, ⟨of_decide_eq_true hm.1, of_decide_eq_true hm.2⟩, fin_st k q rfl⟩
      · cases h3
    · cases h3) h
theorem pd_mod (ha : PD c W X a ia) (hb : PD c W X b ib) : PD c W X (.BinOp a .Mod b pos) (.op .mod [ia, ib]) :=
  PE.mono (pe_op op_mod ha hb) fun σ H Q h => op2m (fun x y H Q h => by
    obtain ⟨S, e, p, p', d, d', r, k, h1, h2, h3, q⟩ := post2 h
    have h3 : modD d d' = some r := h3
    unfold modD at h3
    split at h3
    · split at h3
      · rename_i hm
        cases h3
        exact ⟨_, _, h1.int k.sub, h2.int k.sub, hm, fin_st k q rfl⟩
      · cases h3
    · cases h3) h
theorem pd_pow (ha : PD c W X a ia) (hb : PD c W X b ib) : PD c W X (.BinOp a .Pow b pos) (.op .pow [ia, ib]) :=
  PE.mono (pe_op op_pow ha hb) fun σ H Q h => op2m (fun x y H Q h => by
    obtain ⟨S, e, p, p', d, d', r, k, h1, h2, h3, q⟩ := post2 h
    have h3 : powD d d' = some r := h3
    unfold powD at h3
    split at h3
    · split at h3
      · rename_i hm
        cases h3
        exact ⟨_, _, h1.int k.sub, h2.int k.sub, ⟨hm.1, by omega, by omega⟩, fin_st k q rfl⟩
      · cases h3
    · cases h3) h
theorem pd_neg (ha : PD c W X a ia) : PD c W X (.UnaryOp .USub a pos) (.op .neg [ia]) :=
  PE.mono (pe_un un_neg ha) fun σ H Q h => op1m (fun x H Q h => by
    obtain ⟨S, e, p, d, r, k, h1, h3, q⟩ := post1 h
    have h3 : negD d = some r := h3
    unfold negD at h3
    split at h3
    · cases h3
      exact ⟨_, h1.int k.sub, fin_st k q rfl⟩
    · cases h3) h

/-! ### comparisons -/
section
open PySem.W
mutual
def toPy : D → PyData
  | .non => .none
  | .bl b => .bool b
  | .int i => .int i
  | .str s => .str ⟨s.toArray⟩
  | .tup ds => .tuple (toPys ds)
  | .lst ds => .list (toPys ds)
  | .scr _ => .dict []
  | .dic _ _ => .dict []
  | .ins _ _ _ => .dict []
  | .clo _ _ => .dict []
def toPys : List D → List PyData
  | [] => []
  | d :: ds => toPy d :: toPys ds
end
end
theorem DpAll.ints {K : PySem.W.Frag} : ∀ (ns : List Int), DpAll K H (ns.map V.int) (ns.map .int)
  | [] => .nil
  | n :: ns => .cons (.int n) (DpAll.ints ns)
mutual
theorem Rep.dp : ∀ {n : Nat} {d : D} {v : V}, Rep c.R H d v → D.pl n d = true → Dp c.R.K H v (toPy d)
  | n, .non, v, h, _ => by rw [show v = .non from h, toPy]; exact .non
  | n, .bl b, v, h, _ => by rw [show v = .bl b from h, toPy]; exact .bl b
  | n, .int i, v, h, _ => by rw [show v = .int i from h, toPy]; exact .int i
  | n, .str s, v, h, _ => by rw [show v = .str ⟨s.toArray⟩ from h, toPy]; exact .str _
  | n + 1, .tup ds, v, h, hp => by
    obtain ⟨a, xs, h1, h2, h3, h4⟩ := h
    rw [h1, toPy]
    exact .tup h2 (Reps.dp (n := n) h4 hp)
  | n + 1, .lst ds, v, h, hp => by
    obtain ⟨a, xs, h1, h2, h3, h4⟩ := h
    rw [h1, toPy]
    exact .lst (.of h2) (Reps.dp (n := n) h4 hp)
  | 0, .tup ds, v, h, hp => by cases hp
  | 0, .lst ds, v, h, hp => by cases hp
  | n, .dic _ _, v, h, hp => by cases n <;> cases hp
  | n, .ins _ _ _, v, h, hp => by cases n <;> cases hp
  | n, .clo _ _, v, h, hp => by cases n <;> cases hp
  | n, .scr _, v, h, hp => by cases n <;> cases hp
theorem Reps.dp : ∀ {n : Nat} {ds : List D} {vs : List V}, Reps c.R H ds vs → D.pls n ds = true → DpAll c.R.K H vs (toPys ds)
  | n, [], vs, h, _ => by rw [show vs = [] from h, toPys]; exact .nil
  | n, d :: ds, vs, ⟨v, r, h1, h2, h3⟩, hp => by
    have hp : (D.pl n d && D.pls n ds) = true := hp
    rw [Bool.and_eq_true] at hp
    rw [h1, toPys]
    exact .cons (Rep.dp h2 hp.1) (Reps.dp h3 hp.2)
end
theorem int_lays : ∀ (ns : List Int), PyData.canLayAll0 (ns.map .int) = true ∧ PyData.depthAll (ns.map .int) = 0
  | [] => ⟨rfl, rfl⟩
  | n :: ns => by
    obtain ⟨h1, h2⟩ := int_lays ns
    refine ⟨?_, ?_⟩
    · show (PyData.canLay0 (.int n) && PyData.canLayAll0 (ns.map .int)) = true
      rw [h1]; rfl
    · show max (PyData.depth (.int n)) (PyData.depthAll (ns.map .int)) = 0
      rw [h2]; rfl
mutual
theorem lay_of : ∀ {n : Nat} {d : D}, D.pl n d = true → (toPy d).canLay0 = true ∧ (toPy d).depth ≤ n
  | n, .non, _ => ⟨rfl, Nat.zero_le _⟩
  | n, .bl b, _ => ⟨rfl, Nat.zero_le _⟩
  | n, .int i, _ => ⟨rfl, Nat.zero_le _⟩
  | n, .str s, hp => by
    refine ⟨?_, Nat.zero_le _⟩
    have hp : s.all (fun c => decide (c < 128)) = true := by cases n <;> exact hp
    show (s.toArray.all (· < 0x110000)) = true
    rw [Array.all_eq_true_iff_forall_mem]
    intro x hx
    have h1 : x ∈ s := by simpa using hx
    have h2 := of_decide_eq_true (List.all_eq_true.mp hp x h1)
    simp only [decide_eq_true_eq]
    omega
  | n + 1, .tup ds, hp => by
    obtain ⟨h1, h2⟩ := lays_of (n := n) (ds := ds) hp
    exact ⟨h1, Nat.succ_le_succ h2⟩
  | n + 1, .lst ds, hp => by
    obtain ⟨h1, h2⟩ := lays_of (n := n) (ds := ds) hp
    exact ⟨h1, Nat.succ_le_succ h2⟩
  | 0, .tup ds, hp => by cases hp
  | 0, .lst ds, hp => by cases hp
  | n, .dic _ _, hp => by cases n <;> cases hp
  | n, .ins _ _ _, hp => by cases n <;> cases hp
  | n, .clo _ _, hp => by cases n <;> cases hp
  | n, .scr _, hp => by cases n <;> cases hp
theorem lays_of : ∀ {n : Nat} {ds : List D}, D.pls n ds = true → PyData.canLayAll0 (toPys ds) = true ∧ PyData.depthAll (toPys ds) ≤ n
  | n, [], _ => ⟨rfl, Nat.zero_le _⟩
  | n, d :: ds, hp => by
    have hp : (D.pl n d && D.pls n ds) = true := hp
    rw [Bool.and_eq_true] at hp
    obtain ⟨h1, h2⟩ := lay_of hp.1
    obtain ⟨h3, h4⟩ := lays_of hp.2
    refine ⟨?_, ?_⟩
    · show (PyData.canLay0 (toPy d) && PyData.canLayAll0 (toPys ds)) = true
      rw [h1, h3]; rfl
    · show max (PyData.depth (toPy d)) (PyData.depthAll (toPys ds)) ≤ n
      omega
end
theorem eqv_ints : ∀ (ns : List Int) (ds : List D), PyData.eqvAll (ns.map .int) (toPys ds) = D.eqvs (ns.map .int) ds
  | [], [] => by rw [toPys, List.map_nil, List.map_nil, D.eqvs, PyData.eqvAll]
  | [], _ :: _ => by rw [toPys, List.map_nil, List.map_nil, D.eqvs, PyData.eqvAll]; all_goals simp
  | _ :: _, [] => by rw [toPys, List.map_cons, List.map_cons, D.eqvs, PyData.eqvAll]; all_goals simp
  | n :: ns, d :: ds => by
    rw [toPys, List.map_cons, List.map_cons, D.eqvs, PyData.eqvAll, eqv_ints ns ds]
    congr 1
    cases d <;> simp [toPy, PyData.eqv, D.eqv, Bool.beq_eq_decide_eq]
mutual
theorem eqv_py : ∀ (a b : D), PyData.eqv (toPy a) (toPy b) = D.eqv a b
  | .tup xs, .tup ys => by rw [toPy, toPy, PyData.eqv, D.eqv]; exact eqvs_py xs ys
  | .lst xs, .lst ys => by rw [toPy, toPy, PyData.eqv, D.eqv]; exact eqvs_py xs ys
  | .tup xs, b => by cases b <;> first | (simp [toPy, PyData.eqv, D.eqv]; done) | (rw [toPy, toPy, PyData.eqv, D.eqv]; exact eqvs_py xs _)
  | .lst xs, b => by cases b <;> first | (simp [toPy, PyData.eqv, D.eqv]; done) | (rw [toPy, toPy, PyData.eqv, D.eqv]; exact eqvs_py xs _)
  | .non, b => by cases b <;> simp [toPy, PyData.eqv, D.eqv]
  | .bl i, b => by cases b <;> simp [toPy, PyData.eqv, D.eqv, Bool.beq_eq_decide_eq]
  | .int i, b => by cases b <;> simp [toPy, PyData.eqv, D.eqv, Bool.beq_eq_decide_eq]
  | .str s, b => by
    cases b <;> simp [toPy, PyData.eqv, D.eqv]
    rename_i t
    rw [Bool.eq_iff_iff]
    simp
  | .dic _ _, b => by cases b <;> simp [toPy, PyData.eqv, D.eqv]
  | .ins _ _ _, b => by cases b <;> simp [toPy, PyData.eqv, D.eqv]
  | .clo _ _, b => by cases b <;> simp [toPy, PyData.eqv, D.eqv]
  | .scr _, b => by cases b <;> simp [toPy, PyData.eqv, D.eqv]
theorem eqvs_py : ∀ (a b : List D), PyData.eqvAll (toPys a) (toPys b) = D.eqvs a b
  | [], [] => by rw [toPys, D.eqvs, PyData.eqvAll]
  | [], _ :: _ => by rw [toPys, toPys, D.eqvs, PyData.eqvAll]; all_goals simp
  | _ :: _, [] => by rw [toPys, toPys, D.eqvs, PyData.eqvAll]; all_goals simp
  | x :: xs, y :: ys => by rw [toPys, toPys, D.eqvs, PyData.eqvAll, eqv_py x y, eqvs_py xs ys]
end
theorem pl_shaped {d : D} (h : D.pl 40 d = true) : SeqAt.shaped (toPy d) = true := by
  obtain ⟨h1, h2⟩ := lay_of h
  show ((toPy d).canLay0 && decide ((toPy d).depth ≤ 64)) = true
  rw [h1, decide_eq_true (by omega)]; rfl
/-- two data for == -/
theorem eq_data {d d' : D} {k : Bool} {x y : V} (s : Same S H) {p p' : Opd} (h1 : RT c S H p d x) (h2 : RT c S H p' d' y) (h : eqD d d' = some k) :
    ∃ u w, Dp c.R.K H x u ∧ Dp c.R.K H y w ∧ SeqAt.shaped u = true ∧ SeqAt.shaped w = true ∧ PyData.eqv u w = k := by
  unfold eqD at h
  split at h
  · rename_i ns
    split at h
    · rename_i ys
      split at h
      · rename_i hp
        cases h
        obtain ⟨a, rfl, hs⟩ := h1.scr s
        obtain ⟨h3, h4⟩ := int_lays ns
        have hp' : D.pl 41 (.lst ys) = true := hp
        obtain ⟨h5, h6⟩ := lay_of hp'
        refine ⟨.list (ns.map .int), toPy (.lst ys), .lst hs (DpAll.ints ns), Rep.dp (h2.rep s) hp', ?_, ?_, ?_⟩
        · show (PyData.canLayAll0 (ns.map .int) && decide (PyData.depthAll (ns.map .int) + 1 ≤ 64)) = true
          rw [h3, h4]; rfl
        · show ((toPy _).canLay0 && decide ((toPy _).depth ≤ 64)) = true
          rw [h5, decide_eq_true (by omega)]; rfl
        · rw [toPy, PyData.eqv]
          exact eqv_ints ns ys
      · cases h
    · cases h
  · split at h
    · rename_i hp
      cases h
      rw [Bool.and_eq_true] at hp
      exact ⟨_, _, Rep.dp (h1.rep s) hp.1, Rep.dp (h2.rep s) hp.2, pl_shaped hp.1, pl_shaped hp.2, eqv_py d d'⟩
    · cases h
theorem map_bl {o : Option Bool} {r : D} (h : o.map D.bl = some r) : ∃ k, o = some k ∧ r = .bl k := by
  obtain ⟨k, h1, h2⟩ := Option.map_eq_some_iff.mp h
  exact ⟨k, h1, h2.symm⟩
theorem map_nbl {o : Option Bool} {r : D} (h : o.map (fun k => D.bl (!k)) = some r) : ∃ k, o = some k ∧ r = .bl (!k) := by
  obtain ⟨k, h1, h2⟩ := Option.map_eq_some_iff.mp h
  exact ⟨k, h1, h2.symm⟩
theorem eq_r (hx : XC c X) : ∀ x y H Q, OpPost c σ .eq [x, y] H Q → rEqD X.K x y H Q := fun x y H Q h => by
  obtain ⟨S, e, p, p', d, d', r, k, h1, h2, h3, q⟩ := post2 h
  obtain ⟨b, h4, rfl⟩ := map_bl (o := eqD d d') h3
  rw [rv_bl] at q
  obtain ⟨u, w, u1, u2, u3, u4, u5⟩ := eq_data k.sub h1 h2 h4
  rw [hx.K]
  exact ⟨u, w, u1, u2, u3, u4, by rw [u5]; exact fin_st k q rfl⟩
theorem ne_r (hx : XC c X) : ∀ x y H Q, OpPost c σ .ne [x, y] H Q → rNeD X.K x y H Q := fun x y H Q h => by
  obtain ⟨S, e, p, p', d, d', r, k, h1, h2, h3, q⟩ := post2 h
  obtain ⟨b, h4, rfl⟩ := map_nbl (o := eqD d d') h3
  rw [rv_bl] at q
  obtain ⟨u, w, u1, u2, u3, u4, u5⟩ := eq_data k.sub h1 h2 h4
  rw [hx.K]
  exact ⟨u, w, u1, u2, u3, u4, by rw [u5]; exact fin_st k q rfl⟩
theorem lexLt_eq : ∀ (a b : List Int), lexLt a b = HT.lexLt a b
  | [], [] => rfl
  | [], _ :: _ => rfl
  | _ :: _, [] => rfl
  | x :: xs, y :: ys => by
    rw [HT.lexLt_cons, lexLt, lexLt_eq xs ys]
def rLtA (K : PySem.W.Frag) : R2 := fun x y H Q => rI0 (fun i j => .bl (decide (i < j))) x y H Q ∨ rLtT K x y H Q
theorem op_ltA (hx : XC c X) : OpR X (compareOp .Lt) (rLtA X.K) := op_lt.or (op_ltT hx.un0)
theorem RT.tupInts (s : Same S H) {p : Opd} {ds : List D} {ns : List Int} {x : V} (h : RT c S H p (.tup ds) x) (hi : ints? ds = some ns) : ∃ a, x = .ref a ∧ SqT c.R.K H a (ns.map V.int) := by
  obtain ⟨a, xs, h1, h2, _, h3⟩ := h.tup s
  exact ⟨a, h1, by rw [← h3.ints hi]; exact h2⟩
theorem lt_r (hx : XC c X) : ∀ x y H Q, OpPost c σ .lt [x, y] H Q → rLtA X.K x y H Q := fun x y H Q h => by
  obtain ⟨S, e, p, p', d, d', r, k, h1, h2, h3, q⟩ := post2 h
  obtain ⟨b, h4, rfl⟩ := map_bl (o := ltD d d') h3
  rw [rv_bl] at q
  rw [hx.K]
  unfold ltD at h4
  split at h4
  · cases h4
    exact .inl ⟨_, _, h1.int k.sub, h2.int k.sub, fin_st k q rfl⟩
  · split at h4
    · rename_i i1 i2
      cases h4
      obtain ⟨u, rfl, s1⟩ := h1.tupInts k.sub i1
      obtain ⟨w, rfl, s2⟩ := h2.tupInts k.sub i2
      exact .inr ⟨u, w, _, _, rfl, rfl, s1, s2, by rw [← lexLt_eq]; exact fin_st k q rfl⟩
    · cases h4
  · cases h4
theorem gt_r : ∀ x y H Q, OpPost c σ .gt [x, y] H Q → rI0 (fun i j => .bl (decide (j < i))) x y H Q := fun x y H Q h => by
  obtain ⟨S, e, p, p', d, d', r, k, h1, h2, h3, q⟩ := post2 h
  obtain ⟨b, h4, rfl⟩ := map_bl (o := gtD d d') h3
  rw [rv_bl] at q
  unfold gtD at h4
  split at h4
  · cases h4
    exact ⟨_, _, h1.int k.sub, h2.int k.sub, fin_st k q rfl⟩
  · cases h4
theorem ge_r : ∀ x y H Q, OpPost c σ .ge [x, y] H Q → rI0 (fun i j => .bl (decide (j ≤ i))) x y H Q := fun x y H Q h => by
  obtain ⟨S, e, p, p', d, d', r, k, h1, h2, h3, q⟩ := post2 h
  obtain ⟨b, h4, rfl⟩ := map_bl (o := geD d d') h3
  rw [rv_bl] at q
  unfold geD at h4
  split at h4
  · cases h4
    exact ⟨_, _, h1.int k.sub, h2.int k.sub, fin_st k q rfl⟩
  · cases h4
theorem le_r : ∀ x y H Q, OpPost c σ .le [x, y] H Q → rI0 (fun i j => .bl (decide (i ≤ j))) x y H Q := fun x y H Q h => by
  obtain ⟨S, e, p, p', d, d', r, k, h1, h2, h3, q⟩ := post2 h
  obtain ⟨b, h4, rfl⟩ := map_bl (o := leD d d') h3
  rw [rv_bl] at q
  unfold leD at h4
  split at h4
  · cases h4
    exact ⟨_, _, h1.int k.sub, h2.int k.sub, fin_st k q rfl⟩
  · cases h4
theorem isN_v {d : D} {x : V} {p : Opd} (s : Same S H) (h : RT c S H p d x) (hd : d ≠ .dic [] []) : decide (x = .non) = isN d := by
  have h := h.rep s
  cases d with
  | non => rw [show x = .non from h]; rfl
  | bl b => rw [show x = .bl b from h]; rfl
  | int b => rw [show x = .int b from h]; rfl
  | str b => rw [show x = .str _ from h]; rfl
  | tup b => obtain ⟨a, xs, rfl, _⟩ := h; rfl
  | lst b => obtain ⟨a, xs, rfl, _⟩ := h; rfl
  | scr b => obtain ⟨a, rfl, _⟩ := h; rfl
  | dic _ _ => exact (show False from h).elim
  | ins _ _ _ => obtain ⟨_, a, _, _, rfl, _⟩ := h; rfl
  | clo _ _ => exact (show False from h).elim

theorem pd_eq (hx : XC c X) (ha : PD c W X a ia) (hb : PD c W X b ib) : PD c W X (.Compare a [.Eq] [b] pos) (.op .eq [ia, ib]) :=
  PE.mono (pe_cmpR (op_eqD hx.un64) ha hb (nomark _)) fun σ H Q h => op2m (eq_r hx) h
theorem pd_ne (hx : XC c X) (ha : PD c W X a ia) (hb : PD c W X b ib) : PD c W X (.Compare a [.NotEq] [b] pos) (.op .ne [ia, ib]) :=
  PE.mono (pe_cmpR (op_neD hx.un64) ha hb (nomark _)) fun σ H Q h => op2m (ne_r hx) h
theorem pd_lt (hx : XC c X) (ha : PD c W X a ia) (hb : PD c W X b ib) : PD c W X (.Compare a [.Lt] [b] pos) (.op .lt [ia, ib]) :=
  PE.mono (pe_cmpR (op_ltA hx) ha hb (nomark _)) fun σ H Q h => op2m (lt_r hx) h
theorem pd_gt (ha : PD c W X a ia) (hb : PD c W X b ib) : PD c W X (.Compare a [.Gt] [b] pos) (.op .gt [ia, ib]) :=
  PE.mono (pe_cmpR op_gt ha hb (nomark _)) fun σ H Q h => op2m gt_r h
theorem pd_ge (ha : PD c W X a ia) (hb : PD c W X b ib) : PD c W X (.Compare a [.GtE] [b] pos) (.op .ge [ia, ib]) :=
  PE.mono (pe_cmpR op_ge ha hb (nomark _)) fun σ H Q h => op2m ge_r h
theorem pd_le (ha : PD c W X a ia) (hb : PD c W X b ib) : PD c W X (.Compare a [.LtE] [b] pos) (.op .le [ia, ib]) :=
  PE.mono (pe_cmpR op_le ha hb (nomark _)) fun σ H Q h => op2m le_r h
/-- is None, is not None -/
theorem pd_isN {j : Nat} {pos' : Pos} (ha : PD c W X a ia) : PD c W X (.Compare a [.Is] [.Constant .none j pos'] pos) (.op .isN [ia]) :=
  PE.mono (pe_cmp (pc_isN ha) rfl) fun σ H Q h => (op1 h).imp fun x H h => by
    obtain ⟨S, e, p, d, r, k, h1, h3, q⟩ := post1 h
    have h3 : some (D.bl (isN d)) = some r := h3
    cases h3
    rw [isN_v k.sub h1 (fun z => by subst z; exact h1.rep k.sub)]
    exact fin_st k q rfl
theorem pd_notN {j : Nat} {pos' : Pos} (ha : PD c W X a ia) : PD c W X (.Compare a [.IsNot] [.Constant .none j pos'] pos) (.op .notN [ia]) :=
  PE.mono (pe_cmp (pc_notN ha) rfl) fun σ H Q h => (op1 h).imp fun x H h => by
    obtain ⟨S, e, p, d, r, k, h1, h3, q⟩ := post1 h
    have h3 : some (D.bl (!isN d)) = some r := h3
    cases h3
    rw [isN_v k.sub h1 (fun z => by subst z; exact h1.rep k.sub)]
    exact fin_st k q rfl
end
end SK

set_option Elab.async false
set_option linter.all false
set_option maxRecDepth 100000
set_option autoImplicit false
/-! SK over HandS: names, constants, and, or, if; what is walked; targets; statements. -/
namespace SK
open PySem PySem.Spec PyProof.Rows L2

section
variable {c : Fc} {W : WX} {S S' H : Hp} {σ : L2.St} {e : SK.Env} {X : Cx} {a b : Expr} {ia ib : Ex} {pos : Pos}
/-! ### names and constants -/
theorem pd_var (i : Nat) {x : Str} {pos : Pos} (hN : X.N[i]? = some x := by rfl) (hv : Vis X.env.scope x := by first | exact Or.inl rfl | exact Or.inr (Or.inl rfl) | exact Or.inr (Or.inr rfl)) (hd : (x == ("__debug__" : Str)) = false := by decide)
    (hcd : (x == ("__classdict__" : Str)) = false := by decide) : PD c W X (.Name x pos) (.var i) :=
  PE.mono (pe_var hN hv hd hcd) fun σ H Q h => by
    obtain ⟨S, e, k, h⟩ := h
    have h : Post c W σ S (match getV e i with | some d => Res.ok (Rv.st d) e | none => .bad) _ := h
    cases q : getV e i with
    | none => rw [q] at h; exact (show False from h).elim
    | some d =>
      rw [q] at h
      unfold getV at q
      split at q
      · rename_i d' q'
        cases q
        obtain ⟨v, h1, h2⟩ := k.val i _ q'
        exact ⟨v, h1, h S H (Same.refl _) k v h2⟩
      · cases q
theorem getB_val {i : Nat} {d : D} (k : Ok c S H σ e) (q : getB e i = some d) : ∃ v, σ[i]? = some (some v) := by
  unfold getB at q
  split at q
  · rename_i d' q'
    obtain ⟨v, h1, _⟩ := k.val i _ q'
    exact ⟨v, h1⟩
  · rename_i d' q'
    obtain ⟨a, o, h1, _⟩ := k.own i _ q'
    exact ⟨_, h1⟩
  · cases q
theorem pd_bor (i : Nat) {x : Str} {pos : Pos} (hN : X.N[i]? = some x := by rfl) (hv : Vis X.env.scope x := by first | exact Or.inl rfl | exact Or.inr (Or.inl rfl) | exact Or.inr (Or.inr rfl)) (hd : (x == ("__debug__" : Str)) = false := by decide)
    (hcd : (x == ("__classdict__" : Str)) = false := by decide) : PD c W X (.Name x pos) (.bor i) :=
  PE.mono (pe_var hN hv hd hcd) fun σ H Q h => by
    obtain ⟨S, e, k, h⟩ := h
    have h : Post c W σ S (match getB e i with | some _ => Res.ok (Rv.s i) e | none => .bad) _ := h
    cases q : getB e i with
    | none => rw [q] at h; exact (show False from h).elim
    | some d =>
      rw [q] at h
      obtain ⟨v, h1⟩ := getB_val k q
      exact ⟨v, h1, h S H (Same.refl _) k v h1⟩
theorem pd_io (i : Nat) {x : Str} {pos : Pos} (hN : X.N[i]? = some x := by rfl) (hv : Vis X.env.scope x := by first | exact Or.inl rfl | exact Or.inr (Or.inl rfl) | exact Or.inr (Or.inr rfl)) (hd : (x == ("__debug__" : Str)) = false := by decide)
    (hcd : (x == ("__classdict__" : Str)) = false := by decide) : PD c W X (.Name x pos) (.io i) :=
  PE.mono (pe_var hN hv hd hcd) fun σ H Q h => by
    obtain ⟨S, e, k, h⟩ := h
    have h : Post c W σ S (match getO e i with | some _ => Res.ok (Rv.io i) e | none => .bad) _ := h
    cases q : getO e i with
    | none => rw [q] at h; exact (show False from h).elim
    | some d =>
      rw [q] at h
      unfold getO at q
      split at q
      · rename_i d' q'
        obtain ⟨a, o, h1, _⟩ := k.own i _ q'
        exact ⟨_, h1, h S H (Same.refl _) k _ h1⟩
      · cases q
theorem sl_val {e : SK.Env} {i j : Nat} {d d' : D} (hi : i < e.length) (h : (e.set i (Sl.val d))[j]? = some (Sl.own d')) : j ≠ i ∧ e[j]? = some (Sl.own d') := by
  by_cases hj : i = j
  · subst hj
    rw [List.getElem?_set_self hi] at h
    cases h
  · rw [List.getElem?_set_ne hj] at h
    exact ⟨fun z => hj z.symm, h⟩
theorem lt_of_get {α : Type} {l : List α} {i : Nat} {x : α} (h : l[i]? = some x) : i < l.length := (List.getElem?_eq_some_iff.mp h).1
theorem pd_frz (i : Nat) {x : Str} {pos : Pos} (hio : i ∉ c.ioI) (hN : X.N[i]? = some x := by rfl) (hv : Vis X.env.scope x := by first | exact Or.inl rfl | exact Or.inr (Or.inl rfl) | exact Or.inr (Or.inr rfl)) (hd : (x == ("__debug__" : Str)) = false := by decide)
    (hcd : (x == ("__classdict__" : Str)) = false := by decide) : PD c W X (.Name x pos) (.frz i) :=
  PE.mono (pe_var hN hv hd hcd) fun σ H Q h => by
    obtain ⟨S, e, k, h⟩ := h
    have h : Post c W σ S (match e[i]? with | some (Sl.own d) => Res.ok (Rv.st d) (e.set i (.val d)) | some (Sl.val d) => .ok (.st d) e | _ => .bad) _ := h
    split at h
    · rename_i d q
      obtain ⟨a, o, h1, h2, h3, h4, h5, h6⟩ := k.own i d q
      have h0 : c.H0 a = none := h6.elim id fun z => absurd z hio
      have hi := lt_of_get q
      have m : Same S (upd S a o) := same_upd h3
      have k' : Ok c (upd S a o) H σ (e.set i (.val d)) := by
        refine ⟨fun b u z => ?_, k.keep, k.dom, k.base.trans m, fun b u z => ?_, k.iod, by rw [List.length_set]; exact k.len, fun j d' z => ?_, fun j d' z => ?_, fun j j' d1 d2 b z1 z2 => ?_⟩
        · by_cases hb : b = a
          · subst hb; rw [upd_same] at z; rw [h2]; exact z
          · rw [upd_ne hb] at z; exact k.sub b u z
        · by_cases hb : b = a
          · subst hb; exact .inr h0
          · rw [upd_ne hb] at z; exact k.new b u z
        · by_cases hj : i = j
          · subst hj
            rw [List.getElem?_set_self hi] at z
            cases z
            exact ⟨_, h1, Rep.at_ h3 h4⟩
          · rw [List.getElem?_set_ne hj] at z
            obtain ⟨v, z1, z2⟩ := k.val j d' z
            exact ⟨v, z1, z2.mono m⟩
        · obtain ⟨hj, z⟩ := sl_val hi z
          obtain ⟨b, ob, z1, z2, z3, z4, z5, z6⟩ := k.own j d' z
          have ne : b ≠ a := fun w => hj (k.apart j i d' d a z q (by rw [z1, w]) h1)
          exact ⟨b, ob, z1, z2, by rw [upd_ne ne]; exact z3, z4.mono m, z5, z6⟩
        · exact k.apart j j' d1 d2 b (sl_val hi z1).2 (sl_val hi z2).2
      exact ⟨_, h1, h _ H m k' _ (Rep.at_ h3 h4)⟩
    · rename_i d q
      obtain ⟨v, h1, h2⟩ := k.val i _ q
      exact ⟨v, h1, h S H (Same.refl _) k v h2⟩
    · exact (show False from h).elim
theorem cst_of {d : D} {v : V} (hr : ∀ S : Hp, Rep c.R S d v) {x : Expr} (h : PE X x (tC v)) : PD c W X x (.cst d) :=
  PE.mono h fun σ H Q q => by
    obtain ⟨S, e, k, q⟩ := q
    exact q S H (Same.refl _) k v (hr S)
theorem pd_int {i : Int} {j : Nat} : PD c W X (.Constant (.int i) j pos) (.cst (.int i)) := cst_of (d := .int i) (v := .int i) (fun _ => rfl) pe_int
theorem pd_bl {i : Bool} {j : Nat} : PD c W X (.Constant (.bool i) j pos) (.cst (.bl i)) := cst_of (d := .bl i) (v := .bl i) (fun _ => rfl) pe_bl
theorem pd_non {j : Nat} : PD c W X (.Constant .none j pos) (.cst .non) := cst_of (d := .non) (v := .non) (fun _ => rfl) pe_non
theorem pd_str {x : Str} {j : Nat} (l : List Nat) (h : x = ⟨l.toArray⟩) : PD c W X (.Constant (.str x) j pos) (.cst (.str l)) := cst_of (d := .str l) (v := .str x) (fun _ => by rw [h]; exact rfl) pe_str
/-- a constant of the module -/
theorem pd_glob {x : Str} {d : D} {v : V} {u : Value} (hg : Gl X x) (hm : X.mg x = some u) (r : RelV v u) (hr : ∀ S : Hp, Rep c.R S d v) (hd : (x == ("__debug__" : Str)) = false := by decide) : PD c W X (.Name x pos) (.cst d) := cst_of hr (pe_glob hg hm r hd)

/-! ### and, or, if; tests -/
theorem tEv.val {Q : VK} {x : Ex} {f : D → SK.Env → Res Rv} (k : Ok c S H σ e) (h : Post c W σ S ((ev c.Φ x e).val f) fun r e' S' H' => ∀ v, RvOk c S' H' σ e' r v → Q v H') :
    tEv c W x σ H fun v H1 => ∃ d S1 e1, Ok c S1 H1 σ e1 ∧ Rep c.R S1 d v ∧ Post c W σ S1 (f d e1) fun r e' S' H' => ∀ v, RvOk c S' H' σ e' r v → Q v H' := by
  refine ⟨S, e, k, h.val.imp fun r e1 S1 H1 m k1 h1 v hv => ?_⟩
  obtain ⟨d, S2, m2, k2, r2, h2⟩ := h1 v hv
  exact ⟨d, S2, e1, k2, r2, h2⟩
theorem pd_and {rest : List Expr} (ha : PD c W X a ia) (hb : PD c W X (.BoolOp .And (b :: rest) pos) ib) : PD c W X (.BoolOp .And (a :: b :: rest) pos) (.and_ ia ib) :=
  PE.mono (pe_and ha hb) fun σ H Q h => by
    obtain ⟨S, e, k, h⟩ := h
    refine (tEv.val k h).imp fun v H1 h1 => ?_
    obtain ⟨d, S1, e1, k1, r1, h1⟩ := h1
    split at h1
    · exact ⟨true, r1, by rw [if_pos rfl]; exact ⟨S1, e1, k1, h1⟩⟩
    · exact ⟨false, r1, by rw [if_neg Bool.false_ne_true]; exact h1 S1 H1 (Same.refl _) k1 _ rfl⟩
    · exact (show False from h1).elim
theorem pd_or {rest : List Expr} (ha : PD c W X a ia) (hb : PD c W X (.BoolOp .Or (b :: rest) pos) ib) : PD c W X (.BoolOp .Or (a :: b :: rest) pos) (.or_ ia ib) :=
  PE.mono (pe_or ha hb) fun σ H Q h => by
    obtain ⟨S, e, k, h⟩ := h
    refine (tEv.val k h).imp fun v H1 h1 => ?_
    obtain ⟨d, S1, e1, k1, r1, h1⟩ := h1
    split at h1
    · exact ⟨true, r1, by rw [if_pos rfl]; exact h1 S1 H1 (Same.refl _) k1 _ rfl⟩
    · exact ⟨false, r1, by rw [if_neg Bool.false_ne_true]; exact ⟨S1, e1, k1, h1⟩⟩
    · exact (show False from h1).elim
theorem pd_one {op : BoolOp} (ha : PD c W X a ia) : PD c W X (.BoolOp op [a] pos) ia := pe_one ha
/-- not, as a value -/
theorem pd_not (ha : PD c W X a ia) : PD c W X (.UnaryOp .Not a pos) (.op .not [ia]) :=
  PE.mono (pe_not ha) fun σ H Q h => (op1 h).imp fun x H h => by
    obtain ⟨S, e, p, d, r, k, h1, h3, q⟩ := post1 h
    have h3 : notD d = some r := h3
    unfold notD at h3
    split at h3
    · cases h3
      exact ⟨_, h1.bl k.sub, fin_st k q rfl⟩
    · cases h3
theorem tTst.bind {Q : Bool → Hp → Prop} {α : Type} {x : Te} {f : Bool → SK.Env → Res α} {g : α → SK.Env → Hp → Hp → Prop} (k : Ok c S H σ e) (h : Post c W σ S ((tst c.Φ x e).bind f) g)
    (hq : ∀ b S1 H1 e1, Ok c S1 H1 σ e1 → Post c W σ S1 (f b e1) g → Q b H1) : tTst c W x σ H Q :=
  ⟨S, e, k, h.bind.imp fun b e1 S1 H1 _ k1 h1 => hq b S1 H1 e1 k1 h1⟩
theorem pd_ite {x : Expr} {t : Te} (hc : PTD c W X x t) (ha : PD c W X a ia) (hb : PD c W X b ib) : PD c W X (.IfExp x a b pos) (.ite t ia ib) :=
  PE.mono (pe_ifExp hc ha hb) fun σ H Q h => by
    obtain ⟨S, e, k, h⟩ := h
    refine tTst.bind k h fun d S1 H1 e1 k1 h1 => ?_
    cases d with
    | true => rw [if_pos rfl]; exact ⟨S1, e1, k1, h1⟩
    | false => rw [if_neg Bool.false_ne_true]; exact ⟨S1, e1, k1, h1⟩
theorem emp_eq {R : Rc} {S : Hp} {ds : List D} {vs : List V} (h : Reps R S ds vs) : (!ds.isEmpty) = !vs.isEmpty := by
  have := h.length
  cases ds <;> cases vs <;> first | rfl | (simp at this; done)
theorem truth_ok {d : D} {b : Bool} {v : V} {p : Opd} (hK : X.K = c.R.K) (s : Same S H) (h : RT c S H p d v) (hb : truth d = some b) : TruV X.K v H b := by
  rw [hK]
  unfold truth at hb
  split at hb
  · cases hb
    rw [h.bl s]
    exact rfl
  · cases hb
    rw [show v = .non from h.rep s]
    exact rfl
  · cases hb
    rw [h.int s]
    exact rfl
  · cases hb
    obtain ⟨a, us, rfl, h1, _, h2⟩ := h.lst s
    exact .inl ⟨us, .of h1, emp_eq h2⟩
  · cases hb
    obtain ⟨a, us, rfl, h1, _, h2⟩ := h.tup s
    exact .inr (.inl ⟨us, h1, emp_eq h2⟩)
  · cases hb
/-- any expression as a test -/
theorem pt_tr (hx : XC c X) (ha : PD c W X a ia) (he : ∀ whole, isTrue a X.env whole = (do let v ← whole; standAt a.pos; holding [v] (truthy v)) := by intro _; rfl) : PTD c W X a (.tr ia) :=
  PT.mono (pt_truth ha he) fun σ H Q h => by
    obtain ⟨S, e, k, h⟩ := h
    have h1 : Post c W σ S ((ev c.Φ ia e).bind fun r e1 => match rd e1 r.opd with | some d => (match truth d with | some b => Res.ok b e1 | none => .bad) | none => .bad) fun b _ _ H' => Q b H' := h
    refine ⟨S, e, k, h1.bind.imp fun r e1 S1 H1 m k1 h2 v hv => ?_⟩
    obtain ⟨S2, m2, k2, o2⟩ := k1.opd hv
    split at h2
    · rename_i d q1
      split at h2
      · rename_i b q2
        exact ⟨b, truth_ok hx.K k2.sub (k2.rt q1 o2) q2, h2 S2 H1 m2 k2⟩
      · exact (show False from h2).elim
    · exact (show False from h2).elim
abbrev PWD (c : Fc) (W : WX) (X : Cx) (x : Expr) (i : Te) : Prop := PW X x (tTst c W i)
theorem pwd_and1 {t : Te} (ha : PTD c W X a t) : PWD c W X (.BoolOp .And [a] pos) t := pw_and1 ha
theorem pwd_or1 {t : Te} (ha : PTD c W X a t) : PWD c W X (.BoolOp .Or [a] pos) t := pw_or1 ha
theorem pwd_and {rest : List Expr} {t u : Te} (ha : PTD c W X a t) (hb : PWD c W X (.BoolOp .And (b :: rest) pos) u) : PWD c W X (.BoolOp .And (a :: b :: rest) pos) (.and_ t u) :=
  PW.mono (pw_and ha hb) fun σ H Q h => by
    obtain ⟨S, e, k, h⟩ := h
    refine tTst.bind k h fun d S1 H1 e1 k1 h1 => ?_
    cases d with
    | true => rw [if_pos rfl]; exact ⟨S1, e1, k1, h1⟩
    | false => rw [if_neg Bool.false_ne_true]; exact h1 S1 H1 (Same.refl _) k1
theorem pwd_or {rest : List Expr} {t u : Te} (ha : PTD c W X a t) (hb : PWD c W X (.BoolOp .Or (b :: rest) pos) u) : PWD c W X (.BoolOp .Or (a :: b :: rest) pos) (.or_ t u) :=
  PW.mono (pw_or ha hb) fun σ H Q h => by
    obtain ⟨S, e, k, h⟩ := h
    refine tTst.bind k h fun d S1 H1 e1 k1 h1 => ?_
    cases d with
    | true => rw [if_pos rfl]; exact h1 S1 H1 (Same.refl _) k1
    | false => rw [if_neg Bool.false_ne_true]; exact ⟨S1, e1, k1, h1⟩
theorem ptd_of {t : Te} (h : PWD c W X a t) : PTD c W X a t := h.pt
theorem ptd_not {t : Te} (h : PTD c W X a t) : PTD c W X (.UnaryOp .Not a pos) (.not t) :=
  PT.mono (pt_not h) fun σ H Q h => by
    obtain ⟨S, e, k, h⟩ := h
    refine tTst.bind k h fun d S1 H1 e1 k1 h1 => h1 S1 H1 (Same.refl _) k1
theorem ptds_nil : PTs X [] (tTsts c W []) := ⟨fun pins s σ H Q I h => pts_nil.run pins s σ H Q I (by
  obtain ⟨S, e, k, h⟩ := h
  exact h S H (Same.refl _) k)⟩
theorem ptds_one {t : Te} (h : PTD c W X a t) : PTs X [a] (tTsts c W [t]) := ⟨fun pins s σ H Q I q => (pts_one h).run pins s σ H Q I (by
  obtain ⟨S, e, k, q⟩ := q
  refine tTst.bind k q fun d S1 H1 e1 k1 h1 => ?_
  cases d <;> exact h1 S1 H1 (Same.refl _) k1)⟩

/-! ### tuples, lists, items, built-in functions -/
theorem spread_ok : ∀ {fs : List Bool} {os : List Opd} {ds : List D} {vs : List V} {xs : List D}, RTs c S H os ds vs → keepFs fs os = true → spread fs ds = some xs → fs.all (fun f => !f) = true → ds = xs ∧ Reps c.R S ds vs
  | [], [], ds, vs, xs, ⟨h1, h2⟩, _, h, _ => by
    subst h1
    cases h
    exact ⟨rfl, h2⟩
  | false :: fs, o :: os, ds, vs, xs, ⟨d, r, v, t, h1, h2, h3, h4⟩, hk, h, hf => by
    subst h1 h2
    have hk : ((false || o.isV) && keepFs fs os) = true := hk
    rw [Bool.and_eq_true, Bool.false_or] at hk
    have h : (spread fs r).map (d :: ·) = some xs := h
    obtain ⟨ys, h5, h6⟩ := Option.map_eq_some_iff.mp h
    subst h6
    obtain ⟨h7, h8⟩ := spread_ok h4 hk.2 h5 (by simpa using hf)
    refine ⟨by rw [h7], v, t, rfl, ?_, h8⟩
    cases o with
    | v _ => exact h3
    | s _ => cases hk.1
    | io _ => cases hk.1
  | true :: fs, _ :: _, _, _, _, _, _, _, hf => by simp at hf
  | [], _ :: _, ds, vs, xs, ⟨d, r, v, t, h1, h2, h3, h4⟩, _, h, _ => by
    subst h1
    cases h
  | false :: fs, [], ds, vs, xs, ⟨h1, h2⟩, _, h, _ => by
    subst h1
    cases h
  | true :: fs, [], ds, vs, xs, ⟨h1, h2⟩, _, h, _ => by
    subst h1
    cases h
theorem pd_tup {es : List Expr} {is : List Ex} {x1 : Nat} (h : PAD c W X es is) : PD c W X (.Tuple es x1 pos) (.op .tup is) :=
  PE.mono (pe_tup h) fun σ H Q h => (op_post h).imp fun vs H1 h1 => by
    obtain ⟨S, e, os, ds, d, k, r, hk, h2, q⟩ := h1
    have h2 : (if ds.length ≤ SZ then some (D.tup ds) else none) = some d := h2
    have hk : os.all Opd.isV = true := hk
    split at h2
    · rename_i hz
      cases h2
      have hr := r.reps hk
      rw [rv_no rfl] at q
      have hz' : vs.length ≤ sizeLine := by rw [← hr.length]; exact szL.mp hz
      exact ⟨hz', fin_tup k q hz' hr⟩
    · cases h2
theorem pd_lst {es : List Expr} {is : List Ex} (fs : List Bool) (h : PAD c W X es is) (hf : fs.all (fun f => !f) = true := by rfl) : PD c W X (.List es pos) (.op (.lst fs) is) :=
  PE.mono (pe_lst h) fun σ H Q h => (op_post h).imp fun vs H1 h1 => by
    obtain ⟨S, e, os, ds, d, k, r, hk, h2, q⟩ := h1
    have h2 : (match spread fs ds with | some xs => (if xs.length ≤ SZ then some (D.lst xs) else none) | none => none) = some d := h2
    split at h2
    · rename_i xs h3
      split at h2
      · rename_i hz
        cases h2
        obtain ⟨rfl, hr⟩ := spread_ok r hk h3 hf
        have hz' : vs.length ≤ sizeLine := by rw [← hr.length]; exact szL.mp hz
        exact ⟨hz', fin_lst k q hz' hr⟩
      · cases h2
    · cases h2
theorem atI_of {α : Type} {xs : List α} {i : Int} {j : Nat} {x : α} (h1 : ixN xs.length i = some j) (h2 : xs[j]? = some x) : L2.atI xs i = some x := by
  unfold L2.atI
  rw [show L2.ixN xs.length i = ixN xs.length i from rfl, h1]
  exact h2
theorem pd_idx (hx : XC c X) (ha : PD c W X a ia) (hb : PD c W X b ib) (hs : PlainIx b := by intro _ _; rfl) : PD c W X (.Subscript a b pos) (.op .idx [ia, ib]) :=
  PE.mono (pe_ix ix_seq ha hb hs) fun σ H Q h => op2m (fun x y H Q h => by
    obtain ⟨S, e, p, p', d, d', r, k, h1, h2, h3, q⟩ := post2 h
    have h3 : idxD d d' = some r := h3
    rw [rv_no rfl] at q
    rw [hx.K]
    unfold idxD at h3
    split at h3
    · rename_i xs i _
      obtain ⟨j, e1, e2⟩ := Option.bind_eq_some_iff.mp h3
      obtain ⟨l, us, rfl, g1, _, g2⟩ := h1.lst k.sub
      obtain ⟨v, g3, g4⟩ := g2.get e2
      rw [g2.length] at e1
      exact .inl ⟨l, us, i, v, rfl, h2.int k.sub, .of g1, atI_of e1 g3, fin_st k q g4⟩
    · rename_i xs i _
      obtain ⟨j, e1, e2⟩ := Option.bind_eq_some_iff.mp h3
      obtain ⟨l, us, rfl, g1, _, g2⟩ := h1.tup k.sub
      obtain ⟨v, g3, g4⟩ := g2.get e2
      rw [g2.length] at e1
      exact .inr (.inl ⟨l, us, i, v, rfl, h2.int k.sub, g1, atI_of e1 g3, fin_st k q g4⟩)
    · rename_i xs i _
      obtain ⟨n, e0, rfl⟩ := Option.map_eq_some_iff.mp h3
      obtain ⟨j, e1, e2⟩ := Option.bind_eq_some_iff.mp e0
      obtain ⟨l, rfl, g1⟩ := h1.scr k.sub
      refine .inl ⟨l, _, i, .int n, rfl, h2.int k.sub, g1, atI_of (j := j) (by rw [List.length_map]; exact e1) (by rw [List.getElem?_map, e2]; rfl), fin_st k q rfl⟩
    · rename_i xs i _
      split at h3
      · rename_i hz
        obtain ⟨n, e0, rfl⟩ := Option.map_eq_some_iff.mp h3
        obtain ⟨j, e1, e2⟩ := Option.bind_eq_some_iff.mp e0
        refine .inr (.inr ⟨_, i, n, h1.str k.sub, h2.int k.sub, by rw [str_len]; exact szL.mp hz, ?_, fin_st k q rfl⟩)
        exact atI_of (xs := xs.toArray.toList) (j := j) (by simpa using e1) (by simpa using e2)
      · cases h3
    · cases h3) h

section
variable {x : Str} {p : Pos} {e1 : Expr} {es : List Expr} {is : List Ex} {id T : String} {r : List V → Hp → VK → Prop} {o : Op}
/-- a built-in function, by its rule -/
theorem pd_callB (hr : CallR X (.builtin id) r) (hv : bootBuiltins x = some (.builtin id)) (f : ∀ σ xs H Q, OpPost c σ o xs H Q → r xs H Q) (hg : Gl X x) (hm : X.mg x = none) (ha : PAD c W X (e1 :: es) is) (hn : x ≠ "__name__") (hdb : (x == ("__debug__" : Str)) = false)
    (he : starEach (e1 :: es) X.env = (false, eval e1 X.env) :: starEach es X.env := by rfl) (hpl : (backTo pos (starEach es X.env)).any (·.1) = false := by rfl) : PD c W X (.Call (.Name x p) (e1 :: es) [] pos) (.op o is) :=
  PE.mono (pe_callB hr hg hm hv ha hn hdb he hpl) fun σ H Q h => opAm (f σ) h
theorem pd_callTy (hr : CallR X (.type T) r) (hv : bootBuiltins x = some (.type T)) (f : ∀ σ xs H Q, OpPost c σ o xs H Q → r xs H Q) (hg : Gl X x) (hm : X.mg x = none) (ha : PAD c W X (e1 :: es) is) (hn : x ≠ "__name__") (hdb : (x == ("__debug__" : Str)) = false)
    (he : starEach (e1 :: es) X.env = (false, eval e1 X.env) :: starEach es X.env := by rfl) (hpl : (backTo pos (starEach es X.env)).any (·.1) = false := by rfl) : PD c W X (.Call (.Name x p) (e1 :: es) [] pos) (.op o is) :=
  PE.mono (pe_callTy hr hg hm hv ha hn hdb he hpl) fun σ H Q h => opAm (f σ) h
end
/-- the operand and the value of a call with one -/
theorem postA1 {o : Op} {xs : List V} {Q : VK} (h : OpPost c σ o xs H Q) (hn : ∀ d d' r, opEval o (d :: d' :: r) = none) (h0 : opEval o [] = none) : ∃ x S e p d r, xs = [x] ∧ Ok c S H σ e ∧ RT c S H p d x ∧ opEval o [d] = some r ∧ Cont c σ S e (rvOf o r) Q := by
  obtain ⟨S, e, os, ds, d, k, r, _, h1, q⟩ := h
  obtain ⟨l1, l2⟩ := r.len
  match xs, ds, l2 with
  | [], [], _ => rw [h0] at h1; cases h1
  | [x], [d1], _ =>
    obtain ⟨p, d2, _, e2, h3⟩ := r.one
    cases e2
    exact ⟨x, S, e, p, d1, d, rfl, k, h3, h1, q⟩
  | _ :: _ :: _, d1 :: d2 :: _, _ => rw [hn] at h1; cases h1
theorem postA2 {o : Op} {xs : List V} {Q : VK} (h : OpPost c σ o xs H Q) (hn : ∀ d d' d'' r, opEval o (d :: d' :: d'' :: r) = none) (h0 : opEval o [] = none) (h1 : ∀ d, opEval o [d] = none) : ∃ x y S e p p' d d' r, xs = [x, y] ∧ Ok c S H σ e ∧ RT c S H p d x ∧ RT c S H p' d' y ∧ opEval o [d, d'] = some r ∧ Cont c σ S e (rvOf o r) Q := by
  obtain ⟨S, e, os, ds, d, k, r, _, h2, q⟩ := h
  obtain ⟨l1, l2⟩ := r.len
  match xs, ds, l2 with
  | [], [], _ => rw [h0] at h2; cases h2
  | [x], [d1], _ => rw [h1] at h2; cases h2
  | [x, y], [d1, d2], _ =>
    obtain ⟨p, p', d3, d4, _, e2, h3, h4⟩ := r.two
    cases e2
    exact ⟨x, y, S, e, p, p', d1, d2, d, rfl, k, h3, h4, h2, q⟩
  | _ :: _ :: _ :: _, d1 :: d2 :: d3 :: _, _ => rw [hn] at h2; cases h2
end
end SK

set_option Elab.async false
set_option linter.all false
set_option maxRecDepth 100000
set_option autoImplicit false
/-! SK over HandS: built-in functions. -/
namespace SK
open PySem PySem.Spec PyProof.Rows L2
section
variable {c : Fc} {W : WX} {S S' H : Hp} {σ : L2.St} {e : SK.Env} {X : Cx} {a b : Expr} {ia ib : Ex} {pos : Pos}
theorem len_r (hK : X.K = c.R.K) : ∀ xs H Q, OpPost c σ .len xs H Q → (∃ x n, xs = [x] ∧ LenV X.K x H n ∧ Q (.int n) H) := fun xs H Q h => by
  obtain ⟨x, S, e, p, d, r, rfl, k, h1, h3, q⟩ := postA1 h (fun _ _ _ => rfl) rfl
  have h3 : lenD d = some r := h3
  rw [hK]
  unfold lenD at h3
  split at h3
  · cases h3
    obtain ⟨l, us, rfl, g1, _, g2⟩ := h1.lst k.sub
    exact ⟨_, us.length, rfl, .inl ⟨us, .of g1, rfl⟩, fin_st k q (by rw [g2.length]; rfl)⟩
  · cases h3
    obtain ⟨l, us, rfl, g1, _, g2⟩ := h1.tup k.sub
    exact ⟨_, us.length, rfl, .inr ⟨us, g1, rfl⟩, fin_st k q (by rw [g2.length]; rfl)⟩
  · rename_i ns _
    cases h3
    obtain ⟨l, rfl, g1⟩ := h1.scr k.sub
    exact ⟨_, _, rfl, .inl ⟨_, g1, rfl⟩, fin_st k q (by rw [List.length_map]; rfl)⟩
  · split at h3
    · rename_i hz
      cases h3
      have e1 := h1.str k.sub
      subst e1
      exact ⟨_, _, rfl, ⟨by rw [str_len]; exact szL.mp hz, rfl⟩, fin_st k q (by rw [str_len]; rfl)⟩
    · cases h3
  · cases h3
theorem sum_r (hK : X.K = c.R.K) : ∀ xs H Q, OpPost c σ .sum xs H Q → rSum X.K xs H Q := fun xs H Q h => by
  obtain ⟨x, S, e, p, d, r, rfl, k, h1, h3, q⟩ := postA1 h (fun _ _ _ => rfl) rfl
  have h3 : sumD d = some r := h3
  rw [hK]
  unfold sumD at h3
  split at h3
  · obtain ⟨ns, h4, rfl⟩ := Option.map_eq_some_iff.mp h3
    obtain ⟨l, us, rfl, g1, _, g2⟩ := h1.lst k.sub
    exact ⟨l, ns, rfl, .of (by rw [g1, g2.ints h4]), fin_st k q rfl⟩
  · cases h3
theorem all_r (hK : X.K = c.R.K) : ∀ xs H Q, OpPost c σ .all xs H Q → rAll X.K xs H Q := fun xs H Q h => by
  obtain ⟨x, S, e, p, d, r, rfl, k, h1, h3, q⟩ := postA1 h (fun _ _ _ => rfl) rfl
  have h3 : allD d = some r := h3
  rw [hK]
  unfold allD at h3
  split at h3
  · obtain ⟨ns, h4, rfl⟩ := Option.map_eq_some_iff.mp h3
    obtain ⟨l, us, rfl, g1, _, g2⟩ := h1.lst k.sub
    exact ⟨l, ns, rfl, .of (by rw [g1, g2.bools h4]), fin_st k q rfl⟩
  · cases h3
theorem any_r (hK : X.K = c.R.K) : ∀ xs H Q, OpPost c σ .any xs H Q → rAny X.K xs H Q := fun xs H Q h => by
  obtain ⟨x, S, e, p, d, r, rfl, k, h1, h3, q⟩ := postA1 h (fun _ _ _ => rfl) rfl
  have h3 : anyD d = some r := h3
  rw [hK]
  unfold anyD at h3
  split at h3
  · obtain ⟨ns, h4, rfl⟩ := Option.map_eq_some_iff.mp h3
    obtain ⟨l, us, rfl, g1, _, g2⟩ := h1.lst k.sub
    exact ⟨l, ns, rfl, .of (by rw [g1, g2.bools h4]), fin_st k q rfl⟩
  · cases h3
theorem maxL_max : ∀ (ns : List Int) (m n : Int), m ∈ n :: ns → (∀ y ∈ n :: ns, y ≤ m) → maxL n ns = m
  | [], m, n, h1, h2 => by simpa [eq_comm, maxL] using h1
  | x :: r, m, n, h1, h2 => by
    unfold maxL
    refine maxL_max r m _ ?_ fun y hy => ?_
    · have hn := h2 n (by simp)
      have hx := h2 x (by simp)
      split
      · rcases List.mem_cons.mp h1 with h | h
        · exact absurd (h ▸ hx) (by omega)
        · exact h
      · rcases List.mem_cons.mp h1 with h | h
        · rw [h]; exact List.mem_cons_self
        · rcases List.mem_cons.mp h with h | h
          · have : n = m := by omega
            rw [this]; exact List.mem_cons_self
          · exact List.mem_cons_of_mem _ h
    · rcases List.mem_cons.mp hy with h | h
      · rw [h]; split
        · exact h2 x (by simp)
        · exact h2 n (by simp)
      · exact h2 y (by simp [h])
theorem minL_min : ∀ (ns : List Int) (m n : Int), m ∈ n :: ns → (∀ y ∈ n :: ns, m ≤ y) → minL n ns = m
  | [], m, n, h1, h2 => by simpa [eq_comm, minL] using h1
  | x :: r, m, n, h1, h2 => by
    unfold minL
    refine minL_min r m _ ?_ fun y hy => ?_
    · have hn := h2 n (by simp)
      have hx := h2 x (by simp)
      split
      · rcases List.mem_cons.mp h1 with h | h
        · exact absurd (h ▸ hx) (by omega)
        · exact h
      · rcases List.mem_cons.mp h1 with h | h
        · rw [h]; exact List.mem_cons_self
        · rcases List.mem_cons.mp h with h | h
          · have : n = m := by omega
            rw [this]; exact List.mem_cons_self
          · exact List.mem_cons_of_mem _ h
    · rcases List.mem_cons.mp hy with h | h
      · rw [h]; split
        · exact h2 x (by simp)
        · exact h2 n (by simp)
      · exact h2 y (by simp [h])
theorem max_r (hK : X.K = c.R.K) : ∀ xs H Q, OpPost c σ .max xs H Q → rMax X.K xs H Q := fun xs H Q h => by
  obtain ⟨x, S, e, p, d, r, rfl, k, h1, h3, q⟩ := postA1 h (fun _ _ _ => rfl) rfl
  have h3 : maxD d = some r := h3
  rw [hK]
  unfold maxD at h3
  split at h3
  · split at h3
    · rename_i n ns h4
      cases h3
      obtain ⟨l, us, rfl, g1, _, g2⟩ := h1.lst k.sub
      refine ⟨l, n :: ns, rfl, .of (by rw [g1, g2.ints h4]), by simp, fun m hm hy => fin_st k q (by rw [maxL_max ns m n hm fun y hy' => hy y hy']; rfl)⟩
    · cases h3
  · cases h3
theorem min_r (hK : X.K = c.R.K) : ∀ xs H Q, OpPost c σ .min xs H Q → rMin X.K xs H Q := fun xs H Q h => by
  obtain ⟨x, S, e, p, d, r, rfl, k, h1, h3, q⟩ := postA1 h (fun _ _ _ => rfl) rfl
  have h3 : minD d = some r := h3
  rw [hK]
  unfold minD at h3
  split at h3
  · split at h3
    · rename_i n ns h4
      cases h3
      obtain ⟨l, us, rfl, g1, _, g2⟩ := h1.lst k.sub
      refine ⟨l, n :: ns, rfl, .of (by rw [g1, g2.ints h4]), by simp, fun m hm hy => fin_st k q (by rw [minL_min ns m n hm fun y hy' => hy y hy']; rfl)⟩
    · cases h3
  · cases h3
theorem max2_r : ∀ xs H Q, OpPost c σ .max2 xs H Q → (∃ i j, xs = [V.int i, V.int j] ∧ Q (.int (if j > i then j else i)) H) := fun xs H Q h => by
  obtain ⟨x, y, S, e, p, p', d, d', r, rfl, k, h1, h2, h3, q⟩ := postA2 h (fun _ _ _ _ => rfl) rfl (fun _ => rfl)
  have h3 : max2D d d' = some r := h3
  unfold max2D at h3
  split at h3
  · cases h3
    exact ⟨_, _, by rw [h1.int k.sub, h2.int k.sub], fin_st k q rfl⟩
  · cases h3
theorem min2_r : ∀ xs H Q, OpPost c σ .min2 xs H Q → (∃ i j, xs = [V.int i, V.int j] ∧ Q (.int (if j < i then j else i)) H) := fun xs H Q h => by
  obtain ⟨x, y, S, e, p, p', d, d', r, rfl, k, h1, h2, h3, q⟩ := postA2 h (fun _ _ _ _ => rfl) rfl (fun _ => rfl)
  have h3 : min2D d d' = some r := h3
  unfold min2D at h3
  split at h3
  · cases h3
    exact ⟨_, _, by rw [h1.int k.sub, h2.int k.sub], fin_st k q rfl⟩
  · cases h3
theorem abs_r : ∀ xs H Q, OpPost c σ .abs xs H Q → (∃ i, xs = [V.int i] ∧ Q (.int (if i < 0 then -i else i)) H) := fun xs H Q h => by
  obtain ⟨x, S, e, p, d, r, rfl, k, h1, h3, q⟩ := postA1 h (fun _ _ _ => rfl) rfl
  have h3 : absD d = some r := h3
  unfold absD at h3
  split at h3
  · cases h3
    exact ⟨_, by rw [h1.int k.sub], fin_st k q rfl⟩
  · cases h3
theorem int_r : ∀ xs H Q, OpPost c σ .toInt xs H Q → ((∃ i, xs = [V.int i] ∧ Q (.int i) H) ∨ ∃ k, xs = [V.bl k] ∧ Q (.int (if k then 1 else 0)) H) := fun xs H Q h => by
  obtain ⟨x, S, e, p, d, r, rfl, k, h1, h3, q⟩ := postA1 h (fun _ _ _ => rfl) rfl
  have h3 : toIntD d = some r := h3
  unfold toIntD at h3
  split at h3
  · cases h3
    exact .inl ⟨_, by rw [h1.int k.sub], fin_st k q rfl⟩
  · cases h3
theorem tuple_r (hK : X.K = c.R.K) : ∀ xs H Q, OpPost c σ .tuple xs H Q → (∃ p ys, xs = [V.ref p] ∧ ((SqL X.K H p ys ∧ ∀ l, H l = none → Q (.ref l) (upd H l (.tup ys))) ∨ (SqT X.K H p ys ∧ Q (.ref p) H))) := fun xs H Q h => by
  obtain ⟨x, S, e, p, d, r, rfl, k, h1, h3, q⟩ := postA1 h (fun _ _ _ => rfl) rfl
  have h3 : tupleD d = some r := h3
  rw [hK]
  rw [rv_no rfl] at q
  unfold tupleD at h3
  split at h3
  · cases h3
    obtain ⟨l, us, rfl, g1, gz, g2⟩ := h1.lst k.sub
    exact ⟨l, us, rfl, .inl ⟨.of g1, fin_tup k q gz g2⟩⟩
  · cases h3
    rcases h1.any with ⟨l, us, rfl, g1, gz, g2⟩ | ⟨_, _, _, _, g⟩
    · exact ⟨l, us, rfl, .inr ⟨same_seqT k.sub g1, fin_st k q ⟨l, us, rfl, g1, gz, g2⟩⟩⟩
    · exact g.elim
  · cases h3
theorem list_r (hK : X.K = c.R.K) : ∀ xs H Q, OpPost c σ .list xs H Q → (∃ p ys, xs = [V.ref p] ∧ (SqL X.K H p ys ∨ SqT X.K H p ys) ∧ ∀ l, H l = none → Q (.ref l) (upd H l (.lst ys))) := fun xs H Q h => by
  obtain ⟨x, S, e, p, d, r, rfl, k, h1, h3, q⟩ := postA1 h (fun _ _ _ => rfl) rfl
  have h3 : listD d = some r := h3
  rw [hK]
  unfold listD at h3
  split at h3
  · cases h3
    obtain ⟨l, us, rfl, g1, gz, g2⟩ := h1.lst k.sub
    exact ⟨l, us, rfl, .inl (.of g1), fin_lst k q gz g2⟩
  · cases h3
    obtain ⟨l, us, rfl, g1, gz, g2⟩ := h1.tup k.sub
    exact ⟨l, us, rfl, .inr g1, fin_lst k q gz g2⟩
  · cases h3
/-! ### isinstance -/
def tyN : D → Option String
  | .non => some "NoneType"
  | .bl _ => some "bool"
  | .int _ => some "int"
  | .str _ => some "str"
  | .tup _ => some "tuple"
  | .lst _ => some "list"
  | .scr _ => some "list"
  | .dic _ _ => some "dict"
  | _ => none
theorem tyx_tup {K : PySem.W.Frag} {a : Addr} {xs : List V} (h : SqT K H a xs) : TyX K H (.ref a) (.type "tuple") := by
  rcases h with (h | ⟨o, h⟩) | ⟨o, its, n, h1, h2, _⟩
  · exact .base (.tup h)
  · exact .fTuple h
  · exact .kTuple h1 h2
theorem tyx_lst {K : PySem.W.Frag} {a : Addr} {xs : List V} (h : SqL K H a xs) : TyX K H (.ref a) (.type "list") := by
  rcases h with (h | ⟨o, h⟩) | ⟨o, its, n, h1, h2, _⟩
  · exact .base (.lst h)
  · exact .base (.frz h)
  · exact .kList h1 h2
theorem tyx (hx : XC c X) {d : D} {x : V} {p : Opd} (s : Same S H) (h : RT c S H p d x) : (∃ n, tyN d = some n ∧ TyX X.K H x (.type n)) ∨ ∃ k ns vs, d = .ins k ns vs ∧ k ∈ c.R.cs ∧ TyX X.K H x (.ref (c.R.cl k)) := by
  have hK := hx.K
  cases d with
  | non => rw [show x = .non from h.rep s]; exact .inl ⟨_, rfl, .base .non⟩
  | bl b => rw [h.bl s]; exact .inl ⟨_, rfl, .base (.bl b)⟩
  | int i => rw [h.int s]; exact .inl ⟨_, rfl, .base (.int i)⟩
  | str b => rw [h.str s]; exact .inl ⟨_, rfl, .base (.str _)⟩
  | tup b => obtain ⟨a, us, rfl, g1, _⟩ := h.tup s; exact .inl ⟨_, rfl, by rw [hK]; exact tyx_tup g1⟩
  | lst b => obtain ⟨a, us, rfl, g1, _⟩ := h.lst s; exact .inl ⟨_, rfl, .base (.lst g1)⟩
  | scr b => obtain ⟨a, rfl, g1⟩ := h.scr s; exact .inl ⟨_, rfl, by rw [hK]; exact tyx_lst g1⟩
  | dic _ _ => exact (show False from h.rep s).elim
  | clo _ _ => exact (show False from h.rep s).elim
  | ins k ns vs =>
    obtain ⟨hk, a, dx, fs, rfl, g1, _⟩ := h.ins s
    have f := hx.cf k hk
    exact .inr ⟨k, ns, vs, rfl, hk, .base (.ins g1 f.cl f.ha f.hn f.htk f.hm)⟩
/-- isinstance(x, T), T a built-in type; the answer by the value's kind -/
theorem isi_r (hx : XC c X) {o : Op} (T : String) (hT : T ∈ ["int", "bool", "str", "tuple", "list", "dict"]) (g : D → Bool) (ho : ∀ d r, opEval o [d] = some r → r = .bl (g d))
    (hg : ∀ d n, tyN d = some n → PySem.W.kitOne X.K (.type n) (.type T) = some (g d)) (hi : ∀ k ns vs, g (.ins k ns vs) = false) {x : V} {Q : VK} (h : OpPost c σ o [x] H Q) : rIsi X.K [x, .ty T] H Q := by
  obtain ⟨S, e, p, d, r, k, h1, h3, q⟩ := post1 h
  have hr := ho d r h3
  subst hr
  rw [rv_bl] at q
  rcases tyx hx k.sub h1 with ⟨n, hn, ty⟩ | ⟨kk, ns, vs, rfl, hk, ty⟩
  · exact ⟨x, .ty T, _, _, g d, rfl, .ty T, ty, hg d n hn, fin_st k q rfl⟩
  · exact ⟨x, .ty T, _, _, false, rfl, .ty T, ty, (hx.cf kk hk).kt T hT, by rw [← hi kk ns vs]; exact fin_st k q rfl⟩
theorem pd_isi (hx : XC c X) {o : Op} {xi xT : Str} {p1 p2 : Pos} (T : String) (hg : Gl X xi) (hm : X.mg xi = none) (hv : bootBuiltins xi = some (.builtin "isinstance")) (hgT : Gl X xT) (hmT : X.mg xT = none) (hvT : bootBuiltins xT = some (.type T)) (hn : xi ≠ "__name__") (hnT : xT ≠ "__name__") (hdb : (xi == ("__debug__" : Str)) = false) (hdT : (xT == ("__debug__" : Str)) = false)
    (f : ∀ σ x H Q, OpPost c σ o [x] H Q → rIsi X.K [x, .ty T] H Q) (ha : PD c W X a ia)
    (he : starEach [a, .Name xT p2] X.env = (false, eval a X.env) :: starEach [.Name xT p2] X.env := by rfl) (hpl : (backTo pos (starEach [.Name xT p2] X.env)).any (·.1) = false := by rfl) (he2 : starEach [.Name xT p2] X.env = (false, eval (.Name xT p2) X.env) :: starEach [] X.env := by rfl) :
    PD c W X (.Call (.Name xi p1) [a, .Name xT p2] [] pos) (.op o [ia]) :=
  PE.mono (pe_callB call_isi hg hm hv (pa_cons ha (pa_cons (pe_bltn (v := .ty T) hgT hmT hvT rfl hnT hdT) pa_nil he2) he) hn hdb he hpl) fun σ H Q h => by
    have h1 := op1 h
    exact h1.imp fun x H1 h2 => f σ x H1 Q h2
theorem isInt_o : ∀ d r, opEval .isInt [d] = some r → r = .bl (isInt d) := fun _ _ h => (Option.some.inj h).symm
theorem isBool_o : ∀ d r, opEval .isBool [d] = some r → r = .bl (isBool d) := fun _ _ h => (Option.some.inj h).symm
theorem isTup_o : ∀ d r, opEval .isTup [d] = some r → r = .bl (isTup d) := fun _ _ h => (Option.some.inj h).symm
theorem isInt_g {K : PySem.W.Frag} : ∀ d n, tyN d = some n → PySem.W.kitOne K (.type n) (.type "int") = some (isInt d) := fun d n h => by
  cases d <;> first | (cases h; exact kit_ty (r := true) (by decide +kernel)) | (cases h; exact kit_ty (r := false) (by decide +kernel)) | (cases h; done)
theorem isBool_g {K : PySem.W.Frag} : ∀ d n, tyN d = some n → PySem.W.kitOne K (.type n) (.type "bool") = some (isBool d) := fun d n h => by
  cases d <;> first | (cases h; exact kit_ty (r := true) (by decide +kernel)) | (cases h; exact kit_ty (r := false) (by decide +kernel)) | (cases h; done)
theorem isTup_g {K : PySem.W.Frag} : ∀ d n, tyN d = some n → PySem.W.kitOne K (.type n) (.type "tuple") = some (isTup d) := fun d n h => by
  cases d <;> first | (cases h; exact kit_ty (r := true) (by decide +kernel)) | (cases h; exact kit_ty (r := false) (by decide +kernel)) | (cases h; done)
theorem isInt_r (hx : XC c X) : ∀ σ x H Q, OpPost c σ .isInt [x] H Q → rIsi X.K [x, .ty "int"] H Q := fun _ _ _ _ h => isi_r hx "int" (by simp) isInt isInt_o isInt_g (fun _ _ _ => rfl) h
theorem isBool_r (hx : XC c X) : ∀ σ x H Q, OpPost c σ .isBool [x] H Q → rIsi X.K [x, .ty "bool"] H Q := fun _ _ _ _ h => isi_r hx "bool" (by simp) isBool isBool_o isBool_g (fun _ _ _ => rfl) h
theorem isTup_r (hx : XC c X) : ∀ σ x H Q, OpPost c σ .isTup [x] H Q → rIsi X.K [x, .ty "tuple"] H Q := fun _ _ _ _ h => isi_r hx "tuple" (by simp) isTup isTup_o isTup_g (fun _ _ _ => rfl) h
end
end SK

set_option Elab.async false
set_option linter.all false
set_option maxRecDepth 100000
set_option autoImplicit false
/-! SK over HandS: what is walked, targets, comprehensions. -/
namespace SK
open PySem PySem.Spec PyProof.Rows L2 RZ
section
variable {c : Fc} {W : WX} {S S' H : Hp} {σ : L2.St} {e : SK.Env} {X : Cx} {a b : Expr} {ia ib : Ex} {pos : Pos}
theorem PI.mono {X : Cx} {tg x : Expr} {t t' : TI} (h : PI X tg x t) (f : ∀ σ H Q, t' σ H Q → t σ H Q) : PI X tg x t' := ⟨fun pins s σ H R I q => h.run pins s σ H R I (f σ H R q)⟩
/-- an iterator yields the data ds, whatever the heap is meanwhile -/
structure ItOk (c : Fc) (J : It) (S : Hp) (ds : List D) : Prop where
  go : ∀ (i : Nat) (d : D) (H : Hp), ds[i]? = some d → Same S H → J.go i H
  yld : ∀ (i : Nat) (d : D) (H H' S1 : Hp) (x : V) (σ : L2.St) (e : SK.Env) (h0 : Hp), ds[i]? = some d → Same S S1 → Ok { c with H0 := h0 } S1 H σ e → J.yld i H x H' → ∃ S2, Same S1 S2 ∧ Ok { c with H0 := h0 } S2 H' σ e ∧ Rep c.R S2 d x ∧ Same H H' ∧ ∀ b, S1 b = none → H b ≠ none → S2 b = none
  stop : ∀ (H : Hp), Same S H → J.stop ds.length H
def tIt (c : Fc) (W : WX) (k : ItK) (es : List Ex) : TI := fun σ H R => ∃ S e, Ok c S H σ e ∧ Post c W σ S (evs c.Φ es e) fun os e1 S1 H1 => match itEnd k e1 os with
  | some xs => ∀ J S2 H2, Same S1 S2 → Ok c S2 H2 σ e1 → ItOk c J S2 xs → R J H2
  | none => False
abbrev PID (c : Fc) (W : WX) (X : Cx) (tg x : Expr) (k : ItK) (es : List Ex) : Prop := PI X tg x (tIt c W k es)
theorem it_post {k : ItK} {es : List Ex} {R : It → Hp → Prop} (h : tIt c W k es σ H R) : tEvs c W es σ H fun vs H1 => ∃ S e ds xs, Ok c S H1 σ e ∧ Reps c.R S ds vs ∧ itEval k ds = some xs ∧ ∀ J S2 H2, Same S S2 → Ok c S2 H2 σ e → ItOk c J S2 xs → R J H2 := by
  obtain ⟨S, e, k, h⟩ := h
  refine ⟨S, e, k, h.imp fun os e1 S1 H1 m k1 h1 vs hvs => ?_⟩
  unfold itEnd at h1
  split at h1
  · rename_i xs q
    split at q
    · rename_i hv
      split at q
      · rename_i ds q1
        exact ⟨S1, e1, ds, xs, k1, (k1.rts q1 hvs).reps hv, q, h1⟩
      · cases q
    · cases q
  · exact h1.elim
/-- a list or a tuple -/
def iSeq (K : PySem.W.Frag) (tl : TE) : TI := fun σ H R => tl σ H fun x H1 => (∃ a xs, x = .ref a ∧ SqL K H1 a xs ∧ R (Itl K a) H1) ∨ ∃ a xs, x = .ref a ∧ SqT K H1 a xs ∧ R (Itt K a) H1
theorem pi_seq {tg l : Expr} {tl : TE} (hl : PE X l tl) : PI X tg l (iSeq X.K tl) := by
  refine ⟨fun pins s σ H R I h => ?_⟩
  refine thn (hl.run pins s σ H _ I h) fun v s1 ⟨x, H1, I1, r1, q1⟩ => ?_
  rcases q1 with ⟨a, xs, e, hq, q⟩ | ⟨a, xs, e, hq, q⟩
  · subst e
    cases r1
    obtain ⟨its, rv, p, hz⟩ := I1.list hq
    refine wpAny_pyIter_list p.isList ?_
    refine ⟨s1.heap.objs.size, [s1.heap.objs.size], _, _, H1, rfl, I1.kept (t' := s1.toks) fun b o e => Heap.get?_push_of_some _ e, turn_list a _, ⟨_, Heap.get?_push_size _ rfl, rfl, rfl⟩, fun b hb => ?_, q⟩
    have e : b = s1.heap.objs.size := by simpa using hb
    subst e
    exact I1.fpOk (Nat.le_refl _) (I1.hok.fresh (Nat.le_refl _))
  · subst e
    cases r1
    obtain ⟨its, rv, p, hz⟩ := I1.tuple hq
    refine wpAny_pyIter_tuple (show s1.heap.IsTuple a its.toArray from p) ?_
    refine ⟨s1.heap.objs.size, [s1.heap.objs.size], _, _, H1, rfl, I1.kept (t' := s1.toks) fun b o e => Heap.get?_push_of_some _ e, turn_tuple a _, ⟨_, Heap.get?_push_size _ rfl, rfl, rfl⟩, fun b hb => ?_, q⟩
    have e : b = s1.heap.objs.size := by simpa using hb
    subst e
    exact I1.fpOk (Nat.le_refl _) (I1.hok.fresh (Nat.le_refl _))
theorem SqT.inj_of {K : PySem.W.Frag} {H : Hp} {a : Addr} {xs : List V} : SqT K H a xs → SqT K H a xs := id
theorem itok_lst {ds : List D} {l : Addr} {us : List V} (h1 : S l = some (.lst us)) (h2 : Reps c.R S ds us) : ItOk c (Itl c.R.K l) S ds where
  go := fun i d H hd m => by
    obtain ⟨v, g, _⟩ := h2.get hd
    exact ⟨us, v, .of (m _ _ h1), g⟩
  yld := fun i d H H' S1 x σ e h0 hd m k y => by
    obtain ⟨rfl, y⟩ := y
    obtain ⟨v, g, g2⟩ := h2.get hd
    have q := y us (.of (k.sub _ _ (m _ _ h1)))
    rw [g] at q
    cases q
    exact ⟨S1, Same.refl _, k, g2.mono m, Same.refl _, fun _ z _ => z⟩
  stop := fun H m => ⟨us, .of (m _ _ h1), by rw [h2.length]; exact Nat.le_refl _⟩
theorem itok_tup {ds : List D} {l : Addr} {us : List V} (h1 : SqT c.R.K S l us) (h2 : Reps c.R S ds us) : ItOk c (Itt c.R.K l) S ds where
  go := fun i d H hd m => by
    obtain ⟨v, g, _⟩ := h2.get hd
    exact ⟨us, v, same_seqT m h1, g⟩
  yld := fun i d H H' S1 x σ e h0 hd m k y => by
    obtain ⟨rfl, y⟩ := y
    obtain ⟨v, g, g2⟩ := h2.get hd
    have q := y us (same_seqT k.sub (same_seqT m h1))
    rw [g] at q
    cases q
    exact ⟨S1, Same.refl _, k, g2.mono m, Same.refl _, fun _ z _ => z⟩
  stop := fun H m => ⟨us, same_seqT m h1, by rw [h2.length]; exact Nat.le_refl _⟩
theorem Reps.one_inv {ds : List D} {x : V} {R : Rc} (r : Reps R S ds [x]) : ∃ d, ds = [d] ∧ Rep R S d x := by
  cases ds with
  | nil => exact absurd (show [x] = [] from r) (by simp)
  | cons d ds =>
    obtain ⟨v, t, e1, e2, e3⟩ := r
    cases e1
    cases ds with
    | nil => exact ⟨d, rfl, e2⟩
    | cons _ _ => obtain ⟨_, _, z, _⟩ := e3; cases z
theorem Reps.two_inv {ds : List D} {x y : V} {R : Rc} (r : Reps R S ds [x, y]) : ∃ d d', ds = [d, d'] ∧ Rep R S d x ∧ Rep R S d' y := by
  cases ds with
  | nil => exact absurd (show [x, y] = [] from r) (by simp)
  | cons d ds =>
    obtain ⟨v, t, e1, e2, e3⟩ := r
    cases e1
    obtain ⟨d', rfl, h⟩ := Reps.one_inv e3
    exact ⟨d, d', rfl, e2, h⟩

theorem pid_seq {tg : Expr} (hx : XC c X) (ha : PD c W X a ia) : PID c W X tg a .seq [ia] :=
  PI.mono (pi_seq ha) fun σ H R h => (evs1 (it_post h)).imp fun x H1 h1 => by
    obtain ⟨S, e, ds, xs, k, r, h2, q⟩ := h1
    rw [hx.K]
    obtain ⟨d, rfl, r4⟩ := Reps.one_inv r
    have h2 : seqIt d = some xs := h2
    unfold seqIt at h2
    split at h2
    · cases h2
      obtain ⟨l, us, rfl, g1, _, g2⟩ := r4
      exact .inl ⟨l, us, rfl, .of (k.sub _ _ g1), q _ S H1 (Same.refl _) k (itok_lst g1 g2)⟩
    · cases h2
      obtain ⟨l, us, rfl, g1, _, g2⟩ := r4
      exact .inr ⟨l, us, rfl, same_seqT k.sub g1, q _ S H1 (Same.refl _) k (itok_tup g1 g2)⟩
    · cases h2
theorem itok_range {lo hi : Int} : ItOk c (Itr lo (hi - lo).toNat) S (rng lo hi) where
  go := fun i d H hd m => by
    have h := lt_of_get hd
    unfold rng at h
    rw [List.length_map, List.length_range] at h
    exact h
  yld := fun i d H H' S1 x σ e h0 hd m k y => by
    obtain ⟨rfl, rfl⟩ := y
    have hi := lt_of_get hd
    unfold rng at hi hd
    rw [List.length_map, List.length_range] at hi
    rw [List.getElem?_map, List.getElem?_range hi] at hd
    cases hd
    exact ⟨S1, Same.refl _, k, rfl, Same.refl _, fun _ z _ => z⟩
  stop := fun H m => by
    show (hi - lo).toNat ≤ _
    unfold rng
    rw [List.length_map, List.length_range]
    exact Nat.le_refl _
theorem rng_ok {a b : Int} (h : rngOk a b = true) : -(2 ^ 62) ≤ a ∧ a < 2 ^ 62 ∧ -(2 ^ 62) ≤ b ∧ b < 2 ^ 62 := by
  unfold rngOk at h
  simp only [Bool.and_eq_true, decide_eq_true_eq] at h
  omega
theorem pid_range1 {tg : Expr} {p : Pos} (hg : Gl X "range") (hm : X.mg "range" = none) (ha : PAD c W X [a] [ia]) (hs : starEach [a] X.env = [(false, eval a X.env)] := by rfl) : PID c W X tg (.Call (.Name "range" p) [a] [] pos) .range1 [ia] :=
  PI.mono (pi_range1 hg hm ha hs) fun σ H R h => (it_post h).imp fun vs H1 h1 => by
    obtain ⟨S, e, ds, xs, k, r, h2, q⟩ := h1
    match ds, r, h2 with
    | [], _, h2 => cases h2
    | _ :: _ :: _, _, h2 => cases h2
    | [d], r, h2 =>
      have h2 : range1It d = some xs := h2
      obtain ⟨v, t, rfl, e2, e3⟩ := r
      have e3 : t = [] := e3
      subst e3
      unfold range1It at h2
      split at h2
      · split at h2
        · rename_i n _ hz
          cases h2
          have e2 : v = .int n := e2
          subst e2
          obtain ⟨_, _, z1, z2⟩ := rng_ok hz
          refine ⟨n, rfl, z1, z2, q _ S H1 (Same.refl _) k ?_⟩
          have := itok_range (c := c) (S := S) (lo := 0) (hi := n)
          rw [Int.sub_zero] at this
          exact this
        · cases h2
      · cases h2
theorem pid_range2 {tg : Expr} {p : Pos} (hg : Gl X "range") (hm : X.mg "range" = none) (ha : PAD c W X [a, b] [ia, ib]) (hs : starEach [a, b] X.env = [(false, eval a X.env), (false, eval b X.env)] := by rfl) (hs2 : starEach [b] X.env = [(false, eval b X.env)] := by rfl) : PID c W X tg (.Call (.Name "range" p) [a, b] [] pos) .range2 [ia, ib] :=
  PI.mono (pi_range2 hg hm ha hs hs2) fun σ H R h => (it_post h).imp fun vs H1 h1 => by
    obtain ⟨S, e, ds, xs, k, r, h2, q⟩ := h1
    match ds, r, h2 with
    | [], _, h2 => cases h2
    | [_], _, h2 => cases h2
    | _ :: _ :: _ :: _, _, h2 => cases h2
    | [d, d'], r, h2 =>
      have h2 : range2It d d' = some xs := h2
      obtain ⟨v, t, rfl, e2, v', t', rfl, e3, e4⟩ := r
      have e4 : t' = [] := e4
      subst e4
      unfold range2It at h2
      split at h2
      · split at h2
        · rename_i n m _ hz
          cases h2
          have e2 : v = .int n := e2
          have e3 : v' = .int m := e3
          subst e2 e3
          exact ⟨n, m, rfl, rng_ok hz, q _ S H1 (Same.refl _) k itok_range⟩
        · cases h2
      · cases h2
theorem ok_same {h0 : Hp} {p : Addr} {o : HO} (k : Ok { c with H0 := h0 } S H σ e) (hp : H p = none) : Ok { c with H0 := h0 } (upd S p o) (upd H p o) σ e ∧ Same S (upd S p o) := k.laid hp
theorem zip_get {xs ys : List D} {i : Nat} {d : D} (h : (List.zipWith pairD xs ys)[i]? = some d) : ∃ x y, xs[i]? = some x ∧ ys[i]? = some y ∧ d = .tup [x, y] := by
  rw [List.getElem?_zipWith] at h
  cases h1 : xs[i]? with
  | none => rw [h1] at h; cases h
  | some x =>
    cases h2 : ys[i]? with
    | none => rw [h1, h2] at h; cases h
    | some y =>
      rw [h1, h2] at h
      cases h
      exact ⟨x, y, rfl, rfl, rfl⟩
theorem two_le : (2 : Nat) ≤ sizeLine := by rw [sizeLine_eq]; decide
theorem itok_zip {ds es : List D} {l m : Addr} {us ws : List V} (h1 : S l = some (.lst us)) (h2 : Reps c.R S ds us) (h3 : S m = some (.lst ws)) (h4 : Reps c.R S es ws) : ItOk c (Itz c.R.K l m) S (List.zipWith pairD ds es) where
  go := fun i d H hd m' => by
    obtain ⟨x, y, e1, e2, rfl⟩ := zip_get hd
    obtain ⟨v, g, _⟩ := h2.get e1
    obtain ⟨w, g', _⟩ := h4.get e2
    exact ⟨us, ws, v, w, .of (m' _ _ h1), .of (m' _ _ h3), g, g'⟩
  yld := fun i d H H' S1 x σ e h0 hd m' k y => by
    obtain ⟨x1, y1, e1, e2, rfl⟩ := zip_get hd
    obtain ⟨v, g, g2⟩ := h2.get e1
    obtain ⟨w, g', g3⟩ := h4.get e2
    obtain ⟨T, x2, y2, rfl, hT, rfl, f1, f2⟩ := y
    have q1 := f1 us (.of (k.sub _ _ (m' _ _ h1)))
    have q2 := f2 ws (.of (k.sub _ _ (m' _ _ h3)))
    rw [g] at q1
    rw [g'] at q2
    cases q1
    cases q2
    obtain ⟨k1, m1⟩ := ok_same (o := .tup [v, w]) k hT
    refine ⟨_, m1, k1, ⟨T, [v, w], rfl, .of upd_same, two_le, v, [w], rfl, g2.mono (m'.trans m1), w, [], rfl, g3.mono (m'.trans m1), rfl⟩, same_upd hT, fun b z z' => ?_⟩
    rw [upd_ne (fun q => by subst q; exact z' hT)]
    exact z
  stop := fun H m' => ⟨us, ws, .of (m' _ _ h1), .of (m' _ _ h3), by
    have := h2.length
    have := h4.length
    rw [List.length_zipWith]
    omega⟩
theorem itok_zipT {ds es : List D} {l m : Addr} {us ws : List V} (h1 : SqT c.R.K S l us) (h2 : Reps c.R S ds us) (h3 : SqT c.R.K S m ws) (h4 : Reps c.R S es ws) : ItOk c (ItzT c.R.K l m) S (List.zipWith pairD ds es) where
  go := fun i d H hd m' => by
    obtain ⟨x, y, e1, e2, rfl⟩ := zip_get hd
    obtain ⟨v, g, _⟩ := h2.get e1
    obtain ⟨w, g', _⟩ := h4.get e2
    exact ⟨us, ws, v, w, same_seqT m' h1, same_seqT m' h3, g, g'⟩
  yld := fun i d H H' S1 x σ e h0 hd m' k y => by
    obtain ⟨x1, y1, e1, e2, rfl⟩ := zip_get hd
    obtain ⟨v, g, g2⟩ := h2.get e1
    obtain ⟨w, g', g3⟩ := h4.get e2
    obtain ⟨T, x2, y2, rfl, hT, rfl, f1, f2⟩ := y
    have q1 := f1 us (same_seqT k.sub (same_seqT m' h1))
    have q2 := f2 ws (same_seqT k.sub (same_seqT m' h3))
    rw [g] at q1
    rw [g'] at q2
    cases q1
    cases q2
    obtain ⟨k1, m1⟩ := ok_same (o := .tup [v, w]) k hT
    refine ⟨_, m1, k1, ⟨T, [v, w], rfl, .of upd_same, two_le, v, [w], rfl, g2.mono (m'.trans m1), w, [], rfl, g3.mono (m'.trans m1), rfl⟩, same_upd hT, fun b z z' => ?_⟩
    rw [upd_ne (fun q => by subst q; exact z' hT)]
    exact z
  stop := fun H m' => ⟨us, ws, same_seqT m' h1, same_seqT m' h3, by
    have := h2.length
    have := h4.length
    rw [List.length_zipWith]
    omega⟩
theorem pid_zip {p tpos : Pos} {elts : List Expr} {kk : Nat} (hx : XC c X) (hg : Gl X "zip") (hm : X.mg "zip" = none) (ha : PAD c W X [a, b] [ia, ib]) (hs : starEach [a, b] X.env = (false, eval a X.env) :: starEach [b] X.env := by rfl) (hpl : (backTo pos (starEach [b] X.env)).any (·.1) = false := by rfl) :
    PID c W X (.Tuple elts kk tpos) (.Call (.Name "zip" p) [a, b] [] pos) .zip [ia, ib] :=
  PI.mono (pi_zipA hg hm ha hs hpl) fun σ H R h => (it_post h).imp fun vs H1 h1 => by
    obtain ⟨S, e, ds, xs, k, r, h2, q⟩ := h1
    rw [hx.K]
    match ds, r, h2 with
    | [], _, h2 => cases h2
    | [_], _, h2 => cases h2
    | _ :: _ :: _ :: _, _, h2 => cases h2
    | [d, d'], r, h2 =>
      have h2 : zipIt d d' = some xs := h2
      obtain ⟨v, t, rfl, e2, v', t', rfl, e3, e4⟩ := r
      have e4 : t' = [] := e4
      subst e4
      unfold zipIt at h2
      split at h2
      · cases h2
        obtain ⟨l, us, rfl, g1, _, g2⟩ := e2
        obtain ⟨m, ws, rfl, g3, _, g4⟩ := e3
        exact ⟨l, m, us, ws, rfl, .inl ⟨.of (k.sub _ _ g1), .of (k.sub _ _ g3), q _ S H1 (Same.refl _) k (itok_zip g1 g2 g3 g4)⟩⟩
      · cases h2
        obtain ⟨l, us, rfl, g1, _, g2⟩ := e2
        obtain ⟨m, ws, rfl, g3, _, g4⟩ := e3
        exact ⟨l, m, us, ws, rfl, .inr ⟨same_seqT k.sub g1, same_seqT k.sub g3, q _ S H1 (Same.refl _) k (itok_zipT g1 g2 g3 g4)⟩⟩
      · cases h2
end
end SK

set_option Elab.async false
set_option linter.all false
set_option maxRecDepth 100000
set_option autoImplicit false
/-! SK over HandS: targets, comprehensions. -/
namespace SK
open PySem PySem.Spec PyProof.Rows L2
section
variable {c : Fc} {W : WX} {S S' H : Hp} {σ σ' : L2.St} {e e' : SK.Env} {X : Cx} {a b : Expr} {ia ib : Ex} {pos : Pos}
theorem PG.mono {x : Expr} {t t' : TG} (h : PG X x t) (f : ∀ v σ H Q, t' v σ H Q → t v σ H Q) : PG X x t' := ⟨fun pins s σ H v u Q I r q => h.run pins s σ H v u Q I r (f v σ H Q q)⟩
theorem PGs.mono {x : List Expr} {t t' : TGs} (h : PGs X x t) (f : ∀ v σ H Q, t' v σ H Q → t v σ H Q) : PGs X x t' := ⟨fun pins s σ H v u Q I r q => h.run pins s σ H v u Q I r (f v σ H Q q)⟩
theorem PG.or {x : Expr} {t t' : TG} (h : PG X x t) (h' : PG X x t') : PG X x (fun v σ H Q => t v σ H Q ∨ t' v σ H Q) := ⟨fun pins s σ H v u Q I r q => q.elim (fun q => h.run pins s σ H v u Q I r q) fun q => h'.run pins s σ H v u Q I r q⟩
/-- only the slots of vs are set -/
def SetIn (vs : List Nat) (σ σ' : L2.St) : Prop := σ'.length = σ.length ∧ ∀ j, j ∉ vs → σ'[j]? = σ[j]?
theorem SetIn.refl (vs : List Nat) (σ : L2.St) : SetIn vs σ σ := ⟨rfl, fun _ _ => rfl⟩
theorem SetIn.trans {vs ws : List Nat} {σ1 σ2 σ3 : L2.St} (h : SetIn vs σ1 σ2) (h' : SetIn ws σ2 σ3) : SetIn (vs ++ ws) σ1 σ3 :=
  ⟨h'.1.trans h.1, fun j hj => (h'.2 j fun z => hj (List.mem_append_right _ z)).trans (h.2 j fun z => hj (List.mem_append_left _ z))⟩
theorem SetIn.mono {vs ws : List Nat} {σ1 σ2 : L2.St} (h : SetIn vs σ1 σ2) (m : ∀ j ∈ vs, j ∈ ws) : SetIn ws σ1 σ2 := ⟨h.1, fun j hj => h.2 j fun z => hj (m j z)⟩
def tTg (c : Fc) (t : Tg) : TG := fun v σ H Q => ∃ S e d e', Ok c S H σ e ∧ Rep c.R S d v ∧ asg t d e = some e' ∧ ∀ σ', Ok c S H σ' e' → SetIn (tgv t) σ σ' → Q σ' H
def tTgs (c : Fc) (ts : List Tg) : TGs := fun vs σ H Q => ∃ S e ds e', Ok c S H σ e ∧ Reps c.R S ds vs ∧ asgs ts ds e = some e' ∧ ∀ σ', Ok c S H σ' e' → SetIn (tgvs ts) σ σ' → Q σ' H
theorem Ok.setv {i : Nat} {d : D} {v : V} (k : Ok c S H σ e) (hv : Rep c.R S d v) : Ok c S H (σ.set i (some v)) (e.set i (.val d)) := by
  by_cases hi : i < e.length
  · have hi' : i < σ.length := by rw [k.len]; exact hi
    refine ⟨k.sub, k.keep, k.dom, k.base, k.new, k.iod, by rw [List.length_set, List.length_set]; exact k.len, fun j d' z => ?_, fun j d' z => ?_, fun j j' d1 d2 b z1 z2 z3 z4 => ?_⟩
    · by_cases hj : i = j
      · subst hj
        rw [List.getElem?_set_self hi] at z
        cases z
        exact ⟨v, List.getElem?_set_self hi', hv⟩
      · rw [List.getElem?_set_ne hj] at z ⊢
        exact k.val j d' z
    · obtain ⟨hj, z⟩ := sl_val hi z
      rw [List.getElem?_set_ne (fun q => hj q.symm)]
      exact k.own j d' z
    · obtain ⟨hj1, z1⟩ := sl_val hi z1
      obtain ⟨hj2, z2⟩ := sl_val hi z2
      rw [List.getElem?_set_ne (fun q => hj1 q.symm)] at z3
      rw [List.getElem?_set_ne (fun q => hj2 q.symm)] at z4
      exact k.apart j j' d1 d2 b z1 z2 z3 z4
  · have hi' : σ.length ≤ i := by rw [k.len]; omega
    have h1 : e.set i (Sl.val d) = e := List.set_eq_of_length_le (by omega)
    have h2 : σ.set i (some v) = σ := List.set_eq_of_length_le hi'
    rw [h1, h2]
    exact k
theorem setIn_one {i : Nat} {v : V} : SetIn [i] σ (σ.set i (some v)) := ⟨List.length_set, fun j hj => List.getElem?_set_ne (fun q => hj (by rw [q]; exact List.mem_cons_self))⟩
theorem pgd_var (i : Nat) {x : Str} (hN : X.N.Nodup) (hi : X.N[i]? = some x := by rfl) (hx : Loc X.env.scope x := by first | exact Or.inl rfl | exact Or.inr rfl) (hf : X.fn x = true ∨ X.env.scope.names.lookup x = some .local := by first | exact .inl rfl | exact .inr rfl | assumption) : PG X (.Name x pos) (tTg c (.var i)) :=
  PG.mono (pg_name hN hi hx hf) fun v σ H Q h => by
    obtain ⟨S, e, d, e', k, r, h1, q⟩ := h
    cases h1
    exact q _ (k.setv r) setIn_one
theorem pgds_nil : PGs X [] (tTgs c []) := PGs.mono pgs_nil fun vs σ H Q h => by
  obtain ⟨S, e, ds, e', k, r, h1, q⟩ := h
  cases ds with
  | nil =>
    cases h1
    exact ⟨r, q σ k (SetIn.refl _ _)⟩
  | cons _ _ => cases h1
theorem pgds_cons {x : Expr} {xs : List Expr} {t : Tg} {ts : List Tg} (h1 : PG X x (tTg c t)) (h2 : PGs X xs (tTgs c ts)) (hs : (assignEach (x :: xs) X.env).map (·.2) = assign x X.env :: (assignEach xs X.env).map (·.2) := by rfl) : PGs X (x :: xs) (tTgs c (t :: ts)) :=
  PGs.mono (pgs_cons h1 h2 hs) fun vs σ H Q h => by
    obtain ⟨S, e, ds, e', k, r, h1, q⟩ := h
    cases ds with
    | nil => cases h1
    | cons d ds =>
      obtain ⟨v, w, rfl, r1, r2⟩ := r
      have h1 : (match asg t d e with | some e1 => asgs ts ds e1 | none => none) = some e' := h1
      split at h1
      · rename_i e1 h3
        exact ⟨v, w, rfl, S, e, d, e1, k, r1, h3, fun σ1 k1 m1 => ⟨S, e1, ds, e', k1, r2, h1, fun σ2 k2 m2 => q σ2 k2 (m1.trans m2)⟩⟩
      · cases h1
theorem pgd_tup {es : List Expr} {ts : List Tg} {kk n : Nat} (hx : XC c X) (h : PGs X es (tTgs c ts)) (hl : ts.length = n := by rfl) (hn : (assignEach es X.env).length = n := by rfl) (hst : (assignEach es X.env).findIdx? (·.1) = none := by rfl) : PG X (.Tuple es kk pos) (tTg c (.tup ts)) :=
  PG.mono (PG.or (pg_tup hx.calm h hn hst) (pg_unl hx.calm h hn hst)) fun v σ H Q h => by
    have len : ∀ (ts : List Tg) (ds : List D) (e e' : SK.Env), asgs ts ds e = some e' → ds.length = ts.length := by
      intro ts
      induction ts with
      | nil => intro ds e e' h; cases ds with
        | nil => rfl
        | cons _ _ => cases h
      | cons t ts ih => intro ds e e' h; cases ds with
        | nil => cases h
        | cons d ds =>
          have h : (match asg t d e with | some e1 => asgs ts ds e1 | none => none) = some e' := h
          split at h
          · rw [List.length_cons, List.length_cons, ih _ _ _ h]
          · cases h
    obtain ⟨S, e, d, e', k, r, h1, q⟩ := h
    rw [hx.K]
    cases d with
    | tup ds =>
      have h1 : asgs ts ds e = some e' := h1
      obtain ⟨l, us, rfl, g1, _, g2⟩ := r
      exact .inl ⟨l, us, rfl, same_seqT k.sub g1, by rw [← g2.length, len _ _ _ _ h1, hl], S, e, ds, e', k, g2, h1, q⟩
    | lst ds =>
      have h1 : asgs ts ds e = some e' := h1
      obtain ⟨l, us, rfl, g1, _, g2⟩ := r
      exact .inr ⟨l, us, rfl, .of (k.sub _ _ g1), by rw [← g2.length, len _ _ _ _ h1, hl], S, e, ds, e', k, g2, h1, q⟩
    | _ => cases h1

/-! ### comprehensions -/
theorem PE.any {x : Expr} {ι : Type} {t : ι → TE} (h : ∀ i, PE X x (t i)) : PE X x (fun σ H Q => ∃ i, t i σ H Q) := ⟨fun pins s σ H Q I ⟨i, q⟩ => (h i).run pins s σ H Q I q⟩
theorem PG.any {x : Expr} {ι : Type} {t : ι → TG} (h : ∀ i, PG X x (t i)) : PG X x (fun v σ H Q => ∃ i, t i v σ H Q) := ⟨fun pins s σ H v u Q I r ⟨i, q⟩ => (h i).run pins s σ H v u Q I r q⟩
theorem PTs.any {x : List Expr} {ι : Type} {t : ι → TT} (h : ∀ i, PTs X x (t i)) : PTs X x (fun σ H Q => ∃ i, t i σ H Q) := ⟨fun pins s σ H Q I ⟨i, q⟩ => (h i).run pins s σ H Q I q⟩
theorem PI.any {tg x : Expr} {ι : Type} {t : ι → TI} (h : ∀ i, PI X tg x (t i)) : PI X tg x (fun σ H Q => ∃ i, t i σ H Q) := ⟨fun pins s σ H Q I ⟨i, q⟩ => (h i).run pins s σ H Q I q⟩
/-- no exception -/
abbrev W0 : WX := fun _ _ _ _ => False
/-- the frame with a list under way at p -/
abbrev Fc.at0 (c : Fc) (h0 : Hp) : Fc := { c with H0 := h0 }
theorem XC.at0 (hx : XC c X) (h0 : Hp) : XC (c.at0 h0) X := ⟨hx.K, hx.calm, hx.un, hx.cf⟩
theorem XC.blk {c : Fc} {X : Cx} (hx : XC c X) (s : Shared) (H : Hp) (scope : Scope) (ce : PySem.Env) (fp : List Addr) : XC c (X.blk s H scope ce fp) := ⟨hx.K, hx.calm, hx.un, hx.cf⟩
/-- a list is under way at p -/
theorem und_start {p : Addr} (k : Ok c S H σ e) (hp : H p = none) : Ok (c.at0 (upd c.H0 p (.lst []))) S (upd H p (.lst [])) σ e := by
  have k1 := k.made (o := .lst []) hp
  have h0 : c.H0 p = none := k.dom p hp
  refine ⟨k1.sub, fun b o q n => ?_, fun b q => ?_, k.base, fun b o q => ?_, fun i hi z => ?_, k.len, k.val, fun i d q => ?_, k.apart⟩
  · by_cases hb : b = p
    · subst hb; rw [show (c.at0 (upd c.H0 b (.lst []))).H0 = upd c.H0 b (.lst []) from rfl, upd_same] at q; rw [upd_same]; exact q
    · exact k1.keep b o (by rw [show (c.at0 (upd c.H0 p (.lst []))).H0 = upd c.H0 p (.lst []) from rfl, upd_ne hb] at q; exact q) n
  · show upd c.H0 p (.lst []) b = none
    have hb : b ≠ p := fun z => by subst z; rw [upd_same] at q; cases q
    rw [upd_ne hb]
    exact k1.dom b q
  · have hb : b ≠ p := fun z => by subst z; rw [k.sub.free hp] at q; cases q
    rcases k.new b o q with z | z
    · exact .inl z
    · exact .inr (by show upd c.H0 p (.lst []) b = none; rw [upd_ne hb]; exact z)
  · have : upd c.H0 p (.lst []) (c.ioA i) = none := z
    by_cases hb : c.ioA i = p
    · rw [hb, upd_same] at this; cases this
    · rw [upd_ne hb] at this; exact k.iod i hi this
  · obtain ⟨a, o, h1, h2, h3, h4, h5, h6⟩ := k1.own i d q
    obtain ⟨a', o', g1, g2, _⟩ := k.own i d q
    rw [h1] at g1
    cases g1
    refine ⟨a, o, h1, h2, h3, h4, h5, h6.imp (fun z => ?_) id⟩
    show upd c.H0 p (.lst []) a = none
    rw [upd_ne (fun z' => by subst z'; rw [hp] at g2; cases g2)]
    exact z
theorem und_at {p : Addr} {acc : List V} (k : Ok (c.at0 (upd c.H0 p (.lst acc))) S H σ e) (h0 : c.H0 p = none) (hd : ∀ i ∈ c.ioI, c.H0 (c.ioA i) ≠ none) : H p = some (.lst acc) :=
  k.keep p _ upd_same fun i hi z => hd i hi (by show c.H0 (c.ioA i) = none; rw [show c.ioA i = p from z]; exact h0)
theorem und_st {p : Addr} {acc : List V} (k : Ok (c.at0 (upd c.H0 p (.lst acc))) S H σ e) (s0 : c.S0 p = none) : S p = none := by
  cases q : S p with
  | none => rfl
  | some o =>
    rcases k.new p o q with z | z
    · rw [show c.S0 p = some o from z] at s0; cases s0
    · have z : upd c.H0 p (.lst acc) p = none := z
      rw [upd_same] at z
      cases z
theorem und_step {p : Addr} {acc acc' : List V} (k : Ok (c.at0 (upd c.H0 p (.lst acc))) S H σ e) (h0 : c.H0 p = none) (s0 : c.S0 p = none) (hd : ∀ i ∈ c.ioI, c.H0 (c.ioA i) ≠ none) : Ok (c.at0 (upd c.H0 p (.lst acc'))) S (upd H p (.lst acc')) σ e := by
  have sp := und_st k s0
  have ne : ∀ b, b ≠ p → upd c.H0 p (.lst acc') b = c.H0 b := fun b hb => upd_ne hb
  have ne' : ∀ b, b ≠ p → upd c.H0 p (.lst acc) b = c.H0 b := fun b hb => upd_ne hb
  refine ⟨fun b o q => ?_, fun b o q n => ?_, fun b q => ?_, k.base, fun b o q => ?_, fun i hi z => ?_, k.len, k.val, fun i d q => ?_, k.apart⟩
  · have hb : b ≠ p := fun z => by subst z; rw [sp] at q; cases q
    rw [upd_ne hb]; exact k.sub b o q
  · have q : upd c.H0 p (.lst acc') b = some o := q
    by_cases hb : b = p
    · subst hb; rw [upd_same] at q ⊢; exact q
    · rw [ne b hb] at q
      rw [upd_ne hb]
      exact k.keep b o (by show upd c.H0 p (.lst acc) b = some o; rw [ne' b hb]; exact q) n
  · show upd c.H0 p (.lst acc') b = none
    have hb : b ≠ p := fun z => by subst z; rw [upd_same] at q; cases q
    rw [upd_ne hb] at q
    rw [ne b hb]
    have := k.dom b q
    rw [show (c.at0 (upd c.H0 p (.lst acc))).H0 b = upd c.H0 p (.lst acc) b from rfl, ne' b hb] at this
    exact this
  · have hb : b ≠ p := fun z => by subst z; rw [sp] at q; cases q
    rcases k.new b o q with z | z
    · exact .inl z
    · refine .inr ?_
      show upd c.H0 p (.lst acc') b = none
      rw [ne b hb]
      rw [show (c.at0 (upd c.H0 p (.lst acc))).H0 b = upd c.H0 p (.lst acc) b from rfl, ne' b hb] at z
      exact z
  · have z : upd c.H0 p (.lst acc') (c.ioA i) = none := z
    by_cases hb : c.ioA i = p
    · rw [hb, upd_same] at z; cases z
    · rw [upd_ne hb] at z; exact hd i hi z
  · obtain ⟨a, o, h1, h2, h3, h4, h5, h6⟩ := k.own i d q
    have ha : a ≠ p := fun z => by
      subst z
      rcases h6 with h6 | h6
      · have h6 : upd c.H0 a (.lst acc) a = none := h6
        rw [upd_same] at h6; cases h6
      · exact hd i h6 (by rw [← show a = c.ioA i from h5 h6]; exact h0)
    refine ⟨a, o, h1, by rw [upd_ne ha]; exact h2, h3, h4, h5, h6.imp (fun z => ?_) id⟩
    show upd c.H0 p (.lst acc') a = none
    rw [ne a ha]
    rw [show (c.at0 (upd c.H0 p (.lst acc))).H0 a = upd c.H0 p (.lst acc) a from rfl, ne' a ha] at z
    exact z
theorem und_end {p : Addr} {acc : List V} (k : Ok (c.at0 (upd c.H0 p (.lst acc))) S H σ e) (h0 : c.H0 p = none) (hd : ∀ i ∈ c.ioI, c.H0 (c.ioA i) ≠ none) : Ok c S H σ e := by
  have ne : ∀ b, b ≠ p → upd c.H0 p (.lst acc) b = c.H0 b := fun b hb => upd_ne hb
  have dn : ∀ b, upd c.H0 p (.lst acc) b = none → c.H0 b = none := fun b q => by
    by_cases hb : b = p
    · rw [hb]; exact h0
    · rw [ne b hb] at q; exact q
  refine ⟨k.sub, fun b o q n => k.keep b o ?_ n, fun b q => dn b (k.dom b q), k.base, fun b o q => (k.new b o q).imp id (dn b), hd, k.len, k.val, fun i d q => ?_, k.apart⟩
  · show upd c.H0 p (.lst acc) b = some o
    rw [ne b (fun z => by subst z; rw [h0] at q; cases q)]; exact q
  · obtain ⟨a, o, h1, h2, h3, h4, h5, h6⟩ := k.own i d q
    exact ⟨a, o, h1, h2, h3, h4, h5, h6.imp (dn a) id⟩

theorem wipe_get (own : List Nat) (e : SK.Env) (j : Nat) (x : Sl) : (SK.wipe own e)[j]? = some x → x = .no ∨ (j ∉ own ∧ e[j]? = some x) := by
  induction own with
  | nil => exact fun h => .inr ⟨by simp, h⟩
  | cons i r ih =>
    intro h
    have h : ((SK.wipe r e).set i Sl.no)[j]? = some x := h
    by_cases hj : i = j
    · subst hj
      by_cases hl : i < (SK.wipe r e).length
      · rw [List.getElem?_set_self hl] at h
        cases h
        exact .inl rfl
      · rw [List.getElem?_eq_none (by rw [List.length_set]; omega)] at h
        cases h
    · rw [List.getElem?_set_ne hj] at h
      rcases ih h with z | ⟨z1, z2⟩
      · exact .inl z
      · exact .inr ⟨by simp only [List.mem_cons, not_or]; exact ⟨fun q => hj q.symm, z1⟩, z2⟩
theorem wipe_len (own : List Nat) (e : SK.Env) : (SK.wipe own e).length = e.length := by
  induction own with
  | nil => rfl
  | cons i r ih => show ((SK.wipe r e).set i Sl.no).length = _; rw [List.length_set, ih]
theorem back_len (own : List Nat) (e e' : SK.Env) : (back own e e').length = e'.length := by
  induction own with
  | nil => rfl
  | cons i r ih => show ((back r e e').set i _).length = _; rw [List.length_set, ih]
theorem back_get (own : List Nat) (e e' : SK.Env) (j : Nat) (x : Sl) : (back own e e')[j]? = some x → (j ∈ own ∧ e.getD j .no = x) ∨ (j ∉ own ∧ e'[j]? = some x) := by
  induction own with
  | nil => exact fun h => .inr ⟨by simp, h⟩
  | cons i r ih =>
    intro h
    have h : ((back r e e').set i (e.getD i .no))[j]? = some x := h
    by_cases hj : i = j
    · subst hj
      by_cases hl : i < (back r e e').length
      · rw [List.getElem?_set_self hl] at h
        cases h
        exact .inl ⟨List.mem_cons_self, rfl⟩
      · rw [List.getElem?_eq_none (by rw [List.length_set]; omega)] at h
        cases h
    · rw [List.getElem?_set_ne hj] at h
      rcases ih h with ⟨z1, z2⟩ | ⟨z1, z2⟩
      · exact .inl ⟨List.mem_cons_of_mem _ z1, z2⟩
      · exact .inr ⟨by simp only [List.mem_cons, not_or]; exact ⟨fun q => hj q.symm, z1⟩, z2⟩
theorem ok_wipe {own : List Nat} (k : Ok c S H σ e) : Ok c S H (L2.wipe σ own) (SK.wipe own e) := by
  have g : ∀ j, j ∉ own → (L2.wipe σ own)[j]? = σ[j]? := fun j hj => wipe_out hj
  refine ⟨k.sub, k.keep, k.dom, k.base, k.new, k.iod, by rw [L2.wipe_length, wipe_len]; exact k.len, fun i d q => ?_, fun i d q => ?_, fun i j d d' a q1 q2 q3 q4 => ?_⟩
  · rcases wipe_get own e i _ q with z | ⟨z1, z2⟩
    · cases z
    · rw [g i z1]; exact k.val i d z2
  · rcases wipe_get own e i _ q with z | ⟨z1, z2⟩
    · cases z
    · rw [g i z1]; exact k.own i d z2
  · rcases wipe_get own e i _ q1 with z | ⟨z1, z2⟩
    · cases z
    · rcases wipe_get own e j _ q2 with z | ⟨z3, z4⟩
      · cases z
      · rw [g i z1] at q3
        rw [g j z3] at q4
        exact k.apart i j d d' a z2 z4 q3 q4
theorem getD_of {j : Nat} {x : Sl} (h : e.getD j .no = x) (hx : x ≠ .no) : e[j]? = some x := by
  rw [List.getD_eq_getElem?_getD] at h
  cases q : e[j]? with
  | none => rw [q] at h; exact absurd h.symm hx
  | some y => rw [q] at h; rw [← h]; rfl
/-- behind a comprehension: its own names are again what they were -/
theorem ok_back {own : List Nat} {e1 : SK.Env} (hv : ∀ (i : Nat) (d : D), e1[i]? = some (Sl.val d) → ∃ v : V, σ[i]? = some (some v) ∧ Rep c.R S d v) (k' : Ok c S H (L2.wipe σ own) (SK.wipe own e)) (hp : plainAt own e1 = true) : Ok c S H σ (back own e1 e) := by
  have g : ∀ j, j ∉ own → (L2.wipe σ own)[j]? = σ[j]? := fun j hj => wipe_out hj
  have g' : ∀ (own : List Nat) j, j ∉ own → (SK.wipe own e)[j]? = e[j]? := by
    intro own
    induction own with
    | nil => exact fun _ _ => rfl
    | cons i r ih =>
      intro j hj
      simp only [List.mem_cons, not_or] at hj
      show ((SK.wipe r e).set i Sl.no)[j]? = _
      rw [List.getElem?_set_ne (fun q => hj.1 q.symm)]
      exact ih j hj.2
  have np : ∀ j d, j ∈ own → e1.getD j .no ≠ .own d := fun j d hj z => by
    have h := List.all_eq_true.mp hp j hj
    rw [getD_of z (by simp)] at h
    cases h
  refine ⟨k'.sub, k'.keep, k'.dom, k'.base, k'.new, k'.iod, by have := k'.len; rw [L2.wipe_length, wipe_len] at this; rw [back_len]; exact this, fun i d q => ?_, fun i d q => ?_, fun i j d d' a q1 q2 q3 q4 => ?_⟩
  · rcases back_get own e1 e i _ q with ⟨z1, z2⟩ | ⟨z1, z2⟩
    · exact hv i d (getD_of z2 (by simp))
    · rw [← g i z1]; exact k'.val i d (by rw [g' own i z1]; exact z2)
  · rcases back_get own e1 e i _ q with ⟨z1, z2⟩ | ⟨z1, z2⟩
    · exact absurd z2 (np i d z1)
    · rw [← g i z1]; exact k'.own i d (by rw [g' own i z1]; exact z2)
  · rcases back_get own e1 e i _ q1 with ⟨z1, z2⟩ | ⟨z1, z2⟩
    · exact absurd z2 (np i d z1)
    · rcases back_get own e1 e j _ q2 with ⟨z3, z4⟩ | ⟨z3, z4⟩
      · exact absurd z4 (np j d' z3)
      · rw [← g i z1] at q3
        rw [← g j z3] at q4
        exact k'.apart i j d d' a (by rw [g' own i z1]; exact z2) (by rw [g' own j z3]; exact z4) q3 q4
theorem wipe_at {vs : List Nat} {σ : L2.St} (j : Nat) (h : j ∈ vs) : (L2.wipe σ vs)[j]? = if j < σ.length then some none else none := by
  induction vs with
  | nil => cases h
  | cons v vs ih =>
    show ((L2.wipe σ vs).set v none)[j]? = _
    by_cases hj : v = j
    · subst hj
      by_cases hl : v < σ.length
      · rw [List.getElem?_set_self (by rw [L2.wipe_length]; exact hl), if_pos hl]
      · rw [List.getElem?_eq_none (by rw [List.length_set, L2.wipe_length]; omega), if_neg hl]
    · rw [List.getElem?_set_ne hj]
      rcases List.mem_cons.mp h with q | q
      · exact absurd q.symm hj
      · exact ih q
theorem wipe_set {vs : List Nat} {σ σ' : L2.St} (h : SetIn vs σ σ') : L2.wipe σ' vs = L2.wipe σ vs := by
  refine List.ext_getElem? fun j => ?_
  by_cases hj : j ∈ vs
  · rw [wipe_at j hj, wipe_at j hj, h.1]
  · rw [wipe_out hj, wipe_out hj, h.2 j hj]
theorem wipe_wipe {vs : List Nat} {σ : L2.St} : L2.wipe (L2.wipe σ vs) vs = L2.wipe σ vs := by
  refine List.ext_getElem? fun j => ?_
  by_cases hj : j ∈ vs
  · rw [wipe_at j hj, wipe_at j hj, L2.wipe_length]
  · rw [wipe_out hj]
theorem bind_ok {α β : Type} {r : Res α} {f : α → SK.Env → Res β} {y : β} {e' : SK.Env} (h : r.bind f = .ok y e') : ∃ x e1, r = .ok x e1 ∧ f x e1 = .ok y e' := by
  cases r with
  | ok x e1 => exact ⟨x, e1, rfl, h⟩
  | exn x e1 => cases h
  | bad => cases h
theorem val_ok {β : Type} {r : Res Rv} {f : D → SK.Env → Res β} {y : β} {e' : SK.Env} (h : r.val f = .ok y e') : ∃ d e1, (r = .ok (.st d) e1 ∨ r = .ok (.fr d) e1) ∧ f d e1 = .ok y e' := by
  cases r with
  | ok x e1 =>
    cases x with
    | st d => exact ⟨d, e1, .inl rfl, h⟩
    | fr d => exact ⟨d, e1, .inr rfl, h⟩
    | s i => cases h
    | io i => cases h
  | exn x e1 => cases h
  | bad => cases h
theorem Ok.froze2 {r : Rv} {d : D} {v : V} (k : Ok c S H σ e) (hr : r = .st d ∨ r = .fr d) (h : RvOk c S H σ e r v) : ∃ S1, Same S S1 ∧ Ok c S1 H σ e ∧ Rep c.R S1 d v := by
  rcases hr with rfl | rfl
  · exact ⟨S, Same.refl _, k, h⟩
  · exact k.froze h
/-- one turn's function -/
abbrev turnF (Φ : Nat → List D → CRes) (own : List Nat) (t : Tg) (cs : List Te) (last : SK.Env → Res (List D)) : D → SK.Env → Res (List D) := fun x e2 => match asg t x (SK.wipe own e2) with
  | some e3 => (tsts Φ cs e3).bind fun b e4 => if b then last e4 else .ok [] e4
  | none => .bad
theorem turn_ok {Φ : Nat → List D → CRes} {own : List Nat} {t : Tg} {cs : List Te} {last : SK.Env → Res (List D)} {x : D} {e2 e5 : SK.Env} {ys : List D} (h : turnF Φ own t cs last x e2 = .ok ys e5) :
    ∃ e3 b e4, asg t x (SK.wipe own e2) = some e3 ∧ tsts Φ cs e3 = .ok b e4 ∧ (if b = true then last e4 = .ok ys e5 else ys = [] ∧ e5 = e4) := by
  unfold turnF at h
  split at h
  · rename_i e3 h1
    obtain ⟨b, e4, h2, h3⟩ := bind_ok h
    refine ⟨e3, b, e4, h1, h2, ?_⟩
    cases b with
    | true => rw [if_pos rfl] at h3 ⊢; exact h3
    | false => rw [if_neg Bool.false_ne_true] at h3 ⊢; cases h3; exact ⟨rfl, rfl⟩
  · cases h
theorem compL_cons {f : D → SK.Env → Res (List D)} {d : D} {ds : List D} {e e' : SK.Env} {ys : List D} (h : compL f (d :: ds) e = .ok ys e') : ∃ xs e1 zs, f d e = .ok xs e1 ∧ compL f ds e1 = .ok zs e' ∧ ys = xs ++ zs := by
  have h : (f d e).bind (fun xs e1 => (compL f ds e1).bind fun ys e2 => .ok (xs ++ ys) e2) = .ok ys e' := h
  obtain ⟨xs, e1, h1, h2⟩ := bind_ok h
  obtain ⟨zs, e2, h3, h4⟩ := bind_ok h2
  cases h4
  exact ⟨xs, e1, zs, h1, h3, rfl⟩
theorem drop_cons {α : Type} {xs : List α} {i : Nat} (h : i < xs.length) : xs[i]? = some xs[i] ∧ xs.drop i = xs[i] :: xs.drop (i + 1) := ⟨List.getElem?_eq_getElem h, List.drop_eq_getElem_cons h⟩

theorem comp_tlc {vs : List Nat} {ielt : Ex} {t : Tg} {k : ItK} {es : List Ex} {cs : List Te} (htv : (tgv t).all (fun j => vs.contains j) = true) {Q : VK} (h : tEv c W (.comp vs ielt t k es cs []) σ H Q) :
    tLc (tIt c W k es) (fun v σ H Q => ∃ h0, tTg (c.at0 h0) t v σ H Q) (fun σ H Q => ∃ h0, tTsts (c.at0 h0) W0 cs σ H Q) (fun σ H Q => ∃ h0, tEv (c.at0 h0) W0 ielt σ H Q) vs σ H Q := by
    obtain ⟨S, e, k0, h⟩ := h
    have htv' : ∀ j ∈ tgv t, j ∈ vs := fun j hj => by simpa using List.all_eq_true.mp htv j hj
    refine ⟨S, e, k0, (Post.bind h).imp fun os e1 S1 H1 m k1 h2 => ?_⟩
    cases hit : itEnd k e1 os with
    | none => rw [hit] at h2; exact (show False from h2).elim
    | some xs =>
      rw [hit] at h2
      intro J S2 H2 m2 k2 io p hp
      have h2 : Post c W σ S1 (if plainAt vs e1 = true then compEnd vs e1 (compL (turnF c.Φ vs t cs fun e4 => gens c.Φ (ev c.Φ ielt) [] e4) xs e1) else .bad) _ := h2
      split at h2
      · rename_i hpl
        generalize hf : turnF c.Φ vs t cs (fun e4 => gens c.Φ (ev c.Φ ielt) [] e4) = f at h2
        cases hc : compL f xs e1 with
        | exn x e' => rw [hc] at h2; exact (show False from h2).elim
        | bad => rw [hc] at h2; exact (show False from h2).elim
        | ok ys e5 =>
          rw [hc] at h2
          have h2 : Post c W σ S1 (if ys.length ≤ SZ then Res.ok (Rv.fr (.lst ys)) (back vs e1 e5) else .bad) _ := h2
          split at h2
          · rename_i hz
            have h0 : c.H0 p = none := k2.dom p hp
            have s0 : c.S0 p = none := k2.base.free (k2.sub.free hp)
            have hd := k2.iod
            have hz' := szL.mp hz
            refine ⟨fun i m H => ∃ S3 e3 acc dn zs, i + m = xs.length ∧ Ok (c.at0 (upd c.H0 p (.lst acc))) S3 H (L2.wipe σ vs) (SK.wipe vs e3) ∧ Same S2 S3 ∧ Reps c.R S3 dn acc ∧ compL f (xs.drop i) e3 = .ok zs e5 ∧ ys = dn ++ zs,
              ⟨xs.length, S2, e1, [], [], ys, by omega, ok_wipe (und_start k2 hp), Same.refl _, rfl, hc, rfl⟩, ?_⟩
            rintro i m H ⟨S3, e3, acc, dn, zs, him, k3, m3, hr, hcl, hys⟩
            have sH : Same S2 H := m3.trans k3.sub
            by_cases hlt : i < xs.length
            · obtain ⟨hd1, hd2⟩ := drop_cons hlt
              rw [hd2] at hcl
              obtain ⟨x1, ea, zs', h5, h6, rfl⟩ := compL_cons hcl
              rw [← hf] at h5
              obtain ⟨e4, b, e6, h7, h8, h9⟩ := turn_ok h5
              refine .inr ⟨io.go i _ H hd1 sH, fun H' => ∃ S3 e3 acc dn zs, (i + 1) + (m - 1) = xs.length ∧ Ok (c.at0 (upd c.H0 p (.lst acc))) S3 H' (L2.wipe σ vs) (SK.wipe vs e3) ∧ Same S2 S3 ∧ Reps c.R S3 dn acc ∧ compL f (xs.drop (i + 1)) e3 = .ok zs e5 ∧ ys = dn ++ zs,
                fun H' q => ⟨m - 1, by omega, q⟩, fun x H' y => ?_⟩
              obtain ⟨S4, m4, k4, r4, _, _⟩ := io.yld i _ H H' S3 x _ _ _ hd1 m3 k3 y
              refine ⟨upd c.H0 p (.lst acc), S4, _, xs[i], e4, k4, r4, h7, fun σ2 k5 set => ?_⟩
              have hw : L2.wipe σ2 vs = L2.wipe σ vs := by rw [wipe_set (set.mono htv'), wipe_wipe]
              refine ⟨hw, upd c.H0 p (.lst acc), S4, e4, k5, ?_⟩
              show Post _ _ _ _ (tsts c.Φ cs e4) _
              rw [h8]
              intro S5 H5 m5 k6
              cases b with
              | false =>
                rw [if_neg Bool.false_ne_true] at h9 ⊢
                obtain ⟨rfl, rfl⟩ := h9
                refine ⟨S5, ea, acc, dn, zs', by omega, by rw [← hw]; exact ok_wipe k6, m3.trans (m4.trans m5), hr.mono (m4.trans m5), h6, hys⟩
              | true =>
                rw [if_pos rfl] at h9 ⊢
                have h9 : (ev c.Φ ielt e6).val (fun d e1 => .ok [d] e1) = .ok x1 ea := h9
                obtain ⟨dd, ea', hev, h10⟩ := val_ok h9
                cases h10
                refine ⟨upd c.H0 p (.lst acc), S5, e6, k6, ?_⟩
                show Post _ _ _ _ (ev c.Φ ielt e6) _
                have fin : ∀ (r : Rv), (r = .st dd ∨ r = .fr dd) → ev c.Φ ielt e6 = .ok r ea → Post (c.at0 (upd c.H0 p (.lst acc))) W0 σ2 S5 (ev c.Φ ielt e6) fun r e' S' H' => ∀ v, RvOk (c.at0 (upd c.H0 p (.lst acc))) S' H' σ2 e' r v → ∃ acc, H' p = some (.lst acc) ∧ acc.length < sizeLine ∧ ∃ S3 e3 acc_1 dn zs, (i + 1) + (m - 1) = xs.length ∧ Ok (c.at0 (upd c.H0 p (.lst acc_1))) S3 (upd H' p (.lst (acc ++ [v]))) (L2.wipe σ vs) (SK.wipe vs e3) ∧ Same S2 S3 ∧ Reps c.R S3 dn acc_1 ∧ compL f (xs.drop (i + 1)) e3 = .ok zs e5 ∧ ys = dn ++ zs := fun r hr2 hev => by
                  rw [hev]
                  intro S6 H6 m6 k7 v hv
                  obtain ⟨S7, m7, k8, r8⟩ := k7.froze2 hr2 hv
                  refine ⟨acc, und_at k8 h0 hd, ?_, S7, ea, acc ++ [v], dn ++ [dd], zs', by omega, by rw [← hw]; exact ok_wipe (und_step k8 h0 s0 hd), m3.trans (m4.trans (m5.trans (m6.trans m7))), (hr.mono (m4.trans (m5.trans (m6.trans m7)))).append (.one r8), h6, by rw [hys, List.append_assoc]⟩
                  rw [hys] at hz'
                  rw [← hr.length]
                  simp only [List.length_append, List.length_cons, List.length_nil] at hz'
                  omega
                rcases hev with hev | hev
                · exact fin _ (.inl rfl) hev
                · exact fin _ (.inr rfl) hev
            · have ei : xs.drop i = [] := List.drop_eq_nil_of_le (by omega)
              rw [ei] at hcl
              cases hcl
              have eil : i = xs.length := by omega
              refine .inl ⟨by rw [eil]; exact io.stop H sH, ?_⟩
              rw [List.append_nil] at hys
              subst hys
              have kb : Ok (c.at0 (upd c.H0 p (.lst acc))) S3 H σ (back vs e1 e5) := ok_back (fun i d q => by
                obtain ⟨v, z1, z2⟩ := k2.val i d q
                exact ⟨v, z1, z2.mono m3⟩) k3 hpl
              have kc := und_end kb h0 hd
              refine h2 S3 H (m2.trans m3) kc _ ⟨p, .lst acc, rfl, und_at kb h0 hd, und_st kb s0, ⟨acc, rfl, by rw [← hr.length]; exact hz', hr⟩, h0, fun j d' hj z => ?_⟩
              obtain ⟨a, o, z1, z2, z3, z4, z5, z6⟩ := kb.own j d' hj
              rw [z] at z1
              cases z1
              rcases z6 with z6 | z6
              · have z6 : upd c.H0 p (.lst acc) p = none := z6
                rw [upd_same] at z6
                cases z6
              · exact hd j z6 (by rw [← show p = c.ioA j from z5 z6]; exact h0)
          · exact (show False from h2).elim
      · exact (show False from h2).elim
/-- [elt for tg in iter if ..] -/
theorem pd_comp {elt tg iter : Expr} {ifs : List Expr} {scope : Scope} {own : List (Str × Nat)} {ielt : Ex} {t : Tg} {k : ItK} {es : List Ex} {cs : List Te} (hx : XC c X) (hN : X.N.Nodup) (hi : PID c W X tg iter k es) (ok : BlkOk X.N X.env.scope scope own)
    (htv : (tgv t).all (fun j => (own.map (·.2)).contains j) = true)
    (hg : ∀ (h0 : Hp) (s : Shared) (H : Hp) (C : Addr) (cl : List (Str × Addr)) (fp : List Addr), PG (X.blk s H scope (compEnvC scope cl C X.env) fp) tg (tTg (c.at0 h0) t))
    (ht : ∀ (h0 : Hp) (s : Shared) (H : Hp) (C : Addr) (cl : List (Str × Addr)) (fp : List Addr), PTs (X.blk s H scope (compEnvC scope cl C X.env) fp) ifs (tTsts (c.at0 h0) W0 cs))
    (he : ∀ (h0 : Hp) (s : Shared) (H : Hp) (C : Addr) (cl : List (Str × Addr)) (fp : List Addr), PE (X.blk s H scope (compEnvC scope cl C X.env) fp) elt (tEv (c.at0 h0) W0 ielt))
    (hs : ∀ x, foldedSetIterable iter X.env x = pure x := by intro _; rfl) :
    PD c W X (.ListComp elt [⟨tg, iter, ifs, 0⟩] scope pos) (.comp (own.map (·.2)) ielt t k es cs []) :=
  PE.mono (pe_lc hx.calm hN hi ok (fun s H C cl fp => PG.any fun h0 => hg h0 s H C cl fp) (fun s H C cl fp => PTs.any fun h0 => ht h0 s H C cl fp) (fun s H C cl fp => PE.any fun h0 => he h0 s H C cl fp) hs) fun σ H Q h => comp_tlc htv h
end
end SK

set_option Elab.async false
set_option linter.all false
set_option maxRecDepth 100000
set_option autoImplicit false
/-! SK over HandS: statements, calls, defs. -/
namespace SK
open PySem PySem.Spec PyProof.Rows L2
def OutPost (c : Fc) (W : WX) (S : Hp) (D : L2.Ends) (o : Out) : Prop := match o with
  | .nx e' => ∀ S' H' σ', Same S S' → Ok c S' H' σ' e' → D.nx σ' H'
  | .ret r e' => ∀ v S' H' σ', Same S S' → Ok c S' H' σ' e' → RvOk c S' H' σ' e' r v → D.rt v H'
  | .brk e' => ∀ S' H' σ', Same S S' → Ok c S' H' σ' e' → D.bk σ' H'
  | .cnt e' => ∀ S' H' σ', Same S S' → Ok c S' H' σ' e' → D.ct σ' H'
  | .exn y e' => ∀ cls d S' H' σ', Same S S' → Ok c S' H' σ' e' → c.R.rx y cls d S' H' → W cls d σ' H'
  | .bad => False
def tSt (c : Fc) (W : WX) (s : SK.St) : TS := fun D σ H => ∃ S e, Ok c S H σ e ∧ OutPost c W S D (exe c.Φ c.F s e)
def tSts (c : Fc) (W : WX) (s : List SK.St) : TS := fun D σ H => ∃ S e, Ok c S H σ e ∧ OutPost c W S D (exes c.Φ c.F s e)
abbrev PSD (c : Fc) (W : WX) (X : Cx) (x : Stmt) (s : SK.St) : Prop := PS X x (tSt c W s)
abbrev PSsD (c : Fc) (W : WX) (X : Cx) (x : List Stmt) (s : List SK.St) : Prop := PSs X x (tSts c W s)
section
variable {c : Fc} {W : WX} {S S' S1 H : Hp} {σ σ' : L2.St} {e e' : SK.Env} {X : Cx} {a b : Expr} {ia ib : Ex} {pos pos' : Pos} {D : L2.Ends}
theorem OutPost.weak {o : Out} (m : Same S S1) (h : OutPost c W S D o) : OutPost c W S1 D o := by
  cases o with
  | nx e' => exact fun S' H' σ' m' => h S' H' σ' (m.trans m')
  | ret r e' => exact fun v S' H' σ' m' => h v S' H' σ' (m.trans m')
  | brk e' => exact fun S' H' σ' m' => h S' H' σ' (m.trans m')
  | cnt e' => exact fun S' H' σ' m' => h S' H' σ' (m.trans m')
  | exn y e' => exact fun cls d S' H' σ' m' => h cls d S' H' σ' (m.trans m')
  | bad => exact h
theorem OutPost.out {α : Type} {r : Res α} {f : α → SK.Env → Out} (h : OutPost c W S D (r.out f)) : Post c W σ S r fun a e1 S1 H1 => OutPost c W S1 D (f a e1) := by
  cases r with
  | ok a e1 => exact fun S' H' m k => OutPost.weak m h
  | exn y e1 => exact fun cls d S' H' m => h cls d S' H' σ m
  | bad => exact h
theorem OutPost.vout {r : Res Rv} {f : SK.D → SK.Env → Out} (h : OutPost c W S D (r.vout f)) : Post c W σ S r fun r e1 S1 H1 => ∀ v, RvOk c S1 H1 σ e1 r v → ∃ d S2, Same S1 S2 ∧ Ok c S2 H1 σ e1 ∧ Rep c.R S2 d v ∧ OutPost c W S2 D (f d e1) := by
  cases r with
  | ok a e1 =>
    intro S' H' m k v hv
    cases a with
    | st d => exact ⟨d, S', Same.refl _, k, hv, OutPost.weak m h⟩
    | fr d =>
      obtain ⟨S2, m2, k2, r2⟩ := k.froze hv
      exact ⟨d, S2, m2, k2, r2, OutPost.weak (m.trans m2) h⟩
    | s i => exact (show False from h).elim
    | io i => exact (show False from h).elim
  | exn y e1 => exact fun cls d S' H' m => h cls d S' H' σ m
  | bad => exact h
/-- a value, then what is done with it -/
theorem tEv.vout {x : Ex} {f : SK.D → SK.Env → Out} (k : Ok c S H σ e) (h : OutPost c W S D ((ev c.Φ x e).vout f)) :
    tEv c W x σ H fun v H1 => ∃ d S1 e1, Ok c S1 H1 σ e1 ∧ Rep c.R S1 d v ∧ OutPost c W S1 D (f d e1) := by
  refine ⟨S, e, k, h.vout.imp fun r e1 S1 H1 m k1 h1 v hv => ?_⟩
  obtain ⟨d, S2, m2, k2, r2, h2⟩ := h1 v hv
  exact ⟨d, S2, e1, k2, r2, h2⟩

/-! ### blocks -/
theorem psd_nil : PSsD c W X [] [] := PSs.mono pss_nil fun D σ H h => by
  obtain ⟨S, e, k, h⟩ := h
  exact h S H σ (Same.refl _) k
theorem psd_cons {x : Stmt} {xs : List Stmt} {s : SK.St} {ss : List SK.St} (h1 : PSD c W X x s) (h2 : PSsD c W X xs ss) : PSsD c W X (x :: xs) (s :: ss) :=
  PSs.mono (pss_cons h1 h2) fun D σ H h => by
    obtain ⟨S, e, k, h⟩ := h
    have h : OutPost c W S D ((exe c.Φ c.F s e).seq (exes c.Φ c.F ss)) := h
    refine ⟨S, e, k, ?_⟩
    cases q : exe c.Φ c.F s e with
    | nx e' => rw [q] at h; exact fun S' H' σ' m k' => ⟨S', e', k', OutPost.weak m h⟩
    | ret r e' => rw [q] at h; exact h
    | brk e' => rw [q] at h; exact h
    | cnt e' => rw [q] at h; exact h
    | exn y e' => rw [q] at h; exact h
    | bad => rw [q] at h; exact h
theorem psd_pass : PSD c W X (.Pass pos) .pass := PS.mono ps_pass fun D σ H h => by
  obtain ⟨S, e, k, h⟩ := h
  exact h S H σ (Same.refl _) k
theorem psd_brk : PSD c W X (.Break pos) .brk := PS.mono ps_break fun D σ H h => by
  obtain ⟨S, e, k, h⟩ := h
  exact h S H σ (Same.refl _) k
theorem psd_cnt : PSD c W X (.Continue pos) .cnt := PS.mono ps_continue fun D σ H h => by
  obtain ⟨S, e, k, h⟩ := h
  exact h S H σ (Same.refl _) k
theorem psd_retN : PSD c W X (.Return none pos) .retN := PS.mono ps_retN fun D σ H h => by
  obtain ⟨S, e, k, h⟩ := h
  exact h .non S H σ (Same.refl _) k rfl
theorem psd_never {x : Stmt} : PSD c W X x .never := PS.mono ps_never fun D σ H h => by
  obtain ⟨S, e, k, h⟩ := h
  exact h
theorem psd_ret (ha : PD c W X a ia) : PSD c W X (.Return (some a) pos) (.ret ia) := PS.mono (ps_ret ha) fun D σ H h => by
  obtain ⟨S, e, k, h⟩ := h
  have h : OutPost c W S D ((ev c.Φ ia e).out fun r e1 => .ret r e1) := h
  exact ⟨S, e, k, h.out.imp fun r e1 S1 H1 m k1 h1 v hv => h1 v S1 H1 σ (Same.refl _) k1 hv⟩
theorem psd_expr (ha : PD c W X a ia) (hs : swapsWith a none pos.line X.env = pure false := by rfl) : PSD c W X (.Expr a pos) (.expr ia) := PS.mono (ps_expr ha hs) fun D σ H h => by
  obtain ⟨S, e, k, h⟩ := h
  have h : OutPost c W S D ((ev c.Φ ia e).out fun _ e1 => .nx e1) := h
  exact ⟨S, e, k, h.out.imp fun r e1 S1 H1 m k1 h1 v hv => h1 S1 H1 σ (Same.refl _) k1⟩
theorem psd_if {x : Expr} {as bs : List Stmt} {t : Te} {us ws : List SK.St} (hc : PTD c W X x t) (ha : PSsD c W X as us) (hb : PSsD c W X bs ws) : PSD c W X (.If x as bs pos) (.ifs t us ws) :=
  PS.mono (ps_if hc ha hb) fun D σ H h => by
    obtain ⟨S, e, k, h⟩ := h
    have h : OutPost c W S D ((tst c.Φ t e).out fun b e1 => if b then exes c.Φ c.F us e1 else exes c.Φ c.F ws e1) := h
    refine ⟨S, e, k, h.out.imp fun b e1 S1 H1 m k1 h1 => ?_⟩
    cases b with
    | true => rw [if_pos rfl]; exact ⟨S1, e1, k1, h1⟩
    | false => rw [if_neg Bool.false_ne_true]; exact ⟨S1, e1, k1, h1⟩

/-! ### stores -/
theorem psd_set (i : Nat) {x : Str} (hN : X.N.Nodup) (ha : PD c W X a ia) (hi : X.N[i]? = some x := by rfl) (hx : Loc X.env.scope x := by first | exact Or.inl rfl | exact Or.inr rfl) (hs : swapsWith a (some (.Name x pos')) pos.line X.env = pure false := by rfl)
    (hf : X.fn x = true ∨ X.env.scope.names.lookup x = some .local := by first | exact .inl rfl | exact .inr rfl | assumption) : PSD c W X (.Assign [.Name x pos'] a pos) (.set i ia) :=
  PS.mono (ps_set hN hi hx ha hs hf) fun D σ H h => by
    obtain ⟨S, e, k, h⟩ := h
    refine (tEv.vout k h).imp fun v H1 h1 => ?_
    obtain ⟨d, S1, e1, k1, r1, h1⟩ := h1
    exact h1 S1 H1 _ (Same.refl _) (k1.setv r1)
theorem Ok.seto {i : Nat} {d : SK.D} {v : V} (k : Ok c S H σ e) (hi : i ∉ c.ioI) (hv : RvOk c S H σ e (.fr d) v) : Ok c S H (σ.set i (some v)) (e.set i (.own d)) := by
  obtain ⟨p, o, rfl, h1, h2, h3, h4, h5⟩ := hv
  by_cases hl : i < e.length
  · have hl' : i < σ.length := by rw [k.len]; exact hl
    have g : ∀ (j : Nat) (x : Sl), (e.set i (Sl.own d))[j]? = some x → (j = i ∧ x = .own d) ∨ (j ≠ i ∧ e[j]? = some x) := fun j x z => by
      by_cases hj : i = j
      · subst hj
        rw [List.getElem?_set_self hl] at z
        cases z
        exact .inl ⟨rfl, rfl⟩
      · rw [List.getElem?_set_ne hj] at z
        exact .inr ⟨fun q => hj q.symm, z⟩
    refine ⟨k.sub, k.keep, k.dom, k.base, k.new, k.iod, by rw [List.length_set, List.length_set]; exact k.len, fun j d' z => ?_, fun j d' z => ?_, fun j j' d1 d2 b z1 z2 z3 z4 => ?_⟩
    · rcases g j _ z with ⟨_, q⟩ | ⟨hj, z⟩
      · cases q
      · rw [List.getElem?_set_ne (fun q => hj q.symm)]
        exact k.val j d' z
    · rcases g j _ z with ⟨rfl, q⟩ | ⟨hj, z⟩
      · cases q
        exact ⟨p, o, List.getElem?_set_self hl', h1, h2, h3, fun q => absurd q hi, .inl h4⟩
      · rw [List.getElem?_set_ne (fun q => hj q.symm)]
        exact k.own j d' z
    · rcases g j _ z1 with ⟨rfl, q1⟩ | ⟨hj1, z1⟩
      · rcases g j' _ z2 with ⟨rfl, q2⟩ | ⟨hj2, z2⟩
        · rfl
        · rw [List.getElem?_set_self hl'] at z3
          rw [List.getElem?_set_ne (fun q => hj2 q.symm)] at z4
          cases z3
          exact absurd z4 (h5 j' d2 z2)
      · rename_i y1
        rcases g j' _ z2 with ⟨rfl, q2⟩ | ⟨hj2, z2⟩
        · rw [List.getElem?_set_self hl'] at z4
          rw [List.getElem?_set_ne (fun q => hj1 q.symm)] at z3
          cases z4
          exact absurd z3 (h5 j d1 z1)
        · rw [List.getElem?_set_ne (fun q => hj1 q.symm)] at z3
          rw [List.getElem?_set_ne (fun q => hj2 q.symm)] at z4
          exact k.apart j j' d1 d2 b z1 z2 z3 z4
  · have hi' : σ.length ≤ i := by rw [k.len]; omega
    have g1 : e.set i (Sl.own d) = e := List.set_eq_of_length_le (by omega)
    have g2 : σ.set i (some (V.ref p)) = σ := List.set_eq_of_length_le hi'
    rw [g1, g2]
    exact k
theorem own_out {x : Ex} {i : Nat} (k : Ok c S H σ e) (hio : i ∉ c.ioI) (h : OutPost c W S D (exe c.Φ c.F (.own i x) e)) : tEv c W x σ H fun v H1 => D.nx (σ.set i (some v)) H1 := by
  have h : OutPost c W S D ((ev c.Φ x e).out fun r e1 => match r with | .fr d => .nx (e1.set i (.own d)) | _ => .bad) := h
  refine ⟨S, e, k, h.out.imp fun r e1 S1 H1 m k1 h1 v hv => ?_⟩
  cases r with
  | fr d => exact h1 S1 H1 _ (Same.refl _) (k1.seto hio hv)
  | st d => exact (show False from h1).elim
  | s i => exact (show False from h1).elim
  | io i => exact (show False from h1).elim
theorem psd_own (i : Nat) {x : Str} (hN : X.N.Nodup) (hio : i ∉ c.ioI) (ha : PD c W X a ia) (hi : X.N[i]? = some x := by rfl) (hx : Loc X.env.scope x := by first | exact Or.inl rfl | exact Or.inr rfl) (hs : swapsWith a (some (.Name x pos')) pos.line X.env = pure false := by rfl)
    (hf : X.fn x = true ∨ X.env.scope.names.lookup x = some .local := by first | exact .inl rfl | exact .inr rfl | assumption) : PSD c W X (.Assign [.Name x pos'] a pos) (.own i ia) :=
  PS.mono (ps_set hN hi hx ha hs hf) fun D σ H h => by
    obtain ⟨S, e, k, h⟩ := h
    exact own_out k hio h
/-- name = [..] on one line -/
theorem psd_setLc (i : Nat) {y : Str} {elt tg iter : Expr} {ifs : List Expr} {scope : Scope} {own : List (Str × Nat)} {ielt : Ex} {t : Tg} {k : ItK} {es : List Ex} {cs : List Te} (hx : XC c X) (hN : X.N.Nodup) (hi : PID c W X tg iter k es) (ok : BlkOk X.N X.env.scope scope own)
    (htv : (tgv t).all (fun j => (own.map (·.2)).contains j) = true)
    (hg : ∀ (h0 : Hp) (s : Shared) (H : Hp) (C : Addr) (cl : List (Str × Addr)) (fp : List Addr), PG (X.blk s H scope (compEnvC scope cl C X.env) fp) tg (tTg (c.at0 h0) t))
    (ht : ∀ (h0 : Hp) (s : Shared) (H : Hp) (C : Addr) (cl : List (Str × Addr)) (fp : List Addr), PTs (X.blk s H scope (compEnvC scope cl C X.env) fp) ifs (tTsts (c.at0 h0) W0 cs))
    (he : ∀ (h0 : Hp) (s : Shared) (H : Hp) (C : Addr) (cl : List (Str × Addr)) (fp : List Addr), PE (X.blk s H scope (compEnvC scope cl C X.env) fp) elt (tEv (c.at0 h0) W0 ielt))
    (hsw : swapsWith (.ListComp elt [⟨tg, iter, ifs, 0⟩] scope pos) (some (.Name y pos')) pos.line X.env = pure true)
    (hy : X.N[i]? = some y := by rfl) (hyl : X.env.scope.names.lookup y = some .local := by rfl) (hs : ∀ x, foldedSetIterable iter X.env x = pure x := by intro _; rfl) :
    PSD c W X (.Assign [.Name y pos'] (.ListComp elt [⟨tg, iter, ifs, 0⟩] scope pos) pos) (.set i (.comp (own.map (·.2)) ielt t k es cs [])) :=
  PS.mono (ps_setLc hx.calm hN hy hyl hsw hi ok (fun s H C cl fp => PG.any fun h0 => hg h0 s H C cl fp) (fun s H C cl fp => PTs.any fun h0 => ht h0 s H C cl fp) (fun s H C cl fp => PE.any fun h0 => he h0 s H C cl fp) hs) fun D σ H h => by
    obtain ⟨S, e, k, h⟩ := h
    refine comp_tlc htv ((tEv.vout k h).imp fun v H1 h1 => ?_)
    obtain ⟨d, S1, e1, k1, r1, h1⟩ := h1
    exact h1 S1 H1 _ (Same.refl _) (k1.setv r1)
/-- a, b = e -/
theorem psd_unp {tg : Expr} {t : Tg} (ha : PD c W X a ia) (hg : PG X tg (tTg c t)) (hs : swapsWithSole [tg] a pos.line X.env = pure false := by rfl) (hw : swappedStores [tg] a X.env = pure none := by rfl) (h1 : (assignEach [tg] X.env).map (·.2) = [assign tg X.env] := by rfl) : PSD c W X (.Assign [tg] a pos) (.unp t ia) :=
  PS.mono (ps_asg ha hg hs hw h1) fun D σ H h => by
    obtain ⟨S, e, k, h⟩ := h
    refine (tEv.vout k h).imp fun v H1 h1 => ?_
    obtain ⟨d, S1, e1, k1, r1, h1⟩ := h1
    split at h1
    · rename_i e2 q
      exact ⟨S1, e1, d, e2, k1, r1, q, fun σ' k' m' => h1 S1 H1 σ' (Same.refl _) k'⟩
    · exact (show False from h1).elim
/-- the values in the slots, one by one -/
def setAll (σ : L2.St) : List Nat → List V → L2.St
  | j :: js, v :: vs => setAll (σ.set j (some v)) js vs
  | _, _ => σ
theorem asgs_all (js : List Nat) : ∀ (ds : List SK.D) (vs : List V) (σ : L2.St) (e e2 : SK.Env), Ok c S H σ e → Reps c.R S ds vs → asgs (js.map .var) ds e = some e2 → vs.length = js.length ∧ Ok c S H (setAll σ js vs) e2 := by
  induction js with
  | nil =>
    intro ds vs σ e e2 k r h
    cases ds with
    | nil =>
      rw [show vs = [] from r]
      cases h
      exact ⟨rfl, k⟩
    | cons _ _ => cases h
  | cons j js ih =>
    intro ds vs σ e e2 k r h
    cases ds with
    | nil => cases h
    | cons d ds =>
      obtain ⟨v, w, rfl, r1, r2⟩ := r
      have h : asgs (js.map .var) ds (e.set j (.val d)) = some e2 := h
      obtain ⟨h1, h2⟩ := ih ds w _ _ e2 (k.setv r1) r2 h
      exact ⟨by rw [List.length_cons, List.length_cons, h1], h2⟩
theorem par_out {is : List Ex} {js : List Nat} (k : Ok c S H σ e) (h : OutPost c W S D (exe c.Φ c.F (.unp (.tup (js.map .var)) (.op .tup is)) e)) : tEvs c W is σ H fun vs H1 => vs.length = js.length ∧ D.nx (setAll σ js vs) H1 := by
  have h : OutPost c W S D (((evs c.Φ is e).bind fun os e1 => opEnd .tup e1 os).vout fun d e1 => match asg (.tup (js.map .var)) d e1 with | some e2 => .nx e2 | none => .bad) := h
  have h2 : Post c W σ S (evs c.Φ is e) fun os e1 S1 H1 => OutPost c W S1 D ((opEnd .tup e1 os).vout fun d e1 => match asg (.tup (js.map .var)) d e1 with | some e2 => .nx e2 | none => .bad) := by
    cases q : evs c.Φ is e with
    | ok os e1 => rw [q] at h; exact fun S' H' m k' => OutPost.weak m h
    | exn y e1 => rw [q] at h; exact fun cls d S' H' m => h cls d S' H' σ m
    | bad => rw [q] at h; exact h
  refine ⟨S, e, k, h2.imp fun os e1 S1 H1 m k1 h3 vs hvs => ?_⟩
  unfold opEnd at h3
  split at h3
  · rename_i hk
    split at h3
    · rename_i ds q1
      have rr := (k1.rts q1 hvs).reps hk
      split at h3
      · rename_i d q2
        have q2 : (if ds.length ≤ SZ then some (SK.D.tup ds) else none) = some d := q2
        split at q2
        · cases q2
          have h3 : OutPost c W S1 D (match asgs (js.map .var) ds e1 with | some e2 => .nx e2 | none => .bad) := h3
          split at h3
          · rename_i e2 q3
            obtain ⟨z1, z2⟩ := asgs_all js ds vs σ e1 e2 k1 rr q3
            exact ⟨z1, h3 S1 H1 _ (Same.refl _) z2⟩
          · exact (show False from h3).elim
        · cases q2
      · exact (show False from h3).elim
    · exact (show False from h3).elim
  · exact (show False from h3).elim
theorem tEvs.imp' {x : List Ex} {Q Q' : List V → Hp → Prop} (h : tEvs c W x σ H Q) (f : ∀ v H, Q v H → Q' v H) : tEvs c W x σ H Q' := h.imp f
/-- a, b = x, y: two local names -/
theorem psd_par (i j : Nat) {x y : Str} {px py pt : Pos} {kt k2 : Nat} {pt2 : Pos} (hx : XC c X) (hN : X.N.Nodup) (ha : PAD c W X [a, b] [ia, ib]) (hij : i ≠ j) (hw : swappedStores [.Tuple [.Name x px, .Name y py] kt pt] (.Tuple [a, b] k2 pt2) X.env = pure (some [x, y]))
    (hi : X.N[i]? = some x := by rfl) (hj : X.N[j]? = some y := by rfl) (hlx : X.env.scope.names.lookup x = some .local := by rfl) (hly : X.env.scope.names.lookup y = some .local := by rfl) (hs : swapsWithSole [.Tuple [.Name x px, .Name y py] kt pt] (.Tuple [a, b] k2 pt2) pos.line X.env = pure false := by rfl) :
    PSD c W X (.Assign [.Tuple [.Name x px, .Name y py] kt pt] (.Tuple [a, b] k2 pt2) pos) (.unp (.tup [.var i, .var j]) (.op .tup [ia, ib])) :=
  PS.mono (ps_par hx.calm hN hi hj hij hlx hly ha hw hs) fun D σ H h => by
    obtain ⟨S, e, k, h⟩ := h
    refine (par_out (js := [i, j]) k h).imp fun vs H1 h1 => ?_
    obtain ⟨h1, h2⟩ := h1
    match vs, h1, h2 with
    | [v, w], _, h2 => exact ⟨v, w, rfl, h2⟩
theorem psd_par3 (i j l : Nat) {x y z : Str} {c' : Expr} {ic : Ex} {px py pz pt : Pos} {kt k2 : Nat} {pt2 : Pos} (hx : XC c X) (hN : X.N.Nodup) (ha : PAD c W X [a, b, c'] [ia, ib, ic]) (hij : i ≠ j) (hil : i ≠ l) (hjl : j ≠ l) (hw : swappedStores [.Tuple [.Name x px, .Name y py, .Name z pz] kt pt] (.Tuple [a, b, c'] k2 pt2) X.env = pure (some [x, y, z]))
    (hi : X.N[i]? = some x := by rfl) (hj : X.N[j]? = some y := by rfl) (hl : X.N[l]? = some z := by rfl) (hlx : X.env.scope.names.lookup x = some .local := by rfl) (hly : X.env.scope.names.lookup y = some .local := by rfl) (hlz : X.env.scope.names.lookup z = some .local := by rfl) (hs : swapsWithSole [.Tuple [.Name x px, .Name y py, .Name z pz] kt pt] (.Tuple [a, b, c'] k2 pt2) pos.line X.env = pure false := by rfl) :
    PSD c W X (.Assign [.Tuple [.Name x px, .Name y py, .Name z pz] kt pt] (.Tuple [a, b, c'] k2 pt2) pos) (.unp (.tup [.var i, .var j, .var l]) (.op .tup [ia, ib, ic])) :=
  PS.mono (ps_par3 hx.calm hN hi hj hl hij hil hjl hlx hly hlz ha hw hs) fun D σ H h => by
    obtain ⟨S, e, k, h⟩ := h
    refine (par_out (js := [i, j, l]) k h).imp fun vs H1 h1 => ?_
    obtain ⟨h1, h2⟩ := h1
    match vs, h1, h2 with
    | [v, w, u], _, h2 => exact ⟨v, w, u, rfl, h2⟩
/-- name op= e, ints -/
theorem aug_out {o : Op} {x : Ex} {i : Nat} {g : TIp} (hg : ∀ x y d d' z H Q, opEval o [d, d'] = some (.int z) → Rep c.R H d x → Rep c.R H d' y → Q (.int z) H → g x y H Q) (k : Ok c S H σ e) (h : OutPost c W S D (exe c.Φ c.F (.aug i o x) e)) : tAug i (tEv c W x) g D σ H := by
  have h : OutPost c W S D (match getV e i with | some d => (ev c.Φ x e).vout fun r e1 => (match opEval o [d, r] with | some (.int z) => .nx (e1.set i (.val (.int z))) | _ => .bad) | none => .bad) := h
  split at h
  · rename_i d q
    unfold getV at q
    split at q
    · rename_i d' q'
      cases q
      obtain ⟨v, h1, h2⟩ := k.val i _ q'
      refine ⟨v, h1, ?_⟩
      have h3 : Post c W σ S (ev c.Φ x e) fun r e1 S1 H1 => ∀ w, RvOk c S1 H1 σ e1 r w → g v w H1 fun z H2 => D.nx (σ.set i (some z)) H2 := h.vout.imp fun r e1 S1 H1 m k1 h4 w hw => by
        obtain ⟨d2, S2, m2, k2, r2, h5⟩ := h4 w hw
        split at h5
        · rename_i z q2
          exact hg v w d d2 z H1 _ q2 (h2.mono (m.trans (m2.trans k2.sub))) (r2.mono k2.sub) (h5 S2 H1 _ (Same.refl _) (k2.setv (d := .int z) (v := .int z) rfl))
        · exact (show False from h5).elim
      exact ⟨S, e, k, h3⟩
    · cases q
  · exact (show False from h).elim
theorem psd_aug {op : Operator} (i : Nat) {o : Op} {x : Str} {g : TIp} (hN : X.N.Nodup) (hp : PIp X op g) (hg : ∀ x y d d' z H Q, opEval o [d, d'] = some (.int z) → Rep c.R H d x → Rep c.R H d' y → Q (.int z) H → g x y H Q) (ha : PD c W X a ia) (hi : X.N[i]? = some x := by rfl) (hx : Loc X.env.scope x := by first | exact Or.inl rfl | exact Or.inr rfl)
    (hf : X.fn x = true ∨ X.env.scope.names.lookup x = some .local := by first | exact .inl rfl | exact .inr rfl | assumption) : PSD c W X (.AugAssign (.Name x pos') op a pos) (.aug i o ia) :=
  PS.mono (ps_aug hN hi hx ha hp hf) fun D σ H h => by
    obtain ⟨S, e, k, h⟩ := h
    exact aug_out hg k h
theorem add_g : ∀ x y d d' z H Q, opEval .add [d, d'] = some (.int z) → Rep c.R H d x → Rep c.R H d' y → Q (.int z) H → rI0 (fun i j => .int (i + j)) x y H Q := fun x y d d' z H Q h r1 r2 q => by
  have h : addD d d' = some (.int z) := h
  unfold addD at h
  split at h
  · cases h; exact ⟨_, _, r1, r2, q⟩
  · split at h <;> cases h
  · split at h <;> cases h
  · cases h
theorem sub_g : ∀ x y d d' z H Q, opEval .sub [d, d'] = some (.int z) → Rep c.R H d x → Rep c.R H d' y → Q (.int z) H → rI0 (fun i j => .int (i - j)) x y H Q := fun x y d d' z H Q h r1 r2 q => by
  have h : subD d d' = some (.int z) := h
  unfold subD at h
  split at h
  · cases h; exact ⟨_, _, r1, r2, q⟩
  · cases h
theorem mul_g : ∀ x y d d' z H Q, opEval .mul [d, d'] = some (.int z) → Rep c.R H d x → Rep c.R H d' y → Q (.int z) H → (rI (fun i j => IntMulOk i j) (fun i j => .int (i * j))) x y H Q := fun x y d d' z H Q h r1 r2 q => by
  have h : mulD d d' = some (.int z) := h
  unfold mulD at h
  split at h
  · split at h
    · rename_i hm
      cases h
      refine ⟨_, _, r1, r2, ?_, q⟩
      unfold mulOk at hm
      rw [Bool.or_eq_true, Bool.or_eq_true] at hm
      rcases hm with (hm | hm) | hm
      · have hm := of_decide_eq_true hm
        exact CMul.ok (.inl ⟨by omega, by omega⟩)
      · have hm := of_decide_eq_true hm
        exact CMul.ok (.inr ⟨by omega, by omega⟩)
      · have hm2 := of_decide_eq_true hm
        exact CMulW.ok hm2
    · cases h
  · cases h
theorem iop_mulA : OpR X (inplaceOp .Mult) (rI (fun i j => IntMulOk i j) fun i j => .int (i * j)) := opI fun _ _ _ _ _ _ _ hc q => imul_int q hc
theorem psd_augAdd (i : Nat) {x : Str} (hN : X.N.Nodup) (ha : PD c W X a ia) (hi : X.N[i]? = some x := by rfl) (hx : Loc X.env.scope x := by first | exact Or.inl rfl | exact Or.inr rfl)
    (hf : X.fn x = true ∨ X.env.scope.names.lookup x = some .local := by first | exact .inl rfl | exact .inr rfl | assumption) : PSD c W X (.AugAssign (.Name x pos') .Add a pos) (.aug i .add ia) := psd_aug i hN iop_add add_g ha hi hx hf
theorem psd_augSub (i : Nat) {x : Str} (hN : X.N.Nodup) (ha : PD c W X a ia) (hi : X.N[i]? = some x := by rfl) (hx : Loc X.env.scope x := by first | exact Or.inl rfl | exact Or.inr rfl)
    (hf : X.fn x = true ∨ X.env.scope.names.lookup x = some .local := by first | exact .inl rfl | exact .inr rfl | assumption) : PSD c W X (.AugAssign (.Name x pos') .Sub a pos) (.aug i .sub ia) := psd_aug i hN iop_sub sub_g ha hi hx hf
theorem psd_augMul (i : Nat) {x : Str} (hN : X.N.Nodup) (ha : PD c W X a ia) (hi : X.N[i]? = some x := by rfl) (hx : Loc X.env.scope x := by first | exact Or.inl rfl | exact Or.inr rfl)
    (hf : X.fn x = true ∨ X.env.scope.names.lookup x = some .local := by first | exact .inl rfl | exact .inr rfl | assumption) : PSD c W X (.AugAssign (.Name x pos') .Mult a pos) (.aug i .mul ia) := psd_aug i hN iop_mulA mul_g ha hi hx hf
/-- a container of the frame's own is changed -/
theorem Ok.chg {i : Nat} {d d' : SK.D} {p : Addr} {o : HO} (k : Ok c S H σ e) (hi : e[i]? = some (Sl.own d)) (hp : σ[i]? = some (some (V.ref p))) (ho : RepO c.R S d' o) : Ok c S (upd H p o) σ (e.set i (.own d')) := by
  obtain ⟨p', o', h1, h2, h3, h4, h5, h6⟩ := k.own i d hi
  rw [hp] at h1
  cases h1
  have hl := lt_of_get hi
  have g : ∀ (j : Nat) (x : Sl), (e.set i (Sl.own d'))[j]? = some x → (j = i ∧ x = .own d') ∨ (j ≠ i ∧ e[j]? = some x) := fun j x z => by
    by_cases hj : i = j
    · subst hj
      rw [List.getElem?_set_self hl] at z
      cases z
      exact .inl ⟨rfl, rfl⟩
    · rw [List.getElem?_set_ne hj] at z
      exact .inr ⟨fun q => hj q.symm, z⟩
  refine ⟨fun b u q => ?_, fun b u q n => ?_, fun b q => ?_, k.base, k.new, k.iod, by rw [List.length_set]; exact k.len, fun j d1 z => ?_, fun j d1 z => ?_, fun j j' d1 d2 b z1 z2 z3 z4 => ?_⟩
  · have hb : b ≠ p := fun z => by subst z; rw [h3] at q; cases q
    rw [upd_ne hb]; exact k.sub b u q
  · have hb : b ≠ p := fun z => by
      subst z
      rcases h6 with h6 | h6
      · rw [h6] at q; cases q
      · exact n i h6 (h5 h6).symm
    rw [upd_ne hb]; exact k.keep b u q n
  · have hb : b ≠ p := fun z => by subst z; rw [upd_same] at q; cases q
    rw [upd_ne hb] at q; exact k.dom b q
  · rcases g j _ z with ⟨_, q⟩ | ⟨_, z⟩
    · cases q
    · exact k.val j d1 z
  · rcases g j _ z with ⟨rfl, q⟩ | ⟨hj, z⟩
    · cases q
      exact ⟨p, o, hp, upd_same, h3, ho, h5, h6⟩
    · obtain ⟨b, u, z1, z2, z3, z4, z5, z6⟩ := k.own j d1 z
      have hb : b ≠ p := fun q => hj (k.apart j i d1 d b z hi z1 (by rw [q]; exact hp))
      exact ⟨b, u, z1, by rw [upd_ne hb]; exact z2, z3, z4, z5, z6⟩
  · rcases g j _ z1 with ⟨rfl, _⟩ | ⟨_, z1⟩
    · rcases g j' _ z2 with ⟨rfl, _⟩ | ⟨_, z2⟩
      · rfl
      · exact k.apart j j' d d2 b hi z2 z3 z4
    · rename_i y1 _
      rcases g j' _ z2 with ⟨rfl, _⟩ | ⟨_, z2⟩
      · exact k.apart j j' d1 d b z1 hi z3 z4
      · exact k.apart j j' d1 d2 b z1 z2 z3 z4
theorem lstAt_of {i : Nat} {xs : List SK.D} (h : lstAt e i = some xs) : e[i]? = some (Sl.own (.lst xs)) := by
  unfold lstAt at h
  split at h
  · rename_i ys q
    cases h
    exact q
  · cases h
/-- xs.append(e) -/
theorem psd_app (i : Nat) {x : Str} {p apos : Pos} {e1 : Expr} (ha : PD c W X a ia) (hN : X.N[i]? = some x := by rfl) (hv : Vis X.env.scope x := by first | exact Or.inl rfl | exact Or.inr (Or.inl rfl) | exact Or.inr (Or.inr rfl)) (hd : (x == ("__debug__" : Str)) = false := by decide)
    (hcd : (x == ("__classdict__" : Str)) = false := by decide) (hs : swapsWith (.Call (.Attribute (.Name x p) "append" apos) [a] [] pos) none pos'.line X.env = pure false := by rfl)
    (hbase : attributeBase (.Name x p) "append" X.env (eval (.Name x p) X.env) = eval (.Name x p) X.env := by rfl)
    (hfew : ((backTo pos (starEach [a] X.env)).all (fun x => !x.1) && (backToKw pos (keywordEach [] X.env)).all (fun x => x.1.isSome) && decide (([a] : List Expr).length + ([] : List Keyword).length + (if ([] : List Keyword).isEmpty then 0 else 1) < 30)) = true := by rfl)
    (hline : (apos.endLine == pos.line) = true := by rfl) (hse : starEach [a] X.env = (false, eval a X.env) :: starEach [] X.env := by rfl) (hplain : (backTo pos (starEach [] X.env)).any (·.1) = false := by rfl) :
    PSD c W X (.Expr (.Call (.Attribute (.Name x p) "append" apos) [a] [] pos) pos') (.app i ia) :=
  PS.mono (ps_expr (pe_bm PySem.F.plainAttrs_list PySem.F.slot_list_append PySem.F.type_list_append mt_append (pe_var hN hv hd hcd) (pa_cons ha pa_nil hse) hbase hfew hline hse hplain) hs) fun D σ H h => by
    obtain ⟨S, e, k, h⟩ := h
    have h : OutPost c W S D (match lstAt e i with | some _ => (ev c.Φ ia e).vout fun d e1 => (match lstAt e1 i with | some xs => (if xs.length < SZ then .nx (e1.set i (.own (.lst (xs ++ [d])))) else .bad) | none => .bad) | none => .bad) := h
    split at h
    · rename_i xs0 q0
      obtain ⟨l, o, h1, h2, h3, ⟨us, rfl, _, _⟩, _⟩ := k.own i _ (lstAt_of q0)
      refine ⟨.ref l, h1, .inl ⟨rfl, us, .of h2⟩, ?_⟩
      refine (tEv.vout k h).imp fun v H1 h4 => ?_
      obtain ⟨d, S1, e1, k1, r1, h4⟩ := h4
      split at h4
      · rename_i xs q1
        split at h4
        · rename_i hz
          obtain ⟨l', o', g1, g2, g3, ⟨ws, rfl, gz, g4⟩, _⟩ := k1.own i _ (lstAt_of q1)
          rw [h1] at g1
          cases g1
          have hz' : ws.length < sizeLine := by
            rw [← g4.length]
            have : (SZ : Nat) = sizeLine := by rw [sizeLine_eq]; rfl
            omega
          refine ⟨l, ws, v, rfl, rfl, g2, hz', ?_⟩
          refine h4 S1 _ σ (Same.refl _) (k1.chg (lstAt_of q1) h1 ⟨_, rfl, ?_, g4.append (.one r1)⟩)
          rw [List.length_append, List.length_singleton]
          omega
        · exact (show False from h4).elim
      · exact (show False from h4).elim
    · exact (show False from h).elim
/-- o[j], o's item; j written, from 0 on -/
def rGetL (K : PySem.W.Frag) (j : Int) : V → V → Hp → VK → Prop := fun x y H Q => ∃ p xs z, x = .ref p ∧ y = .int j ∧ SqL K H p xs ∧ 0 ≤ j ∧ j < 2 ^ 63 ∧ xs[j.toNat]? = some z ∧ Q z H
theorem get_list (j : Int) : PGet X (rGetL X.K j) := by
  intro pins s σ H x y v u Q I rx ry h
  obtain ⟨p, xs, z, rfl, rfl, hq, h0, h63, hz, q⟩ := h
  cases rx
  obtain ⟨t, rfl⟩ := ry
  obtain ⟨its, r, pl, _⟩ := I.list hq
  obtain ⟨w, ew, rw'⟩ := r.get hz
  exact wpAny_getItem_list pl.isList h0 h63 (by simpa using ew) ⟨z, H, I, rw', q⟩
theorem ixN_nn {n : Nat} {j : Int} {i : Nat} (h0 : 0 ≤ j) (h : SK.ixN n j = some i) : i = j.toNat ∧ j.toNat < n := by
  unfold SK.ixN at h
  rw [if_pos h0] at h
  split at h
  · cases h
    exact ⟨rfl, by omega⟩
  · cases h
/-- xs[j] op= e: ints -/
theorem psd_augIdx {op : Operator} {o : Op} {g : TIp} (i : Nat) {j : Int} {x : Str} {p : Pos} {kj : Nat} {pj tpos : Pos} (hx : XC c X) (hp : PIp X op g) (hg : ∀ x y d d' z H Q, opEval o [d, d'] = some (.int z) → Rep c.R H d x → Rep c.R H d' y → Q (.int z) H → g x y H Q) (ha : PD c W X a ia) (h0 : 0 ≤ j) (h63 : j < 2 ^ 63)
    (hN : X.N[i]? = some x := by rfl) (hv : Vis X.env.scope x := by first | exact Or.inl rfl | exact Or.inr (Or.inl rfl) | exact Or.inr (Or.inr rfl)) (hd : (x == ("__debug__" : Str)) = false := by decide)
    (hcd : (x == ("__classdict__" : Str)) = false := by decide) :
    PSD c W X (.AugAssign (.Subscript (.Name x p) (.Constant (.int j) kj pj) tpos) op a pos) (.augIdx i j o ia) :=
  PS.mono (ps_augS (pe_var hN hv hd hcd) pe_int (get_list j) ha hp set_list) fun D σ H h => by
    obtain ⟨S, e, k, h⟩ := h
    have h : OutPost c W S D (match lstAt e i with
      | some xs => match SK.ixN xs.length j with
        | some n => match xs[n]? with
          | some old => (ev c.Φ ia e).vout fun r e1 => (match opEval o [old, r], lstAt e1 i with
            | some (.int z), some ys => if SK.ixN ys.length j = some n then .nx (e1.set i (.own (.lst (ys.set n (.int z))))) else .bad
            | _, _ => .bad)
          | none => .bad
        | none => .bad
      | none => .bad) := h
    split at h
    · rename_i xs q0
      split at h
      · rename_i n q1
        split at h
        · rename_i old q2
          obtain ⟨l, ob, h1, h2, h3, ⟨us, rfl, _, h4⟩, _⟩ := k.own i _ (lstAt_of q0)
          obtain ⟨rfl, _⟩ := ixN_nn h0 q1
          obtain ⟨z0, g1, g2⟩ := h4.get q2
          refine ⟨.ref l, h1, ?_⟩
          refine ⟨l, us, z0, rfl, rfl, .of h2, h0, h63, g1, ?_⟩
          have h5 : Post c W σ S (ev c.Φ ia e) fun r e1 S1 H1 => ∀ w, RvOk c S1 H1 σ e1 r w → g z0 w H1 fun z H5 => rSetL (.ref l) (.int j) z H5 fun H6 => D.nx σ H6 := h.vout.imp fun r e1 S1 H1 m k1 h6 w hw => by
            obtain ⟨d2, S2, m2, k2, r2, h7⟩ := h6 w hw
            split at h7
            · rename_i z ys q3 q4
              split at h7
              · rename_i q5
                obtain ⟨l', o', f1, f2, f3, ⟨ws, rfl, fz, f4⟩, _⟩ := k2.own i _ (lstAt_of q4)
                rw [h1] at f1
                cases f1
                refine hg z0 w old d2 z H1 _ q3 (g2.mono (m.trans (m2.trans k2.sub))) (r2.mono k2.sub) ⟨l, ws, j, j.toNat, rfl, rfl, f2, ?_, ?_⟩
                · rw [← f4.length]; exact q5
                · exact h7 S2 _ σ (Same.refl _) (k2.chg (lstAt_of q4) h1 ⟨_, rfl, by rw [List.length_set]; exact fz, f4.set _ (d := .int z) (v := .int z) rfl⟩)
              · exact (show False from h7).elim
            · exact (show False from h7).elim
          exact ⟨S, e, k, h5⟩
        · exact (show False from h).elim
      · exact (show False from h).elim
    · exact (show False from h).elim

/-! ### loops -/
theorem psd_while {x : Expr} {body : List Stmt} {t : Te} {ss : List SK.St} (hp : PassesOwn (model X.prog X.w) X.A X.env X.xe) (hc : PTD c W X x t) (hb : PSsD c W X body ss) : PSD c W X (.While x body [] pos) (.whl t ss) :=
  PS.mono (ps_while hp hc hb) fun D σ H h => by
    obtain ⟨S, e, k, h⟩ := h
    have h : OutPost c W S D (whileN (tst c.Φ t) (exes c.Φ c.F ss) c.F e) := h
    refine ⟨fun m σ H => ∃ S1 e1, Same S S1 ∧ Ok c S1 H σ e1 ∧ OutPost c W S1 D (whileN (tst c.Φ t) (exes c.Φ c.F ss) m e1), ⟨c.F, S, e, Same.refl _, k, h⟩, ?_⟩
    rintro m σ1 H1 ⟨S1, e1, m1, k1, h1⟩
    cases m with
    | zero => exact (show False from h1).elim
    | succ m =>
      have h1 : OutPost c W S1 D ((tst c.Φ t e1).out fun b e2 => if b then (match exes c.Φ c.F ss e2 with | .nx e3 => whileN (tst c.Φ t) (exes c.Φ c.F ss) m e3 | .cnt e3 => whileN (tst c.Φ t) (exes c.Φ c.F ss) m e3 | .brk e3 => .nx e3 | r => r) else .nx e2) := h1
      refine ⟨S1, e1, k1, h1.out.imp fun b e2 S2 H2 m2 k2 h2 => ?_⟩
      cases b with
      | false => rw [if_neg Bool.false_ne_true]; exact h2 S2 H2 σ1 (Same.refl _) k2
      | true =>
        rw [if_pos rfl]
        have h2 : OutPost c W S2 D (match exes c.Φ c.F ss e2 with | .nx e3 => whileN (tst c.Φ t) (exes c.Φ c.F ss) m e3 | .cnt e3 => whileN (tst c.Φ t) (exes c.Φ c.F ss) m e3 | .brk e3 => .nx e3 | r => r) := h2
        refine ⟨fun σ' H' => ∃ S3 e3, Same S S3 ∧ Ok c S3 H' σ' e3 ∧ OutPost c W S3 D (whileN (tst c.Φ t) (exes c.Φ c.F ss) m e3), fun σ' H' q => ⟨m, Nat.lt_succ_self m, q⟩, S2, e2, k2, ?_⟩
        cases q : exes c.Φ c.F ss e2 with
        | nx e3 => rw [q] at h2; exact fun S' H' σ' m' k' => ⟨S', e3, m1.trans (m2.trans m'), k', OutPost.weak m' h2⟩
        | cnt e3 => rw [q] at h2; exact fun S' H' σ' m' k' => ⟨S', e3, m1.trans (m2.trans m'), k', OutPost.weak m' h2⟩
        | brk e3 => rw [q] at h2; exact h2
        | ret r e3 => rw [q] at h2; exact h2
        | exn y e3 => rw [q] at h2; exact h2
        | bad => rw [q] at h2; exact h2
theorem psd_for {tg iter : Expr} {body : List Stmt} {t : Tg} {kk : ItK} {es : List Ex} {ss : List SK.St} (hp : PassesOwn (model X.prog X.w) X.A X.env X.xe) (hx : XC c X) (hi : PID c W X tg iter kk es) (hg : PG X tg (tTg c t)) (hb : PSsD c W X body ss)
    (hs : ∀ x, foldedSetIterable iter X.env x = pure x := by intro _; rfl) : PSD c W X (.For tg iter body [] pos) (.for_ t kk es ss) :=
  PS.mono (ps_for hp hx.calm hi hg hb hs) fun D σ H h => by
    obtain ⟨S, e, k, h⟩ := h
    have h : OutPost c W S D ((evs c.Φ es e).out fun os e1 => match itEnd kk e1 os with
      | some xs => forL (fun x e2 => match asg t x e2 with | some e3 => exes c.Φ c.F ss e3 | none => .bad) xs e1
      | none => .bad) := h
    refine ⟨S, e, k, h.out.imp fun os e1 S1 H1 m1 k1 h1 => ?_⟩
    cases hit : itEnd kk e1 os with
    | none => rw [hit] at h1; exact (show False from h1).elim
    | some xs =>
      rw [hit] at h1
      intro J S2 H2 m2 k2 io
      generalize hf : (fun (x : SK.D) (e2 : SK.Env) => match asg t x e2 with | some e3 => exes c.Φ c.F ss e3 | none => Out.bad) = f at h1
      refine ⟨fun i m σ H => ∃ S3 e3, i + m = xs.length ∧ Ok c S3 H σ e3 ∧ Same S2 S3 ∧ OutPost c W S3 D (forL f (xs.drop i) e3), ⟨xs.length, S2, e1, by omega, k2, Same.refl _, OutPost.weak m2 h1⟩, ?_⟩
      rintro i m σ3 H3 ⟨S3, e3, him, k3, m3, h3⟩
      have sH : Same S2 H3 := m3.trans k3.sub
      by_cases hlt : i < xs.length
      · obtain ⟨hd1, hd2⟩ := drop_cons hlt
        rw [hd2] at h3
        refine .inr ⟨io.go i _ H3 hd1 sH, fun σ' H' => ∃ S4 e4, (i + 1) + (m - 1) = xs.length ∧ Ok c S4 H' σ' e4 ∧ Same S2 S4 ∧ OutPost c W S4 D (forL f (xs.drop (i + 1)) e4), fun σ' H' q => ⟨m - 1, by omega, q⟩, fun x H' y => ?_⟩
        obtain ⟨S4, m4, k4, r4, _, _⟩ := io.yld i _ H3 H' S3 x σ3 e3 c.H0 hd1 m3 k3 y
        have h3 : OutPost c W S3 D (match f xs[i] e3 with | .nx e' => forL f (xs.drop (i + 1)) e' | .cnt e' => forL f (xs.drop (i + 1)) e' | .brk e' => .nx e' | r => r) := h3
        have hfe : f xs[i] e3 = match asg t xs[i] e3 with | some e4 => exes c.Φ c.F ss e4 | none => Out.bad := by rw [← hf]
        cases ha : asg t xs[i] e3 with
        | none => rw [hfe, ha] at h3; exact (show False from h3).elim
        | some e4 =>
          rw [hfe, ha] at h3
          have h3 : OutPost c W S3 D (match exes c.Φ c.F ss e4 with | .nx e' => forL f (xs.drop (i + 1)) e' | .cnt e' => forL f (xs.drop (i + 1)) e' | .brk e' => .nx e' | r => r) := h3
          refine ⟨S4, e3, xs[i], e4, k4, r4, ha, fun σ5 k5 _ => ⟨S4, e4, k5, ?_⟩⟩
          cases q : exes c.Φ c.F ss e4 with
          | nx e5 => rw [q] at h3; exact fun S' H' σ' m' k' => ⟨S', e5, by omega, k', m3.trans (m4.trans m'), OutPost.weak (m4.trans m') h3⟩
          | cnt e5 => rw [q] at h3; exact fun S' H' σ' m' k' => ⟨S', e5, by omega, k', m3.trans (m4.trans m'), OutPost.weak (m4.trans m') h3⟩
          | brk e5 => rw [q] at h3; exact OutPost.weak (o := .nx e5) m4 h3
          | ret r e5 => rw [q] at h3; exact OutPost.weak (o := .ret r e5) m4 h3
          | exn y e5 => rw [q] at h3; exact OutPost.weak (o := .exn y e5) m4 h3
          | bad => rw [q] at h3; exact (show False from h3).elim
      · have ei : xs.drop i = [] := List.drop_eq_nil_of_le (by omega)
        rw [ei] at h3
        have eil : i = xs.length := by omega
        exact .inl ⟨by rw [eil]; exact io.stop H3 sH, h3 S3 H3 σ3 (Same.refl _) k3⟩
end
end SK

set_option Elab.async false
set_option linter.all false
set_option maxRecDepth 100000
set_option autoImplicit false
/-! SK over HandS: calls, defs. -/
namespace SK
open PySem PySem.Spec PyProof.Rows L2
/-- the addresses of the arguments that are changed -/
def ioVs : List Bool → List V → List Addr
  | true :: r, .ref a :: vs => a :: ioVs r vs
  | _ :: r, _ :: vs => ioVs r vs
  | _, _ => []
def PArgs (R : Rc) (S H : Hp) : List Bool → List SK.D → List V → Prop
  | [], ds, vs => ds = [] ∧ vs = []
  | true :: bs, ds, vs => ∃ d r a t o, ds = d :: r ∧ vs = V.ref a :: t ∧ H a = some o ∧ S a = none ∧ RepO R S d o ∧ PArgs R S H bs r t
  | false :: bs, ds, vs => ∃ d r v t, ds = d :: r ∧ vs = v :: t ∧ Rep R S d v ∧ PArgs R S H bs r t
def POuts (R : Rc) (S H : Hp) : List Bool → List V → List SK.D → Prop
  | true :: bs, vs, ds => ∃ a t o d r, vs = V.ref a :: t ∧ ds = d :: r ∧ H a = some o ∧ S a = none ∧ RepO R S d o ∧ POuts R S H bs t r
  | false :: bs, vs, ds => ∃ v t, vs = v :: t ∧ POuts R S H bs t ds
  | [], vs, ds => vs = [] ∧ ds = []
structure Fin (R : Rc) (S H : Hp) (io : List Bool) (vs : List V) (S' H' : Hp) (outs : List SK.D) : Prop where
  st : Same S S'
  sub : Same S' H'
  new : ∀ (b : Addr) (o : HO), S' b = some o → S b = some o ∨ H b = none
  keep : ∀ (b : Addr) (o : HO), H b = some o → b ∉ ioVs io vs → H' b = some o
  dom : ∀ (b : Addr), H' b = none → H b = none
  outs : POuts R S' H' io vs outs
def ResOk (R : Rc) (H S' H' : Hp) : Rv → V → Prop
  | .st d, v => Rep R S' d v
  | .fr d, v => ∃ a o, v = .ref a ∧ H' a = some o ∧ S' a = none ∧ RepO R S' d o ∧ H a = none
  | _, _ => False
/-- what a def promises: as the evaluator says -/
def spF (R : Rc) (Φ : Nat → List SK.D → CRes) (f : Nat) (io : List Bool) : Sp := fun vs H Q E => ∃ S ds, Same S H ∧ PArgs R S H io ds vs ∧ (ioVs io vs).Nodup ∧ match Φ f ds with
  | .ret r outs => (match r with | .st _ => True | .fr _ => True | _ => False) → ∀ v S' H', Fin R S H io vs S' H' outs → ResOk R H S' H' r v → Q v H'
  | .exn x outs => ∀ cls d S' H', Fin R S H io vs S' H' outs → R.rx x cls d S' H' → E cls d H'
  | .bad => False
section
variable {R : Rc} {c : Fc} {W : WX} {S S' H H' : Hp} {σ : L2.St} {e e' : SK.Env} {X : Cx} {pos : Pos}
theorem PArgs.len : ∀ {io : List Bool} {ds : List SK.D} {vs : List V}, PArgs R S H io ds vs → ds.length = io.length ∧ vs.length = io.length
  | [], _, _, ⟨h1, h2⟩ => by rw [h1, h2]; exact ⟨rfl, rfl⟩
  | true :: bs, _, _, ⟨d, r, a, t, o, h1, h2, _, _, _, h⟩ => by
    have := PArgs.len h
    rw [h1, h2]
    simp only [List.length_cons]
    omega
  | false :: bs, _, _, ⟨d, r, v, t, h1, h2, _, h⟩ => by
    have := PArgs.len h
    rw [h1, h2]
    simp only [List.length_cons]
    omega
theorem io_mem : ∀ {io : List Bool} {os : List Opd} {vs : List V} {a : Addr}, patOk io os = true → OpdsOk c S σ os vs → a ∈ ioVs io vs → ∃ j ∈ ios os, σ[j]? = some (some (V.ref a))
  | [], [], vs, a, _, h, ha => by rw [show vs = [] from h] at ha; cases ha
  | true :: r, .io i :: os, vs, a, hp, ⟨v, t, h1, h2, h3⟩, ha => by
    subst h1
    have h2 : σ[i]? = some (some v) := h2
    have hrec : a ∈ ioVs r t → ∃ j ∈ ios (.io i :: os), σ[j]? = some (some (V.ref a)) := fun q => by
      obtain ⟨j, z1, z2⟩ := io_mem (io := r) (os := os) hp h3 q
      exact ⟨j, List.mem_cons_of_mem _ z1, z2⟩
    cases v with
    | ref b =>
      rcases List.mem_cons.mp ha with q | q
      · exact ⟨i, List.mem_cons_self, by rw [q]; exact h2⟩
      · exact hrec q
    | _ => exact hrec ha
  | false :: r, .v _ :: os, vs, a, hp, ⟨v, t, h1, h2, h3⟩, ha => by
    subst h1
    exact io_mem (io := r) (os := os) hp h3 ha
  | [], _ :: _, _, _, hp, _, _ => by cases hp
  | true :: _, [], _, _, hp, _, _ => by cases hp
  | false :: _, [], _, _, hp, _, _ => by cases hp
  | true :: _, .v _ :: _, _, _, hp, _, _ => by cases hp
  | true :: _, .s _ :: _, _, _, hp, _, _ => by cases hp
  | false :: _, .io _ :: _, _, _, hp, _, _ => by cases hp
  | false :: _, .s _ :: _, _, _, hp, _, _ => by cases hp
theorem mem_io : ∀ {io : List Bool} {os : List Opd} {vs : List V} {a : Addr} {j : Nat}, patOk io os = true → OpdsOk c S σ os vs → j ∈ ios os → σ[j]? = some (some (V.ref a)) → a ∈ ioVs io vs
  | [], [], vs, a, _, _, h, ha, _ => by cases ha
  | true :: r, .io i :: os, vs, a, j, hp, ⟨v, t, h1, h2, h3⟩, ha, hs => by
    subst h1
    have h2 : σ[i]? = some (some v) := h2
    rcases List.mem_cons.mp ha with q | q
    · subst q
      rw [h2] at hs
      cases hs
      exact List.mem_cons_self
    · have := mem_io (io := r) (os := os) hp h3 q hs
      cases v with
      | ref b => exact List.mem_cons_of_mem _ this
      | _ => exact this
  | false :: r, .v _ :: os, vs, a, j, hp, ⟨v, t, h1, h2, h3⟩, ha, hs => by
    subst h1
    exact mem_io (io := r) (os := os) hp h3 ha hs
  | [], _ :: _, _, _, _, hp, _, _, _ => by cases hp
  | true :: _, [], _, _, _, hp, _, _, _ => by cases hp
  | false :: _, [], _, _, _, hp, _, _, _ => by cases hp
  | true :: _, .v _ :: _, _, _, _, hp, _, _, _ => by cases hp
  | true :: _, .s _ :: _, _, _, _, hp, _, _, _ => by cases hp
  | false :: _, .io _ :: _, _, _, _, hp, _, _, _ => by cases hp
  | false :: _, .s _ :: _, _, _, _, hp, _, _, _ => by cases hp
theorem getO_of {i : Nat} {d : SK.D} (h : getO e i = some d) : e[i]? = some (Sl.own d) := by
  unfold getO at h
  split at h
  · rename_i d' q
    cases h
    exact q
  · cases h
theorem rds_own : ∀ {os : List Opd} {ds : List SK.D}, rds e os = some ds → ∀ j ∈ ios os, ∃ d, e[j]? = some (Sl.own d)
  | [], _, _, j, hj => by cases hj
  | o :: os, ds, h, j, hj => by
    unfold rds at h
    split at h
    · rename_i d r q1 q2
      cases o with
      | io i =>
        rcases List.mem_cons.mp hj with z | z
        · subst z
          exact ⟨d, getO_of q1⟩
        · exact rds_own q2 j z
      | v _ => exact rds_own q2 j hj
      | s _ => exact rds_own q2 j hj
    · cases h
theorem nodup_cons {i : Nat} {r : List Nat} (h : nodupB (i :: r) = true) : i ∉ r ∧ nodupB r = true := by
  have h : (!r.contains i && nodupB r) = true := h
  rw [Bool.and_eq_true] at h
  exact ⟨by simpa using h.1, h.2⟩
theorem pargs_of (k : Ok c S H σ e) : ∀ {io : List Bool} {os : List Opd} {ds : List SK.D} {vs : List V}, patOk io os = true → rds e os = some ds → OpdsOk c S σ os vs → PArgs c.R S H io ds vs
  | [], [], ds, vs, _, h, hv => by cases h; exact ⟨rfl, hv⟩
  | true :: r, .io i :: os, ds, vs, hp, h, ⟨v, t, h1, h2, h3⟩ => by
    unfold rds at h
    split at h
    · rename_i d r' q1 q2
      cases h
      obtain ⟨a, o, z1, z2, z3, z4, _⟩ := k.own i d (getO_of q1)
      have h2 : σ[i]? = some (some v) := h2
      rw [h2] at z1
      cases z1
      exact ⟨d, r', a, t, o, rfl, h1, z2, z3, z4, pargs_of k (io := r) hp q2 h3⟩
    · cases h
  | false :: r, .v d0 :: os, ds, vs, hp, h, ⟨v, t, h1, h2, h3⟩ => by
    unfold rds at h
    split at h
    · rename_i d r' q1 q2
      cases h
      have q1 : some d0 = some d := q1
      cases q1
      exact ⟨d0, r', v, t, rfl, h1, h2, pargs_of k (io := r) hp q2 h3⟩
    · cases h
  | [], _ :: _, _, _, hp, _, _ => by cases hp
  | true :: _, [], _, _, hp, _, _ => by cases hp
  | false :: _, [], _, _, hp, _, _ => by cases hp
  | true :: _, .v _ :: _, _, _, hp, _, _ => by cases hp
  | true :: _, .s _ :: _, _, _, hp, _, _ => by cases hp
  | false :: _, .io _ :: _, _, _, hp, _, _ => by cases hp
  | false :: _, .s _ :: _, _, _, hp, _, _ => by cases hp
theorem ionodup_of (k : Ok c S H σ e) : ∀ {io : List Bool} {os : List Opd} {ds : List SK.D} {vs : List V}, patOk io os = true → nodupB (ios os) = true → rds e os = some ds → OpdsOk c S σ os vs → (ioVs io vs).Nodup
  | [], [], ds, vs, _, _, h, hv => by rw [show vs = [] from hv]; exact List.nodup_nil
  | true :: r, .io i :: os, ds, vs, hp, hn, h, ⟨v, t, h1, h2, h3⟩ => by
    subst h1
    unfold rds at h
    split at h
    · rename_i d r' q1 q2
      obtain ⟨n1, n2⟩ := nodup_cons hn
      have ih := ionodup_of k (io := r) hp n2 q2 h3
      have h2 : σ[i]? = some (some v) := h2
      cases v with
      | ref a =>
        refine List.nodup_cons.mpr ⟨fun ha => ?_, ih⟩
        obtain ⟨j, z1, z2⟩ := io_mem (io := r) (os := os) hp h3 ha
        obtain ⟨d', z3⟩ := rds_own q2 j z1
        have := k.apart i j d d' a (getO_of q1) z3 h2 z2
        subst this
        exact n1 z1
      | _ => exact ih
    · cases h
  | false :: r, .v d0 :: os, ds, vs, hp, hn, h, ⟨v, t, h1, h2, h3⟩ => by
    subst h1
    unfold rds at h
    split at h
    · rename_i d r' q1 q2
      exact ionodup_of k (io := r) (os := os) hp hn q2 h3
    · cases h
  | [], _ :: _, _, _, hp, _, _, _ => by cases hp
  | true :: _, [], _, _, hp, _, _, _ => by cases hp
  | false :: _, [], _, _, hp, _, _, _ => by cases hp
  | true :: _, .v _ :: _, _, _, hp, _, _, _ => by cases hp
  | true :: _, .s _ :: _, _, _, hp, _, _, _ => by cases hp
  | false :: _, .io _ :: _, _, _, hp, _, _, _ => by cases hp
  | false :: _, .s _ :: _, _, _, hp, _, _, _ => by cases hp
/-- behind a call: what the slots hold -/
theorem wrs_get : ∀ {io : List Bool} {os : List Opd} {vs : List V} {outs : List SK.D} {e e' : SK.Env}, patOk io os = true → nodupB (ios os) = true → (∀ j ∈ ios os, j < e.length) → OpdsOk c S σ os vs → POuts R S' H' io vs outs → wrs os outs e = some e' →
    e'.length = e.length ∧ (∀ j, j ∉ ios os → e'[j]? = e[j]?) ∧ ∀ j ∈ ios os, ∃ d a o, e'[j]? = some (Sl.own d) ∧ σ[j]? = some (some (V.ref a)) ∧ H' a = some o ∧ S' a = none ∧ RepO R S' d o
  | [], [], vs, outs, e, e', _, _, _, _, hq, h => by
    obtain ⟨_, q⟩ := hq
    subst q
    cases h
    exact ⟨rfl, fun _ _ => rfl, fun j hj => by cases hj⟩
  | true :: r, .io i :: os, vs, outs, e, e', hp, hn, hl, ⟨v, t, h1, h2, h3⟩, ⟨a, t', o, d, r', g1, g2, g3, g4, g5, g6⟩, h => by
    subst h1 g2
    cases g1
    obtain ⟨n1, n2⟩ := nodup_cons hn
    have h : wrs os r' (e.set i (.own d)) = some e' := h
    obtain ⟨z1, z2, z3⟩ := wrs_get (io := r) (os := os) hp n2 (fun j hj => by rw [List.length_set]; exact hl j (List.mem_cons_of_mem _ hj)) h3 g6 h
    refine ⟨by rw [z1, List.length_set], fun j hj => ?_, fun j hj => ?_⟩
    · have hj : j ∉ i :: ios os := hj
      simp only [List.mem_cons, not_or] at hj
      rw [z2 j hj.2, List.getElem?_set_ne (fun q => hj.1 q.symm)]
    · rcases List.mem_cons.mp hj with q | q
      · subst q
        exact ⟨d, a, o, by rw [z2 j n1, List.getElem?_set_self (hl j hj)], h2, g3, g4, g5⟩
      · exact z3 j q
  | false :: r, .v d0 :: os, vs, outs, e, e', hp, hn, hl, ⟨v, t, h1, h2, h3⟩, ⟨v', t', g1, g6⟩, h => by
    subst h1
    cases g1
    exact wrs_get (io := r) (os := os) hp hn hl h3 g6 h
  | [], _ :: _, _, _, _, _, hp, _, _, _, _, _ => by cases hp
  | true :: _, [], _, _, _, _, hp, _, _, _, _, _ => by cases hp
  | false :: _, [], _, _, _, _, hp, _, _, _, _, _ => by cases hp
  | true :: _, .v _ :: _, _, _, _, _, hp, _, _, _, _, _ => by cases hp
  | true :: _, .s _ :: _, _, _, _, _, hp, _, _, _, _, _ => by cases hp
  | false :: _, .io _ :: _, _, _, _, _, hp, _, _, _, _, _ => by cases hp
  | false :: _, .s _ :: _, _, _, _, _, hp, _, _, _, _, _ => by cases hp
theorem ok_wrs {io : List Bool} {os : List Opd} {ds outs : List SK.D} {vs : List V} (k : Ok c S H σ e) (hp : patOk io os = true) (hn : nodupB (ios os) = true) (hr : rds e os = some ds) (hv : OpdsOk c S σ os vs) (f : Fin c.R S H io vs S' H' outs) (hw : wrs os outs e = some e') : Ok c S' H' σ e' := by
  have hl : ∀ j ∈ ios os, j < e.length := fun j hj => let ⟨d, q⟩ := rds_own hr j hj; lt_of_get q
  obtain ⟨z1, z2, z3⟩ := wrs_get (R := c.R) (S' := S') (H' := H') hp hn hl hv f.outs hw
  have io_c : ∀ b, b ∈ ioVs io vs → (c.H0 b = none ∨ ∃ i ∈ c.ioI, c.ioA i = b) := fun b hb => by
    obtain ⟨j, y1, y2⟩ := io_mem hp hv hb
    obtain ⟨d, y3⟩ := rds_own hr j y1
    obtain ⟨a, o, w1, w2, w3, w4, w5, w6⟩ := k.own j d y3
    rw [y2] at w1
    cases w1
    exact w6.imp id fun q => ⟨j, q, (w5 q).symm⟩
  refine ⟨f.sub, fun b o q n => f.keep b o (k.keep b o q n) fun hb => ?_, fun b q => k.dom b (f.dom b q), k.base.trans f.st, fun b o q => ?_, k.iod, by rw [z1]; exact k.len, fun i d q => ?_, fun i d q => ?_, fun i j d d' a q1 q2 q3 q4 => ?_⟩
  · rcases io_c b hb with y | ⟨i, y1, y2⟩
    · rw [y] at q; cases q
    · exact n i y1 y2
  · rcases f.new b o q with y | y
    · exact k.new b o y
    · exact .inr (k.dom b y)
  · by_cases hi : i ∈ ios os
    · obtain ⟨d', a, o, y1, _⟩ := z3 i hi
      rw [y1] at q; cases q
    · rw [z2 i hi] at q
      obtain ⟨v, y1, y2⟩ := k.val i d q
      exact ⟨v, y1, y2.mono f.st⟩
  · by_cases hi : i ∈ ios os
    · obtain ⟨d', a, o, y1, y2, y3, y4, y5⟩ := z3 i hi
      rw [y1] at q
      cases q
      obtain ⟨d0, x1⟩ := rds_own hr i hi
      obtain ⟨a', o', w1, w2, w3, w4, w5, w6⟩ := k.own i d0 x1
      rw [y2] at w1
      cases w1
      exact ⟨a, o, y2, y3, y4, y5, w5, w6⟩
    · rw [z2 i hi] at q
      obtain ⟨a, o, w1, w2, w3, w4, w5, w6⟩ := k.own i d q
      refine ⟨a, o, w1, f.keep a o w2 fun ha => ?_, ?_, w4.mono f.st, w5, w6⟩
      · obtain ⟨j, y1, y2⟩ := io_mem hp hv ha
        obtain ⟨d', y3⟩ := rds_own hr j y1
        have := k.apart i j d d' a q y3 w1 y2
        subst this
        exact hi y1
      · cases y : S' a with
        | none => rfl
        | some u =>
          rcases f.new a u y with y' | y'
          · rw [w3] at y'; cases y'
          · rw [w2] at y'; cases y'
  · have o1 : ∀ i d, e'[i]? = some (Sl.own d) → ∃ d0, e[i]? = some (Sl.own d0) := fun i d q => by
      by_cases hi : i ∈ ios os
      · exact rds_own hr i hi
      · rw [z2 i hi] at q; exact ⟨d, q⟩
    obtain ⟨d1, y1⟩ := o1 i d q1
    obtain ⟨d2, y2⟩ := o1 j d' q2
    exact k.apart i j d1 d2 a y1 y2 q3 q4
theorem own_old {io : List Bool} {os : List Opd} {ds outs : List SK.D} {vs : List V} (k : Ok c S H σ e) (hp : patOk io os = true) (hn : nodupB (ios os) = true) (hr : rds e os = some ds) (hv : OpdsOk c S σ os vs) (f : Fin c.R S H io vs S' H' outs) (hw : wrs os outs e = some e') {i : Nat} {d : SK.D} (q : e'[i]? = some (Sl.own d)) : ∃ a o, σ[i]? = some (some (V.ref a)) ∧ H a = some o := by
  have hl : ∀ j ∈ ios os, j < e.length := fun j hj => let ⟨d, q⟩ := rds_own hr j hj; lt_of_get q
  obtain ⟨z1, z2, z3⟩ := wrs_get (R := c.R) (S' := S') (H' := H') hp hn hl hv f.outs hw
  have : ∃ d0, e[i]? = some (Sl.own d0) := by
    by_cases hi : i ∈ ios os
    · exact rds_own hr i hi
    · rw [z2 i hi] at q; exact ⟨d, q⟩
  obtain ⟨d0, y⟩ := this
  obtain ⟨a, o, w1, w2, _⟩ := k.own i d0 y
  exact ⟨a, o, w1, w2⟩
/-- a call of a def of ours -/
theorem call_post {f : Nat} {io : List Bool} {is : List Ex} {Q : VK} (h : tEv c W (.call f io is) σ H Q) : tEvs c W is σ H fun vs H1 => spF c.R c.Φ f io vs H1 Q (fun cls d H => W cls d σ H) := by
  obtain ⟨S, e, k, h⟩ := h
  have h1 : Post c W σ S ((evs c.Φ is e).bind fun os e1 => if patOk io os && nodupB (ios os) then match rds e1 os with | some ds => callEnd os e1 (c.Φ f ds) | none => .bad else .bad) fun r e' S' H' => ∀ v, RvOk c S' H' σ e' r v → Q v H' := h
  refine ⟨S, e, k, h1.bind.imp fun os e1 S1 H1 m k1 h2 vs hvs => ?_⟩
  split at h2
  · rename_i hpn
    rw [Bool.and_eq_true] at hpn
    obtain ⟨hp, hn⟩ := hpn
    split at h2
    · rename_i ds hr
      refine ⟨S1, ds, k1.sub, pargs_of k1 hp hr hvs, ionodup_of k1 hp hn hr hvs, ?_⟩
      generalize c.Φ f ds = res at h2 ⊢
      cases res with
      | bad => exact h2
      | exn x outs =>
        intro cls d S' H' fin hx
        have h2 : Post c W σ S1 (match wrs os outs e1 with | some e' => Res.exn x e' | none => .bad) _ := h2
        split at h2
        · rename_i e' hw
          exact h2 cls d S' H' fin.st (ok_wrs k1 hp hn hr hvs fin hw) hx
        · exact (show False from h2).elim
      | ret r outs =>
        intro hrr v S' H' fin hres
        have h2 : Post c W σ S1 (match wrs os outs e1 with | some e' => (match r with | .st d => Res.ok (Rv.st d) e' | .fr d => .ok (.fr d) e' | _ => .bad) | none => .bad) _ := h2
        split at h2
        · rename_i e' hw
          have k2 := ok_wrs k1 hp hn hr hvs fin hw
          cases r with
          | st d => exact h2 S' H' fin.st k2 v hres
          | fr d =>
            obtain ⟨a, o, rfl, g1, g2, g3, g4⟩ := hres
            refine h2 S' H' fin.st k2 _ ⟨a, o, rfl, g1, g2, g3, k1.dom a g4, fun i d' q z => ?_⟩
            obtain ⟨a', o', w1, w2⟩ := own_old k1 hp hn hr hvs fin hw q
            rw [z] at w1
            cases w1
            rw [g4] at w2
            cases w2
          | s _ => exact hrr.elim
          | io _ => exact hrr.elim
        · exact (show False from h2).elim
    · exact (show False from h2).elim
  · exact (show False from h2).elim
theorem pd_call {CX : CXT} {kk : Nat} {fa : Addr} {fd : FuncData} {ps : List Str} {f : Nat} {io : List Bool} {x : Str} {p : Pos} {e1 : Expr} {es : List Expr} {is : List Ex} (F : FnOk X.prog X.w X.K X.mg X.base CX kk fa fd ps (spF c.R c.Φ f io)) (hr : Room kk X.A) (hg : Gl X x) (hm : X.mg x = some (.ref fa)) (hk : PySem.W.keepIn X.K (.ref fa) = true) (hb : Binds X.K fd ps []) (hx : ∀ σ, PassesAt CX X σ (fun cls d H => W cls d σ H))
    (ha : PAD c W X (e1 :: es) is) (hdb : (x == ("__debug__" : Str)) = false := by decide) (he : starEach (e1 :: es) X.env = (false, eval e1 X.env) :: starEach es X.env := by rfl) (hpl : (backTo pos (starEach es X.env)).any (·.1) = false := by rfl) :
    PD c W X (.Call (.Name x p) (e1 :: es) [] pos) (.call f io is) :=
  PE.mono (pe_callSD F hr hg hm hk hb .nil hx ha hdb he hpl) fun σ H Q h => (call_post h).imp fun vs H1 h1 => by rw [List.append_nil]; exact h1
theorem pd_call0 {CX : CXT} {kk : Nat} {fa : Addr} {fd : FuncData} {ps : List Str} {f : Nat} {x : Str} {p : Pos} (F : FnOk X.prog X.w X.K X.mg X.base CX kk fa fd ps (spF c.R c.Φ f [])) (hr : Room kk X.A) (hg : Gl X x) (hm : X.mg x = some (.ref fa)) (hk : PySem.W.keepIn X.K (.ref fa) = true) (hb : Binds X.K fd ps []) (hx : ∀ σ, PassesAt CX X σ (fun cls d H => W cls d σ H))
    (hdb : (x == ("__debug__" : Str)) = false := by decide) :
    PD c W X (.Call (.Name x p) [] [] pos) (.call f [] []) := by
  refine ⟨fun pins s σ H Q I h => ?_⟩
  refine wpAny_Call_Name_kw (ld_glob I hg hm ?_ hdb)
  have h1 := evs_nil (call_post h)
  exact PySem.W.callWith_K0 I.kIn hk (run_fnSD (us := []) (E := fun σ => fun cls d H => W cls d σ H) F hr hb .nil (hx σ) I .nil h1)

/-! ### a def's body -/
def ioIdx : Nat → List Bool → List Nat
  | _, [] => []
  | n, true :: r => n :: ioIdx (n + 1) r
  | n, false :: r => ioIdx (n + 1) r
def adrAt (vs : List V) (i : Nat) : Addr := match vs[i]? with
  | some (.ref a) => a
  | _ => 0
theorem ioIdx_ge : ∀ (io : List Bool) (n i : Nat), i ∈ ioIdx n io → n ≤ i
  | [], _, _, h => by cases h
  | true :: r, n, i, h => by
    rcases List.mem_cons.mp h with q | q
    · omega
    · have := ioIdx_ge r (n + 1) i q; omega
  | false :: r, n, i, h => by
    have := ioIdx_ge r (n + 1) i h; omega
theorem io_adr : ∀ {io : List Bool} {ds : List SK.D} {vs : List V} (n : Nat) (i : Nat), PArgs R S H io ds vs → i ∈ ioIdx n io → ∃ a d o, vs[i - n]? = some (V.ref a) ∧ ds[i - n]? = some d ∧ (initE io ds)[i - n]? = some (Sl.own d) ∧ H a = some o ∧ S a = none ∧ RepO R S d o ∧ a ∈ ioVs io vs
  | true :: bs, _, _, n, i, ⟨d, r, a, t, o, h1, h2, h3, h4, h5, h⟩, hi => by
    subst h1 h2
    rcases List.mem_cons.mp hi with q | q
    · subst q
      rw [Nat.sub_self]
      exact ⟨a, d, o, rfl, rfl, rfl, h3, h4, h5, List.mem_cons_self⟩
    · have hge := ioIdx_ge bs (n + 1) i q
      obtain ⟨a', d', o', z1, z2, z3, z4, z5, z6, z7⟩ := io_adr (n + 1) i h q
      have e1 : i - n = (i - (n + 1)) + 1 := by omega
      rw [e1]
      exact ⟨a', d', o', z1, z2, z3, z4, z5, z6, List.mem_cons_of_mem _ z7⟩
  | false :: bs, _, _, n, i, ⟨d, r, v, t, h1, h2, h3, h⟩, hi => by
    subst h1 h2
    have hge := ioIdx_ge bs (n + 1) i hi
    obtain ⟨a', d', o', z1, z2, z3, z4, z5, z6, z7⟩ := io_adr (n + 1) i h hi
    have e1 : i - n = (i - (n + 1)) + 1 := by omega
    rw [e1]
    exact ⟨a', d', o', z1, z2, z3, z4, z5, z6, z7⟩
  | [], _, _, _, _, _, hi => by cases hi
/-- the frame's names at the entry -/
theorem init_get : ∀ {io : List Bool} {ds : List SK.D} {vs : List V} {i : Nat} {x : Sl}, PArgs R S H io ds vs → (initE io ds)[i]? = some x → (∃ d v, x = .val d ∧ vs[i]? = some v ∧ Rep R S d v) ∨ ∃ d a o, x = .own d ∧ vs[i]? = some (V.ref a) ∧ H a = some o ∧ S a = none ∧ RepO R S d o ∧ ∀ n, i + n ∈ ioIdx n io
  | true :: bs, _, _, i, x, ⟨d, r, a, t, o, h1, h2, h3, h4, h5, h⟩, hi => by
    subst h1 h2
    cases i with
    | zero =>
      have hi : some (Sl.own d) = some x := hi
      cases hi
      exact .inr ⟨d, a, o, rfl, rfl, h3, h4, h5, fun n => by rw [Nat.zero_add]; exact List.mem_cons_self⟩
    | succ i =>
      rcases init_get (i := i) h hi with q | ⟨d', a', o', z1, z2, z3, z4, z5, z6⟩
      · exact .inl q
      · exact .inr ⟨d', a', o', z1, z2, z3, z4, z5, fun n => List.mem_cons_of_mem _ (by have := z6 (n + 1); rw [show i + 1 + n = i + (n + 1) by omega]; exact this)⟩
  | false :: bs, _, _, i, x, ⟨d, r, v, t, h1, h2, h3, h⟩, hi => by
    subst h1 h2
    cases i with
    | zero =>
      have hi : some (Sl.val d) = some x := hi
      cases hi
      exact .inl ⟨d, v, rfl, rfl, h3⟩
    | succ i =>
      rcases init_get (i := i) h hi with q | ⟨d', a', o', z1, z2, z3, z4, z5, z6⟩
      · exact .inl q
      · exact .inr ⟨d', a', o', z1, z2, z3, z4, z5, fun n => by have := z6 (n + 1); rw [show i + 1 + n = i + (n + 1) by omega]; exact this⟩
  | [], ds, _, _, _, ⟨h1, _⟩, hi => by subst h1; simp [initE] at hi
theorem initE_len : ∀ {io : List Bool} {ds : List SK.D}, ds.length = io.length → (initE io ds).length = ds.length
  | [], [], _ => rfl
  | true :: bs, d :: ds, h => by
    show (initE bs ds).length + 1 = _
    rw [initE_len (by simpa using h)]; rfl
  | false :: bs, d :: ds, h => by
    show (initE bs ds).length + 1 = _
    rw [initE_len (by simpa using h)]; rfl
  | [], _ :: _, h => by simp at h
  | _ :: _, [], h => by simp at h
theorem vs_nodup : ∀ {io : List Bool} {ds : List SK.D} {vs : List V} {i j : Nat} {a : Addr} {d d' : SK.D}, PArgs R S H io ds vs → (ioVs io vs).Nodup → (initE io ds)[i]? = some (Sl.own d) → (initE io ds)[j]? = some (Sl.own d') → vs[i]? = some (V.ref a) → vs[j]? = some (V.ref a) → i = j
  | true :: bs, _, _, i, j, b, d1, d2, ⟨d, r, a, t, o, h1, h2, h3, h4, h5, h⟩, hn, hi, hj, vi, vj => by
    subst h1 h2
    obtain ⟨n1, n2⟩ := List.nodup_cons.mp hn
    have mem : ∀ (k : Nat) (b : Addr) (dd : SK.D), (initE bs r)[k]? = some (Sl.own dd) → t[k]? = some (V.ref b) → b ∈ ioVs bs t := fun k b dd q1 q2 => by
      rcases init_get h q1 with ⟨_, _, z, _⟩ | ⟨d', a', o', z1, z2, z3, z4, z5, z6⟩
      · cases z
      · rw [q2] at z2
        cases z2
        obtain ⟨a2, _, _, y1, _, _, _, _, _, y7⟩ := io_adr 0 k h (by have := z6 0; simpa using this)
        rw [Nat.sub_zero] at y1
        rw [q2] at y1
        cases y1
        exact y7
    cases i with
    | zero =>
      cases j with
      | zero => rfl
      | succ j =>
        have vi : some (V.ref a) = some (V.ref b) := vi
        cases vi
        exact absurd (mem j _ d2 hj vj) n1
    | succ i =>
      cases j with
      | zero =>
        have vj : some (V.ref a) = some (V.ref b) := vj
        cases vj
        exact absurd (mem i _ d1 hi vi) n1
      | succ j => rw [vs_nodup h n2 hi hj vi vj]
  | false :: bs, _, _, i, j, b, d1, d2, ⟨d, r, v, t, h1, h2, h3, h⟩, hn, hi, hj, vi, vj => by
    subst h1 h2
    cases i with
    | zero => cases hi
    | succ i =>
      cases j with
      | zero => cases hj
      | succ j => rw [vs_nodup (io := bs) h hn hi hj vi vj]
  | [], ds, _, i, j, _, _, _, ⟨h1, _⟩, _, hi, _, _, _ => by subst h1; simp [initE] at hi
/-- the frame of a def's body -/
abbrev fcOf (R : Rc) (Φ : Nat → List SK.D → CRes) (Fu : Nat) (S H : Hp) (io : List Bool) (vs : List V) : Fc := ⟨R, Φ, Fu, H, S, ioIdx 0 io, adrAt vs⟩
theorem adr_of {vs : List V} {i : Nat} {a : Addr} (h : vs[i]? = some (V.ref a)) : adrAt vs i = a := by
  unfold adrAt
  rw [h]
theorem ok_start {Φ : Nat → List SK.D → CRes} {Fu : Nat} {io : List Bool} {ds : List SK.D} {vs : List V} {N : List Str} {n : Nat} (hs : Same S H) (hp : PArgs R S H io ds vs) (hn : (ioVs io vs).Nodup) (hN : N.length = n) (hl : io.length ≤ n) :
    Ok (fcOf R Φ Fu S H io vs) S H (L2.start N vs) (initE io ds ++ List.replicate (n - ds.length) .no) := by
  obtain ⟨l1, l2⟩ := hp.len
  have l3 := initE_len l1
  have sg : ∀ i v, vs[i]? = some v → (L2.start N vs)[i]? = some (some v) := fun i v q => by
    unfold L2.start
    rw [List.getElem?_append_left (by rw [List.length_map]; exact lt_of_get q), List.getElem?_map, q]
    rfl
  have eg : ∀ i (x : Sl), (initE io ds ++ List.replicate (n - ds.length) .no)[i]? = some x → x ≠ .no → (initE io ds)[i]? = some x := fun i x q hx => by
    by_cases hi : i < (initE io ds).length
    · rwa [List.getElem?_append_left hi] at q
    · rw [List.getElem?_append_right (by omega), List.getElem?_replicate] at q
      split at q
      · cases q; exact absurd rfl hx
      · cases q
  refine ⟨hs, fun b o q _ => q, fun b q => q, Same.refl _, fun b o q => .inl q, fun i hi z => ?_, ?_, fun i d q => ?_, fun i d q => ?_, fun i j d d' a q1 q2 q3 q4 => ?_⟩
  · obtain ⟨a, d, o, z1, z2, z3, z4, z5, z6, z7⟩ := io_adr 0 i hp hi
    rw [Nat.sub_zero] at z1
    have z : H (adrAt vs i) = none := z
    rw [adr_of z1, z4] at z
    cases z
  · unfold L2.start
    rw [List.length_append, List.length_append, List.length_map, List.length_replicate, List.length_replicate, l3]
    omega
  · rcases init_get hp (eg i _ q (by simp)) with ⟨d', v, z1, z2, z3⟩ | ⟨_, _, _, z, _⟩
    · cases z1
      exact ⟨v, sg i v z2, z3⟩
    · cases z
  · rcases init_get hp (eg i _ q (by simp)) with ⟨_, _, z, _⟩ | ⟨d', a, o, z1, z2, z3, z4, z5, z6⟩
    · cases z
    · cases z1
      exact ⟨a, o, sg i _ z2, z3, z4, z5, fun _ => (adr_of z2).symm, .inr (by have := z6 0; simpa using this)⟩
  · have g1 := eg i _ q1 (by simp)
    have g2 := eg j _ q2 (by simp)
    rcases init_get hp g1 with ⟨_, _, z, _⟩ | ⟨d1, a1, o1, z1, z2, _⟩
    · cases z
    · rcases init_get hp g2 with ⟨_, _, z, _⟩ | ⟨d2, a2, o2, y1, y2, _⟩
      · cases z
      · have e1 := sg i _ z2
        rw [q3] at e1
        cases e1
        have e2 := sg j _ y2
        rw [q4] at e2
        cases e2
        exact vs_nodup hp hn g1 g2 z2 y2
theorem outs_ok {Φ : Nat → List SK.D → CRes} {Fu : Nat} {vs0 : List V} {S0 H0 : Hp} {io0 : List Bool} {σ : L2.St} {e : SK.Env} (k : Ok (fcOf R Φ Fu S0 H0 io0 vs0) S' H' σ e) : ∀ {io : List Bool} {ds : List SK.D} {vs : List V} {eo : SK.Env} {outs : List SK.D} (n : Nat), PArgs R S0 H0 io ds vs → (∀ i, eo[i]? = e[i + n]?) → (∀ i, i ∈ ioIdx n io → i ∈ ioIdx 0 io0) → (∀ (i : Nat) (v : V), vs[i]? = some v → vs0[i + n]? = some v) → outsOf io eo = some outs → POuts R S' H' io vs outs
  | [], ds, vs, eo, outs, n, ⟨_, h2⟩, _, _, _, h => by cases h; exact ⟨h2, rfl⟩
  | true :: bs, _, _, eo, outs, n, ⟨d, r, a, t, o, h1, h2, h3, h4, h5, h⟩, he, hi, hv, ho => by
    subst h1 h2
    cases eo with
    | nil => cases ho
    | cons x eo =>
      cases x with
      | own d' =>
        have ho : (outsOf bs eo).map (d' :: ·) = some outs := ho
        obtain ⟨os, z1, z2⟩ := Option.map_eq_some_iff.mp ho
        subst z2
        have hi0 : n ∈ ioIdx 0 io0 := hi n List.mem_cons_self
        have e0 : e[n]? = some (Sl.own d') := by rw [← Nat.zero_add n, ← he 0]; rfl
        obtain ⟨a', o', w1, w2, w3, w4, w5, w6⟩ := k.own n d' e0
        have w5 : a' = adrAt vs0 n := w5 hi0
        have va : vs0[n]? = some (V.ref a) := by have := hv 0 (V.ref a) rfl; rwa [Nat.zero_add] at this
        rw [adr_of va] at w5
        subst w5
        exact ⟨a', t, o', d', os, rfl, rfl, w2, w3, w4, outs_ok k (n + 1) h (fun i => by rw [show i + (n + 1) = (i + 1) + n by omega, ← he (i + 1)]; rfl) (fun i q => hi i (List.mem_cons_of_mem _ q)) (fun i v q => by rw [show i + (n + 1) = (i + 1) + n by omega]; exact hv (i + 1) v q) z1⟩
      | no => cases ho
      | val _ => cases ho
  | false :: bs, _, _, eo, outs, n, ⟨d, r, v, t, h1, h2, h3, h⟩, he, hi, hv, ho => by
    subst h1 h2
    cases eo with
    | nil => cases ho
    | cons x eo =>
      have ho : outsOf bs eo = some outs := ho
      exact ⟨v, t, rfl, outs_ok k (n + 1) h (fun i => by rw [show i + (n + 1) = (i + 1) + n by omega, ← he (i + 1)]; rfl) (fun i q => hi i q) (fun i v q => by rw [show i + (n + 1) = (i + 1) + n by omega]; exact hv (i + 1) v q) ho⟩
theorem fin_of {Φ : Nat → List SK.D → CRes} {Fu : Nat} {io : List Bool} {ds outs : List SK.D} {vs : List V} {σ : L2.St} {e : SK.Env} (hp : PArgs R S H io ds vs) (k : Ok (fcOf R Φ Fu S H io vs) S' H' σ e) (ho : outsOf io e = some outs) : Fin R S H io vs S' H' outs := by
  refine ⟨k.base, k.sub, k.new, fun b o q n => k.keep b o q fun i hi z => ?_, k.dom, outs_ok k 0 hp (fun i => by rw [Nat.add_zero]) (fun _ q => q) (fun i v q => by rw [Nat.add_zero]; exact q) ho⟩
  obtain ⟨a, d, o', z1, z2, z3, z4, z5, z6, z7⟩ := io_adr 0 i hp hi
  rw [Nat.sub_zero] at z1
  have z : adrAt vs i = b := z
  rw [adr_of z1] at z
  subst z
  exact n z7
/-- a def keeps its promise if its body is run as the evaluator says -/
theorem fn_ok {P : Program} {w : World} {K : PySem.W.Frag} {mg : Str → Option Value} {base : Heap} {CX : CXT} {kk : Nat} {x qual : Str} {params : Arguments} {body : List Stmt} {scope : Scope} {f : Addr} {fd : FuncData} {N ps : List Str} {Φ Φ' : Nat → List SK.D → CRes} {Fu i : Nat} {fn : SK.Fn}
    (F : FunD K x qual params body scope [] [] f fd) (Sc : FnScope N ps scope) (hN : N.length = fn.n) (hps : ps.length = fn.io.length) (hle : fn.io.length ≤ fn.n) (hΦ : ∀ ds, Φ' i ds = evFn Φ Fu fn ds)
    (hbody : ∀ (cdv : Value) (A : Around) (outer : List PySem.Env) (s : Shared) (S0 H0 H : Hp) (vs : List V) (E : XK), Room kk (A.deeper (envOfC qual scope s.heap.objs.size f cdv)) → PSsD (fcOf R Φ Fu S0 H0 fn.io vs) (fun cls d _ H => E cls d H) (cxOf CX P w K mg base N qual scope f cdv A outer s H E) body fn.body) :
    FnOk P w K mg base CX (kk + 1) f fd ps (spF R Φ' i fn.io) := by
  refine F.ok Sc (fun vs H Q E h => ?_) fun cdv A outer s H vs Q E hr h => ?_
  · obtain ⟨S, ds, _, hp, _⟩ := h
    rw [hps]
    exact hp.len.2
  · obtain ⟨S, ds, hs, hp, hn, h⟩ := h
    refine ⟨_, hbody cdv A outer s S H H vs E hr, S, _, ok_start (N := N) (n := fn.n) hs hp hn hN hle, ?_⟩
    rw [hΦ] at h
    unfold evFn at h
    rw [if_pos hp.len.1] at h
    show OutPost _ _ S _ (exes Φ Fu fn.body _)
    generalize exes Φ Fu fn.body (initE fn.io ds ++ List.replicate (fn.n - ds.length) Sl.no) = o at h ⊢
    cases o with
    | nx e =>
      intro S' H' σ' m k
      cases q : outsOf fn.io e with
      | none => simp only [fnEnd, q] at h
      | some o =>
        simp only [fnEnd, q] at h
        exact h trivial .non S' H' (fin_of hp k q) rfl
    | ret r e =>
      intro v S' H' σ' m k hv
      cases q : outsOf fn.io e with
      | none => simp only [fnEnd, q] at h
      | some o =>
        simp only [fnEnd, q] at h
        cases r with
        | st d => exact h trivial v S' H' (fin_of hp k q) hv
        | fr d =>
          obtain ⟨a, ob, h1, h2, h3, h4, h5, _⟩ := hv
          exact h trivial v S' H' (fin_of hp k q) ⟨a, ob, h1, h2, h3, h4, h5⟩
        | s _ => exact (show False from h).elim
        | io _ => exact (show False from h).elim
    | exn y e =>
      intro cls d S' H' σ' m k hx
      cases q : outsOf fn.io e with
      | none => simp only [fnEnd, q] at h
      | some o =>
        simp only [fnEnd, q] at h
        exact h cls d S' H' (fin_of hp k q) hx
    | brk e => exact (show False from h).elim
    | cnt e => exact (show False from h).elim
    | bad => exact (show False from h).elim
end
end SK

set_option Elab.async false
set_option linter.all false
set_option maxRecDepth 100000
set_option autoImplicit false
/-! SK over HandS: comparisons as tests, chains. -/
namespace SK
open PySem PySem.Spec PyProof.Rows L2
section
variable {c : Fc} {W : WX} {S S' H : Hp} {σ : L2.St} {e : SK.Env} {X : Cx} {a b d : Expr} {ia ib id' : Ex} {pos : Pos}
/-- a test of a value that is True or False -/
theorem tst_val {x : Ex} {Q : Bool → Hp → Prop} (h : tTst c W (.tr x) σ H Q) : tEv c W x σ H fun v H1 => ∃ S e p d b, Ok c S H1 σ e ∧ RT c S H1 p d v ∧ truth d = some b ∧ Q b H1 := by
  obtain ⟨S, e, k, h⟩ := h
  have h1 : Post c W σ S ((ev c.Φ x e).bind fun r e1 => match rd e1 r.opd with | some d => (match truth d with | some b => Res.ok b e1 | none => .bad) | none => .bad) fun b _ _ H' => Q b H' := h
  refine ⟨S, e, k, h1.bind.imp fun r e1 S1 H1 m k1 h2 v hv => ?_⟩
  obtain ⟨S2, m2, k2, o2⟩ := k1.opd hv
  split at h2
  · rename_i d q1
    split at h2
    · rename_i b q2
      exact ⟨S2, e1, r.opd, d, b, k2, k2.rt q1 o2, q2, h2 S2 H1 m2 k2⟩
    · exact (show False from h2).elim
  · exact (show False from h2).elim
theorem tst_op {o : Op} {is : List Ex} (hb : ∀ ds r, opEval o ds = some r → ∃ k, r = .bl k) {Q : Bool → Hp → Prop} (h : tTst c W (.tr (.op o is)) σ H Q) : tEvs c W is σ H fun vs H1 => OpPost c σ o vs H1 fun x H2 => ∃ k, x = .bl k ∧ Q k H2 := by
  obtain ⟨S, e, k, h⟩ := h
  have h1 : Post c W σ S (((evs c.Φ is e).bind fun os e1 => opEnd o e1 os).bind fun r e1 => match rd e1 r.opd with | some d => (match truth d with | some b => Res.ok b e1 | none => .bad) | none => .bad) fun b _ _ H' => Q b H' := h
  have h3 : Post c W σ S (evs c.Φ is e) fun os e1 S1 H1 => Post c W σ S1 ((opEnd o e1 os).bind fun r e1 => match rd e1 r.opd with | some d => (match truth d with | some b => Res.ok b e1 | none => .bad) | none => .bad) fun b _ _ H' => Q b H' := by
    cases q : evs c.Φ is e with
    | ok os e1 => rw [q] at h1; exact fun S' H' m k' => Post.weak m h1
    | exn y e1 => rw [q] at h1; exact h1
    | bad => rw [q] at h1; exact h1
  refine ⟨S, e, k, h3.imp fun os e1 S1 H1 m k1 h2 vs hvs => ?_⟩
  unfold opEnd at h2
  split at h2
  · rename_i hk
    split at h2
    · rename_i ds q1
      split at h2
      · rename_i d q2
        obtain ⟨kk, rfl⟩ := hb _ _ q2
        rw [rv_bl] at h2
        refine ⟨S1, e1, os, ds, _, k1, k1.rts q1 hvs, hk, q2, fun v S' H' m' k' hv => ?_⟩
        rw [rv_bl] at hv
        exact ⟨kk, hv, h2 S' H' m' k'⟩
      · exact (show False from h2).elim
    · exact (show False from h2).elim
  · exact (show False from h2).elim
theorem bl_eq : ∀ ds r, opEval .eq ds = some r → ∃ k, r = .bl k := fun ds r h => by
  match ds, h with
  | [a, b], h => obtain ⟨k, _, q⟩ := map_bl (o := eqD a b) h; exact ⟨k, q⟩
  | [], h => cases h
  | [_], h => cases h
  | _ :: _ :: _ :: _, h => cases h
theorem bl_ne : ∀ ds r, opEval .ne ds = some r → ∃ k, r = .bl k := fun ds r h => by
  match ds, h with
  | [a, b], h => obtain ⟨k, _, q⟩ := map_nbl (o := eqD a b) h; exact ⟨_, q⟩
  | [], h => cases h
  | [_], h => cases h
  | _ :: _ :: _ :: _, h => cases h
theorem bl_lt : ∀ ds r, opEval .lt ds = some r → ∃ k, r = .bl k := fun ds r h => by
  match ds, h with
  | [a, b], h => obtain ⟨k, _, q⟩ := map_bl (o := ltD a b) h; exact ⟨k, q⟩
  | [], h => cases h
  | [_], h => cases h
  | _ :: _ :: _ :: _, h => cases h
theorem bl_gt : ∀ ds r, opEval .gt ds = some r → ∃ k, r = .bl k := fun ds r h => by
  match ds, h with
  | [a, b], h => obtain ⟨k, _, q⟩ := map_bl (o := gtD a b) h; exact ⟨k, q⟩
  | [], h => cases h
  | [_], h => cases h
  | _ :: _ :: _ :: _, h => cases h
theorem bl_le : ∀ ds r, opEval .le ds = some r → ∃ k, r = .bl k := fun ds r h => by
  match ds, h with
  | [a, b], h => obtain ⟨k, _, q⟩ := map_bl (o := leD a b) h; exact ⟨k, q⟩
  | [], h => cases h
  | [_], h => cases h
  | _ :: _ :: _ :: _, h => cases h
theorem bl_ge : ∀ ds r, opEval .ge ds = some r → ∃ k, r = .bl k := fun ds r h => by
  match ds, h with
  | [a, b], h => obtain ⟨k, _, q⟩ := map_bl (o := geD a b) h; exact ⟨k, q⟩
  | [], h => cases h
  | [_], h => cases h
  | _ :: _ :: _ :: _, h => cases h
theorem cmp_t {o : Op} {r : R2} (f : ∀ x y H Q, OpPost c σ o [x, y] H Q → r x y H Q) (hb : ∀ ds r, opEval o ds = some r → ∃ k, r = .bl k) {Q : Bool → Hp → Prop} (h : tTst c W (.tr (.op o [ia, ib])) σ H Q) : tTest (tOp r (tEv c W ia) (tEv c W ib)) σ H Q :=
  (evs2 (tst_op hb h)).imp fun x H1 h1 => h1.imp fun y H2 h2 => f _ _ _ _ h2
theorem ptd_eq (hx : XC c X) (ha : PD c W X a ia) (hb : PD c W X b ib) : PTD c W X (.Compare a [.Eq] [b] pos) (.tr (.op .eq [ia, ib])) := PT.mono (pt_cmpR (op_eqD hx.un64) ha hb (nomark _)) fun _ _ _ h => cmp_t (eq_r hx) bl_eq h
theorem ptd_ne (hx : XC c X) (ha : PD c W X a ia) (hb : PD c W X b ib) : PTD c W X (.Compare a [.NotEq] [b] pos) (.tr (.op .ne [ia, ib])) := PT.mono (pt_cmpR (op_neD hx.un64) ha hb (nomark _)) fun _ _ _ h => cmp_t (ne_r hx) bl_ne h
theorem ptd_lt (hx : XC c X) (ha : PD c W X a ia) (hb : PD c W X b ib) : PTD c W X (.Compare a [.Lt] [b] pos) (.tr (.op .lt [ia, ib])) := PT.mono (pt_cmpR (op_ltA hx) ha hb (nomark _)) fun _ _ _ h => cmp_t (lt_r hx) bl_lt h
theorem ptd_gt (ha : PD c W X a ia) (hb : PD c W X b ib) : PTD c W X (.Compare a [.Gt] [b] pos) (.tr (.op .gt [ia, ib])) := PT.mono (pt_cmpR op_gt ha hb (nomark _)) fun _ _ _ h => cmp_t gt_r bl_gt h
theorem ptd_ge (ha : PD c W X a ia) (hb : PD c W X b ib) : PTD c W X (.Compare a [.GtE] [b] pos) (.tr (.op .ge [ia, ib])) := PT.mono (pt_cmpR op_ge ha hb (nomark _)) fun _ _ _ h => cmp_t ge_r bl_ge h
theorem ptd_le (ha : PD c W X a ia) (hb : PD c W X b ib) : PTD c W X (.Compare a [.LtE] [b] pos) (.tr (.op .le [ia, ib])) := PT.mono (pt_cmpR op_le ha hb (nomark _)) fun _ _ _ h => cmp_t le_r bl_le h
theorem bl_isN : ∀ ds r, opEval .isN ds = some r → ∃ k, r = .bl k := fun ds r h => by
  match ds, h with
  | [a], h => exact ⟨_, (Option.some.inj h).symm⟩
  | [], h => cases h
  | _ :: _ :: _, h => cases h
theorem bl_notN : ∀ ds r, opEval .notN ds = some r → ∃ k, r = .bl k := fun ds r h => by
  match ds, h with
  | [a], h => exact ⟨_, (Option.some.inj h).symm⟩
  | [], h => cases h
  | _ :: _ :: _, h => cases h
theorem ptd_isN {j : Nat} {pos' : Pos} (ha : PD c W X a ia) : PTD c W X (.Compare a [.Is] [.Constant .none j pos'] pos) (.tr (.op .isN [ia])) :=
  PT.mono (pt_cmp (pc_isN ha) rfl) fun σ H Q h => (evs1 (tst_op bl_isN h)).imp fun x H h => by
    obtain ⟨S, e, p, d, r, k, h1, h3, q⟩ := post1 h
    have h3 : some (SK.D.bl (isN d)) = some r := h3
    cases h3
    rw [isN_v k.sub h1 (fun z => by subst z; exact h1.rep k.sub)]
    exact fin_st k q rfl
theorem ptd_notN {j : Nat} {pos' : Pos} (ha : PD c W X a ia) : PTD c W X (.Compare a [.IsNot] [.Constant .none j pos'] pos) (.tr (.op .notN [ia])) :=
  PT.mono (pt_cmp (pc_notN ha) rfl) fun σ H Q h => (evs1 (tst_op bl_notN h)).imp fun x H h => by
    obtain ⟨S, e, p, d, r, k, h1, h3, q⟩ := post1 h
    have h3 : some (SK.D.bl (!isN d)) = some r := h3
    cases h3
    rw [isN_v k.sub h1 (fun z => by subst z; exact h1.rep k.sub)]
    exact fin_st k q rfl
end
end SK

set_option Elab.async false
set_option linter.all false
set_option maxRecDepth 100000
set_option autoImplicit false
/-! SK over HandS: what a law's walk takes. -/
namespace SK
open PySem PySem.Spec PyProof.Rows L2
theorem passAt0 {X : Cx} {σ : L2.St} {E : XK} : PassesAt CX0 X σ E := fun _ _ _ _ _ _ h => h.elim
theorem un_of {k : Nat} {A : Around} (hr : Room k A) : A.units + 65 < cLine := by have := hr.un; omega
theorem nio {l : List Nat} {i : Nat} (h : l.contains i = false) : i ∉ l := fun m => by rw [List.contains_iff_mem.mpr m] at h; cases h
structure GF (K : PySem.W.Frag) (mg : Str → Option Value) (x : Str) (ps : List Str) (a : Addr) (fd : FuncData) : Prop where
  g : mg x = some (.ref a)
  kp : PySem.W.keepIn K (.ref a) = true
  b : Binds K fd ps []
theorem fn_zero {P : Program} {w : World} {K : PySem.W.Frag} {mg : Str → Option Value} {base : Heap} {CX : CXT} {a : Addr} {fd : FuncData} {ps : List Str} {R : Rc} {T : Nat → Option SK.Fn} {F i : Nat} {io : List Bool} (hl : ps.length = io.length) :
    FnOk P w K mg base CX (2 * 0) a fd ps (spF R (callF T F 0) i io) := by
  refine ⟨fun vs H Q E h => ?_, fun A outer s H args us vs Q E _ _ _ _ h => ?_⟩
  · obtain ⟨S, ds, _, hp, _⟩ := h
    rw [hl]
    exact hp.len.2
  · obtain ⟨S, ds, _, _, _, h⟩ := h
    exact (show False from h).elim
def spLaw (K : PySem.W.Frag) : Sp := fun vs H Q _ => ∃ (a : Addr) (ns : List Int), vs = [.ref a] ∧ SqL K H a (ns.map V.int) ∧ ns.length ≤ 63 ∧ ∀ H', Q (.bl true) H'
theorem law_of {P : Program} {w : World} {K : PySem.W.Frag} {mg : Str → Option Value} {base : Heap} {CX : CXT} {k i : Nat} {a : Addr} {fd : FuncData} {R : Rc} {Φ : Nat → List SK.D → CRes} (hK : R.K = K)
    (h : FnOk P w K mg base CX k a fd ["script"] (spF R Φ i [false])) (he : ∀ ns : List Int, ns.length ≤ 63 → Φ i [.scr ns] = .ret (.st (.bl true)) []) : FnOk P w K mg base CX k a fd ["script"] (spLaw K) := by
  subst hK
  refine h.imp fun vs H Q E ⟨p, ns, e, hS, hl, hQ⟩ => ?_
  subst e
  refine ⟨H, [.scr ns], fun _ _ z => z, ⟨.scr ns, [], _, [], rfl, rfl, ⟨p, rfl, hS⟩, rfl, rfl⟩, List.nodup_nil, ?_⟩
  rw [he ns hl]
  intro _ v S' H' _ hr
  have hr : v = .bl true := hr
  subst hr
  exact hQ H'
end SK

set_option linter.all false
/-! the defs of the program, and those that several laws have, as our own language has them; printed by gen.py. -/
namespace SK
def ir_is_integer : Fn := ⟨[false], 1, [.ret (.and_ (.op .isInt [.var 0]) (.op .not [.op .isBool [.var 0]]))]⟩
def ir_common : Fn := ⟨[false, false], 2, [.unp (.tup [.var 0, .var 1]) (.op .tup [.op .abs [.var 0], .op .abs [.var 1]]),
    .whl (.tr (.op .gt [.var 1, .cst (.int 0)])) [.unp (.tup [.var 0, .var 1]) (.op .tup [.var 1, .op .mod [.var 0, .var 1]])],
    .ret (.var 0)]⟩
def ir_lowest : Fn := ⟨[false, false], 3, [.set 2 (.call 1 [false, false] [.var 0, .var 1]),
    .ret (.op .tup [.op .fdiv [.var 0, .var 2], .op .fdiv [.var 1, .var 2]])]⟩
def ir_is_triple : Fn := ⟨[false], 2, [.ifs (.or_ (.not (.tr (.op .isTup [.var 0]))) (.or_ (.tr (.op .ne [.op .len [.var 0], .cst (.int 3)])) (.not (.tr (.op .all [.comp [1] (.call 0 [false] [.var 1]) (.var 1) .seq [.var 0] [] []]))))) [.ret (.cst (.bl false))] [],
    .ret (.op .ne [.var 0, .op .tup [.cst (.int 0), .cst (.int 0), .cst (.int 0)]])]⟩
def ir_check_triple : Fn := ⟨[false, false], 2, [.ifs (.not (.tr (.call 3 [false] [.var 1]))) [.never] []]⟩
def ir_least : Fn := ⟨[false], 3, [.expr (.call 4 [false, false] [.cst (.str [100, 105, 114, 101, 99, 116, 105, 111, 110]), .var 0]),
    .set 1 (.call 1 [false, false] [.call 1 [false, false] [.op .idx [.var 0, .cst (.int 0)], .op .idx [.var 0, .cst (.int 1)]], .op .idx [.var 0, .cst (.int 2)]]),
    .ret (.op .tuple [.comp [2] (.op .fdiv [.var 2, .var 1]) (.var 2) .seq [.var 0] [] []])]⟩
def ir_is_same : Fn := ⟨[false, false], 2, [.ret (.op .eq [.call 5 [false] [.var 0], .call 5 [false] [.var 1]])]⟩
def ir_opposite : Fn := ⟨[false], 2, [.ret (.op .tuple [.comp [1] (.op .neg [.var 1]) (.var 1) .seq [.call 5 [false] [.var 0]] [] []])]⟩
def ir_dot : Fn := ⟨[false, false], 4, [.ret (.op .sum [.comp [2, 3] (.op .mul [.var 2, .var 3]) (.tup [.var 2, .var 3]) .zip [.var 0, .var 1] [] []])]⟩
def ir_cross : Fn := ⟨[false, false], 2, [.ret (.op .tup [.op .sub [.op .mul [.op .idx [.var 0, .cst (.int 1)], .op .idx [.var 1, .cst (.int 2)]], .op .mul [.op .idx [.var 0, .cst (.int 2)], .op .idx [.var 1, .cst (.int 1)]]], .op .sub [.op .mul [.op .idx [.var 0, .cst (.int 2)], .op .idx [.var 1, .cst (.int 0)]], .op .mul [.op .idx [.var 0, .cst (.int 0)], .op .idx [.var 1, .cst (.int 2)]]], .op .sub [.op .mul [.op .idx [.var 0, .cst (.int 0)], .op .idx [.var 1, .cst (.int 1)]], .op .mul [.op .idx [.var 0, .cst (.int 1)], .op .idx [.var 1, .cst (.int 0)]]]])]⟩
def ir_det : Fn := ⟨[false, false, false], 3, [.ret (.call 8 [false, false] [.call 9 [false, false] [.var 0, .var 1], .var 2])]⟩
def ir_plus : Fn := ⟨[false, false], 4, [.ret (.op .tuple [.comp [2, 3] (.op .add [.var 2, .var 3]) (.tup [.var 2, .var 3]) .zip [.var 0, .var 1] [] []])]⟩
def ir_times : Fn := ⟨[false, false], 3, [.ret (.op .tuple [.comp [2] (.op .mul [.var 0, .var 2]) (.var 2) .seq [.var 1] [] []])]⟩
def ir_is_on_line : Fn := ⟨[false, false], 2, [.ret (.op .eq [.call 9 [false, false] [.var 0, .var 1], .op .tup [.cst (.int 0), .cst (.int 0), .cst (.int 0)]])]⟩
def ir_root : Fn := ⟨[false], 4, [.unp (.tup [.var 1, .var 2]) (.op .tup [.cst (.int 0), .cst (.int 1)]),
    .whl (.tr (.op .le [.op .mul [.var 2, .var 2], .var 0])) [.aug 2 .mul (.cst (.int 2))],
    .whl (.tr (.op .lt [.var 1, .var 2])) [.set 3 (.op .fdiv [.op .add [.var 1, .var 2], .cst (.int 2)]),
    .ifs (.tr (.op .lt [.op .mul [.var 3, .var 3], .var 0])) [.set 1 (.op .add [.var 3, .cst (.int 1)])] [.set 2 (.var 3)]],
    .ret (.ite (.tr (.op .eq [.op .mul [.var 1, .var 1], .var 0])) (.var 1) (.cst .non))]⟩
def ir_ratio : Fn := ⟨[false, false], 3, [.expr (.call 4 [false, false] [.cst (.str [100, 105, 114, 101, 99, 116, 105, 111, 110]), .var 0]),
    .expr (.call 4 [false, false] [.cst (.str [100, 105, 114, 101, 99, 116, 105, 111, 110]), .var 1]),
    .set 2 (.call 14 [false] [.op .mul [.call 8 [false, false] [.var 0, .var 0], .call 8 [false, false] [.var 1, .var 1]]]),
    .ret (.ite (.tr (.op .isN [.var 2])) (.cst .non) (.call 2 [false, false] [.var 2, .call 8 [false, false] [.var 1, .var 1]]))]⟩
def ir_are_alike : Fn := ⟨[false, false, false, false], 8, [.unp (.tup [.var 4, .var 5]) (.op .tup [.call 8 [false, false] [.var 0, .var 1], .call 8 [false, false] [.var 2, .var 3]]),
    .ifs (.or_ (.tr (.op .lt [.op .mul [.var 4, .var 5], .cst (.int 0)])) (.tr (.op .ne [.op .mul [.op .mul [.op .mul [.var 4, .var 4], .call 8 [false, false] [.var 2, .var 2]], .call 8 [false, false] [.var 3, .var 3]], .op .mul [.op .mul [.var 5, .var 5], .call 17 [false, false] [.var 0, .var 1]]]))) [.ret (.cst (.bl false))] [],
    .unp (.tup [.var 6, .var 7]) (.op .tup [.call 15 [false, false] [.var 0, .var 2], .call 15 [false, false] [.var 1, .var 3]]),
    .ifs (.or_ (.tr (.op .isN [.var 6])) (.tr (.op .isN [.var 7]))) [.ret (.cst (.bl false))] [],
    .ret (.op .eq [.op .mul [.op .mul [.var 5, .op .idx [.var 6, .cst (.int 0)]], .op .idx [.var 7, .cst (.int 0)]], .op .mul [.op .mul [.var 4, .op .idx [.var 6, .cst (.int 1)]], .op .idx [.var 7, .cst (.int 1)]]])]⟩
def ir_size_of : Fn := ⟨[false, false], 2, [.ret (.op .mul [.call 8 [false, false] [.var 0, .var 0], .call 8 [false, false] [.var 1, .var 1]])]⟩
def ir_angle_sign : Fn := ⟨[false, false], 3, [.expr (.call 4 [false, false] [.cst (.str [100, 105, 114, 101, 99, 116, 105, 111, 110]), .var 0]),
    .expr (.call 4 [false, false] [.cst (.str [100, 105, 114, 101, 99, 116, 105, 111, 110]), .var 1]),
    .set 2 (.call 8 [false, false] [.var 0, .var 1]),
    .ret (.ite (.tr (.op .gt [.var 2, .cst (.int 0)])) (.cst (.int 1)) (.ite (.tr (.op .eq [.var 2, .cst (.int 0)])) (.cst (.int 0)) (.op .neg [.cst (.int 1)])))]⟩
def ir_is_between : Fn := ⟨[false, false, false], 4, [.set 3 (.call 9 [false, false] [.var 0, .var 2]),
    .ifs (.or_ (.tr (.op .eq [.var 3, .op .tup [.cst (.int 0), .cst (.int 0), .cst (.int 0)]])) (.tr (.op .ne [.call 8 [false, false] [.var 3, .var 1], .cst (.int 0)]))) [.ret (.cst (.bl false))] [],
    .ret (.and_ (.op .gt [.call 8 [false, false] [.call 9 [false, false] [.var 0, .var 1], .var 3], .cst (.int 0)]) (.op .gt [.call 8 [false, false] [.call 9 [false, false] [.var 1, .var 2], .var 3], .cst (.int 0)]))]⟩
def ir_law_number : Fn := ⟨[false, false], 7, [.unp (.tup [.var 2, .var 3]) (.ite (.tr (.op .ne [.var 0, .op (.lst []) []])) (.op .tup [.op .idx [.var 0, .op .mod [.var 1, .op .len [.var 0]]], .op .fdiv [.var 1, .op .len [.var 0]]]) (.op .tup [.cst (.int 12345), .cst (.int 0)])),
    .set 4 (.ite (.tr (.op .lt [.var 3, .cst (.int 60)])) (.op .sub [.var 2, .op .pow [.cst (.int 10), .cst (.int 18)]]) (.cst (.int 0))),
    .for_ (.var 5) .range1 [.op .mod [.op .toInt [.var 3], .cst (.int 60)]] [.set 4 (.op .fdiv [.var 4, .cst (.int 1009)])],
    .ifs (.tr (.op .gt [.var 4, .cst (.int 0)])) [.ret (.op .mod [.op .toInt [.var 4], .cst (.int 1009)])] [],
    .set 6 (.op .mod [.op .add [.op .mul [.op .toInt [.op .add [.var 2, .op .mul [.cst (.int 977), .var 1]]], .cst (.int 48271)], .op .mul [.cst (.int 31), .op .len [.var 0]]], .cst (.int 2147483647)]),
    .set 6 (.op .mod [.op .add [.op .mul [.var 6, .var 6], .op .mul [.cst (.int 40503), .var 1]], .cst (.int 2147483629)]),
    .ret (.op .toInt [.op .mod [.op .add [.op .mul [.var 6, .cst (.int 69621)], .op .fdiv [.var 6, .cst (.int 977)]], .cst (.int 2147483587)]])]⟩
def ir_law_take : Fn := ⟨[true, false], 2, [.augIdx 0 1 .add (.cst (.int 1)),
    .ret (.op .mod [.op .toInt [.call 20 [false, false] [.op .idx [.bor 0, .cst (.int 0)], .op .toInt [.op .idx [.bor 0, .cst (.int 1)]]]], .var 1])]⟩
def ir_law_pick : Fn := ⟨[true, false], 2, [.ret (.op .idx [.var 1, .call 21 [true, false] [.io 0, .op .len [.var 1]]])]⟩
def ir_law_gcd : Fn := ⟨[false, false], 3, [.unp (.tup [.var 0, .var 1]) (.op .tup [.op .abs [.var 0], .op .abs [.var 1]]),
    .for_ (.var 2) .range1 [.cst (.int 90)] [.ifs (.tr (.op .eq [.var 1, .cst (.int 0)])) [.ret (.var 0)] [],
    .unp (.tup [.var 0, .var 1]) (.op .tup [.var 1, .op .mod [.var 0, .var 1]])],
    .ret (.var 0)]⟩
def ir_law_least : Fn := ⟨[false], 3, [.set 1 (.call 23 [false, false] [.call 23 [false, false] [.op .idx [.var 0, .cst (.int 0)], .op .idx [.var 0, .cst (.int 1)]], .op .idx [.var 0, .cst (.int 2)]]),
    .ret (.op .tuple [.comp [2] (.op .fdiv [.var 2, .var 1]) (.var 2) .seq [.var 0] [] []])]⟩
def ir_law_dot : Fn := ⟨[false, false], 2, [.ret (.op .add [.op .add [.op .mul [.op .idx [.var 0, .cst (.int 0)], .op .idx [.var 1, .cst (.int 0)]], .op .mul [.op .idx [.var 0, .cst (.int 1)], .op .idx [.var 1, .cst (.int 1)]]], .op .mul [.op .idx [.var 0, .cst (.int 2)], .op .idx [.var 1, .cst (.int 2)]]])]⟩
def ir_law_cross : Fn := ⟨[false, false], 3, [.ret (.op .tuple [.comp [2] (.op .sub [.op .mul [.op .idx [.var 0, .op .mod [.op .add [.var 2, .cst (.int 1)], .cst (.int 3)]], .op .idx [.var 1, .op .mod [.op .add [.var 2, .cst (.int 2)], .cst (.int 3)]]], .op .mul [.op .idx [.var 0, .op .mod [.op .add [.var 2, .cst (.int 2)], .cst (.int 3)]], .op .idx [.var 1, .op .mod [.op .add [.var 2, .cst (.int 1)], .cst (.int 3)]]]]) (.var 2) .range1 [.cst (.int 3)] [] []])]⟩
def ir_law_sky : Fn := ⟨[true], 4, [.set 1 (.op (.lst [false, false, false, false, false, false, false, false, false, false, false, false, false, false]) [.op .tup [.cst (.int 1), .cst (.int 0), .cst (.int 0)], .op .tup [.cst (.int 0), .cst (.int 1), .cst (.int 0)], .op .tup [.cst (.int 0), .cst (.int 0), .cst (.int 1)], .op .tup [.cst (.int 1), .cst (.int 2), .cst (.int 2)], .op .tup [.cst (.int 2), .cst (.int 1), .cst (.int 2)], .op .tup [.cst (.int 2), .cst (.int 2), .cst (.int 1)], .op .tup [.cst (.int 3), .cst (.int 0), .cst (.int 4)], .op .tup [.cst (.int 0), .cst (.int 3), .cst (.int 4)], .op .tup [.cst (.int 4), .cst (.int 3), .cst (.int 0)], .op .tup [.cst (.int 2), .cst (.int 3), .cst (.int 6)], .op .tup [.cst (.int 6), .cst (.int 2), .cst (.int 3)], .op .tup [.cst (.int 1), .cst (.int 4), .cst (.int 8)], .op .tup [.cst (.int 1), .cst (.int 1), .cst (.int 0)], .op .tup [.cst (.int 1), .cst (.int 1), .cst (.int 1)]]),
    .set 2 (.ite (.tr (.op .gt [.call 21 [true, false] [.io 0, .cst (.int 8)], .cst (.int 0)])) (.op .idx [.var 1, .call 21 [true, false] [.io 0, .cst (.int 12)]]) (.call 22 [true, false] [.io 0, .var 1])),
    .ret (.op .tuple [.comp [3] (.ite (.tr (.op .eq [.call 21 [true, false] [.io 0, .cst (.int 2)], .cst (.int 0)])) (.var 3) (.op .sub [.cst (.int 0), .var 3])) (.var 3) .seq [.var 2] [] []])]⟩
def ir_law_root : Fn := ⟨[false], 5, [.unp (.tup [.var 1, .var 2]) (.op .tup [.cst (.int 0), .op .add [.var 0, .cst (.int 1)]]),
    .for_ (.var 3) .range1 [.cst (.int 90)] [.set 4 (.op .fdiv [.op .add [.var 1, .var 2], .cst (.int 2)]),
    .unp (.tup [.var 1, .var 2]) (.ite (.tr (.op .le [.op .mul [.var 4, .var 4], .var 0])) (.op .tup [.var 4, .var 2]) (.op .tup [.var 1, .var 4]))],
    .ret (.ite (.tr (.op .eq [.op .mul [.var 1, .var 1], .var 0])) (.var 1) (.cst .non))]⟩
def ir_law_ratio : Fn := ⟨[false, false], 4, [.set 2 (.call 28 [false] [.op .mul [.call 25 [false, false] [.var 0, .var 0], .call 25 [false, false] [.var 1, .var 1]]]),
    .ifs (.tr (.op .isN [.var 2])) [.ret (.cst .non)] [],
    .set 3 (.call 23 [false, false] [.var 2, .call 25 [false, false] [.var 1, .var 1]]),
    .ret (.op .tup [.op .fdiv [.var 2, .var 3], .op .fdiv [.call 25 [false, false] [.var 1, .var 1], .var 3]])]⟩
def ir_law_matrix : Fn := ⟨[false, false], 5, [.set 2 (.var 1),
    .for_ (.var 3) .seq [.var 0] [.for_ (.var 4) .seq [.var 3] [.set 2 (.call 23 [false, false] [.var 2, .var 4])]],
    .ret (.op .tup [.op .tuple [.comp [3] (.op .tuple [.comp [4] (.op .fdiv [.var 4, .var 2]) (.var 4) .seq [.var 3] [] []]) (.var 3) .seq [.var 0] [] []], .op .fdiv [.var 1, .var 2]])]⟩
def ir_law_none : Fn := ⟨[], 0, [.ret (.op .tup [.op .tup [.op .tup [.cst (.int 1), .cst (.int 0), .cst (.int 0)], .op .tup [.cst (.int 0), .cst (.int 1), .cst (.int 0)], .op .tup [.cst (.int 0), .cst (.int 0), .cst (.int 1)]], .cst (.int 1)])]⟩
def ir_law_after : Fn := ⟨[false, false], 6, [.set 2 (.comp [3] (.op .tuple [.comp [4] (.op .sum [.comp [5] (.op .mul [.op .idx [.var 3, .var 5], .op .idx [.op .idx [.op .idx [.var 0, .cst (.int 0)], .var 5], .var 4]]) (.var 5) .range1 [.cst (.int 3)] [] []]) (.var 4) .range1 [.cst (.int 3)] [] []]) (.var 3) .seq [.op .idx [.var 1, .cst (.int 0)]] [] []),
    .ret (.call 30 [false, false] [.var 2, .op .mul [.op .idx [.var 0, .cst (.int 1)], .op .idx [.var 1, .cst (.int 1)]]])]⟩
def ir_law_moved : Fn := ⟨[false, false], 3, [.ret (.call 24 [false] [.op .tuple [.comp [2] (.call 25 [false, false] [.var 2, .var 1]) (.var 2) .seq [.op .idx [.var 0, .cst (.int 0)]] [] []]])]⟩
def ir_right_to : Fn := ⟨[false], 4, [.set 1 (.comp [2] (.call 9 [false, false] [.var 0, .var 2]) (.var 2) .seq [.op .tup [.op .tup [.cst (.int 1), .cst (.int 0), .cst (.int 0)], .op .tup [.cst (.int 0), .cst (.int 1), .cst (.int 0)], .op .tup [.cst (.int 0), .cst (.int 0), .cst (.int 1)]]] [] []),
    .ret (.call 5 [false] [.op .idx [.comp [3] (.var 3) (.var 3) .seq [.var 1] [.tr (.op .ne [.var 3, .op .tup [.cst (.int 0), .cst (.int 0), .cst (.int 0)]])] [], .cst (.int 0)]])]⟩
def ir_law_flip : Fn := ⟨[false], 5, [.set 1 (.call 25 [false, false] [.var 0, .var 0]),
    .set 2 (.comp [3] (.op .tuple [.comp [4] (.op .sub [.ite (.tr (.op .eq [.var 3, .var 4])) (.var 1) (.cst (.int 0)), .op .mul [.op .mul [.cst (.int 2), .op .idx [.var 0, .var 3]], .op .idx [.var 0, .var 4]]]) (.var 4) .range1 [.cst (.int 3)] [] []]) (.var 3) .range1 [.cst (.int 3)] [] []),
    .ret (.call 30 [false, false] [.var 2, .var 1])]⟩
def ir_law_towards : Fn := ⟨[false, false, false], 9, [.set 3 (.op .tuple [.comp [4] (.call 25 [false, false] [.var 4, .var 1]) (.var 4) .seq [.op .idx [.var 0, .cst (.int 0)]] [] []]),
    .set 5 (.call 29 [false, false] [.var 3, .var 2]),
    .ifs (.tr (.op .isN [.var 5])) [.ret (.op .tup [.cst .non, .cst (.bl false)])] [],
    .set 6 (.op .tuple [.comp [7, 8] (.op .sub [.op .mul [.op .idx [.var 5, .cst (.int 1)], .var 7], .op .mul [.op .idx [.var 5, .cst (.int 0)], .var 8]]) (.tup [.var 7, .var 8]) .zip [.var 3, .var 2] [] []]),
    .ret (.op .tup [.ite (.tr (.op .ne [.var 6, .op .tup [.cst (.int 0), .cst (.int 0), .cst (.int 0)]])) (.call 35 [false] [.var 6]) (.cst .non), .cst (.bl true)])]⟩
def ir_law_by : Fn := ⟨[true], 3, [.set 1 (.op .tuple [.comp [2] (.op .sub [.call 21 [true, false] [.io 0, .cst (.int 5)], .cst (.int 2)]) (.var 2) .range1 [.cst (.int 4)] [] []]),
    .ret (.ite (.tr (.op .ne [.var 1, .op .tup [.cst (.int 0), .cst (.int 0), .cst (.int 0), .cst (.int 0)]])) (.var 1) (.op .tup [.cst (.int 1), .cst (.int 0), .cst (.int 1), .cst (.int 0)]))]⟩
def ir_law_flat : Fn := ⟨[false], 3, [.set 1 (.op (.lst []) []),
    .for_ (.var 2) .seq [.var 0] [.aug 1 .add (.var 2)],
    .ret (.var 1)]⟩
def ir_law_stock : Fn := ⟨[], 0, [.ret (.op (.lst [false, false, false, false, false, false, false, false, false, false, false, false, false, false]) [.op .tup [.cst (.int 1), .cst (.int 0), .cst (.int 0)], .op .tup [.cst (.int 0), .cst (.int 1), .cst (.int 0)], .op .tup [.cst (.int 0), .cst (.int 0), .cst (.int 1)], .op .tup [.cst (.int 1), .cst (.int 2), .cst (.int 2)], .op .tup [.cst (.int 2), .cst (.int 1), .cst (.int 2)], .op .tup [.cst (.int 2), .cst (.int 2), .cst (.int 1)], .op .tup [.cst (.int 3), .cst (.int 0), .cst (.int 4)], .op .tup [.cst (.int 0), .cst (.int 3), .cst (.int 4)], .op .tup [.cst (.int 4), .cst (.int 3), .cst (.int 0)], .op .tup [.cst (.int 2), .cst (.int 3), .cst (.int 6)], .op .tup [.cst (.int 6), .cst (.int 2), .cst (.int 3)], .op .tup [.cst (.int 1), .cst (.int 4), .cst (.int 8)], .op .tup [.cst (.int 1), .cst (.int 1), .cst (.int 0)], .op .tup [.cst (.int 1), .cst (.int 1), .cst (.int 1)]])]⟩
def ir_wall : Fn := ⟨[false], 1, [.whl (.tr (.cst (.bl true))) [.pass]]⟩
def ir_Turn_is_mirrored : Fn := ⟨[false], 1, [.expr (.call 40 [false] [.cst (.int 0)])]⟩
def ir_Only___bool : Fn := ⟨[false], 1, [.ret (.cst (.bl true))]⟩
def ir_Two___bool : Fn := ⟨[false], 1, [.ret (.cst (.bl false))]⟩
def ir_Nowhere___bool : Fn := ⟨[false], 1, [.ret (.cst (.bl false))]⟩
def ir_law_turns : Fn := ⟨[false, false, false, false], 13, [.ifs (.or_ (.tr (.op .eq [.call 26 [false, false] [.var 0, .var 1], .op .tup [.cst (.int 0), .cst (.int 0), .cst (.int 0)]])) (.tr (.op .eq [.call 26 [false, false] [.var 2, .var 3], .op .tup [.cst (.int 0), .cst (.int 0), .cst (.int 0)]]))) [.ret (.op .tup [])] [],
    .unp (.tup [.var 4, .var 5]) (.op .tup [.call 25 [false, false] [.var 0, .var 1], .call 25 [false, false] [.var 2, .var 3]]),
    .ifs (.or_ (.tr (.op .lt [.op .mul [.var 4, .var 5], .cst (.int 0)])) (.tr (.op .ne [.op .mul [.op .mul [.op .mul [.var 4, .var 4], .call 25 [false, false] [.var 2, .var 2]], .call 25 [false, false] [.var 3, .var 3]], .op .mul [.op .mul [.op .mul [.var 5, .var 5], .call 25 [false, false] [.var 0, .var 0]], .call 25 [false, false] [.var 1, .var 1]]]))) [.ret (.op .tup [])] [],
    .unp (.tup [.var 6, .var 7]) (.op .tup [.call 31 [] [], .cst (.int 0)]),
    .for_ (.tup [.var 8, .var 9]) .seq [.op .tup [.op .tup [.var 0, .var 2], .op .tup [.var 1, .var 3]]] [.unp (.tup [.var 10, .var 11]) (.call 36 [false, false, false] [.var 6, .var 8, .var 9]),
    .ifs (.not (.tr (.var 11))) [.ret (.op .tup [])] [],
    .unp (.tup [.var 6, .var 7]) (.ite (.tr (.op .notN [.var 10])) (.op .tup [.call 32 [false, false] [.var 6, .var 10], .op .add [.var 7, .cst (.int 1)]]) (.op .tup [.var 6, .var 7]))],
    .ifs (.or_ (.tr (.op .ne [.call 33 [false, false] [.var 6, .var 0], .call 24 [false] [.var 2]])) (.tr (.op .ne [.call 33 [false, false] [.var 6, .var 1], .call 24 [false] [.var 3]]))) [.ret (.op .tup [])] [],
    .set 12 (.call 32 [false, false] [.var 6, .call 35 [false] [.call 26 [false, false] [.var 2, .var 3]]]),
    .ret (.ite (.tr (.op .eq [.op .mod [.var 7, .cst (.int 2)], .cst (.int 0)])) (.op .tup [.var 6, .var 12]) (.op .tup [.var 12, .var 6]))]⟩
def ir_Tells___bool : Fn := ⟨[false], 1, [.ret (.cst (.bl true))]⟩
def ir_Mistaken___bool : Fn := ⟨[false], 1, [.ret (.cst (.bl false))]⟩
def ir_own_hands : Fn := ⟨[false], 1, [.ret (.ite (.tr (.op .eq [.var 0, .cst (.str [101, 105, 116, 104, 101, 114])])) (.cst (.str [101, 105, 116, 104, 101, 114])) (.cst (.str [112, 108, 97, 105, 110])))]⟩
def ir_Same___bool : Fn := ⟨[false], 1, [.ret (.cst (.bl true))]⟩
def ir_Differ___bool : Fn := ⟨[false], 1, [.ret (.cst (.bl false))]⟩
def ir_is_other : Fn := ⟨[false, false, false, false], 4, [.ifs (.or_ (.tr (.call 13 [false, false] [.var 0, .var 1])) (.tr (.call 13 [false, false] [.var 2, .var 3]))) [.ret (.or_ (.op .ne [.call 13 [false, false] [.var 0, .var 1], .call 13 [false, false] [.var 2, .var 3]]) (.op .ne [.op .gt [.call 8 [false, false] [.var 0, .var 1], .cst (.int 0)], .op .gt [.call 8 [false, false] [.var 2, .var 3], .cst (.int 0)]]))] [],
    .ret (.op .not [.call 16 [false, false, false, false] [.var 0, .var 1, .var 2, .var 3]])]⟩
def ir_Way___bool : Fn := ⟨[false], 1, [.ret (.cst (.bl true))]⟩
def ir_Ways___bool : Fn := ⟨[false], 1, [.ret (.cst (.bl false))]⟩
def ir_NoWay___bool : Fn := ⟨[false], 1, [.ret (.cst (.bl false))]⟩
def ir_least_way : Fn := ⟨[false], 4, [.set 1 (.cst (.int 0)),
    .for_ (.var 2) .seq [.var 0] [.for_ (.var 3) .seq [.var 2] [.set 1 (.call 1 [false, false] [.var 1, .var 3])]],
    .ret (.op .tuple [.comp [2] (.op .tuple [.comp [3] (.op .fdiv [.var 3, .op .max2 [.cst (.int 1), .var 1]]) (.var 3) .seq [.var 2] [] []]) (.var 2) .seq [.var 0] [] []])]⟩
def ir_way_of_two : Fn := ⟨[false, false, false, false], 7, [.set 4 (.op .sub [.op .idx [.var 1, .cst (.int 0)], .op .idx [.var 0, .cst (.int 0)]]),
    .set 5 (.call 11 [false, false] [.call 12 [false, false] [.var 3, .op .idx [.var 1, .cst (.int 1)]], .call 12 [false, false] [.op .neg [.var 2], .op .idx [.var 0, .cst (.int 1)]]]),
    .set 6 (.call 11 [false, false] [.call 12 [false, false] [.op .mul [.var 4, .var 2], .op .idx [.var 0, .cst (.int 1)]], .call 12 [false, false] [.op .neg [.op .idx [.var 0, .cst (.int 0)]], .var 5]]),
    .ret (.call 55 [false] [.op .tup [.var 6, .var 5]])]⟩
def ir_law_way : Fn := ⟨[true], 4, [.set 1 (.op .tuple [.comp [2] (.op .sub [.call 21 [true, false] [.io 0, .cst (.int 9)], .cst (.int 4)]) (.var 2) .range1 [.cst (.int 3)] [] []]),
    .set 3 (.op .tuple [.comp [2] (.op .sub [.call 21 [true, false] [.io 0, .cst (.int 5)], .cst (.int 2)]) (.var 2) .range1 [.cst (.int 3)] [] []]),
    .ret (.op .tup [.var 1, .var 3])]⟩
def ir_law_at : Fn := ⟨[false, false], 4, [.ret (.op .tuple [.comp [2, 3] (.op .add [.var 2, .op .mul [.var 1, .var 3]]) (.tup [.var 2, .var 3]) .zip [.op .idx [.var 0, .cst (.int 0)], .op .idx [.var 0, .cst (.int 1)]] [] []])]⟩
def ir_law_least_way : Fn := ⟨[false], 4, [.set 1 (.cst (.int 0)),
    .for_ (.var 2) .seq [.var 0] [.for_ (.var 3) .seq [.var 2] [.set 1 (.call 23 [false, false] [.var 1, .var 3])]],
    .ret (.op .tuple [.comp [2] (.op .tuple [.comp [3] (.op .fdiv [.var 3, .op .max2 [.cst (.int 1), .var 1]]) (.var 3) .seq [.var 2] [] []]) (.var 2) .seq [.var 0] [] []])]⟩
def ir_law_is_seen : Fn := ⟨[false, false], 7, [.for_ (.tup [.var 2, .var 3]) .seq [.var 1] [.set 4 (.call 58 [false, false] [.var 0, .var 2]),
    .ifs (.or_ (.tr (.op .eq [.var 4, .op .tup [.cst (.int 0), .cst (.int 0), .cst (.int 0)]])) (.tr (.op .ne [.call 24 [false] [.var 4], .call 24 [false] [.var 3]]))) [.ret (.cst (.bl false))] []],
    .unp (.tup [.var 5, .var 6]) (.op .tup [.call 58 [false, false] [.var 0, .op .idx [.op .idx [.var 1, .cst (.int 0)], .cst (.int 0)]], .call 58 [false, false] [.var 0, .op .idx [.op .idx [.var 1, .op .neg [.cst (.int 1)]], .cst (.int 0)]]]),
    .ret (.or_ (.op .ne [.call 26 [false, false] [.var 5, .var 6], .op .tup [.cst (.int 0), .cst (.int 0), .cst (.int 0)]]) (.op .gt [.call 25 [false, false] [.var 5, .var 6], .cst (.int 0)]))]⟩
def ir_law_far : Fn := ⟨[false, false, false, false], 9, [.set 4 (.op .sub [.op .idx [.var 1, .cst (.int 0)], .op .idx [.var 0, .cst (.int 0)]]),
    .set 5 (.op .tuple [.comp [6, 7] (.op .sub [.op .mul [.var 3, .var 7], .op .mul [.var 2, .var 6]]) (.tup [.var 6, .var 7]) .zip [.op .idx [.var 0, .cst (.int 1)], .op .idx [.var 1, .cst (.int 1)]] [] []]),
    .ret (.call 59 [false] [.op .tup [.op .tuple [.comp [6, 8] (.op .sub [.op .mul [.op .mul [.var 4, .var 2], .var 6], .op .mul [.op .idx [.var 0, .cst (.int 0)], .var 8]]) (.tup [.var 6, .var 8]) .zip [.op .idx [.var 0, .cst (.int 1)], .var 5] [] []], .var 5]])]⟩
def ir_law_judged : Fn := ⟨[false], 10, [.unp (.tup [.var 1, .var 2]) (.op .tup [.op .idx [.var 0, .cst (.int 0)], .op .idx [.var 0, .op .neg [.cst (.int 1)]]]),
    .ifs (.tr (.op .all [.comp [3] (.op .eq [.call 24 [false] [.op .idx [.var 3, .cst (.int 1)]], .call 24 [false] [.op .idx [.var 1, .cst (.int 1)]]]) (.var 3) .seq [.var 0] [] []])) [.ret (.cst (.int 2))] [],
    .ifs (.tr (.op .eq [.call 26 [false, false] [.op .idx [.var 1, .cst (.int 1)], .op .idx [.var 2, .cst (.int 1)]], .op .tup [.cst (.int 0), .cst (.int 0), .cst (.int 0)]])) [.ret (.cst (.int 0))] [],
    .ifs (.tr (.op .eq [.op .len [.var 0], .cst (.int 2)])) [.ret (.cst (.int 2))] [],
    .unp (.tup [.var 4, .var 5]) (.op .idx [.var 0, .cst (.int 1)]),
    .set 6 (.call 26 [false, false] [.op .idx [.var 1, .cst (.int 1)], .op .idx [.var 2, .cst (.int 1)]]),
    .ifs (.tr (.op .ne [.call 25 [false, false] [.var 6, .var 5], .cst (.int 0)])) [.ret (.cst (.int 0))] [],
    .unp (.tup [.var 7, .var 8]) (.op .tup [.call 25 [false, false] [.call 26 [false, false] [.var 5, .op .idx [.var 2, .cst (.int 1)]], .var 6], .call 25 [false, false] [.call 26 [false, false] [.op .idx [.var 1, .cst (.int 1)], .var 5], .var 6]]),
    .ifs (.or_ (.tr (.op .le [.var 7, .cst (.int 0)])) (.tr (.op .le [.var 8, .cst (.int 0)]))) [.ret (.cst (.int 0))] [],
    .set 9 (.call 61 [false, false, false, false] [.var 1, .var 2, .op .mul [.var 7, .op .sub [.var 4, .op .idx [.var 1, .cst (.int 0)]]], .op .mul [.var 8, .op .sub [.op .idx [.var 2, .cst (.int 0)], .var 4]]]),
    .ret (.ite (.tr (.call 60 [false, false] [.var 9, .var 0])) (.var 9) (.cst (.int 0)))]⟩
def ir_Apart___bool : Fn := ⟨[false], 1, [.ret (.cst (.bl true))]⟩
def ir_Mixed___bool : Fn := ⟨[false], 1, [.ret (.cst (.bl false))]⟩
def ir_NoBodies___bool : Fn := ⟨[false], 1, [.ret (.cst (.bl false))]⟩
def ir_sightings_of : Fn := ⟨[false, false], 5, [.ret (.comp [2, 3, 4] (.op .tup [.var 2, .op .idx [.var 3, .var 4]]) (.tup [.tup [.var 2, .var 3], .var 4]) .zip [.var 0, .var 1] [] [])]⟩
def ir_Only_shows : Fn := ⟨[false, false, false, false, false], 5, [.expr (.call 40 [false] [.cst (.int 1)])]⟩
def ir_Two_shows : Fn := ⟨[false, false, false, false, false], 5, [.expr (.call 40 [false] [.cst (.int 2)])]⟩
def ir_Nowhere_shows : Fn := ⟨[false, false, false, false, false], 5, [.expr (.call 40 [false] [.cst (.int 3)])]⟩
def ir_Mended___bool : Fn := ⟨[false], 1, [.ret (.cst (.bl true))]⟩
def ir_Stuck___bool : Fn := ⟨[false], 1, [.ret (.cst (.bl false))]⟩
def ir_Mended_shows : Fn := ⟨[false, false, false, false, false], 5, [.expr (.call 40 [false] [.cst (.int 4)])]⟩
def ir_Stuck_shows : Fn := ⟨[false, false, false, false, false], 5, [.expr (.call 40 [false] [.cst (.int 5)])]⟩
def ir_Word_fail : Fn := ⟨[false], 1, [.never]⟩
def ir_Same_shows : Fn := ⟨[false, false, false, false], 4, [.expr (.call 40 [false] [.cst (.int 4)])]⟩
def ir_Differ_shows : Fn := ⟨[false, false, false, false], 4, [.expr (.call 40 [false] [.cst (.int 5)])]⟩
def ir_Mended_shows_v2 : Fn := ⟨[false, false, false, false, false], 5, [.expr (.call 40 [false] [.cst (.int 6)])]⟩
def ir_Stuck_shows_v2 : Fn := ⟨[false, false, false, false, false], 5, [.expr (.call 40 [false] [.cst (.int 7)])]⟩
def ir_Way_shows : Fn := ⟨[false, false], 2, [.expr (.call 40 [false] [.cst (.int 8)])]⟩
def ir_Ways_shows : Fn := ⟨[false, false], 2, [.expr (.call 40 [false] [.cst (.int 9)])]⟩
def ir_NoWay_shows : Fn := ⟨[false, false], 2, [.expr (.call 40 [false] [.cst (.int 10)])]⟩
def ir_Apart_shows : Fn := ⟨[false, false], 2, [.expr (.call 40 [false] [.cst (.int 11)])]⟩
def ir_Mixed_shows : Fn := ⟨[false, false], 2, [.expr (.call 40 [false] [.cst (.int 12)])]⟩
def ir_NoBodies_shows : Fn := ⟨[false, false], 2, [.expr (.call 40 [false] [.cst (.int 13)])]⟩
def ir_Tells_shows : Fn := ⟨[false, false, false, false, false], 5, [.expr (.call 40 [false] [.cst (.int 14)])]⟩
def ir_Mistaken_shows : Fn := ⟨[false, false, false, false, false], 5, [.expr (.call 40 [false] [.cst (.int 15)])]⟩
def ir_Only_shows_v2 : Fn := ⟨[false, false, false, false, false], 5, [.expr (.call 40 [false] [.cst (.int 0)])]⟩
def ir_Two_shows_v2 : Fn := ⟨[false, false, false, false, false], 5, [.expr (.call 40 [false] [.cst (.int 1)])]⟩
def ir_Nowhere_shows_v2 : Fn := ⟨[false, false, false, false, false], 5, [.expr (.call 40 [false] [.cst (.int 2)])]⟩
def ir_Same_shows_v2 : Fn := ⟨[false, false, false, false], 4, [.expr (.call 40 [false] [.cst (.int 3)])]⟩
def ir_Differ_shows_v2 : Fn := ⟨[false, false, false, false], 4, [.expr (.call 40 [false] [.cst (.int 4)])]⟩
def ir_Mended_shows_v3 : Fn := ⟨[false, false, false, false, false], 5, [.expr (.call 40 [false] [.cst (.int 5)])]⟩
def ir_Stuck_shows_v3 : Fn := ⟨[false, false, false, false, false], 5, [.expr (.call 40 [false] [.cst (.int 6)])]⟩
def ir_Way_shows_v2 : Fn := ⟨[false, false], 2, [.expr (.call 40 [false] [.cst (.int 7)])]⟩
def ir_Ways_shows_v2 : Fn := ⟨[false, false], 2, [.expr (.call 40 [false] [.cst (.int 8)])]⟩
def ir_NoWay_shows_v2 : Fn := ⟨[false, false], 2, [.expr (.call 40 [false] [.cst (.int 9)])]⟩
def ir_Apart_shows_v2 : Fn := ⟨[false, false], 2, [.expr (.call 40 [false] [.cst (.int 10)])]⟩
def ir_Mixed_shows_v2 : Fn := ⟨[false, false], 2, [.expr (.call 40 [false] [.cst (.int 11)])]⟩
def ir_NoBodies_shows_v2 : Fn := ⟨[false, false], 2, [.expr (.call 40 [false] [.cst (.int 12)])]⟩
def ir_Tells_shows_v2 : Fn := ⟨[false, false, false, false, false], 5, [.expr (.call 40 [false] [.cst (.int 13)])]⟩
def ir_Mistaken_shows_v2 : Fn := ⟨[false, false, false, false, false], 5, [.expr (.call 40 [false] [.cst (.int 14)])]⟩
def ir_Tells_shows_v3 : Fn := ⟨[false, false, false, false, false], 5, [.expr (.call 40 [false] [.cst (.int 0)])]⟩
def ir_Mistaken_shows_v3 : Fn := ⟨[false, false, false, false, false], 5, [.expr (.call 40 [false] [.cst (.int 1)])]⟩
def ir_Only_shows_v3 : Fn := ⟨[false, false, false, false, false], 5, [.expr (.call 40 [false] [.cst (.int 2)])]⟩
def ir_Two_shows_v3 : Fn := ⟨[false, false, false, false, false], 5, [.expr (.call 40 [false] [.cst (.int 3)])]⟩
def ir_Nowhere_shows_v3 : Fn := ⟨[false, false, false, false, false], 5, [.expr (.call 40 [false] [.cst (.int 4)])]⟩
def ir_Way_shows_v3 : Fn := ⟨[false, false], 2, [.expr (.call 40 [false] [.cst (.int 0)])]⟩
def ir_Ways_shows_v3 : Fn := ⟨[false, false], 2, [.expr (.call 40 [false] [.cst (.int 1)])]⟩
def ir_NoWay_shows_v3 : Fn := ⟨[false, false], 2, [.expr (.call 40 [false] [.cst (.int 2)])]⟩
def ir_Turn_is_mirrored_v2 : Fn := ⟨[false], 1, [.expr (.call 40 [false] [.cst (.int 3)])]⟩
def ir_Whole___bool : Fn := ⟨[false], 1, [.ret (.cst (.bl true))]⟩
def ir_Lacks___bool : Fn := ⟨[false], 1, [.ret (.cst (.bl false))]⟩
def ir_is_less : Fn := ⟨[false, false], 2, [.ret (.op .lt [.op .mul [.op .idx [.var 0, .cst (.int 0)], .op .idx [.var 1, .cst (.int 1)]], .op .mul [.op .idx [.var 1, .cst (.int 0)], .op .idx [.var 0, .cst (.int 1)]]])]⟩
def ir_OnlyHour___bool : Fn := ⟨[false], 1, [.ret (.cst (.bl true))]⟩
def ir_Hours___bool : Fn := ⟨[false], 1, [.ret (.cst (.bl false))]⟩
def ir_NoHour___bool : Fn := ⟨[false], 1, [.ret (.cst (.bl false))]⟩
def ir_law_spin : Fn := ⟨[true], 1, [.ret (.call 22 [true, false] [.io 0, .op (.lst [false, false, false, false, false, false, false, false]) [.op .tup [.cst (.int 1), .cst (.int 0), .cst (.int 0), .cst (.int 1)], .op .tup [.cst (.int 1), .cst (.int 1), .cst (.int 0), .cst (.int 0)], .op .tup [.cst (.int 1), .cst (.int 1), .cst (.int 1), .cst (.int 1)], .op .tup [.cst (.int 0), .cst (.int 1), .cst (.int 1), .cst (.int 0)], .op .tup [.cst (.int 0), .cst (.int 0), .cst (.int 0), .cst (.int 1)], .op .tup [.cst (.int 1), .cst (.int 0), .cst (.int 0), .cst (.int 0)], .op .tup [.cst (.int 2), .cst (.int 0), .cst (.int 0), .cst (.int 1)], .op .tup [.cst (.int 3), .cst (.int 0), .cst (.int 1), .cst (.int 0)]]])]⟩
def ir_key_of : Fn := ⟨[false, false], 5, [.expr (.call 4 [false, false] [.cst (.str [111, 110, 101]), .var 0]),
    .expr (.call 4 [false, false] [.cst (.str [111, 116, 104, 101, 114]), .var 1]),
    .ifs (.tr (.call 13 [false, false] [.var 0, .var 1])) [.never] [],
    .set 2 (.call 8 [false, false] [.var 0, .var 1]),
    .unp (.tup [.var 3, .var 4]) (.call 2 [false, false] [.op .mul [.var 2, .var 2], .op .mul [.call 8 [false, false] [.var 0, .var 0], .call 8 [false, false] [.var 1, .var 1]]]),
    .ret (.op .tup [.ite (.tr (.op .eq [.var 2, .cst (.int 0)])) (.cst (.int 0)) (.ite (.tr (.op .gt [.var 2, .cst (.int 0)])) (.cst (.int 1)) (.op .neg [.cst (.int 1)])), .var 3, .var 4])]⟩
def ir_Index_put : Fn := ⟨[false, false, false], 3, [.expr (.call 40 [false] [.cst (.int 0)])]⟩
def ir_Index_drop : Fn := ⟨[false, false], 2, [.expr (.call 40 [false] [.cst (.int 1)])]⟩
def ir_Index_follow : Fn := ⟨[false, false, false], 3, [.expr (.call 40 [false] [.cst (.int 2)])]⟩
def ir_law_key : Fn := ⟨[false, false], 5, [.unp (.tup [.var 2, .var 3]) (.op .tup [.call 25 [false, false] [.var 0, .var 1], .op .mul [.call 25 [false, false] [.var 0, .var 0], .call 25 [false, false] [.var 1, .var 1]]]),
    .set 4 (.call 23 [false, false] [.op .mul [.var 2, .var 2], .var 3]),
    .ret (.op .tup [.ite (.tr (.op .gt [.var 2, .cst (.int 0)])) (.cst (.int 1)) (.ite (.tr (.op .lt [.var 2, .cst (.int 0)])) (.op .sub [.cst (.int 0), .cst (.int 1)]) (.cst (.int 0))), .op .fdiv [.op .mul [.var 2, .var 2], .var 4], .op .fdiv [.var 3, .var 4]])]⟩
def ir_Index_put_v2 : Fn := ⟨[false, false, false], 3, [.expr (.call 40 [false] [.cst (.int 1)])]⟩
def ir_Index_drop_v2 : Fn := ⟨[false, false], 2, [.expr (.call 40 [false] [.cst (.int 2)])]⟩
def ir_Index_follow_v2 : Fn := ⟨[false, false, false], 3, [.expr (.call 40 [false] [.cst (.int 3)])]⟩
def ir_Tells_shows_v4 : Fn := ⟨[false, false, false, false, false], 5, [.expr (.call 40 [false] [.cst (.int 1)])]⟩
def ir_Mistaken_shows_v4 : Fn := ⟨[false, false, false, false, false], 5, [.expr (.call 40 [false] [.cst (.int 2)])]⟩
def ir_Apart_shows_v3 : Fn := ⟨[false, false], 2, [.expr (.call 40 [false] [.cst (.int 3)])]⟩
def ir_Mixed_shows_v3 : Fn := ⟨[false, false], 2, [.expr (.call 40 [false] [.cst (.int 4)])]⟩
def ir_NoBodies_shows_v3 : Fn := ⟨[false, false], 2, [.expr (.call 40 [false] [.cst (.int 5)])]⟩
def ir_Desk_telling : Fn := ⟨[false, false, false], 3, [.expr (.call 40 [false] [.cst (.int 4)])]⟩
def ir_View_has : Fn := ⟨[false, false], 2, [.expr (.call 40 [false] [.cst (.int 0)])]⟩
def progL : List (Option Fn) := [some ir_is_integer, some ir_common, some ir_lowest, some ir_is_triple, some ir_check_triple, some ir_least, some ir_is_same, some ir_opposite, some ir_dot, some ir_cross, some ir_det, some ir_plus, some ir_times, some ir_is_on_line, some ir_root, some ir_ratio, some ir_are_alike, some ir_size_of, some ir_angle_sign, some ir_is_between, some ir_law_number, some ir_law_take, some ir_law_pick, some ir_law_gcd, some ir_law_least, some ir_law_dot, some ir_law_cross, some ir_law_sky, some ir_law_root, some ir_law_ratio, some ir_law_matrix, some ir_law_none, some ir_law_after, some ir_law_moved, some ir_right_to, some ir_law_flip, some ir_law_towards, some ir_law_by, some ir_law_flat, some ir_law_stock, some ir_wall, some ir_Turn_is_mirrored, some ir_Only___bool, some ir_Two___bool, some ir_Nowhere___bool, some ir_law_turns, some ir_Tells___bool, some ir_Mistaken___bool, some ir_own_hands, some ir_Same___bool, some ir_Differ___bool, some ir_is_other, some ir_Way___bool, some ir_Ways___bool, some ir_NoWay___bool, some ir_least_way, some ir_way_of_two, some ir_law_way, some ir_law_at, some ir_law_least_way, some ir_law_is_seen, some ir_law_far, some ir_law_judged, some ir_Apart___bool, some ir_Mixed___bool, some ir_NoBodies___bool, some ir_sightings_of, some ir_Only_shows, some ir_Two_shows, some ir_Nowhere_shows, some ir_Mended___bool, some ir_Stuck___bool, some ir_Mended_shows, some ir_Stuck_shows, some ir_Word_fail, some ir_Same_shows, some ir_Differ_shows, some ir_Mended_shows_v2, some ir_Stuck_shows_v2, some ir_Way_shows, some ir_Ways_shows, some ir_NoWay_shows, some ir_Apart_shows, some ir_Mixed_shows, some ir_NoBodies_shows, some ir_Tells_shows, some ir_Mistaken_shows, some ir_Only_shows_v2, some ir_Two_shows_v2, some ir_Nowhere_shows_v2, some ir_Same_shows_v2, some ir_Differ_shows_v2, some ir_Mended_shows_v3, some ir_Stuck_shows_v3, some ir_Way_shows_v2, some ir_Ways_shows_v2, some ir_NoWay_shows_v2, some ir_Apart_shows_v2, some ir_Mixed_shows_v2, some ir_NoBodies_shows_v2, some ir_Tells_shows_v2, some ir_Mistaken_shows_v2, some ir_Tells_shows_v3, some ir_Mistaken_shows_v3, some ir_Only_shows_v3, some ir_Two_shows_v3, some ir_Nowhere_shows_v3, some ir_Way_shows_v3, some ir_Ways_shows_v3, some ir_NoWay_shows_v3, some ir_Turn_is_mirrored_v2, some ir_Whole___bool, some ir_Lacks___bool, some ir_is_less, some ir_OnlyHour___bool, some ir_Hours___bool, some ir_NoHour___bool, some ir_law_spin, some ir_key_of, some ir_Index_put, some ir_Index_drop, some ir_Index_follow, some ir_law_key, some ir_Index_put_v2, some ir_Index_drop_v2, some ir_Index_follow_v2, some ir_Tells_shows_v4, some ir_Mistaken_shows_v4, some ir_Apart_shows_v3, some ir_Mixed_shows_v3, some ir_NoBodies_shows_v3, some ir_Desk_telling, some ir_View_has]
/-- the defs by their numbers: the program's, then the law's own -/
def TT (L : Nat → Option Fn) (i : Nat) : Option Fn := if i < 1000 then progL.getD i none else L i
@[reducible] def f_is_integer : Nat := 0
theorem t_is_integer (L : Nat → Option Fn) : TT L 0 = some ir_is_integer := rfl
@[reducible] def f_common : Nat := 1
theorem t_common (L : Nat → Option Fn) : TT L 1 = some ir_common := rfl
@[reducible] def f_lowest : Nat := 2
theorem t_lowest (L : Nat → Option Fn) : TT L 2 = some ir_lowest := rfl
@[reducible] def f_is_triple : Nat := 3
theorem t_is_triple (L : Nat → Option Fn) : TT L 3 = some ir_is_triple := rfl
@[reducible] def f_check_triple : Nat := 4
theorem t_check_triple (L : Nat → Option Fn) : TT L 4 = some ir_check_triple := rfl
@[reducible] def f_least : Nat := 5
theorem t_least (L : Nat → Option Fn) : TT L 5 = some ir_least := rfl
@[reducible] def f_is_same : Nat := 6
theorem t_is_same (L : Nat → Option Fn) : TT L 6 = some ir_is_same := rfl
@[reducible] def f_opposite : Nat := 7
theorem t_opposite (L : Nat → Option Fn) : TT L 7 = some ir_opposite := rfl
@[reducible] def f_dot : Nat := 8
theorem t_dot (L : Nat → Option Fn) : TT L 8 = some ir_dot := rfl
@[reducible] def f_cross : Nat := 9
theorem t_cross (L : Nat → Option Fn) : TT L 9 = some ir_cross := rfl
@[reducible] def f_det : Nat := 10
theorem t_det (L : Nat → Option Fn) : TT L 10 = some ir_det := rfl
@[reducible] def f_plus : Nat := 11
theorem t_plus (L : Nat → Option Fn) : TT L 11 = some ir_plus := rfl
@[reducible] def f_times : Nat := 12
theorem t_times (L : Nat → Option Fn) : TT L 12 = some ir_times := rfl
@[reducible] def f_is_on_line : Nat := 13
theorem t_is_on_line (L : Nat → Option Fn) : TT L 13 = some ir_is_on_line := rfl
@[reducible] def f_root : Nat := 14
theorem t_root (L : Nat → Option Fn) : TT L 14 = some ir_root := rfl
@[reducible] def f_ratio : Nat := 15
theorem t_ratio (L : Nat → Option Fn) : TT L 15 = some ir_ratio := rfl
@[reducible] def f_are_alike : Nat := 16
theorem t_are_alike (L : Nat → Option Fn) : TT L 16 = some ir_are_alike := rfl
@[reducible] def f_size_of : Nat := 17
theorem t_size_of (L : Nat → Option Fn) : TT L 17 = some ir_size_of := rfl
@[reducible] def f_angle_sign : Nat := 18
theorem t_angle_sign (L : Nat → Option Fn) : TT L 18 = some ir_angle_sign := rfl
@[reducible] def f_is_between : Nat := 19
theorem t_is_between (L : Nat → Option Fn) : TT L 19 = some ir_is_between := rfl
@[reducible] def f_law_number : Nat := 20
theorem t_law_number (L : Nat → Option Fn) : TT L 20 = some ir_law_number := rfl
@[reducible] def f_law_take : Nat := 21
theorem t_law_take (L : Nat → Option Fn) : TT L 21 = some ir_law_take := rfl
@[reducible] def f_law_pick : Nat := 22
theorem t_law_pick (L : Nat → Option Fn) : TT L 22 = some ir_law_pick := rfl
@[reducible] def f_law_gcd : Nat := 23
theorem t_law_gcd (L : Nat → Option Fn) : TT L 23 = some ir_law_gcd := rfl
@[reducible] def f_law_least : Nat := 24
theorem t_law_least (L : Nat → Option Fn) : TT L 24 = some ir_law_least := rfl
@[reducible] def f_law_dot : Nat := 25
theorem t_law_dot (L : Nat → Option Fn) : TT L 25 = some ir_law_dot := rfl
@[reducible] def f_law_cross : Nat := 26
theorem t_law_cross (L : Nat → Option Fn) : TT L 26 = some ir_law_cross := rfl
@[reducible] def f_law_sky : Nat := 27
theorem t_law_sky (L : Nat → Option Fn) : TT L 27 = some ir_law_sky := rfl
@[reducible] def f_law_root : Nat := 28
theorem t_law_root (L : Nat → Option Fn) : TT L 28 = some ir_law_root := rfl
@[reducible] def f_law_ratio : Nat := 29
theorem t_law_ratio (L : Nat → Option Fn) : TT L 29 = some ir_law_ratio := rfl
@[reducible] def f_law_matrix : Nat := 30
theorem t_law_matrix (L : Nat → Option Fn) : TT L 30 = some ir_law_matrix := rfl
@[reducible] def f_law_none : Nat := 31
theorem t_law_none (L : Nat → Option Fn) : TT L 31 = some ir_law_none := rfl
@[reducible] def f_law_after : Nat := 32
theorem t_law_after (L : Nat → Option Fn) : TT L 32 = some ir_law_after := rfl
@[reducible] def f_law_moved : Nat := 33
theorem t_law_moved (L : Nat → Option Fn) : TT L 33 = some ir_law_moved := rfl
@[reducible] def f_right_to : Nat := 34
theorem t_right_to (L : Nat → Option Fn) : TT L 34 = some ir_right_to := rfl
@[reducible] def f_law_flip : Nat := 35
theorem t_law_flip (L : Nat → Option Fn) : TT L 35 = some ir_law_flip := rfl
@[reducible] def f_law_towards : Nat := 36
theorem t_law_towards (L : Nat → Option Fn) : TT L 36 = some ir_law_towards := rfl
@[reducible] def f_law_by : Nat := 37
theorem t_law_by (L : Nat → Option Fn) : TT L 37 = some ir_law_by := rfl
@[reducible] def f_law_flat : Nat := 38
theorem t_law_flat (L : Nat → Option Fn) : TT L 38 = some ir_law_flat := rfl
@[reducible] def f_law_stock : Nat := 39
theorem t_law_stock (L : Nat → Option Fn) : TT L 39 = some ir_law_stock := rfl
@[reducible] def f_wall : Nat := 40
theorem t_wall (L : Nat → Option Fn) : TT L 40 = some ir_wall := rfl
@[reducible] def f_Turn_is_mirrored : Nat := 41
theorem t_Turn_is_mirrored (L : Nat → Option Fn) : TT L 41 = some ir_Turn_is_mirrored := rfl
@[reducible] def f_Only___bool : Nat := 42
theorem t_Only___bool (L : Nat → Option Fn) : TT L 42 = some ir_Only___bool := rfl
@[reducible] def f_Two___bool : Nat := 43
theorem t_Two___bool (L : Nat → Option Fn) : TT L 43 = some ir_Two___bool := rfl
@[reducible] def f_Nowhere___bool : Nat := 44
theorem t_Nowhere___bool (L : Nat → Option Fn) : TT L 44 = some ir_Nowhere___bool := rfl
@[reducible] def f_law_turns : Nat := 45
theorem t_law_turns (L : Nat → Option Fn) : TT L 45 = some ir_law_turns := rfl
@[reducible] def f_Tells___bool : Nat := 46
theorem t_Tells___bool (L : Nat → Option Fn) : TT L 46 = some ir_Tells___bool := rfl
@[reducible] def f_Mistaken___bool : Nat := 47
theorem t_Mistaken___bool (L : Nat → Option Fn) : TT L 47 = some ir_Mistaken___bool := rfl
@[reducible] def f_own_hands : Nat := 48
theorem t_own_hands (L : Nat → Option Fn) : TT L 48 = some ir_own_hands := rfl
@[reducible] def f_Same___bool : Nat := 49
theorem t_Same___bool (L : Nat → Option Fn) : TT L 49 = some ir_Same___bool := rfl
@[reducible] def f_Differ___bool : Nat := 50
theorem t_Differ___bool (L : Nat → Option Fn) : TT L 50 = some ir_Differ___bool := rfl
@[reducible] def f_is_other : Nat := 51
theorem t_is_other (L : Nat → Option Fn) : TT L 51 = some ir_is_other := rfl
@[reducible] def f_Way___bool : Nat := 52
theorem t_Way___bool (L : Nat → Option Fn) : TT L 52 = some ir_Way___bool := rfl
@[reducible] def f_Ways___bool : Nat := 53
theorem t_Ways___bool (L : Nat → Option Fn) : TT L 53 = some ir_Ways___bool := rfl
@[reducible] def f_NoWay___bool : Nat := 54
theorem t_NoWay___bool (L : Nat → Option Fn) : TT L 54 = some ir_NoWay___bool := rfl
@[reducible] def f_least_way : Nat := 55
theorem t_least_way (L : Nat → Option Fn) : TT L 55 = some ir_least_way := rfl
@[reducible] def f_way_of_two : Nat := 56
theorem t_way_of_two (L : Nat → Option Fn) : TT L 56 = some ir_way_of_two := rfl
@[reducible] def f_law_way : Nat := 57
theorem t_law_way (L : Nat → Option Fn) : TT L 57 = some ir_law_way := rfl
@[reducible] def f_law_at : Nat := 58
theorem t_law_at (L : Nat → Option Fn) : TT L 58 = some ir_law_at := rfl
@[reducible] def f_law_least_way : Nat := 59
theorem t_law_least_way (L : Nat → Option Fn) : TT L 59 = some ir_law_least_way := rfl
@[reducible] def f_law_is_seen : Nat := 60
theorem t_law_is_seen (L : Nat → Option Fn) : TT L 60 = some ir_law_is_seen := rfl
@[reducible] def f_law_far : Nat := 61
theorem t_law_far (L : Nat → Option Fn) : TT L 61 = some ir_law_far := rfl
@[reducible] def f_law_judged : Nat := 62
theorem t_law_judged (L : Nat → Option Fn) : TT L 62 = some ir_law_judged := rfl
@[reducible] def f_Apart___bool : Nat := 63
theorem t_Apart___bool (L : Nat → Option Fn) : TT L 63 = some ir_Apart___bool := rfl
@[reducible] def f_Mixed___bool : Nat := 64
theorem t_Mixed___bool (L : Nat → Option Fn) : TT L 64 = some ir_Mixed___bool := rfl
@[reducible] def f_NoBodies___bool : Nat := 65
theorem t_NoBodies___bool (L : Nat → Option Fn) : TT L 65 = some ir_NoBodies___bool := rfl
@[reducible] def f_sightings_of : Nat := 66
theorem t_sightings_of (L : Nat → Option Fn) : TT L 66 = some ir_sightings_of := rfl
@[reducible] def f_Only_shows : Nat := 67
theorem t_Only_shows (L : Nat → Option Fn) : TT L 67 = some ir_Only_shows := rfl
@[reducible] def f_Two_shows : Nat := 68
theorem t_Two_shows (L : Nat → Option Fn) : TT L 68 = some ir_Two_shows := rfl
@[reducible] def f_Nowhere_shows : Nat := 69
theorem t_Nowhere_shows (L : Nat → Option Fn) : TT L 69 = some ir_Nowhere_shows := rfl
@[reducible] def f_Mended___bool : Nat := 70
theorem t_Mended___bool (L : Nat → Option Fn) : TT L 70 = some ir_Mended___bool := rfl
@[reducible] def f_Stuck___bool : Nat := 71
theorem t_Stuck___bool (L : Nat → Option Fn) : TT L 71 = some ir_Stuck___bool := rfl
@[reducible] def f_Mended_shows : Nat := 72
theorem t_Mended_shows (L : Nat → Option Fn) : TT L 72 = some ir_Mended_shows := rfl
@[reducible] def f_Stuck_shows : Nat := 73
theorem t_Stuck_shows (L : Nat → Option Fn) : TT L 73 = some ir_Stuck_shows := rfl
@[reducible] def f_Word_fail : Nat := 74
theorem t_Word_fail (L : Nat → Option Fn) : TT L 74 = some ir_Word_fail := rfl
@[reducible] def f_Same_shows : Nat := 75
theorem t_Same_shows (L : Nat → Option Fn) : TT L 75 = some ir_Same_shows := rfl
@[reducible] def f_Differ_shows : Nat := 76
theorem t_Differ_shows (L : Nat → Option Fn) : TT L 76 = some ir_Differ_shows := rfl
@[reducible] def f_Mended_shows_v2 : Nat := 77
theorem t_Mended_shows_v2 (L : Nat → Option Fn) : TT L 77 = some ir_Mended_shows_v2 := rfl
@[reducible] def f_Stuck_shows_v2 : Nat := 78
theorem t_Stuck_shows_v2 (L : Nat → Option Fn) : TT L 78 = some ir_Stuck_shows_v2 := rfl
@[reducible] def f_Way_shows : Nat := 79
theorem t_Way_shows (L : Nat → Option Fn) : TT L 79 = some ir_Way_shows := rfl
@[reducible] def f_Ways_shows : Nat := 80
theorem t_Ways_shows (L : Nat → Option Fn) : TT L 80 = some ir_Ways_shows := rfl
@[reducible] def f_NoWay_shows : Nat := 81
theorem t_NoWay_shows (L : Nat → Option Fn) : TT L 81 = some ir_NoWay_shows := rfl
@[reducible] def f_Apart_shows : Nat := 82
theorem t_Apart_shows (L : Nat → Option Fn) : TT L 82 = some ir_Apart_shows := rfl
@[reducible] def f_Mixed_shows : Nat := 83
theorem t_Mixed_shows (L : Nat → Option Fn) : TT L 83 = some ir_Mixed_shows := rfl
@[reducible] def f_NoBodies_shows : Nat := 84
theorem t_NoBodies_shows (L : Nat → Option Fn) : TT L 84 = some ir_NoBodies_shows := rfl
@[reducible] def f_Tells_shows : Nat := 85
theorem t_Tells_shows (L : Nat → Option Fn) : TT L 85 = some ir_Tells_shows := rfl
@[reducible] def f_Mistaken_shows : Nat := 86
theorem t_Mistaken_shows (L : Nat → Option Fn) : TT L 86 = some ir_Mistaken_shows := rfl
@[reducible] def f_Only_shows_v2 : Nat := 87
theorem t_Only_shows_v2 (L : Nat → Option Fn) : TT L 87 = some ir_Only_shows_v2 := rfl
@[reducible] def f_Two_shows_v2 : Nat := 88
theorem t_Two_shows_v2 (L : Nat → Option Fn) : TT L 88 = some ir_Two_shows_v2 := rfl
@[reducible] def f_Nowhere_shows_v2 : Nat := 89
theorem t_Nowhere_shows_v2 (L : Nat → Option Fn) : TT L 89 = some ir_Nowhere_shows_v2 := rfl
@[reducible] def f_Same_shows_v2 : Nat := 90
theorem t_Same_shows_v2 (L : Nat → Option Fn) : TT L 90 = some ir_Same_shows_v2 := rfl
@[reducible] def f_Differ_shows_v2 : Nat := 91
theorem t_Differ_shows_v2 (L : Nat → Option Fn) : TT L 91 = some ir_Differ_shows_v2 := rfl
@[reducible] def f_Mended_shows_v3 : Nat := 92
theorem t_Mended_shows_v3 (L : Nat → Option Fn) : TT L 92 = some ir_Mended_shows_v3 := rfl
@[reducible] def f_Stuck_shows_v3 : Nat := 93
theorem t_Stuck_shows_v3 (L : Nat → Option Fn) : TT L 93 = some ir_Stuck_shows_v3 := rfl
@[reducible] def f_Way_shows_v2 : Nat := 94
theorem t_Way_shows_v2 (L : Nat → Option Fn) : TT L 94 = some ir_Way_shows_v2 := rfl
@[reducible] def f_Ways_shows_v2 : Nat := 95
theorem t_Ways_shows_v2 (L : Nat → Option Fn) : TT L 95 = some ir_Ways_shows_v2 := rfl
@[reducible] def f_NoWay_shows_v2 : Nat := 96
theorem t_NoWay_shows_v2 (L : Nat → Option Fn) : TT L 96 = some ir_NoWay_shows_v2 := rfl
@[reducible] def f_Apart_shows_v2 : Nat := 97
theorem t_Apart_shows_v2 (L : Nat → Option Fn) : TT L 97 = some ir_Apart_shows_v2 := rfl
@[reducible] def f_Mixed_shows_v2 : Nat := 98
theorem t_Mixed_shows_v2 (L : Nat → Option Fn) : TT L 98 = some ir_Mixed_shows_v2 := rfl
@[reducible] def f_NoBodies_shows_v2 : Nat := 99
theorem t_NoBodies_shows_v2 (L : Nat → Option Fn) : TT L 99 = some ir_NoBodies_shows_v2 := rfl
@[reducible] def f_Tells_shows_v2 : Nat := 100
theorem t_Tells_shows_v2 (L : Nat → Option Fn) : TT L 100 = some ir_Tells_shows_v2 := rfl
@[reducible] def f_Mistaken_shows_v2 : Nat := 101
theorem t_Mistaken_shows_v2 (L : Nat → Option Fn) : TT L 101 = some ir_Mistaken_shows_v2 := rfl
@[reducible] def f_Tells_shows_v3 : Nat := 102
theorem t_Tells_shows_v3 (L : Nat → Option Fn) : TT L 102 = some ir_Tells_shows_v3 := rfl
@[reducible] def f_Mistaken_shows_v3 : Nat := 103
theorem t_Mistaken_shows_v3 (L : Nat → Option Fn) : TT L 103 = some ir_Mistaken_shows_v3 := rfl
@[reducible] def f_Only_shows_v3 : Nat := 104
theorem t_Only_shows_v3 (L : Nat → Option Fn) : TT L 104 = some ir_Only_shows_v3 := rfl
@[reducible] def f_Two_shows_v3 : Nat := 105
theorem t_Two_shows_v3 (L : Nat → Option Fn) : TT L 105 = some ir_Two_shows_v3 := rfl
@[reducible] def f_Nowhere_shows_v3 : Nat := 106
theorem t_Nowhere_shows_v3 (L : Nat → Option Fn) : TT L 106 = some ir_Nowhere_shows_v3 := rfl
@[reducible] def f_Way_shows_v3 : Nat := 107
theorem t_Way_shows_v3 (L : Nat → Option Fn) : TT L 107 = some ir_Way_shows_v3 := rfl
@[reducible] def f_Ways_shows_v3 : Nat := 108
theorem t_Ways_shows_v3 (L : Nat → Option Fn) : TT L 108 = some ir_Ways_shows_v3 := rfl
@[reducible] def f_NoWay_shows_v3 : Nat := 109
theorem t_NoWay_shows_v3 (L : Nat → Option Fn) : TT L 109 = some ir_NoWay_shows_v3 := rfl
@[reducible] def f_Turn_is_mirrored_v2 : Nat := 110
theorem t_Turn_is_mirrored_v2 (L : Nat → Option Fn) : TT L 110 = some ir_Turn_is_mirrored_v2 := rfl
@[reducible] def f_Whole___bool : Nat := 111
theorem t_Whole___bool (L : Nat → Option Fn) : TT L 111 = some ir_Whole___bool := rfl
@[reducible] def f_Lacks___bool : Nat := 112
theorem t_Lacks___bool (L : Nat → Option Fn) : TT L 112 = some ir_Lacks___bool := rfl
@[reducible] def f_is_less : Nat := 113
theorem t_is_less (L : Nat → Option Fn) : TT L 113 = some ir_is_less := rfl
@[reducible] def f_OnlyHour___bool : Nat := 114
theorem t_OnlyHour___bool (L : Nat → Option Fn) : TT L 114 = some ir_OnlyHour___bool := rfl
@[reducible] def f_Hours___bool : Nat := 115
theorem t_Hours___bool (L : Nat → Option Fn) : TT L 115 = some ir_Hours___bool := rfl
@[reducible] def f_NoHour___bool : Nat := 116
theorem t_NoHour___bool (L : Nat → Option Fn) : TT L 116 = some ir_NoHour___bool := rfl
@[reducible] def f_law_spin : Nat := 117
theorem t_law_spin (L : Nat → Option Fn) : TT L 117 = some ir_law_spin := rfl
@[reducible] def f_key_of : Nat := 118
theorem t_key_of (L : Nat → Option Fn) : TT L 118 = some ir_key_of := rfl
@[reducible] def f_Index_put : Nat := 119
theorem t_Index_put (L : Nat → Option Fn) : TT L 119 = some ir_Index_put := rfl
@[reducible] def f_Index_drop : Nat := 120
theorem t_Index_drop (L : Nat → Option Fn) : TT L 120 = some ir_Index_drop := rfl
@[reducible] def f_Index_follow : Nat := 121
theorem t_Index_follow (L : Nat → Option Fn) : TT L 121 = some ir_Index_follow := rfl
@[reducible] def f_law_key : Nat := 122
theorem t_law_key (L : Nat → Option Fn) : TT L 122 = some ir_law_key := rfl
@[reducible] def f_Index_put_v2 : Nat := 123
theorem t_Index_put_v2 (L : Nat → Option Fn) : TT L 123 = some ir_Index_put_v2 := rfl
@[reducible] def f_Index_drop_v2 : Nat := 124
theorem t_Index_drop_v2 (L : Nat → Option Fn) : TT L 124 = some ir_Index_drop_v2 := rfl
@[reducible] def f_Index_follow_v2 : Nat := 125
theorem t_Index_follow_v2 (L : Nat → Option Fn) : TT L 125 = some ir_Index_follow_v2 := rfl
@[reducible] def f_Tells_shows_v4 : Nat := 126
theorem t_Tells_shows_v4 (L : Nat → Option Fn) : TT L 126 = some ir_Tells_shows_v4 := rfl
@[reducible] def f_Mistaken_shows_v4 : Nat := 127
theorem t_Mistaken_shows_v4 (L : Nat → Option Fn) : TT L 127 = some ir_Mistaken_shows_v4 := rfl
@[reducible] def f_Apart_shows_v3 : Nat := 128
theorem t_Apart_shows_v3 (L : Nat → Option Fn) : TT L 128 = some ir_Apart_shows_v3 := rfl
@[reducible] def f_Mixed_shows_v3 : Nat := 129
theorem t_Mixed_shows_v3 (L : Nat → Option Fn) : TT L 129 = some ir_Mixed_shows_v3 := rfl
@[reducible] def f_NoBodies_shows_v3 : Nat := 130
theorem t_NoBodies_shows_v3 (L : Nat → Option Fn) : TT L 130 = some ir_NoBodies_shows_v3 := rfl
@[reducible] def f_Desk_telling : Nat := 131
theorem t_Desk_telling (L : Nat → Option Fn) : TT L 131 = some ir_Desk_telling := rfl
@[reducible] def f_View_has : Nat := 132
theorem t_View_has (L : Nat → Option Fn) : TT L 132 = some ir_View_has := rfl
/-- how often a while may go round -/
def FU : Nat := 100000
end SK

set_option linter.all false
/-! the law's own defs; printed by gen.py. -/
namespace SK
def ir_law_k48 : Fn := ⟨[false], 15, [.own 1 (.op (.lst [false, false]) [.var 0, .cst (.int 0)]),
    .for_ (.var 2) .range1 [.cst (.int 12)] [.unp (.tup [.var 3, .var 4, .var 5, .var 6]) (.comp [7] (.call 27 [true] [.io 1]) (.var 7) .range1 [.cst (.int 4)] [] []),
    .ifs (.or_ (.tr (.op .ne [.call 8 [false, false] [.call 9 [false, false] [.var 3, .var 4], .call 9 [false, false] [.var 5, .var 6]], .op .sub [.op .mul [.call 8 [false, false] [.var 3, .var 5], .call 8 [false, false] [.var 4, .var 6]], .op .mul [.call 8 [false, false] [.var 3, .var 6], .call 8 [false, false] [.var 4, .var 5]]]])) (.or_ (.tr (.op .ne [.call 8 [false, false] [.call 9 [false, false] [.var 3, .var 4], .var 3], .cst (.int 0)])) (.tr (.op .ne [.op .tuple [.call 9 [false, false] [.var 3, .var 4]], .op .tuple [.call 12 [false, false] [.op .sub [.cst (.int 0), .cst (.int 1)], .call 9 [false, false] [.var 4, .var 3]]]])))) [.ret (.cst (.bl false))] [],
    .ifs (.or_ (.tr (.op .ne [.op .tuple [.call 11 [false, false] [.call 11 [false, false] [.call 9 [false, false] [.var 3, .call 9 [false, false] [.var 4, .var 5]], .call 9 [false, false] [.var 4, .call 9 [false, false] [.var 5, .var 3]]], .call 9 [false, false] [.var 5, .call 9 [false, false] [.var 3, .var 4]]]], .op .tup [.cst (.int 0), .cst (.int 0), .cst (.int 0)]])) (.or_ (.tr (.op .ne [.call 10 [false, false, false] [.var 3, .var 4, .var 5], .call 10 [false, false, false] [.var 4, .var 5, .var 3]])) (.or_ (.tr (.op .ne [.call 10 [false, false, false] [.var 3, .var 4, .var 5], .op .sub [.cst (.int 0), .call 10 [false, false, false] [.var 4, .var 3, .var 5]]])) (.tr (.op .ne [.call 10 [false, false, false] [.var 3, .var 4, .call 11 [false, false] [.var 5, .call 12 [false, false] [.cst (.int 3), .var 3]]], .call 10 [false, false, false] [.var 3, .var 4, .var 5]]))))) [.ret (.cst (.bl false))] [],
    .set 8 (.op .add [.call 8 [false, false] [.call 9 [false, false] [.var 3, .var 4], .call 9 [false, false] [.var 3, .var 4]], .op .mul [.call 8 [false, false] [.var 3, .var 4], .call 8 [false, false] [.var 3, .var 4]]]),
    .ifs (.or_ (.tr (.op .ne [.var 8, .op .mul [.call 8 [false, false] [.var 3, .var 3], .call 8 [false, false] [.var 4, .var 4]]])) (.or_ (.tr (.op .ne [.op .isN [.call 14 [false] [.var 8]], .op .isN [.call 15 [false, false] [.var 3, .var 4]]])) (.tr (.op .ne [.call 13 [false, false] [.var 3, .var 4], .op .eq [.op .mul [.call 8 [false, false] [.var 3, .var 4], .call 8 [false, false] [.var 3, .var 4]], .var 8]])))) [.ret (.cst (.bl false))] [],
    .unp (.tup [.var 9, .var 10, .var 11]) (.op .tup [.call 15 [false, false] [.var 3, .var 4], .call 15 [false, false] [.var 4, .var 5], .call 15 [false, false] [.var 3, .var 5]]),
    .ifs (.and_ (.tr (.op .notN [.var 9])) (.and_ (.tr (.op .notN [.var 10])) (.or_ (.tr (.op .isN [.var 11])) (.tr (.op .ne [.op .mul [.op .mul [.op .idx [.var 11, .cst (.int 0)], .op .idx [.var 9, .cst (.int 1)]], .op .idx [.var 10, .cst (.int 1)]], .op .mul [.op .mul [.op .idx [.var 9, .cst (.int 0)], .op .idx [.var 10, .cst (.int 0)]], .op .idx [.var 11, .cst (.int 1)]]]))))) [.ret (.cst (.bl false))] [],
    .ifs (.and_ (.tr (.op .notN [.var 9])) (.or_ (.tr (.op .ne [.call 15 [false, false] [.var 4, .var 3], .op .tup [.op .idx [.var 9, .cst (.int 1)], .op .idx [.var 9, .cst (.int 0)]]])) (.or_ (.tr (.op .ne [.op .mul [.op .idx [.call 15 [false, false] [.call 12 [false, false] [.cst (.int 2), .var 3], .var 4], .cst (.int 0)], .op .idx [.var 9, .cst (.int 1)]], .op .mul [.op .mul [.cst (.int 2), .op .idx [.var 9, .cst (.int 0)]], .op .idx [.call 15 [false, false] [.call 12 [false, false] [.cst (.int 2), .var 3], .var 4], .cst (.int 1)]]])) (.tr (.op .ne [.op .mul [.op .mul [.op .idx [.var 9, .cst (.int 0)], .op .idx [.var 9, .cst (.int 0)]], .call 8 [false, false] [.var 4, .var 4]], .op .mul [.op .mul [.op .idx [.var 9, .cst (.int 1)], .op .idx [.var 9, .cst (.int 1)]], .call 8 [false, false] [.var 3, .var 3]]]))))) [.ret (.cst (.bl false))] [],
    .set 12 (.op .add [.cst (.int 1), .call 21 [true, false] [.io 1, .cst (.int 6)]]),
    .ifs (.or_ (.tr (.op .ne [.call 5 [false] [.call 12 [false, false] [.var 12, .var 3]], .call 5 [false] [.var 3]])) (.or_ (.not (.tr (.call 6 [false, false] [.call 12 [false, false] [.var 12, .var 3], .var 3]))) (.or_ (.tr (.op .ne [.call 5 [false] [.call 7 [false] [.var 3]], .call 7 [false] [.var 3]])) (.or_ (.tr (.op .ne [.call 7 [false] [.call 7 [false] [.var 3]], .call 5 [false] [.var 3]])) (.tr (.op .ne [.call 18 [false, false] [.var 3, .call 7 [false] [.var 4]], .op .sub [.cst (.int 0), .call 18 [false, false] [.var 3, .var 4]]])))))) [.ret (.cst (.bl false))] [],
    .ifs (.not (.tr (.call 13 [false, false] [.var 3, .var 4]))) [.set 13 (.call 11 [false, false] [.call 12 [false, false] [.var 12, .var 3], .call 12 [false, false] [.op .add [.cst (.int 1), .call 21 [true, false] [.io 1, .cst (.int 6)]], .var 4]]),
    .ifs (.or_ (.not (.tr (.call 19 [false, false, false] [.var 3, .var 13, .var 4]))) (.or_ (.not (.tr (.call 19 [false, false, false] [.var 4, .var 13, .var 3]))) (.or_ (.tr (.call 19 [false, false, false] [.var 3, .call 7 [false] [.var 13], .var 4])) (.or_ (.tr (.call 19 [false, false, false] [.var 13, .var 3, .var 4])) (.or_ (.tr (.call 19 [false, false, false] [.var 3, .var 3, .var 4])) (.tr (.call 19 [false, false, false] [.var 3, .call 9 [false, false] [.var 3, .var 4], .var 4]))))))) [.ret (.cst (.bl false))] [],
    .ifs (.or_ (.not (.tr (.call 16 [false, false, false, false] [.var 3, .var 4, .call 12 [false, false] [.var 12, .var 3], .call 12 [false, false] [.cst (.int 2), .var 4]]))) (.or_ (.and_ (.not (.tr (.call 16 [false, false, false, false] [.var 3, .var 4, .var 4, .var 3]))) (.tr (.op .notN [.call 15 [false, false] [.var 3, .var 4]]))) (.and_ (.tr (.call 16 [false, false, false, false] [.var 3, .var 4, .var 3, .call 7 [false] [.var 4]])) (.tr (.op .ne [.call 8 [false, false] [.var 3, .var 4], .cst (.int 0)]))))) [.ret (.cst (.bl false))] []] []],
    .ret (.op .eq [.comp [14] (.call 14 [false] [.var 14]) (.var 14) .range1 [.cst (.int 17)] [] [], .op (.lst [false, false, false, false, false, false, false, false, false, false, false, false, false, false, false, false, false]) [.cst (.int 0), .cst (.int 1), .cst .non, .cst .non, .cst (.int 2), .cst .non, .cst .non, .cst .non, .cst .non, .cst (.int 3), .cst .non, .cst .non, .cst .non, .cst .non, .cst .non, .cst .non, .cst (.int 4)]])]⟩
@[reducible] def f_law_k48 : Nat := 1000
def L_k48 (i : Nat) : Option Fn := [some ir_law_k48].getD (i - 1000) none
theorem t_law_k48 : TT L_k48 1000 = some ir_law_k48 := rfl
end SK

set_option linter.all false
set_option maxRecDepth 100000
set_option autoImplicit false
namespace SK
/-! loops, kept shut -/
def wloop (Φ : Nat → List D → CRes) (F : Nat) (c : Te) (b : List St) (e : Env) : Out := whileN (tst Φ c) (exes Φ F b) F e
theorem exe_whl {Φ : Nat → List D → CRes} {F : Nat} {c : Te} {b : List St} {e : Env} : exe Φ F (.whl c b) e = wloop Φ F c b e := by rw [exe]; rfl
def fbody (Φ : Nat → List D → CRes) (F : Nat) (t : Tg) (b : List St) (x : D) (e : Env) : Out := match asg t x e with
  | some e3 => exes Φ F b e3
  | none => .bad
def floop (Φ : Nat → List D → CRes) (F : Nat) (t : Tg) (b : List St) (xs : List D) (e : Env) : Out := forL (fbody Φ F t b) xs e
theorem exe_for {Φ : Nat → List D → CRes} {F : Nat} {t : Tg} {k : ItK} {es : List Ex} {b : List St} {e : Env} : exe Φ F (.for_ t k es b) e = (evs Φ es e).out fun os e1 => match itEnd k e1 os with
  | some xs => floop Φ F t b xs e1
  | none => .bad := by rw [exe]; rfl
/-- bounds -/
class Bd (n : outParam Nat) (x : Int) : Prop where
  b : x.natAbs < 2 ^ n
theorem log2_lt_of {n x : Nat} (h : x < 2 ^ n) : x.log2 ≤ n := by
  rcases Nat.eq_zero_or_pos x with e | e
  · subst e; simp
  · exact Nat.le_of_lt ((Nat.log2_lt (by omega)).mpr h)
theorem mulOk_bd {n m : Nat} {x y : Int} [hx : Bd n x] [hy : Bd m y] (h : n + m < 1000000) : mulOk x y = true := by
  have a := log2_lt_of hx.b
  have b := log2_lt_of hy.b
  unfold mulOk
  simp only [Bool.or_eq_true, decide_eq_true_eq]
  right
  omega
theorem mulOk_r {x y : Int} (h : y.natAbs < 18446744073709551616) : mulOk x y = true := by
  unfold mulOk
  simp [h]
theorem divOk_bd {n : Nat} {x : Int} [hx : Bd n x] (h : n < 9000) (hp : 0 < x) : divOk x = true := by
  have a := log2_lt_of hx.b
  unfold divOk
  simp only [Bool.and_eq_true, decide_eq_true_eq]
  exact ⟨hp, by omega⟩
instance bd_mul {n m : Nat} {x y : Int} [hx : Bd n x] [hy : Bd m y] : Bd (n + m) (x * y) := ⟨by
  rw [Int.natAbs_mul, Nat.pow_add]
  exact Nat.mul_lt_mul'' hx.b hy.b⟩
theorem pow_le {n m : Nat} (h : n ≤ m) : 2 ^ n ≤ 2 ^ m := Nat.pow_le_pow_right (by omega) h
theorem bd_two {n m : Nat} (a b : Nat) (ha : a < 2 ^ n) (hb : b < 2 ^ m) : a + b < 2 ^ (n + m + 1) := by
  have h1 : 2 ^ n ≤ 2 ^ (n + m) := pow_le (by omega)
  have h2 : 2 ^ m ≤ 2 ^ (n + m) := pow_le (by omega)
  rw [Nat.pow_succ]
  omega
instance bd_add {n m : Nat} {x y : Int} [hx : Bd n x] [hy : Bd m y] : Bd (n + m + 1) (x + y) := ⟨by
  have := bd_two _ _ hx.b hy.b
  omega⟩
instance bd_sub {n m : Nat} {x y : Int} [hx : Bd n x] [hy : Bd m y] : Bd (n + m + 1) (x - y) := ⟨by
  have := bd_two _ _ hx.b hy.b
  omega⟩
instance bd_neg {n : Nat} {x : Int} [hx : Bd n x] : Bd n (-x) := ⟨by
  have := hx.b
  omega⟩
instance bd_0 : Bd 4 (0 : Int) := ⟨by decide⟩
instance bd_1 : Bd 4 (1 : Int) := ⟨by decide⟩
instance bd_2 : Bd 4 (2 : Int) := ⟨by decide⟩
instance bd_3 : Bd 4 (3 : Int) := ⟨by decide⟩
instance bd_4 : Bd 4 (4 : Int) := ⟨by decide⟩
instance bd_5 : Bd 4 (5 : Int) := ⟨by decide⟩
instance bd_6 : Bd 4 (6 : Int) := ⟨by decide⟩
instance bd_7 : Bd 4 (7 : Int) := ⟨by decide⟩
instance bd_8 : Bd 4 (8 : Int) := ⟨by decide⟩
instance bd_9 : Bd 4 (9 : Int) := ⟨by decide⟩
instance bd_10 : Bd 4 (10 : Int) := ⟨by decide⟩
instance bd_11 : Bd 4 (11 : Int) := ⟨by decide⟩
instance bd_12 : Bd 4 (12 : Int) := ⟨by decide⟩
theorem Bd.mono {n m : Nat} {x : Int} (h : Bd n x) (l : n ≤ m) : Bd m x := ⟨Nat.lt_of_lt_of_le h.b (pow_le l)⟩
theorem Bd.le {n : Nat} {x y : Int} (h : Bd n y) (l : x.natAbs ≤ y.natAbs) : Bd n x := ⟨Nat.lt_of_le_of_lt l h.b⟩
/-! vectors -/
structure V3 where
  x : Int
  y : Int
  z : Int
  deriving DecidableEq
def V3.d (a : V3) : D := .tup [.int a.x, .int a.y, .int a.z]
def V3.dot (a b : V3) : Int := a.x * b.x + (a.y * b.y + a.z * b.z)
def V3.cr (a b : V3) : V3 := ⟨a.y * b.z - a.z * b.y, a.z * b.x - a.x * b.z, a.x * b.y - a.y * b.x⟩
def V3.add (a b : V3) : V3 := ⟨a.x + b.x, a.y + b.y, a.z + b.z⟩
def V3.sm (n : Int) (a : V3) : V3 := ⟨n * a.x, n * a.y, n * a.z⟩
def V3.neg (a : V3) : V3 := ⟨-a.x, -a.y, -a.z⟩
def V3.quo (a : V3) (n : Int) : V3 := ⟨a.x / n, a.y / n, a.z / n⟩
def V3.g (a : V3) : Int := Int.gcd (Int.gcd a.x a.y) a.z
abbrev O3 : V3 := ⟨0, 0, 0⟩
class Bv (n : outParam Nat) (a : V3) : Prop where
  x : Bd n a.x
  y : Bd n a.y
  z : Bd n a.z
instance bv_x {n : Nat} {a : V3} [h : Bv n a] : Bd n a.x := h.x
instance bv_y {n : Nat} {a : V3} [h : Bv n a] : Bd n a.y := h.y
instance bv_z {n : Nat} {a : V3} [h : Bv n a] : Bd n a.z := h.z
instance bv_cr {n m : Nat} {a b : V3} [Bv n a] [Bv m b] : Bv (n + m + (n + m) + 1) (a.cr b) := ⟨by unfold V3.cr; infer_instance, by unfold V3.cr; infer_instance, by unfold V3.cr; infer_instance⟩
instance bv_add {n m : Nat} {a b : V3} [Bv n a] [Bv m b] : Bv (n + m + 1) (a.add b) := ⟨by unfold V3.add; infer_instance, by unfold V3.add; infer_instance, by unfold V3.add; infer_instance⟩
instance bv_sm {n m : Nat} {i : Int} {b : V3} [Bd n i] [Bv m b] : Bv (n + m) (b.sm i) := ⟨by unfold V3.sm; infer_instance, by unfold V3.sm; infer_instance, by unfold V3.sm; infer_instance⟩
instance bv_neg {n : Nat} {a : V3} [Bv n a] : Bv n a.neg := ⟨by unfold V3.neg; infer_instance, by unfold V3.neg; infer_instance, by unfold V3.neg; infer_instance⟩
theorem quo_le (x g : Int) : (x / g).natAbs ≤ x.natAbs := by
  exact Int.natAbs_ediv_le_natAbs x g
instance bv_quo {n : Nat} {i : Int} {b : V3} [Bv n b] : Bv n (b.quo i) := ⟨(bv_x (a := b)).le (quo_le _ _), (bv_y (a := b)).le (quo_le _ _), (bv_z (a := b)).le (quo_le _ _)⟩
instance bv_dot {n m : Nat} {a b : V3} [Bv n a] [Bv m b] : Bd (n + m + (n + m + (n + m) + 1) + 1) (a.dot b) := by unfold V3.dot; infer_instance
/-! vectors as values -/
theorem tup3 (x y z : Int) : D.tup [.int x, .int y, .int z] = (V3.mk x y z).d := rfl
theorem eq3 (a b : V3) : eqD a.d b.d = some (decide (a = b)) := by
  obtain ⟨a1, a2, a3⟩ := a
  obtain ⟨b1, b2, b3⟩ := b
  simp [eqD, V3.d, D.pl, D.pls, D.eqv, D.eqvs, V3.mk.injEq]
theorem eqI (a b : Int) : eqD (.int a) (.int b) = some (decide (a = b)) := by simp [eqD, D.pl, D.eqv]
theorem eqB (a b : Bool) : eqD (.bl a) (.bl b) = some (a == b) := by simp [eqD, D.pl, D.eqv]
theorem eq2 (a b x y : Int) : eqD (.tup [.int a, .int b]) (.tup [.int x, .int y]) = some (decide (a = x) && decide (b = y)) := by simp [eqD, D.pl, D.pls, D.eqv, D.eqvs]
theorem tuple3 (a : V3) : tupleD a.d = some a.d := rfl
theorem idx0 (a : V3) : idxD a.d (.int 0) = some (.int a.x) := rfl
theorem idx1 (a : V3) : idxD a.d (.int 1) = some (.int a.y) := rfl
theorem idx2 (a : V3) : idxD a.d (.int 2) = some (.int a.z) := rfl
section
variable {L : Nat → Option Fn} {k : Nat}
theorem sp_dot {n m : Nat} {a b : V3} [Bv n a] [Bv m b] (h : n + m < 1000000) : callF (TT L) FU (k + 1) f_dot [a.d, b.d] = .ret (.st (.int (a.dot b))) [] := by
  rw [callF, f_dot, t_dot]
  simp [h, ir_dot, V3.d, V3.dot, evFn, exes, exe.eq_1, exe.eq_2, exe.eq_3, exe.eq_4, exe.eq_5, exe.eq_6, exe.eq_7, exe.eq_8, exe.eq_9, exe.eq_10, exe.eq_13, exe.eq_14, exe.eq_15, exe.eq_16, exe.eq_17, exe_whl, exe_for, ev, evs, Res.bind, Res.val, Res.vout, Res.out, Out.seq, getV, getB, getO, opEnd, keepOk, keepFs, rds, rd, Rv.opd, itEnd, Opd.isV, itEval, zipIt, seqIt, range1It, range2It, enumIt, pairD, plainAt, initE, compEnd, compL, asg, asgs, wipe, tst, tsts, gens, opEval, rvOf, opFresh, SZ, back, fnEnd, outsOf, patOk, nodupB, ios, callEnd, wrs, truth, spread, addD, subD, mulD, fdivD, modD, powD, negD, absD, toIntD, ltD, gtD, geD, leD, notD, idxD, lenD, sumD, tupleD, listD, anyD, allD, isInt, isBool, isTup, isN, ixN, ints?, bools?, lstAt, intOf, idxOf, mulOk_bd, divOk_bd]
theorem sp_cross {n m : Nat} {a b : V3} [Bv n a] [Bv m b] (h : n + m < 1000000) : callF (TT L) FU (k + 1) f_cross [a.d, b.d] = .ret (.st (a.cr b).d) [] := by
  rw [callF, f_cross, t_cross]
  simp [h, ir_cross, V3.d, V3.cr, evFn, exes, exe.eq_1, exe.eq_2, exe.eq_3, exe.eq_4, exe.eq_5, exe.eq_6, exe.eq_7, exe.eq_8, exe.eq_9, exe.eq_10, exe.eq_13, exe.eq_14, exe.eq_15, exe.eq_16, exe.eq_17, exe_whl, exe_for, ev, evs, Res.bind, Res.val, Res.vout, Res.out, Out.seq, getV, getB, getO, opEnd, keepOk, keepFs, rds, rd, Rv.opd, itEnd, Opd.isV, itEval, zipIt, seqIt, range1It, range2It, enumIt, pairD, plainAt, initE, compEnd, compL, asg, asgs, wipe, tst, tsts, gens, opEval, rvOf, opFresh, SZ, back, fnEnd, outsOf, patOk, nodupB, ios, callEnd, wrs, truth, spread, addD, subD, mulD, fdivD, modD, powD, negD, absD, toIntD, ltD, gtD, geD, leD, notD, idxD, lenD, sumD, tupleD, listD, anyD, allD, isInt, isBool, isTup, isN, ixN, ints?, bools?, lstAt, intOf, idxOf, mulOk_bd, divOk_bd]
theorem sp_det {n m l : Nat} {a b c : V3} [Bv n a] [Bv m b] [Bv l c] (h : n + m + (n + m) + 1 + l < 1000000) : callF (TT L) FU (k + 2) f_det [a.d, b.d, c.d] = .ret (.st (.int ((a.cr b).dot c))) [] := by
  rw [callF, f_det, t_det]
  have h1 : n + m < 1000000 := by omega
  simp [h, h1, ir_det, sp_dot, sp_cross, evFn, exes, exe.eq_1, exe.eq_2, exe.eq_3, exe.eq_4, exe.eq_5, exe.eq_6, exe.eq_7, exe.eq_8, exe.eq_9, exe.eq_10, exe.eq_13, exe.eq_14, exe.eq_15, exe.eq_16, exe.eq_17, exe_whl, exe_for, ev, evs, Res.bind, Res.val, Res.vout, Res.out, Out.seq, getV, getB, getO, opEnd, keepOk, keepFs, rds, rd, Rv.opd, itEnd, Opd.isV, itEval, zipIt, seqIt, range1It, range2It, enumIt, pairD, plainAt, initE, compEnd, compL, asg, asgs, wipe, tst, tsts, gens, opEval, rvOf, opFresh, SZ, back, fnEnd, outsOf, patOk, nodupB, ios, callEnd, wrs, truth, spread, addD, subD, mulD, fdivD, modD, powD, negD, absD, toIntD, ltD, gtD, geD, leD, notD, idxD, lenD, sumD, tupleD, listD, anyD, allD, isInt, isBool, isTup, isN, ixN, ints?, bools?, lstAt, intOf, idxOf, mulOk_bd, divOk_bd]
theorem sp_plus {a b : V3} : callF (TT L) FU (k + 1) f_plus [a.d, b.d] = .ret (.st (a.add b).d) [] := by
  rw [callF, f_plus, t_plus]
  simp [ir_plus, V3.d, V3.add, evFn, exes, exe.eq_1, exe.eq_2, exe.eq_3, exe.eq_4, exe.eq_5, exe.eq_6, exe.eq_7, exe.eq_8, exe.eq_9, exe.eq_10, exe.eq_13, exe.eq_14, exe.eq_15, exe.eq_16, exe.eq_17, exe_whl, exe_for, ev, evs, Res.bind, Res.val, Res.vout, Res.out, Out.seq, getV, getB, getO, opEnd, keepOk, keepFs, rds, rd, Rv.opd, itEnd, Opd.isV, itEval, zipIt, seqIt, range1It, range2It, enumIt, pairD, plainAt, initE, compEnd, compL, asg, asgs, wipe, tst, tsts, gens, opEval, rvOf, opFresh, SZ, back, fnEnd, outsOf, patOk, nodupB, ios, callEnd, wrs, truth, spread, addD, subD, mulD, fdivD, modD, powD, negD, absD, toIntD, ltD, gtD, geD, leD, notD, idxD, lenD, sumD, tupleD, listD, anyD, allD, isInt, isBool, isTup, isN, ixN, ints?, bools?, lstAt, intOf, idxOf, mulOk_bd, divOk_bd]
theorem sp_times {n m : Nat} {i : Int} {b : V3} [Bd n i] [Bv m b] (h : n + m < 1000000) : callF (TT L) FU (k + 1) f_times [.int i, b.d] = .ret (.st (b.sm i).d) [] := by
  rw [callF, f_times, t_times]
  simp [h, ir_times, V3.d, V3.sm, evFn, exes, exe.eq_1, exe.eq_2, exe.eq_3, exe.eq_4, exe.eq_5, exe.eq_6, exe.eq_7, exe.eq_8, exe.eq_9, exe.eq_10, exe.eq_13, exe.eq_14, exe.eq_15, exe.eq_16, exe.eq_17, exe_whl, exe_for, ev, evs, Res.bind, Res.val, Res.vout, Res.out, Out.seq, getV, getB, getO, opEnd, keepOk, keepFs, rds, rd, Rv.opd, itEnd, Opd.isV, itEval, zipIt, seqIt, range1It, range2It, enumIt, pairD, plainAt, initE, compEnd, compL, asg, asgs, wipe, tst, tsts, gens, opEval, rvOf, opFresh, SZ, back, fnEnd, outsOf, patOk, nodupB, ios, callEnd, wrs, truth, spread, addD, subD, mulD, fdivD, modD, powD, negD, absD, toIntD, ltD, gtD, geD, leD, notD, idxD, lenD, sumD, tupleD, listD, anyD, allD, isInt, isBool, isTup, isN, ixN, ints?, bools?, lstAt, intOf, idxOf, mulOk_bd, divOk_bd]
theorem sp_line {n m : Nat} {a b : V3} [Bv n a] [Bv m b] (h : n + m < 1000000) : callF (TT L) FU (k + 2) f_is_on_line [a.d, b.d] = .ret (.st (.bl (decide (a.cr b = O3)))) [] := by
  rw [callF, f_is_on_line, t_is_on_line]
  simp [h, ir_is_on_line, sp_cross, tup3, eq3, evFn, exes, exe.eq_1, exe.eq_2, exe.eq_3, exe.eq_4, exe.eq_5, exe.eq_6, exe.eq_7, exe.eq_8, exe.eq_9, exe.eq_10, exe.eq_13, exe.eq_14, exe.eq_15, exe.eq_16, exe.eq_17, exe_whl, exe_for, ev, evs, Res.bind, Res.val, Res.vout, Res.out, Out.seq, getV, getB, getO, opEnd, keepOk, keepFs, rds, rd, Rv.opd, itEnd, Opd.isV, itEval, zipIt, seqIt, range1It, range2It, enumIt, pairD, plainAt, initE, compEnd, compL, asg, asgs, wipe, tst, tsts, gens, opEval, rvOf, opFresh, SZ, back, fnEnd, outsOf, patOk, nodupB, ios, callEnd, wrs, truth, spread, addD, subD, mulD, fdivD, modD, powD, negD, absD, toIntD, ltD, gtD, geD, leD, notD, idxD, lenD, sumD, tupleD, listD, anyD, allD, isInt, isBool, isTup, isN, ixN, ints?, bools?, lstAt, intOf, idxOf, mulOk_bd, divOk_bd]
theorem sp_is_integer {i : Int} : callF (TT L) FU (k + 1) f_is_integer [.int i] = .ret (.st (.bl true)) [] := by
  rw [callF, f_is_integer, t_is_integer]
  simp [ir_is_integer, evFn, exes, exe.eq_1, exe.eq_2, exe.eq_3, exe.eq_4, exe.eq_5, exe.eq_6, exe.eq_7, exe.eq_8, exe.eq_9, exe.eq_10, exe.eq_13, exe.eq_14, exe.eq_15, exe.eq_16, exe.eq_17, exe_whl, exe_for, ev, evs, Res.bind, Res.val, Res.vout, Res.out, Out.seq, getV, getB, getO, opEnd, keepOk, keepFs, rds, rd, Rv.opd, itEnd, Opd.isV, itEval, zipIt, seqIt, range1It, range2It, enumIt, pairD, plainAt, initE, compEnd, compL, asg, asgs, wipe, tst, tsts, gens, opEval, rvOf, opFresh, SZ, back, fnEnd, outsOf, patOk, nodupB, ios, callEnd, wrs, truth, spread, addD, subD, mulD, fdivD, modD, powD, negD, absD, toIntD, ltD, gtD, geD, leD, notD, idxD, lenD, sumD, tupleD, listD, anyD, allD, isInt, isBool, isTup, isN, ixN, ints?, bools?, lstAt, intOf, idxOf, mulOk_bd, divOk_bd]
theorem ne3 (a b : V3) : eqD (.tup [.int a.x, .int a.y, .int a.z]) (.tup [.int b.x, .int b.y, .int b.z]) = some (decide (a = b)) := eq3 a b
theorem sp_is_triple {a : V3} : callF (TT L) FU (k + 2) f_is_triple [a.d] = .ret (.st (.bl (decide (a ≠ O3)))) [] := by
  rw [callF, f_is_triple, t_is_triple]
  have e := ne3 a O3
  simp at e
  simp [ir_is_triple, sp_is_integer, V3.d, eqI, e, evFn, exes, exe.eq_1, exe.eq_2, exe.eq_3, exe.eq_4, exe.eq_5, exe.eq_6, exe.eq_7, exe.eq_8, exe.eq_9, exe.eq_10, exe.eq_13, exe.eq_14, exe.eq_15, exe.eq_16, exe.eq_17, exe_whl, exe_for, ev, evs, Res.bind, Res.val, Res.vout, Res.out, Out.seq, getV, getB, getO, opEnd, keepOk, keepFs, rds, rd, Rv.opd, itEnd, Opd.isV, itEval, zipIt, seqIt, range1It, range2It, enumIt, pairD, plainAt, initE, compEnd, compL, asg, asgs, wipe, tst, tsts, gens, opEval, rvOf, opFresh, SZ, back, fnEnd, outsOf, patOk, nodupB, ios, callEnd, wrs, truth, spread, addD, subD, mulD, fdivD, modD, powD, negD, absD, toIntD, ltD, gtD, geD, leD, notD, idxD, lenD, sumD, tupleD, listD, anyD, allD, isInt, isBool, isTup, isN, ixN, ints?, bools?, lstAt, intOf, idxOf, mulOk_bd, divOk_bd]
theorem sp_check {a : V3} {d : D} (h : a ≠ O3) : callF (TT L) FU (k + 3) f_check_triple [d, a.d] = .ret (.st .non) [] := by
  rw [callF, f_check_triple, t_check_triple]
  simp [ir_check_triple, sp_is_triple, h, evFn, exes, exe.eq_1, exe.eq_2, exe.eq_3, exe.eq_4, exe.eq_5, exe.eq_6, exe.eq_7, exe.eq_8, exe.eq_9, exe.eq_10, exe.eq_13, exe.eq_14, exe.eq_15, exe.eq_16, exe.eq_17, exe_whl, exe_for, ev, evs, Res.bind, Res.val, Res.vout, Res.out, Out.seq, getV, getB, getO, opEnd, keepOk, keepFs, rds, rd, Rv.opd, itEnd, Opd.isV, itEval, zipIt, seqIt, range1It, range2It, enumIt, pairD, plainAt, initE, compEnd, compL, asg, asgs, wipe, tst, tsts, gens, opEval, rvOf, opFresh, SZ, back, fnEnd, outsOf, patOk, nodupB, ios, callEnd, wrs, truth, spread, addD, subD, mulD, fdivD, modD, powD, negD, absD, toIntD, ltD, gtD, geD, leD, notD, idxD, lenD, sumD, tupleD, listD, anyD, allD, isInt, isBool, isTup, isN, ixN, ints?, bools?, lstAt, intOf, idxOf, mulOk_bd, divOk_bd]
theorem sp_size {n m : Nat} {a b : V3} [Bv n a] [Bv m b] (h : 6 * (n + m) + 4 < 1000000) : callF (TT L) FU (k + 2) f_size_of [a.d, b.d] = .ret (.st (.int (a.dot a * b.dot b))) [] := by
  rw [callF, f_size_of, t_size_of]
  have h1 : n + n < 1000000 := by omega
  have h2 : m + m < 1000000 := by omega
  have h3 : n + n + (n + n + (n + n) + 1) + 1 + (m + m + (m + m + (m + m) + 1) + 1) < 1000000 := by omega
  simp [h1, h2, h3, ir_size_of, sp_dot, evFn, exes, exe.eq_1, exe.eq_2, exe.eq_3, exe.eq_4, exe.eq_5, exe.eq_6, exe.eq_7, exe.eq_8, exe.eq_9, exe.eq_10, exe.eq_13, exe.eq_14, exe.eq_15, exe.eq_16, exe.eq_17, exe_whl, exe_for, ev, evs, Res.bind, Res.val, Res.vout, Res.out, Out.seq, getV, getB, getO, opEnd, keepOk, keepFs, rds, rd, Rv.opd, itEnd, Opd.isV, itEval, zipIt, seqIt, range1It, range2It, enumIt, pairD, plainAt, initE, compEnd, compL, asg, asgs, wipe, tst, tsts, gens, opEval, rvOf, opFresh, SZ, back, fnEnd, outsOf, patOk, nodupB, ios, callEnd, wrs, truth, spread, addD, subD, mulD, fdivD, modD, powD, negD, absD, toIntD, ltD, gtD, geD, leD, notD, idxD, lenD, sumD, tupleD, listD, anyD, allD, isInt, isBool, isTup, isN, ixN, ints?, bools?, lstAt, intOf, idxOf, mulOk_bd, divOk_bd]
end
end SK

set_option linter.all false
set_option maxRecDepth 100000
set_option autoImplicit false
namespace SK
/-! gcd -/
theorem gcd_emod (x y : Int) : Int.gcd (x % y) y = Int.gcd x y := by
  have h := Int.gcd_add_mul_left_left y (x % y) (x / y)
  rw [Int.emod_add_mul_ediv] at h
  exact h.symm
theorem wh_common {c : Env → Res Bool} {b : Env → Out} (hc : ∀ x y : Int, c [.val (.int x), .val (.int y)] = .ok (decide (0 < y)) [.val (.int x), .val (.int y)]) (hb : ∀ x y : Int, 0 < y → b [.val (.int x), .val (.int y)] = .nx [.val (.int y), .val (.int (x % y))]) :
    ∀ (j N : Nat) (x y : Int), 0 ≤ x → 0 ≤ y → y.toNat < 2 ^ j → 2 * j + 2 ≤ N → whileN c b N [.val (.int x), .val (.int y)] = .nx [.val (.int (Int.gcd x y)), .val (.int 0)]
  | 0, N + 1, x, y, hx, hy, h, hN => by
    have e : y = 0 := by simp at h; omega
    subst e
    have : ((Int.gcd x 0 : Nat) : Int) = x := by simp; omega
    simp [whileN, hc, Res.out, this]
    omega
  | j + 1, N + 2, x, y, hx, hy, h, hN => by
    by_cases e : y = 0
    · subst e
      simp [whileN, hc, Res.out]
      omega
    · have y0 : 0 < y := by omega
      by_cases e2 : x % y = 0
      · have : ((Int.gcd x y : Nat) : Int) = y := by
          rw [Int.gcd_comm, Int.gcd_eq_left_iff_dvd (by omega) |>.mpr (Int.dvd_of_emod_eq_zero e2)]
        simp [whileN, hc, hb x y y0, y0, Res.out, e2]
        omega
      · have r0 : 0 < x % y := by have := Int.emod_nonneg x (show y ≠ 0 by omega); omega
        have r1 : x % y < y := Int.emod_lt_of_pos x y0
        have r2 : 0 ≤ y % (x % y) := Int.emod_nonneg y (by omega)
        have r3 : y % (x % y) < x % y := Int.emod_lt_of_pos y r0
        have r4 : (x % y) * 1 ≤ (x % y) * (y / (x % y)) := Int.mul_le_mul_of_nonneg_left (by have := Int.ediv_pos_of_pos_of_dvd (a := y) (b := x % y); exact (Int.le_ediv_iff_mul_le r0).mpr (by omega)) (by omega)
        have r5 := Int.mul_ediv_add_emod y (x % y)
        have ih := wh_common hc hb j N (x % y) (y % (x % y)) (by omega) r2 (by
          rw [Nat.pow_succ] at h
          omega) (by omega)
        have g1 : Int.gcd (x % y) (y % (x % y)) = Int.gcd x y := by
          rw [Int.gcd_comm (x % y), gcd_emod, Int.gcd_comm, gcd_emod]
        rw [g1] at ih
        simp [whileN, hc, hb x y y0, hb y (x % y) r0, y0, r0, Res.out, ih]
section
variable {L : Nat → Option Fn} {k : Nat}
theorem sp_common {m : Nat} {a b : Int} [hb : Bd m b] (h : m < 49000) : callF (TT L) FU (k + 1) f_common [.int a, .int b] = .ret (.st (.int (Int.gcd a b))) [] := by
  have g1 : 0 ≤ (if a < 0 then -a else a) := by split <;> omega
  have g2 : 0 ≤ (if b < 0 then -b else b) := by split <;> omega
  have e := hb.b
  have w := wh_common (c := tst (callF (TT L) FU k) (.tr (.op .gt [.var 1, .cst (.int 0)]))) (b := exes (callF (TT L) FU k) FU [.unp (.tup [.var 0, .var 1]) (.op .tup [.var 1, .op .mod [.var 0, .var 1]])]) (fun x y => by
      simp [evFn, exes, exe.eq_1, exe.eq_2, exe.eq_3, exe.eq_4, exe.eq_5, exe.eq_6, exe.eq_7, exe.eq_8, exe.eq_9, exe.eq_10, exe.eq_13, exe.eq_14, exe.eq_15, exe.eq_16, exe.eq_17, exe_whl, exe_for, ev, evs, Res.bind, Res.val, Res.vout, Res.out, Out.seq, getV, getB, getO, opEnd, keepOk, keepFs, rds, rd, Rv.opd, itEnd, Opd.isV, itEval, zipIt, seqIt, range1It, range2It, enumIt, pairD, plainAt, initE, compEnd, compL, asg, asgs, wipe, tst, tsts, gens, opEval, rvOf, opFresh, SZ, back, fnEnd, outsOf, patOk, nodupB, ios, callEnd, wrs, truth, spread, addD, subD, mulD, fdivD, modD, powD, negD, absD, toIntD, ltD, gtD, geD, leD, notD, idxD, lenD, sumD, tupleD, listD, anyD, allD, isInt, isBool, isTup, isN, ixN, ints?, bools?, lstAt, intOf, idxOf, mulOk_bd, divOk_bd]) (fun x y h => by simp [h, evFn, exes, exe.eq_1, exe.eq_2, exe.eq_3, exe.eq_4, exe.eq_5, exe.eq_6, exe.eq_7, exe.eq_8, exe.eq_9, exe.eq_10, exe.eq_13, exe.eq_14, exe.eq_15, exe.eq_16, exe.eq_17, exe_whl, exe_for, ev, evs, Res.bind, Res.val, Res.vout, Res.out, Out.seq, getV, getB, getO, opEnd, keepOk, keepFs, rds, rd, Rv.opd, itEnd, Opd.isV, itEval, zipIt, seqIt, range1It, range2It, enumIt, pairD, plainAt, initE, compEnd, compL, asg, asgs, wipe, tst, tsts, gens, opEval, rvOf, opFresh, SZ, back, fnEnd, outsOf, patOk, nodupB, ios, callEnd, wrs, truth, spread, addD, subD, mulD, fdivD, modD, powD, negD, absD, toIntD, ltD, gtD, geD, leD, notD, idxD, lenD, sumD, tupleD, listD, anyD, allD, isInt, isBool, isTup, isN, ixN, ints?, bools?, lstAt, intOf, idxOf, mulOk_bd, divOk_bd]) m FU _ _ g1 g2 (by split <;> omega) (by unfold FU; omega)
  have g3 : Int.gcd (if a < 0 then -a else a) (if b < 0 then -b else b) = Int.gcd a b := by split <;> split <;> simp
  rw [g3] at w
  change wloop _ _ _ _ _ = _ at w
  rw [callF, f_common, t_common]
  simp [ir_common, w, evFn, exes, exe.eq_1, exe.eq_2, exe.eq_3, exe.eq_4, exe.eq_5, exe.eq_6, exe.eq_7, exe.eq_8, exe.eq_9, exe.eq_10, exe.eq_13, exe.eq_14, exe.eq_15, exe.eq_16, exe.eq_17, exe_whl, exe_for, ev, evs, Res.bind, Res.val, Res.vout, Res.out, Out.seq, getV, getB, getO, opEnd, keepOk, keepFs, rds, rd, Rv.opd, itEnd, Opd.isV, itEval, zipIt, seqIt, range1It, range2It, enumIt, pairD, plainAt, initE, compEnd, compL, asg, asgs, wipe, tst, tsts, gens, opEval, rvOf, opFresh, SZ, back, fnEnd, outsOf, patOk, nodupB, ios, callEnd, wrs, truth, spread, addD, subD, mulD, fdivD, modD, powD, negD, absD, toIntD, ltD, gtD, geD, leD, notD, idxD, lenD, sumD, tupleD, listD, anyD, allD, isInt, isBool, isTup, isN, ixN, ints?, bools?, lstAt, intOf, idxOf, mulOk_bd, divOk_bd]
end
end SK

set_option linter.all false
set_option maxRecDepth 100000
set_option autoImplicit false
namespace SK
/-! roots -/
theorem sq_lt {a b : Int} (h : 0 ≤ a) (l : a < b) : a * a < b * b := by
  have h1 : a * a ≤ a * b := Int.mul_le_mul_of_nonneg_left (by omega) h
  have h2 : a * b < b * b := Int.mul_lt_mul_of_pos_right l (by omega)
  omega
theorem sq_le {a b : Int} (h : 0 ≤ a) (l : a ≤ b) : a * a ≤ b * b := by
  rcases Int.lt_or_eq_of_le l with q | q
  · exact Int.le_of_lt (sq_lt h q)
  · rw [q]; exact Int.le_refl _
open Classical in
noncomputable def rootD (n : Int) : D := if h : ∃ r : Int, 0 ≤ r ∧ r * r = n then .int h.choose else .non
theorem sq_inj {a b : Int} (ha : 0 ≤ a) (hb : 0 ≤ b) (h : a * a = b * b) : a = b := by
  rcases Int.lt_trichotomy a b with q | q | q
  · have := sq_lt ha q; omega
  · exact q
  · have := sq_lt hb q; omega
theorem root_sq {r : Int} (h : 0 ≤ r) : rootD (r * r) = .int r := by
  unfold rootD
  have e : ∃ s : Int, 0 ≤ s ∧ s * s = r * r := ⟨r, h, rfl⟩
  rw [dif_pos e]
  have q := e.choose_spec
  rw [sq_inj q.1 h q.2]
theorem root_no {n : Int} (h : ∀ r : Int, 0 ≤ r → r * r ≠ n) : rootD n = .non := by
  unfold rootD
  rw [dif_neg]
  intro ⟨r, h1, h2⟩
  exact h r h1 h2
theorem root_cases (n : Int) : (∃ r : Int, 0 ≤ r ∧ r * r = n ∧ rootD n = .int r) ∨ ((∀ r : Int, 0 ≤ r → r * r ≠ n) ∧ rootD n = .non) := by
  by_cases h : ∃ r : Int, 0 ≤ r ∧ r * r = n
  · obtain ⟨r, h1, h2⟩ := h
    exact .inl ⟨r, h1, h2, by rw [← h2]; exact root_sq h1⟩
  · have h' : ∀ r : Int, 0 ≤ r → r * r ≠ n := fun r h1 h2 => h ⟨r, h1, h2⟩
    exact .inr ⟨h', root_no h'⟩
theorem wh_root1 {c : Env → Res Bool} {b : Env → Out} {n B : Int} {s : Sl} (hc : ∀ h : Int, 0 < h → h < B → c [.val (.int n), .val (.int 0), .val (.int h), s] = .ok (decide (h * h ≤ n)) [.val (.int n), .val (.int 0), .val (.int h), s]) (hb : ∀ h : Int, 0 < h → b [.val (.int n), .val (.int 0), .val (.int h), s] = .nx [.val (.int n), .val (.int 0), .val (.int (h * 2)), s]) :
    ∀ (j N : Nat) (h : Int), 0 < h → h * 2 ^ j < B → n < (h * 2 ^ j) * (h * 2 ^ j) → j + 1 ≤ N → ∃ h' : Int, whileN c b N [.val (.int n), .val (.int 0), .val (.int h), s] = .nx [.val (.int n), .val (.int 0), .val (.int h'), s] ∧ 0 < h' ∧ h' ≤ h * 2 ^ j ∧ n < h' * h'
  | 0, N + 1, h, h0, hB, hn, hN => by
    simp at hB hn
    refine ⟨h, ?_, h0, by simp, hn⟩
    simp [whileN, hc h h0 hB, Res.out]
    omega
  | j + 1, N + 1, h, h0, hB, hn, hN => by
    have e : h * 2 ^ (j + 1) = h * 2 * 2 ^ j := by rw [Int.pow_succ]; grind
    have p : (1 : Int) ≤ 2 ^ j := by
      have : (0 : Int) < 2 ^ j := Int.pow_pos (by omega)
      omega
    have p2 : h * 2 * 1 ≤ h * 2 * 2 ^ j := Int.mul_le_mul_of_nonneg_left p (by omega)
    by_cases q : h * h ≤ n
    · rw [e] at hB hn
      obtain ⟨h', e1, e2, e3, e4⟩ := wh_root1 hc hb j N (h * 2) (by omega) hB hn (by omega)
      refine ⟨h', ?_, e2, by rw [e]; exact e3, e4⟩
      simp [whileN, hc h h0 (by omega), hb h h0, Res.out, q, e1]
    · refine ⟨h, ?_, h0, by rw [e]; omega, by omega⟩
      simp [whileN, hc h h0 (by omega), Res.out, q]
theorem wh_root2 {c : Env → Res Bool} {b : Env → Out} {n B : Int} (hc : ∀ (l h : Int) (s : Sl), c [.val (.int n), .val (.int l), .val (.int h), s] = .ok (decide (l < h)) [.val (.int n), .val (.int l), .val (.int h), s])
    (hb : ∀ (l h : Int) (s : Sl), 0 ≤ l → l < h → h < B → b [.val (.int n), .val (.int l), .val (.int h), s] = .nx (if (l + h) / 2 * ((l + h) / 2) < n then [.val (.int n), .val (.int ((l + h) / 2 + 1)), .val (.int h), .val (.int ((l + h) / 2))] else [.val (.int n), .val (.int l), .val (.int ((l + h) / 2)), .val (.int ((l + h) / 2))])) :
    ∀ (j N : Nat) (l h : Int) (s : Sl), 0 ≤ l → l ≤ h → h < B → (h - l).toNat < 2 ^ j → (l = 0 ∨ (l - 1) * (l - 1) < n) → n ≤ h * h → j + 1 ≤ N → ∃ (r : Int) (s' : Sl), whileN c b N [.val (.int n), .val (.int l), .val (.int h), s] = .nx [.val (.int n), .val (.int r), .val (.int r), s'] ∧ 0 ≤ r ∧ r < B ∧ (r = 0 ∨ (r - 1) * (r - 1) < n) ∧ n ≤ r * r
  | 0, N + 1, l, h, s, h0, hl, hB, hj, h1, h2, hN => by
    have e : l = h := by simp at hj; omega
    subst e
    refine ⟨l, s, ?_, h0, hB, h1, h2⟩
    simp [whileN, hc, Res.out]
  | j + 1, N + 1, l, h, s, h0, hl, hB, hj, h1, h2, hN => by
    by_cases e : l = h
    · subst e
      refine ⟨l, s, ?_, h0, hB, h1, h2⟩
      simp [whileN, hc, Res.out]
    · have lt : l < h := by omega
      rw [Nat.pow_succ] at hj
      by_cases q : (l + h) / 2 * ((l + h) / 2) < n
      · obtain ⟨r, s', e1, e2⟩ := wh_root2 hc hb j N ((l + h) / 2 + 1) h (.val (.int ((l + h) / 2))) (by omega) (by omega) hB (by omega) (.inr (by
          have : (l + h) / 2 + 1 - 1 = (l + h) / 2 := by omega
          rw [this]; exact q)) h2 (by omega)
        refine ⟨r, s', ?_, e2⟩
        have hb' := hb l h s h0 lt hB
        rw [if_pos q] at hb'
        simp [whileN, hc, hb', Res.out, lt, e1]
      · obtain ⟨r, s', e1, e2⟩ := wh_root2 hc hb j N l ((l + h) / 2) (.val (.int ((l + h) / 2))) h0 (by omega) (by omega) (by omega) h1 (by omega) (by omega)
        refine ⟨r, s', ?_, e2⟩
        have hb' := hb l h s h0 lt hB
        rw [if_neg q] at hb'
        simp [whileN, hc, hb', Res.out, lt, e1]
theorem bd_of {n : Nat} {x : Int} (h0 : 0 ≤ x) (h : x < 2 ^ n) : Bd n x := ⟨by
  have : ((2 ^ n : Nat) : Int) = (2 : Int) ^ n := by push_cast; rfl
  omega⟩
section
variable {L : Nat → Option Fn} {k : Nat}
theorem sp_root {m : Nat} {n : Int} [hb : Bd m n] (h0 : 0 ≤ n) (h : m < 49000) : callF (TT L) FU (k + 1) f_root [.int n] = .ret (.st (rootD n)) [] := by
  have b := hb.b
  have pe : ((2 ^ m : Nat) : Int) = (2 : Int) ^ m := by push_cast; rfl
  have p1 : (1 : Int) ≤ 2 ^ m := by
    have : (0 : Int) < 2 ^ m := Int.pow_pos (by omega)
    omega
  have p2 : (2 : Int) ^ m * 1 ≤ 2 ^ m * 2 ^ m := Int.mul_le_mul_of_nonneg_left p1 (by omega)
  have hB : ∀ x : Int, 0 ≤ x → x < 2 ^ (m + 1) → mulOk x x = true := fun x h1 h2 => by
    haveI := bd_of h1 h2
    exact mulOk_bd (by omega)
  have p3 : (2 : Int) ^ m < 2 ^ (m + 1) := by rw [Int.pow_succ]; omega
  obtain ⟨h', w1, g1, g2, g3⟩ := wh_root1 (n := n) (B := 2 ^ (m + 1)) (s := .no) (c := tst (callF (TT L) FU k) (.tr (.op .le [.op .mul [.var 2, .var 2], .var 0]))) (b := exes (callF (TT L) FU k) FU [.aug 2 .mul (.cst (.int 2))])
    (fun x x0 xB => by simp [hB x (by omega) xB, evFn, exes, exe.eq_1, exe.eq_2, exe.eq_3, exe.eq_4, exe.eq_5, exe.eq_6, exe.eq_7, exe.eq_8, exe.eq_9, exe.eq_10, exe.eq_13, exe.eq_14, exe.eq_15, exe.eq_16, exe.eq_17, exe_whl, exe_for, ev, evs, Res.bind, Res.val, Res.vout, Res.out, Out.seq, getV, getB, getO, opEnd, keepOk, keepFs, rds, rd, Rv.opd, itEnd, Opd.isV, itEval, zipIt, seqIt, range1It, range2It, enumIt, pairD, plainAt, initE, compEnd, compL, asg, asgs, wipe, tst, tsts, gens, opEval, rvOf, opFresh, SZ, back, fnEnd, outsOf, patOk, nodupB, ios, callEnd, wrs, truth, spread, addD, subD, mulD, fdivD, modD, powD, negD, absD, toIntD, ltD, gtD, geD, leD, notD, idxD, lenD, sumD, tupleD, listD, anyD, allD, isInt, isBool, isTup, isN, ixN, ints?, bools?, lstAt, intOf, idxOf, mulOk_bd, divOk_bd]) (fun x x0 => by simp [mulOk_r, evFn, exes, exe.eq_1, exe.eq_2, exe.eq_3, exe.eq_4, exe.eq_5, exe.eq_6, exe.eq_7, exe.eq_8, exe.eq_9, exe.eq_10, exe.eq_13, exe.eq_14, exe.eq_15, exe.eq_16, exe.eq_17, exe_whl, exe_for, ev, evs, Res.bind, Res.val, Res.vout, Res.out, Out.seq, getV, getB, getO, opEnd, keepOk, keepFs, rds, rd, Rv.opd, itEnd, Opd.isV, itEval, zipIt, seqIt, range1It, range2It, enumIt, pairD, plainAt, initE, compEnd, compL, asg, asgs, wipe, tst, tsts, gens, opEval, rvOf, opFresh, SZ, back, fnEnd, outsOf, patOk, nodupB, ios, callEnd, wrs, truth, spread, addD, subD, mulD, fdivD, modD, powD, negD, absD, toIntD, ltD, gtD, geD, leD, notD, idxD, lenD, sumD, tupleD, listD, anyD, allD, isInt, isBool, isTup, isN, ixN, ints?, bools?, lstAt, intOf, idxOf, mulOk_bd, divOk_bd]) m FU 1 (by omega) (by omega) (by simp only [Int.one_mul]; omega) (by unfold FU; omega)
  have g2' : h' ≤ 2 ^ m := by omega
  obtain ⟨r, s', w2, q1, q2, q3, q4⟩ := wh_root2 (n := n) (B := 2 ^ (m + 1)) (c := tst (callF (TT L) FU k) (.tr (.op .lt [.var 1, .var 2]))) (b := exes (callF (TT L) FU k) FU [.set 3 (.op .fdiv [.op .add [.var 1, .var 2], .cst (.int 2)]),
    .ifs (.tr (.op .lt [.op .mul [.var 3, .var 3], .var 0])) [.set 1 (.op .add [.var 3, .cst (.int 1)])] [.set 2 (.var 3)]])
    (fun l x s => by simp [evFn, exes, exe.eq_1, exe.eq_2, exe.eq_3, exe.eq_4, exe.eq_5, exe.eq_6, exe.eq_7, exe.eq_8, exe.eq_9, exe.eq_10, exe.eq_13, exe.eq_14, exe.eq_15, exe.eq_16, exe.eq_17, exe_whl, exe_for, ev, evs, Res.bind, Res.val, Res.vout, Res.out, Out.seq, getV, getB, getO, opEnd, keepOk, keepFs, rds, rd, Rv.opd, itEnd, Opd.isV, itEval, zipIt, seqIt, range1It, range2It, enumIt, pairD, plainAt, initE, compEnd, compL, asg, asgs, wipe, tst, tsts, gens, opEval, rvOf, opFresh, SZ, back, fnEnd, outsOf, patOk, nodupB, ios, callEnd, wrs, truth, spread, addD, subD, mulD, fdivD, modD, powD, negD, absD, toIntD, ltD, gtD, geD, leD, notD, idxD, lenD, sumD, tupleD, listD, anyD, allD, isInt, isBool, isTup, isN, ixN, ints?, bools?, lstAt, intOf, idxOf, mulOk_bd, divOk_bd]) (fun l x s l0 lx xB => by
      have d2 : divOk 2 = true := by decide +kernel
      by_cases q : (l + x) / 2 * ((l + x) / 2) < n <;> simp [q, hB ((l + x) / 2) (by omega) (by omega), d2, evFn, exes, exe.eq_1, exe.eq_2, exe.eq_3, exe.eq_4, exe.eq_5, exe.eq_6, exe.eq_7, exe.eq_8, exe.eq_9, exe.eq_10, exe.eq_13, exe.eq_14, exe.eq_15, exe.eq_16, exe.eq_17, exe_whl, exe_for, ev, evs, Res.bind, Res.val, Res.vout, Res.out, Out.seq, getV, getB, getO, opEnd, keepOk, keepFs, rds, rd, Rv.opd, itEnd, Opd.isV, itEval, zipIt, seqIt, range1It, range2It, enumIt, pairD, plainAt, initE, compEnd, compL, asg, asgs, wipe, tst, tsts, gens, opEval, rvOf, opFresh, SZ, back, fnEnd, outsOf, patOk, nodupB, ios, callEnd, wrs, truth, spread, addD, subD, mulD, fdivD, modD, powD, negD, absD, toIntD, ltD, gtD, geD, leD, notD, idxD, lenD, sumD, tupleD, listD, anyD, allD, isInt, isBool, isTup, isN, ixN, ints?, bools?, lstAt, intOf, idxOf, mulOk_bd, divOk_bd]) (m + 1) FU 0 h' .no (by omega) (by omega) (by omega) (by
        have : ((2 ^ (m + 1) : Nat) : Int) = (2 : Int) ^ (m + 1) := by push_cast; rfl
        omega) (.inl rfl) (by omega) (by unfold FU; omega)
  change wloop _ _ _ _ _ = _ at w1
  change wloop _ _ _ _ _ = _ at w2
  have fin : (if r * r = n then D.int r else .non) = rootD n := by
    by_cases q : r * r = n
    · rw [if_pos q, ← q, root_sq q1]
    · rw [if_neg q]
      refine (root_no fun s s0 se => ?_).symm
      rcases q3 with z | z
      · subst z
        have := Int.mul_nonneg s0 s0
        omega
      · rcases Int.lt_or_le s r with y | y
        · have := sq_le s0 (show s ≤ r - 1 by omega)
          omega
        · have := sq_le q1 y
          omega
  rw [callF, f_root, t_root]
  rw [← fin]
  by_cases q : r * r = n <;> simp [q, ir_root, w1, w2, hB r q1 q2, eqI, evFn, exes, exe.eq_1, exe.eq_2, exe.eq_3, exe.eq_4, exe.eq_5, exe.eq_6, exe.eq_7, exe.eq_8, exe.eq_9, exe.eq_10, exe.eq_13, exe.eq_14, exe.eq_15, exe.eq_16, exe.eq_17, exe_whl, exe_for, ev, evs, Res.bind, Res.val, Res.vout, Res.out, Out.seq, getV, getB, getO, opEnd, keepOk, keepFs, rds, rd, Rv.opd, itEnd, Opd.isV, itEval, zipIt, seqIt, range1It, range2It, enumIt, pairD, plainAt, initE, compEnd, compL, asg, asgs, wipe, tst, tsts, gens, opEval, rvOf, opFresh, SZ, back, fnEnd, outsOf, patOk, nodupB, ios, callEnd, wrs, truth, spread, addD, subD, mulD, fdivD, modD, powD, negD, absD, toIntD, ltD, gtD, geD, leD, notD, idxD, lenD, sumD, tupleD, listD, anyD, allD, isInt, isBool, isTup, isN, ixN, ints?, bools?, lstAt, intOf, idxOf, mulOk_bd, divOk_bd]
end
end SK

set_option linter.all false
set_option maxRecDepth 100000
set_option autoImplicit false
namespace SK
theorem sq_nn (x : Int) : 0 ≤ x * x := by
  rcases Int.le_total 0 x with h | h
  · exact Int.mul_nonneg h h
  · exact Int.mul_nonneg_of_nonpos_of_nonpos h h
instance bd_gcd {n m : Nat} {a b : Int} [ha : Bd n a] [hb : Bd m b] : Bd (n + m) ((Int.gcd a b : Nat) : Int) := ⟨by
  have h1 := ha.b
  have h2 := hb.b
  have p1 : 2 ^ n ≤ 2 ^ (n + m) := pow_le (by omega)
  have p2 : 2 ^ m ≤ 2 ^ (n + m) := pow_le (by omega)
  rw [Int.natAbs_natCast]
  by_cases e : a = 0
  · subst e
    rw [Int.zero_gcd]
    omega
  · have := Int.gcd_le_natAbs_left b e
    omega⟩
theorem gcd_pos_r {a b : Int} (h : b ≠ 0) : (0 : Int) < (Int.gcd a b : Nat) := by
  have := Int.gcd_pos_of_ne_zero_right a h
  omega
theorem V3.g_pos {a : V3} (h : a ≠ O3) : 0 < a.g := by
  obtain ⟨x, y, z⟩ := a
  unfold V3.g
  by_cases e : z = 0
  · have : ((Int.gcd x y : Nat) : Int) ≠ 0 := fun q => by
      have q : Int.gcd x y = 0 := by omega
      apply h
      rw [Int.eq_zero_of_gcd_eq_zero_left q, Int.eq_zero_of_gcd_eq_zero_right q, e]
    have := Int.gcd_pos_of_ne_zero_left z this
    exact Int.natCast_pos.mpr this
  · exact gcd_pos_r e
/-- the least ratio of two lengths, from their squares -/
noncomputable def rat (u v : Int) : Option (Int × Int) := match rootD (u * v) with
  | .int r => some (r / Int.gcd r v, v / Int.gcd r v)
  | _ => none
def ratD : Option (Int × Int) → D
  | some (p, q) => .tup [.int p, .int q]
  | none => .non
def sgn (n : Int) : Int := if 0 < n then 1 else if n = 0 then 0 else -1
def btw (a m c : V3) : Bool := !decide (a.cr c = O3) && (decide ((a.cr c).dot m = 0) && (decide (0 < (a.cr m).dot (a.cr c)) && decide (0 < (m.cr c).dot (a.cr c))))
noncomputable def alike (a b c d : V3) : Bool := if a.dot b * c.dot d < 0 ∨ a.dot b * a.dot b * c.dot c * d.dot d ≠ c.dot d * c.dot d * (a.dot a * b.dot b) then false else
  match rat (a.dot a) (c.dot c), rat (b.dot b) (d.dot d) with
  | some (p, q), some (p', q') => decide (c.dot d * p * p' = a.dot b * q * q')
  | _, _ => false
section
variable {L : Nat → Option Fn} {k : Nat}
theorem sp_lowest {m : Nat} {a b : Int} [hb : Bd m b] (h : m < 8999) (h0 : 0 < b) : callF (TT L) FU (k + 2) f_lowest [.int a, .int b] = .ret (.st (.tup [.int (a / Int.gcd a b), .int (b / Int.gcd a b)])) [] := by
  have g0 : (0 : Int) < (Int.gcd a b : Nat) := gcd_pos_r (by omega)
  haveI : Bd m ((Int.gcd a b : Nat) : Int) := hb.le (by
    have := Int.gcd_le_natAbs_right a (show b ≠ 0 by omega)
    rw [Int.natAbs_natCast]
    exact this)
  have h1 : m < 49000 := by omega
  have h2 : divOk ((Int.gcd a b : Nat) : Int) = true := divOk_bd (by omega) g0
  rw [callF, f_lowest, t_lowest]
  simp [ir_lowest, sp_common, h1, h2, evFn, exes, exe.eq_1, exe.eq_2, exe.eq_3, exe.eq_4, exe.eq_5, exe.eq_6, exe.eq_7, exe.eq_8, exe.eq_9, exe.eq_10, exe.eq_13, exe.eq_14, exe.eq_15, exe.eq_16, exe.eq_17, exe_whl, exe_for, ev, evs, Res.bind, Res.val, Res.vout, Res.out, Out.seq, getV, getB, getO, opEnd, keepOk, keepFs, rds, rd, Rv.opd, itEnd, Opd.isV, itEval, zipIt, seqIt, range1It, range2It, enumIt, pairD, plainAt, initE, compEnd, compL, asg, asgs, wipe, tst, tsts, gens, opEval, rvOf, opFresh, SZ, back, fnEnd, outsOf, patOk, nodupB, ios, callEnd, wrs, truth, spread, addD, subD, fdivD]
theorem V3.dot_nonneg (a : V3) : 0 ≤ a.dot a := by
  unfold V3.dot
  have h1 := sq_nn a.x
  have h2 := sq_nn a.y
  have h3 := sq_nn a.z
  omega
end
theorem sq_zero {x : Int} (h : x * x = 0) : x = 0 := by
  rcases Int.mul_eq_zero.mp h with q | q <;> exact q
theorem V3.dot_pos {a : V3} (h : a ≠ O3) : 0 < a.dot a := by
  have h1 := sq_nn a.x
  have h2 := sq_nn a.y
  have h3 := sq_nn a.z
  rcases Int.lt_or_eq_of_le (V3.dot_nonneg a) with q | q
  · exact q
  · exfalso
    apply h
    obtain ⟨x, y, z⟩ := a
    unfold V3.dot at q
    have e1 : x * x = 0 := by simp at *; omega
    have e2 : y * y = 0 := by simp at *; omega
    have e3 : z * z = 0 := by simp at *; omega
    rw [sq_zero e1, sq_zero e2, sq_zero e3]
section
variable {L : Nat → Option Fn} {k : Nat}
theorem sp_ratio {n m : Nat} {a b : V3} [Bv n a] [Bv m b] (h1 : n < 1000) (h2 : m < 1000) (ha : a ≠ O3) (hb : b ≠ O3) : callF (TT L) FU (k + 4) f_ratio [a.d, b.d] = .ret (.st (ratD (rat (a.dot a) (b.dot b)))) [] := by
  have h3 : n + n < 1000000 := by omega
  have h4 : m + m < 1000000 := by omega
  have h5 : n + n + (n + n + (n + n) + 1) + 1 + (m + m + (m + m + (m + m) + 1) + 1) < 1000000 := by omega
  have h6 : n + n + (n + n + (n + n) + 1) + 1 + (m + m + (m + m + (m + m) + 1) + 1) < 49000 := by omega
  have h7 : m + m + (m + m + (m + m) + 1) + 1 < 8999 := by omega
  have p1 := V3.dot_pos ha
  have p2 := V3.dot_pos hb
  have p3 : 0 ≤ a.dot a * b.dot b := Int.mul_nonneg (by omega) (by omega)
  rw [callF, f_ratio, t_ratio]
  rcases root_cases (a.dot a * b.dot b) with ⟨r, q1, q2, q3⟩ | ⟨q1, q2⟩
  · simp [ir_ratio, sp_check, sp_dot, sp_root, sp_lowest, ha, hb, h3, h4, h5, h6, h7, p1, p2, p3, q3, rat, ratD, evFn, exes, exe.eq_1, exe.eq_2, exe.eq_3, exe.eq_4, exe.eq_5, exe.eq_6, exe.eq_7, exe.eq_8, exe.eq_9, exe.eq_10, exe.eq_13, exe.eq_14, exe.eq_15, exe.eq_16, exe.eq_17, exe_whl, exe_for, ev, evs, Res.bind, Res.val, Res.vout, Res.out, Out.seq, getV, getB, getO, opEnd, keepOk, keepFs, rds, rd, Rv.opd, itEnd, Opd.isV, itEval, zipIt, seqIt, range1It, range2It, enumIt, pairD, plainAt, initE, compEnd, compL, asg, asgs, wipe, tst, tsts, gens, opEval, rvOf, opFresh, SZ, back, fnEnd, outsOf, patOk, nodupB, ios, callEnd, wrs, truth, spread, addD, subD, mulD, fdivD, modD, powD, negD, absD, toIntD, ltD, gtD, geD, leD, notD, idxD, lenD, sumD, tupleD, listD, anyD, allD, isInt, isBool, isTup, isN, ixN, ints?, bools?, lstAt, intOf, idxOf, mulOk_bd, divOk_bd]
  · simp [ir_ratio, sp_check, sp_dot, sp_root, sp_lowest, ha, hb, h3, h4, h5, h6, h7, p1, p2, p3, q2, rat, ratD, evFn, exes, exe.eq_1, exe.eq_2, exe.eq_3, exe.eq_4, exe.eq_5, exe.eq_6, exe.eq_7, exe.eq_8, exe.eq_9, exe.eq_10, exe.eq_13, exe.eq_14, exe.eq_15, exe.eq_16, exe.eq_17, exe_whl, exe_for, ev, evs, Res.bind, Res.val, Res.vout, Res.out, Out.seq, getV, getB, getO, opEnd, keepOk, keepFs, rds, rd, Rv.opd, itEnd, Opd.isV, itEval, zipIt, seqIt, range1It, range2It, enumIt, pairD, plainAt, initE, compEnd, compL, asg, asgs, wipe, tst, tsts, gens, opEval, rvOf, opFresh, SZ, back, fnEnd, outsOf, patOk, nodupB, ios, callEnd, wrs, truth, spread, addD, subD, mulD, fdivD, modD, powD, negD, absD, toIntD, ltD, gtD, geD, leD, notD, idxD, lenD, sumD, tupleD, listD, anyD, allD, isInt, isBool, isTup, isN, ixN, ints?, bools?, lstAt, intOf, idxOf, mulOk_bd, divOk_bd]
theorem sp_least {n : Nat} {a : V3} [Bv n a] (h1 : n < 2000) (ha : a ≠ O3) : callF (TT L) FU (k + 4) f_least [a.d] = .ret (.st (a.quo a.g).d) [] := by
  have g0 := V3.g_pos ha
  have h2 : n < 49000 := by omega
  have e := sp_check (L := L) (k := k) (d := D.str [100, 105, 114, 101, 99, 116, 105, 111, 110]) ha
  obtain ⟨x, y, z⟩ := a
  haveI : Bd n x := bv_x (a := ⟨x, y, z⟩)
  haveI : Bd n y := bv_y (a := ⟨x, y, z⟩)
  haveI : Bd n z := bv_z (a := ⟨x, y, z⟩)
  have g1 : divOk (V3.g ⟨x, y, z⟩) = true := by
    haveI : Bd (n + n + n) (V3.g ⟨x, y, z⟩) := by unfold V3.g; infer_instance
    exact divOk_bd (by omega) g0
  unfold V3.g at g1
  rw [callF, f_least, t_least]
  simp [V3.d] at e
  simp at g1
  simp [ir_least, e, sp_common, h2, g1, V3.d, V3.quo, V3.g, evFn, exes, exe.eq_1, exe.eq_2, exe.eq_3, exe.eq_4, exe.eq_5, exe.eq_6, exe.eq_7, exe.eq_8, exe.eq_9, exe.eq_10, exe.eq_13, exe.eq_14, exe.eq_15, exe.eq_16, exe.eq_17, exe_whl, exe_for, ev, evs, Res.bind, Res.val, Res.vout, Res.out, Out.seq, getV, getB, getO, opEnd, keepOk, keepFs, rds, rd, Rv.opd, itEnd, Opd.isV, itEval, zipIt, seqIt, range1It, range2It, enumIt, pairD, plainAt, initE, compEnd, compL, asg, asgs, wipe, tst, tsts, gens, opEval, rvOf, opFresh, SZ, back, fnEnd, outsOf, patOk, nodupB, ios, callEnd, wrs, truth, spread, addD, subD, mulD, fdivD, modD, powD, negD, absD, toIntD, ltD, gtD, geD, leD, notD, idxD, lenD, sumD, tupleD, listD, anyD, allD, isInt, isBool, isTup, isN, ixN, ints?, bools?, lstAt, intOf, idxOf, mulOk_bd, divOk_bd]
theorem sp_is_same {n m : Nat} {a b : V3} [Bv n a] [Bv m b] (h1 : n < 2000) (h2 : m < 2000) (ha : a ≠ O3) (hb : b ≠ O3) : callF (TT L) FU (k + 5) f_is_same [a.d, b.d] = .ret (.st (.bl (decide (a.quo a.g = b.quo b.g)))) [] := by
  rw [callF, f_is_same, t_is_same]
  simp [ir_is_same, sp_least, ha, hb, h1, h2, eq3, evFn, exes, exe.eq_1, exe.eq_2, exe.eq_3, exe.eq_4, exe.eq_5, exe.eq_6, exe.eq_7, exe.eq_8, exe.eq_9, exe.eq_10, exe.eq_13, exe.eq_14, exe.eq_15, exe.eq_16, exe.eq_17, exe_whl, exe_for, ev, evs, Res.bind, Res.val, Res.vout, Res.out, Out.seq, getV, getB, getO, opEnd, keepOk, keepFs, rds, rd, Rv.opd, itEnd, Opd.isV, itEval, zipIt, seqIt, range1It, range2It, enumIt, pairD, plainAt, initE, compEnd, compL, asg, asgs, wipe, tst, tsts, gens, opEval, rvOf, opFresh, SZ, back, fnEnd, outsOf, patOk, nodupB, ios, callEnd, wrs, truth, spread, addD, subD, mulD, fdivD, modD, powD, negD, absD, toIntD, ltD, gtD, geD, leD, notD, idxD, lenD, sumD, tupleD, listD, anyD, allD, isInt, isBool, isTup, isN, ixN, ints?, bools?, lstAt, intOf, idxOf, mulOk_bd, divOk_bd]
theorem sp_opposite {n : Nat} {a : V3} [Bv n a] (h1 : n < 2000) (ha : a ≠ O3) : callF (TT L) FU (k + 5) f_opposite [a.d] = .ret (.st (a.quo a.g).neg.d) [] := by
  have e := sp_least (L := L) (k := k) h1 ha
  rw [callF, f_opposite, t_opposite]
  generalize a.quo a.g = b at e ⊢
  have e : callF (TT L) FU (k + 4) f_least [a.d] = .ret (.st (.tup [.int b.x, .int b.y, .int b.z])) [] := e
  show _ = CRes.ret (.st (.tup [.int (-b.x), .int (-b.y), .int (-b.z)])) []
  simp [ir_opposite, e, evFn, exes, exe.eq_1, exe.eq_2, exe.eq_3, exe.eq_4, exe.eq_5, exe.eq_6, exe.eq_7, exe.eq_8, exe.eq_9, exe.eq_10, exe.eq_13, exe.eq_14, exe.eq_15, exe.eq_16, exe.eq_17, exe_whl, exe_for, ev, evs, Res.bind, Res.val, Res.vout, Res.out, Out.seq, getV, getB, getO, opEnd, keepOk, keepFs, rds, rd, Rv.opd, itEnd, Opd.isV, itEval, zipIt, seqIt, range1It, range2It, enumIt, pairD, plainAt, initE, compEnd, compL, asg, asgs, wipe, tst, tsts, gens, opEval, rvOf, opFresh, SZ, back, fnEnd, outsOf, patOk, nodupB, ios, callEnd, wrs, truth, spread, addD, subD, mulD, fdivD, modD, powD, negD, absD, toIntD, ltD, gtD, geD, leD, notD, idxD, lenD, sumD, tupleD, listD, anyD, allD, isInt, isBool, isTup, isN, ixN, ints?, bools?, lstAt, intOf, idxOf, mulOk_bd, divOk_bd]
theorem sp_angle {n m : Nat} {a b : V3} [Bv n a] [Bv m b] (h : n + m < 1000000) (ha : a ≠ O3) (hb : b ≠ O3) : callF (TT L) FU (k + 4) f_angle_sign [a.d, b.d] = .ret (.st (.int (sgn (a.dot b)))) [] := by
  rw [callF, f_angle_sign, t_angle_sign]
  unfold sgn
  by_cases q : 0 < a.dot b
  · simp [ir_angle_sign, sp_check, sp_dot, h, ha, hb, q, eqI, evFn, exes, exe.eq_1, exe.eq_2, exe.eq_3, exe.eq_4, exe.eq_5, exe.eq_6, exe.eq_7, exe.eq_8, exe.eq_9, exe.eq_10, exe.eq_13, exe.eq_14, exe.eq_15, exe.eq_16, exe.eq_17, exe_whl, exe_for, ev, evs, Res.bind, Res.val, Res.vout, Res.out, Out.seq, getV, getB, getO, opEnd, keepOk, keepFs, rds, rd, Rv.opd, itEnd, Opd.isV, itEval, zipIt, seqIt, range1It, range2It, enumIt, pairD, plainAt, initE, compEnd, compL, asg, asgs, wipe, tst, tsts, gens, opEval, rvOf, opFresh, SZ, back, fnEnd, outsOf, patOk, nodupB, ios, callEnd, wrs, truth, spread, addD, subD, mulD, fdivD, modD, powD, negD, absD, toIntD, ltD, gtD, geD, leD, notD, idxD, lenD, sumD, tupleD, listD, anyD, allD, isInt, isBool, isTup, isN, ixN, ints?, bools?, lstAt, intOf, idxOf, mulOk_bd, divOk_bd]
  · by_cases q2 : a.dot b = 0 <;> simp [ir_angle_sign, sp_check, sp_dot, h, ha, hb, q, q2, eqI, evFn, exes, exe.eq_1, exe.eq_2, exe.eq_3, exe.eq_4, exe.eq_5, exe.eq_6, exe.eq_7, exe.eq_8, exe.eq_9, exe.eq_10, exe.eq_13, exe.eq_14, exe.eq_15, exe.eq_16, exe.eq_17, exe_whl, exe_for, ev, evs, Res.bind, Res.val, Res.vout, Res.out, Out.seq, getV, getB, getO, opEnd, keepOk, keepFs, rds, rd, Rv.opd, itEnd, Opd.isV, itEval, zipIt, seqIt, range1It, range2It, enumIt, pairD, plainAt, initE, compEnd, compL, asg, asgs, wipe, tst, tsts, gens, opEval, rvOf, opFresh, SZ, back, fnEnd, outsOf, patOk, nodupB, ios, callEnd, wrs, truth, spread, addD, subD, mulD, fdivD, modD, powD, negD, absD, toIntD, ltD, gtD, geD, leD, notD, idxD, lenD, sumD, tupleD, listD, anyD, allD, isInt, isBool, isTup, isN, ixN, ints?, bools?, lstAt, intOf, idxOf, mulOk_bd, divOk_bd]
theorem sp_btw {n m l : Nat} {a b c : V3} [Bv n a] [Bv m b] [Bv l c] (h1 : n < 1000) (h2 : m < 1000) (h3 : l < 1000) : callF (TT L) FU (k + 2) f_is_between [a.d, b.d, c.d] = .ret (.st (.bl (btw a b c))) [] := by
  have e1 : n + l < 1000000 := by omega
  have e2 : n + m < 1000000 := by omega
  have e3 : m + l < 1000000 := by omega
  have e4 : n + l + (n + l) + 1 + m < 1000000 := by omega
  have e5 : n + m + (n + m) + 1 + (n + l + (n + l) + 1) < 1000000 := by omega
  have e6 : m + l + (m + l) + 1 + (n + l + (n + l) + 1) < 1000000 := by omega
  rw [callF, f_is_between, t_is_between]
  unfold btw
  by_cases q1 : a.cr c = O3
  · simp [ir_is_between, sp_cross, e1, q1, eq3, tup3, evFn, exes, exe.eq_1, exe.eq_2, exe.eq_3, exe.eq_4, exe.eq_5, exe.eq_6, exe.eq_7, exe.eq_8, exe.eq_9, exe.eq_10, exe.eq_13, exe.eq_14, exe.eq_15, exe.eq_16, exe.eq_17, exe_whl, exe_for, ev, evs, Res.bind, Res.val, Res.vout, Res.out, Out.seq, getV, getB, getO, opEnd, keepOk, keepFs, rds, rd, Rv.opd, itEnd, Opd.isV, itEval, zipIt, seqIt, range1It, range2It, enumIt, pairD, plainAt, initE, compEnd, compL, asg, asgs, wipe, tst, tsts, gens, opEval, rvOf, opFresh, SZ, back, fnEnd, outsOf, patOk, nodupB, ios, callEnd, wrs, truth, spread, addD, subD, mulD, fdivD, modD, powD, negD, absD, toIntD, ltD, gtD, geD, leD, notD, idxD, lenD, sumD, tupleD, listD, anyD, allD, isInt, isBool, isTup, isN, ixN, ints?, bools?, lstAt, intOf, idxOf, mulOk_bd, divOk_bd]
  by_cases q2 : (a.cr c).dot b = 0
  · by_cases q3 : 0 < (a.cr b).dot (a.cr c) <;> simp [ir_is_between, sp_cross, sp_dot, e1, e2, e3, e4, e5, e6, q1, q2, q3, eq3, eqI, tup3, evFn, exes, exe.eq_1, exe.eq_2, exe.eq_3, exe.eq_4, exe.eq_5, exe.eq_6, exe.eq_7, exe.eq_8, exe.eq_9, exe.eq_10, exe.eq_13, exe.eq_14, exe.eq_15, exe.eq_16, exe.eq_17, exe_whl, exe_for, ev, evs, Res.bind, Res.val, Res.vout, Res.out, Out.seq, getV, getB, getO, opEnd, keepOk, keepFs, rds, rd, Rv.opd, itEnd, Opd.isV, itEval, zipIt, seqIt, range1It, range2It, enumIt, pairD, plainAt, initE, compEnd, compL, asg, asgs, wipe, tst, tsts, gens, opEval, rvOf, opFresh, SZ, back, fnEnd, outsOf, patOk, nodupB, ios, callEnd, wrs, truth, spread, addD, subD, mulD, fdivD, modD, powD, negD, absD, toIntD, ltD, gtD, geD, leD, notD, idxD, lenD, sumD, tupleD, listD, anyD, allD, isInt, isBool, isTup, isN, ixN, ints?, bools?, lstAt, intOf, idxOf, mulOk_bd, divOk_bd]
  · simp [ir_is_between, sp_cross, sp_dot, e1, e2, e3, e4, e5, e6, q1, q2, eq3, eqI, tup3, evFn, exes, exe.eq_1, exe.eq_2, exe.eq_3, exe.eq_4, exe.eq_5, exe.eq_6, exe.eq_7, exe.eq_8, exe.eq_9, exe.eq_10, exe.eq_13, exe.eq_14, exe.eq_15, exe.eq_16, exe.eq_17, exe_whl, exe_for, ev, evs, Res.bind, Res.val, Res.vout, Res.out, Out.seq, getV, getB, getO, opEnd, keepOk, keepFs, rds, rd, Rv.opd, itEnd, Opd.isV, itEval, zipIt, seqIt, range1It, range2It, enumIt, pairD, plainAt, initE, compEnd, compL, asg, asgs, wipe, tst, tsts, gens, opEval, rvOf, opFresh, SZ, back, fnEnd, outsOf, patOk, nodupB, ios, callEnd, wrs, truth, spread, addD, subD, mulD, fdivD, modD, powD, negD, absD, toIntD, ltD, gtD, geD, leD, notD, idxD, lenD, sumD, tupleD, listD, anyD, allD, isInt, isBool, isTup, isN, ixN, ints?, bools?, lstAt, intOf, idxOf, mulOk_bd, divOk_bd]
end
end SK

set_option linter.all false
set_option maxRecDepth 100000
set_option autoImplicit false
namespace SK
theorem rat_bd {u v p q : Int} {n m : Nat} [hu : Bd n u] [hv : Bd m v] (hu0 : 0 < u) (hv0 : 0 < v) (h : rat u v = some (p, q)) : ∃ r g : Int, 0 ≤ r ∧ r * r = u * v ∧ 0 < g ∧ r = g * p ∧ v = g * q ∧ Bd (n + m) p ∧ Bd m q ∧ 0 ≤ p ∧ 0 < q := by
  unfold rat at h
  rcases root_cases (u * v) with ⟨r, q1, q2, q3⟩ | ⟨q1, q2⟩
  · rw [q3] at h
    simp only [Option.some.injEq, Prod.mk.injEq] at h
    obtain ⟨h1, h2⟩ := h
    have g0 : (0 : Int) < (Int.gcd r v : Nat) := gcd_pos_r (by omega)
    have d1 := Int.mul_ediv_cancel' (Int.gcd_dvd_left r v)
    have d2 := Int.mul_ediv_cancel' (Int.gcd_dvd_right r v)
    refine ⟨r, (Int.gcd r v : Nat), q1, q2, g0, by rw [← h1, d1], by rw [← h2, d2], ?_, ?_, ?_, ?_⟩
    · rw [← h1]
      have hb : Bd (n + m) (u * v) := inferInstance
      refine hb.le ?_
      have e1 := quo_le r (Int.gcd r v : Nat)
      have e2 : r ≤ r * r := by
        rcases Int.lt_or_eq_of_le q1 with z | z
        · have := Int.mul_le_mul_of_nonneg_left (show (1 : Int) ≤ r by omega) q1
          omega
        · rw [← z]; decide
      rw [← q2]
      omega
    · rw [← h2]
      exact hv.le (quo_le _ _)
    · rw [← h1]
      exact Int.ediv_nonneg q1 (by omega)
    · rw [← h2]
      have : 0 ≤ v / (Int.gcd r v : Nat) := Int.ediv_nonneg (by omega) (by omega)
      rcases Int.lt_or_eq_of_le this with z | z
      · exact z
      · rw [← z] at d2
        omega
  · rw [q2] at h
    cases h
section
variable {L : Nat → Option Fn} {k : Nat}
theorem sp_alike {n m l j : Nat} {a b c d : V3} [Bv n a] [Bv m b] [Bv l c] [Bv j d] (h1 : n < 1000) (h2 : m < 1000) (h3 : l < 1000) (h4 : j < 1000) (ha : a ≠ O3) (hb : b ≠ O3) (hc : c ≠ O3) (hd : d ≠ O3) : callF (TT L) FU (k + 5) f_are_alike [a.d, b.d, c.d, d.d] = .ret (.st (.bl (alike a b c d))) [] := by
  have e1 : n + m < 1000000 := by omega
  have e2 : l + j < 1000000 := by omega
  have e3 : l + l < 1000000 := by omega
  have e4 : j + j < 1000000 := by omega
  have e5 : 6 * (n + m) + 4 < 1000000 := by omega
  have o1 : mulOk (a.dot b) (c.dot d) = true := mulOk_bd (by omega)
  have o2 : mulOk (a.dot b) (a.dot b) = true := mulOk_bd (by omega)
  have o3 : mulOk (a.dot b * a.dot b) (c.dot c) = true := mulOk_bd (by omega)
  have o4 : mulOk (a.dot b * a.dot b * c.dot c) (d.dot d) = true := mulOk_bd (by omega)
  have o5 : mulOk (c.dot d) (c.dot d) = true := mulOk_bd (by omega)
  have o6 : mulOk (c.dot d * c.dot d) (a.dot a * b.dot b) = true := mulOk_bd (by omega)
  rw [callF, f_are_alike, t_are_alike]
  unfold alike
  by_cases q1 : a.dot b * c.dot d < 0
  · simp [ir_are_alike, sp_dot, e1, e2, e3, e4, o1, q1, evFn, exes, exe.eq_1, exe.eq_2, exe.eq_3, exe.eq_4, exe.eq_5, exe.eq_6, exe.eq_7, exe.eq_8, exe.eq_9, exe.eq_10, exe.eq_13, exe.eq_14, exe.eq_15, exe.eq_16, exe.eq_17, exe_whl, exe_for, ev, evs, Res.bind, Res.val, Res.vout, Res.out, Out.seq, getV, getB, getO, opEnd, keepOk, keepFs, rds, rd, Rv.opd, itEnd, Opd.isV, itEval, zipIt, seqIt, range1It, range2It, enumIt, pairD, plainAt, initE, compEnd, compL, asg, asgs, wipe, tst, tsts, gens, opEval, rvOf, opFresh, SZ, back, fnEnd, outsOf, patOk, nodupB, ios, callEnd, wrs, truth, spread, addD, subD, mulD, fdivD, modD, powD, negD, absD, toIntD, ltD, gtD, geD, leD, notD, idxD, lenD, sumD, tupleD, listD, anyD, allD, isInt, isBool, isTup, isN, ixN, ints?, bools?, lstAt, intOf, idxOf, mulOk_bd, divOk_bd]
  by_cases q2 : a.dot b * a.dot b * c.dot c * d.dot d = c.dot d * c.dot d * (a.dot a * b.dot b)
  · rw [if_neg (by intro h; rcases h with z | z; exact q1 z; exact z q2)]
    cases r1 : rat (a.dot a) (c.dot c) with
    | none => simp [ir_are_alike, sp_dot, sp_size, sp_ratio, r1, ratD, h1, h2, h3, h4, ha, hb, hc, hd, e1, e2, e3, e4, e5, o1, o2, o3, o4, o5, o6, q1, q2, eqI, evFn, exes, exe.eq_1, exe.eq_2, exe.eq_3, exe.eq_4, exe.eq_5, exe.eq_6, exe.eq_7, exe.eq_8, exe.eq_9, exe.eq_10, exe.eq_13, exe.eq_14, exe.eq_15, exe.eq_16, exe.eq_17, exe_whl, exe_for, ev, evs, Res.bind, Res.val, Res.vout, Res.out, Out.seq, getV, getB, getO, opEnd, keepOk, keepFs, rds, rd, Rv.opd, itEnd, Opd.isV, itEval, zipIt, seqIt, range1It, range2It, enumIt, pairD, plainAt, initE, compEnd, compL, asg, asgs, wipe, tst, tsts, gens, opEval, rvOf, opFresh, SZ, back, fnEnd, outsOf, patOk, nodupB, ios, callEnd, wrs, truth, spread, addD, subD, mulD, fdivD, modD, powD, negD, absD, toIntD, ltD, gtD, geD, leD, notD, idxD, lenD, sumD, tupleD, listD, anyD, allD, isInt, isBool, isTup, isN, ixN, ints?, bools?, lstAt, intOf, idxOf, mulOk_bd, divOk_bd]
    | some pq =>
      obtain ⟨p, q⟩ := pq
      cases r2 : rat (b.dot b) (d.dot d) with
      | none => simp [ir_are_alike, sp_dot, sp_size, sp_ratio, r1, r2, ratD, h1, h2, h3, h4, ha, hb, hc, hd, e1, e2, e3, e4, e5, o1, o2, o3, o4, o5, o6, q1, q2, eqI, evFn, exes, exe.eq_1, exe.eq_2, exe.eq_3, exe.eq_4, exe.eq_5, exe.eq_6, exe.eq_7, exe.eq_8, exe.eq_9, exe.eq_10, exe.eq_13, exe.eq_14, exe.eq_15, exe.eq_16, exe.eq_17, exe_whl, exe_for, ev, evs, Res.bind, Res.val, Res.vout, Res.out, Out.seq, getV, getB, getO, opEnd, keepOk, keepFs, rds, rd, Rv.opd, itEnd, Opd.isV, itEval, zipIt, seqIt, range1It, range2It, enumIt, pairD, plainAt, initE, compEnd, compL, asg, asgs, wipe, tst, tsts, gens, opEval, rvOf, opFresh, SZ, back, fnEnd, outsOf, patOk, nodupB, ios, callEnd, wrs, truth, spread, addD, subD, mulD, fdivD, modD, powD, negD, absD, toIntD, ltD, gtD, geD, leD, notD, idxD, lenD, sumD, tupleD, listD, anyD, allD, isInt, isBool, isTup, isN, ixN, ints?, bools?, lstAt, intOf, idxOf, mulOk_bd, divOk_bd]
      | some pq' =>
        obtain ⟨p', q'⟩ := pq'
        obtain ⟨_, _, _, _, _, _, _, b1, b2, _, _⟩ := rat_bd (V3.dot_pos ha) (V3.dot_pos hc) r1
        obtain ⟨_, _, _, _, _, _, _, b3, b4, _, _⟩ := rat_bd (V3.dot_pos hb) (V3.dot_pos hd) r2
        have o7 : mulOk (c.dot d) p = true := mulOk_bd (by omega)
        have o8 : mulOk (c.dot d * p) p' = true := mulOk_bd (by omega)
        have o9 : mulOk (a.dot b) q = true := mulOk_bd (by omega)
        have o10 : mulOk (a.dot b * q) q' = true := mulOk_bd (by omega)
        simp [ir_are_alike, sp_dot, sp_size, sp_ratio, r1, r2, ratD, h1, h2, h3, h4, ha, hb, hc, hd, e1, e2, e3, e4, e5, o1, o2, o3, o4, o5, o6, o7, o8, o9, o10, q1, q2, eqI, evFn, exes, exe.eq_1, exe.eq_2, exe.eq_3, exe.eq_4, exe.eq_5, exe.eq_6, exe.eq_7, exe.eq_8, exe.eq_9, exe.eq_10, exe.eq_13, exe.eq_14, exe.eq_15, exe.eq_16, exe.eq_17, exe_whl, exe_for, ev, evs, Res.bind, Res.val, Res.vout, Res.out, Out.seq, getV, getB, getO, opEnd, keepOk, keepFs, rds, rd, Rv.opd, itEnd, Opd.isV, itEval, zipIt, seqIt, range1It, range2It, enumIt, pairD, plainAt, initE, compEnd, compL, asg, asgs, wipe, tst, tsts, gens, opEval, rvOf, opFresh, SZ, back, fnEnd, outsOf, patOk, nodupB, ios, callEnd, wrs, truth, spread, addD, subD, mulD, fdivD, modD, powD, negD, absD, toIntD, ltD, gtD, geD, leD, notD, idxD, lenD, sumD, tupleD, listD, anyD, allD, isInt, isBool, isTup, isN, ixN, ints?, bools?, lstAt, intOf, idxOf, mulOk_bd, divOk_bd]
  · rw [if_pos (.inr q2)]
    simp [ir_are_alike, sp_dot, sp_size, e1, e2, e3, e4, e5, o1, o2, o3, o4, o5, o6, q1, q2, eqI, evFn, exes, exe.eq_1, exe.eq_2, exe.eq_3, exe.eq_4, exe.eq_5, exe.eq_6, exe.eq_7, exe.eq_8, exe.eq_9, exe.eq_10, exe.eq_13, exe.eq_14, exe.eq_15, exe.eq_16, exe.eq_17, exe_whl, exe_for, ev, evs, Res.bind, Res.val, Res.vout, Res.out, Out.seq, getV, getB, getO, opEnd, keepOk, keepFs, rds, rd, Rv.opd, itEnd, Opd.isV, itEval, zipIt, seqIt, range1It, range2It, enumIt, pairD, plainAt, initE, compEnd, compL, asg, asgs, wipe, tst, tsts, gens, opEval, rvOf, opFresh, SZ, back, fnEnd, outsOf, patOk, nodupB, ios, callEnd, wrs, truth, spread, addD, subD, mulD, fdivD, modD, powD, negD, absD, toIntD, ltD, gtD, geD, leD, notD, idxD, lenD, sumD, tupleD, listD, anyD, allD, isInt, isBool, isTup, isN, ixN, ints?, bools?, lstAt, intOf, idxOf, mulOk_bd, divOk_bd]
end
/-! the draw -/
def divs : Nat → Int → Int
  | 0, r => r
  | n + 1, r => divs n (r / 1009)
def cell (ns : List Int) (i : Int) : Int := if ns = [] then 12345 else (ns[(i % ns.length).toNat]?).getD 0
def turnN (ns : List Int) (i : Int) : Int := if ns = [] then 0 else i / ns.length
def rest0 (ns : List Int) (i : Int) : Int := divs (turnN ns i % 60).toNat (if turnN ns i < 60 then cell ns i - 1000000000000000000 else 0)
def blend1 (ns : List Int) (i : Int) : Int := ((cell ns i + 977 * i) * 48271 + 31 * ns.length) % 2147483647
def blend2 (ns : List Int) (i : Int) : Int := (blend1 ns i * blend1 ns i + 40503 * i) % 2147483629
def numV (ns : List Int) (i : Int) : Int := if 0 < rest0 ns i then rest0 ns i % 1009 else (blend2 ns i * 69621 + blend2 ns i / 977) % 2147483587
theorem numV_nn (ns : List Int) (i : Int) : 0 ≤ numV ns i := by
  unfold numV
  split
  · exact Int.emod_nonneg _ (by omega)
  · exact Int.emod_nonneg _ (by omega)
def takeV (ns : List Int) (t m : Int) : Int := numV ns (t + 1) % m
theorem takeV_nn {ns : List Int} {t m : Int} (h : 0 < m) : 0 ≤ takeV ns t m := Int.emod_nonneg _ (by omega)
theorem takeV_lt {ns : List Int} {t m : Int} (h : 0 < m) : takeV ns t m < m := Int.emod_lt_of_pos _ h
theorem d1009 : divOk 1009 = true := by decide +kernel
theorem d977 : divOk 977 = true := by decide +kernel
theorem fl_number {Φ : Nat → List D → CRes} {s0 s1 s2 s3 s6 : Sl} : ∀ (xs : List D) (r : Int) (s5 : Sl), ∃ s5', floop Φ FU (.var 5) [.set 4 (.op .fdiv [.var 4, .cst (.int 1009)])] xs [s0, s1, s2, s3, .val (.int r), s5, s6] = .nx [s0, s1, s2, s3, .val (.int (divs xs.length r)), s5', s6]
  | [], r, s5 => ⟨s5, rfl⟩
  | x :: xs, r, s5 => by
    obtain ⟨s5', h⟩ := fl_number (Φ := Φ) (s0 := s0) (s1 := s1) (s2 := s2) (s3 := s3) (s6 := s6) xs (r / 1009) (.val x)
    unfold floop at h
    exact ⟨s5', by simp [floop, forL, fbody, d1009, h, divs, evFn, exes, exe.eq_1, exe.eq_2, exe.eq_3, exe.eq_4, exe.eq_5, exe.eq_6, exe.eq_7, exe.eq_8, exe.eq_9, exe.eq_10, exe.eq_13, exe.eq_14, exe.eq_15, exe.eq_16, exe.eq_17, exe_whl, exe_for, ev, evs, Res.bind, Res.val, Res.vout, Res.out, Out.seq, getV, getB, getO, opEnd, keepOk, keepFs, rds, rd, Rv.opd, itEnd, Opd.isV, itEval, zipIt, seqIt, range1It, range2It, enumIt, pairD, plainAt, initE, compEnd, compL, asg, asgs, wipe, tst, tsts, gens, opEval, rvOf, opFresh, SZ, back, fnEnd, outsOf, patOk, nodupB, ios, callEnd, wrs, truth, spread, addD, subD, mulD, fdivD, modD, powD, negD, absD, toIntD, ltD, gtD, geD, leD, notD, idxD, lenD, sumD, tupleD, listD, anyD, allD, isInt, isBool, isTup, isN, ixN, ints?, bools?, lstAt, intOf, idxOf, mulOk_bd, divOk_bd]⟩
section
variable {L : Nat → Option Fn} {k : Nat}
theorem ixN_mod {ns : List Int} {i : Int} (h : ns ≠ []) : ixN ns.length (i % ns.length) = some (i % ns.length).toNat := by
  have l : (0 : Int) < ns.length := by
    have := List.length_pos_iff.mpr h
    omega
  unfold ixN
  rw [if_pos (Int.emod_nonneg _ (by omega)), if_pos (Int.emod_lt_of_pos _ l)]
theorem get_mod {ns : List Int} {i : Int} (h : ns ≠ []) : ns[(i % ns.length).toNat]? = some (cell ns i) := by
  have l : (0 : Int) < ns.length := by
    have := List.length_pos_iff.mpr h
    omega
  have h1 := Int.emod_lt_of_pos i l
  have h2 := Int.emod_nonneg i (show (ns.length : Int) ≠ 0 by omega)
  have h3 : (i % ns.length).toNat < ns.length := by omega
  unfold cell
  rw [if_neg h, List.getElem?_eq_getElem h3]
  rfl
theorem eqS (ns : List Int) : eqD (.scr ns) (.lst []) = some (decide (ns = [])) := by
  cases ns <;> simp [eqD, D.pls, D.eqvs]
theorem sp_number {ns : List Int} {i : Int} (h0 : ns.length ≤ 63) : callF (TT L) FU (k + 1) f_law_number [.scr ns, .int i] = .ret (.st (.int (numV ns i))) [] := by
  have hr : rngOk 0 (turnN ns i % 60) = true := by
    have h1 := Int.emod_lt_of_pos (turnN ns i) (show (0 : Int) < 60 by omega)
    have h2 := Int.emod_nonneg (turnN ns i) (show (60 : Int) ≠ 0 by omega)
    unfold rngOk
    simp
    omega
  have hl : (rng 0 (turnN ns i % 60)).length = (turnN ns i % 60).toNat := by simp [rng]
  have hm : ∀ x y : Int, y.natAbs < 18446744073709551616 → mulOk x y = true := fun x y h => mulOk_r h
  have hb : (blend1 ns i).natAbs < 18446744073709551616 := by
    unfold blend1
    have h1 := Int.emod_lt_of_pos ((cell ns i + 977 * i) * 48271 + 31 * (ns.length : Int)) (show (0 : Int) < 2147483647 by omega)
    have h2 := Int.emod_nonneg ((cell ns i + 977 * i) * 48271 + 31 * (ns.length : Int)) (show (2147483647 : Int) ≠ 0 by omega)
    omega
  have m1 : mulOk 977 i = true := by simp [mulOk]
  have m2 : mulOk (cell ns i + 977 * i) 48271 = true := mulOk_r (by decide)
  have m3 : mulOk 31 (ns.length : Int) = true := by simp [mulOk]
  have m4 : mulOk (blend1 ns i) (blend1 ns i) = true := mulOk_r hb
  have m5 : mulOk 40503 i = true := by simp [mulOk]
  have m6 : mulOk (blend2 ns i) 69621 = true := mulOk_r (by decide)
  have b1 : ((cell ns i + 977 * i) * 48271 + 31 * (ns.length : Int)) % 2147483647 = blend1 ns i := rfl
  have b2 : (blend1 ns i * blend1 ns i + 40503 * i) % 2147483629 = blend2 ns i := rfl
  obtain ⟨s5, hf⟩ := fl_number (Φ := callF (TT L) FU k) (s0 := .val (.scr ns)) (s1 := .val (.int i)) (s2 := .val (.int (cell ns i))) (s3 := .val (.int (turnN ns i))) (s6 := .no) (rng 0 (turnN ns i % 60)) (if turnN ns i < 60 then cell ns i - 1000000000000000000 else 0) .no
  rw [hl] at hf
  change _ = Out.nx [_, _, _, _, .val (.int (rest0 ns i)), _, _] at hf
  rw [callF, f_law_number, t_law_number]
  unfold numV
  by_cases e : ns = []
  · subst e
    have c1 : cell [] i = 12345 := rfl
    have c2 : turnN [] i = 0 := rfl
    rw [c1, c2] at hf
    rw [c2] at hr
    rw [c1] at m2 b1
    simp at hf hr b1 m3
    by_cases q2 : 0 < rest0 [] i
    · simp [ir_law_number, eqS, hr, hf, q2, evFn, exes, exe.eq_1, exe.eq_2, exe.eq_3, exe.eq_4, exe.eq_5, exe.eq_6, exe.eq_7, exe.eq_8, exe.eq_9, exe.eq_10, exe.eq_13, exe.eq_14, exe.eq_15, exe.eq_16, exe.eq_17, exe_whl, exe_for, ev, evs, Res.bind, Res.val, Res.vout, Res.out, Out.seq, getV, getB, getO, opEnd, keepOk, keepFs, rds, rd, Rv.opd, itEnd, Opd.isV, itEval, zipIt, seqIt, range1It, range2It, enumIt, pairD, plainAt, initE, compEnd, compL, asg, asgs, wipe, tst, tsts, gens, opEval, rvOf, opFresh, SZ, back, fnEnd, outsOf, patOk, nodupB, ios, callEnd, wrs, truth, spread, addD, subD, mulD, fdivD, modD, powD, negD, absD, toIntD, ltD, gtD, geD, leD, notD, idxD, lenD, sumD, tupleD, listD, anyD, allD, isInt, isBool, isTup, isN, ixN, ints?, bools?, lstAt, intOf, idxOf, mulOk_bd, divOk_bd]
    · simp [ir_law_number, eqS, hr, hf, q2, m1, m2, m3, m4, m5, m6, b1, b2, d977, evFn, exes, exe.eq_1, exe.eq_2, exe.eq_3, exe.eq_4, exe.eq_5, exe.eq_6, exe.eq_7, exe.eq_8, exe.eq_9, exe.eq_10, exe.eq_13, exe.eq_14, exe.eq_15, exe.eq_16, exe.eq_17, exe_whl, exe_for, ev, evs, Res.bind, Res.val, Res.vout, Res.out, Out.seq, getV, getB, getO, opEnd, keepOk, keepFs, rds, rd, Rv.opd, itEnd, Opd.isV, itEval, zipIt, seqIt, range1It, range2It, enumIt, pairD, plainAt, initE, compEnd, compL, asg, asgs, wipe, tst, tsts, gens, opEval, rvOf, opFresh, SZ, back, fnEnd, outsOf, patOk, nodupB, ios, callEnd, wrs, truth, spread, addD, subD, mulD, fdivD, modD, powD, negD, absD, toIntD, ltD, gtD, geD, leD, notD, idxD, lenD, sumD, tupleD, listD, anyD, allD, isInt, isBool, isTup, isN, ixN, ints?, bools?, lstAt, intOf, idxOf, mulOk_bd, divOk_bd]
  · have l : (0 : Int) < ns.length := by
      have := List.length_pos_iff.mpr e
      omega
    have ll := List.length_pos_iff.mpr e
    haveI hbl : Bd 6 (ns.length : Int) := ⟨by simp; omega⟩
    have dl : divOk (ns.length : Int) = true := divOk_bd (by omega) l
    have c2 : i / (ns.length : Int) = turnN ns i := by simp [turnN, e]
    by_cases q1 : turnN ns i < 60 <;> by_cases q2 : 0 < rest0 ns i
    · rw [if_pos q1] at hf
      simp [ir_law_number, eqS, e, hr, hf, q1, q2, ll, dl, c2, get_mod e, ixN_mod e, evFn, exes, exe.eq_1, exe.eq_2, exe.eq_3, exe.eq_4, exe.eq_5, exe.eq_6, exe.eq_7, exe.eq_8, exe.eq_9, exe.eq_10, exe.eq_13, exe.eq_14, exe.eq_15, exe.eq_16, exe.eq_17, exe_whl, exe_for, ev, evs, Res.bind, Res.val, Res.vout, Res.out, Out.seq, getV, getB, getO, opEnd, keepOk, keepFs, rds, rd, Rv.opd, itEnd, Opd.isV, itEval, zipIt, seqIt, range1It, range2It, enumIt, pairD, plainAt, initE, compEnd, compL, asg, asgs, wipe, tst, tsts, gens, opEval, rvOf, opFresh, SZ, back, fnEnd, outsOf, patOk, nodupB, ios, callEnd, wrs, truth, spread, addD, subD, mulD, fdivD, modD, powD, toIntD, ltD, gtD, idxD, lenD]
    · rw [if_pos q1] at hf
      simp [ir_law_number, eqS, e, hr, hf, q1, q2, ll, dl, c2, get_mod e, ixN_mod e, m1, m2, m3, m4, m5, m6, b1, b2, d977, evFn, exes, exe.eq_1, exe.eq_2, exe.eq_3, exe.eq_4, exe.eq_5, exe.eq_6, exe.eq_7, exe.eq_8, exe.eq_9, exe.eq_10, exe.eq_13, exe.eq_14, exe.eq_15, exe.eq_16, exe.eq_17, exe_whl, exe_for, ev, evs, Res.bind, Res.val, Res.vout, Res.out, Out.seq, getV, getB, getO, opEnd, keepOk, keepFs, rds, rd, Rv.opd, itEnd, Opd.isV, itEval, zipIt, seqIt, range1It, range2It, enumIt, pairD, plainAt, initE, compEnd, compL, asg, asgs, wipe, tst, tsts, gens, opEval, rvOf, opFresh, SZ, back, fnEnd, outsOf, patOk, nodupB, ios, callEnd, wrs, truth, spread, addD, subD, mulD, fdivD, modD, powD, toIntD, ltD, gtD, idxD, lenD]
    · rw [if_neg q1] at hf
      simp [ir_law_number, eqS, e, hr, hf, q1, q2, ll, dl, c2, get_mod e, ixN_mod e, evFn, exes, exe.eq_1, exe.eq_2, exe.eq_3, exe.eq_4, exe.eq_5, exe.eq_6, exe.eq_7, exe.eq_8, exe.eq_9, exe.eq_10, exe.eq_13, exe.eq_14, exe.eq_15, exe.eq_16, exe.eq_17, exe_whl, exe_for, ev, evs, Res.bind, Res.val, Res.vout, Res.out, Out.seq, getV, getB, getO, opEnd, keepOk, keepFs, rds, rd, Rv.opd, itEnd, Opd.isV, itEval, zipIt, seqIt, range1It, range2It, enumIt, pairD, plainAt, initE, compEnd, compL, asg, asgs, wipe, tst, tsts, gens, opEval, rvOf, opFresh, SZ, back, fnEnd, outsOf, patOk, nodupB, ios, callEnd, wrs, truth, spread, addD, subD, mulD, fdivD, modD, powD, toIntD, ltD, gtD, idxD, lenD]
    · rw [if_neg q1] at hf
      simp [ir_law_number, eqS, e, hr, hf, q1, q2, ll, dl, c2, get_mod e, ixN_mod e, m1, m2, m3, m4, m5, m6, b1, b2, d977, evFn, exes, exe.eq_1, exe.eq_2, exe.eq_3, exe.eq_4, exe.eq_5, exe.eq_6, exe.eq_7, exe.eq_8, exe.eq_9, exe.eq_10, exe.eq_13, exe.eq_14, exe.eq_15, exe.eq_16, exe.eq_17, exe_whl, exe_for, ev, evs, Res.bind, Res.val, Res.vout, Res.out, Out.seq, getV, getB, getO, opEnd, keepOk, keepFs, rds, rd, Rv.opd, itEnd, Opd.isV, itEval, zipIt, seqIt, range1It, range2It, enumIt, pairD, plainAt, initE, compEnd, compL, asg, asgs, wipe, tst, tsts, gens, opEval, rvOf, opFresh, SZ, back, fnEnd, outsOf, patOk, nodupB, ios, callEnd, wrs, truth, spread, addD, subD, mulD, fdivD, modD, powD, toIntD, ltD, gtD, idxD, lenD]
theorem sp_take {ns : List Int} {t m : Int} (h0 : ns.length ≤ 63) (hm : 0 < m) : callF (TT L) FU (k + 2) f_law_take [.lst [.scr ns, .int t], .int m] = .ret (.st (.int (takeV ns t m))) [.lst [.scr ns, .int (t + 1)]] := by
  rw [callF, f_law_take, t_law_take]
  simp [ir_law_take, sp_number, h0, hm, takeV, evFn, exes, exe.eq_1, exe.eq_2, exe.eq_3, exe.eq_4, exe.eq_5, exe.eq_6, exe.eq_7, exe.eq_8, exe.eq_9, exe.eq_10, exe.eq_13, exe.eq_14, exe.eq_15, exe.eq_16, exe.eq_17, exe_whl, exe_for, ev, evs, Res.bind, Res.val, Res.vout, Res.out, Out.seq, getV, getB, getO, opEnd, keepOk, keepFs, rds, rd, Rv.opd, itEnd, Opd.isV, itEval, zipIt, seqIt, range1It, range2It, enumIt, pairD, plainAt, initE, compEnd, compL, asg, asgs, wipe, tst, tsts, gens, opEval, rvOf, opFresh, SZ, back, fnEnd, outsOf, patOk, nodupB, ios, callEnd, wrs, truth, spread, addD, subD, mulD, fdivD, modD, powD, negD, absD, toIntD, ltD, gtD, geD, leD, notD, idxD, lenD, sumD, tupleD, listD, anyD, allD, isInt, isBool, isTup, isN, ixN, ints?, bools?, lstAt, intOf, idxOf, mulOk_bd, divOk_bd]
/-! the law's skies -/
structure Sky (a : V3) : Prop where
  ne : a ≠ O3
  b : Bv 4 a
  g : a.g = 1
  v : a.dot a ∈ [1, 2, 3, 9, 25, 49, 81]
def vals : List Int := [1, 2, 3, 9, 25, 49, 81]
def rows : List V3 := [⟨1, 0, 0⟩, ⟨0, 1, 0⟩, ⟨0, 0, 1⟩, ⟨1, 2, 2⟩, ⟨2, 1, 2⟩, ⟨2, 2, 1⟩, ⟨3, 0, 4⟩, ⟨0, 3, 4⟩, ⟨4, 3, 0⟩, ⟨2, 3, 6⟩, ⟨6, 2, 3⟩, ⟨1, 4, 8⟩, ⟨1, 1, 0⟩, ⟨1, 1, 1⟩]
def rowAt (i : Int) : V3 := (rows[i.toNat]?).getD ⟨1, 1, 1⟩
def skyRow (ns : List Int) (t : Int) : V3 := if 0 < takeV ns t 8 then rowAt (takeV ns (t + 1) 12) else rowAt (takeV ns (t + 1) 14)
def flip1 (ns : List Int) (t x : Int) : Int := if takeV ns t 2 = 0 then x else 0 - x
def skyV (ns : List Int) (t : Int) : V3 := ⟨flip1 ns (t + 2) (skyRow ns t).x, flip1 ns (t + 3) (skyRow ns t).y, flip1 ns (t + 4) (skyRow ns t).z⟩
theorem rowAt_eq {i : Int} (h0 : 0 ≤ i) (h1 : i < 14) : (ixN 14 i).bind (fun j => (rows.map V3.d)[j]?) = some (rowAt i).d := by
  have : i = 0 ∨ i = 1 ∨ i = 2 ∨ i = 3 ∨ i = 4 ∨ i = 5 ∨ i = 6 ∨ i = 7 ∨ i = 8 ∨ i = 9 ∨ i = 10 ∨ i = 11 ∨ i = 12 ∨ i = 13 := by omega
  rcases this with q | q | q | q | q | q | q | q | q | q | q | q | q | q <;> subst q <;> rfl
theorem row_mem (i : Int) : rowAt i ∈ rows := by
  unfold rowAt
  cases e : rows[i.toNat]? with
  | none => decide
  | some v => exact List.mem_of_getElem? e
theorem sky_ok (ns : List Int) (t : Int) : Sky (skyV ns t) := by
  have hr : skyRow ns t ∈ rows := by
    unfold skyRow
    split <;> exact row_mem _
  unfold skyV flip1
  generalize skyRow ns t = r at hr
  have : ∀ r ∈ rows, ∀ s ∈ [true, false], ∀ u ∈ [true, false], ∀ v ∈ [true, false], (⟨if s then r.x else 0 - r.x, if u then r.y else 0 - r.y, if v then r.z else 0 - r.z⟩ : V3) ≠ O3 ∧ (if s then r.x else 0 - r.x).natAbs < 2 ^ 4 ∧ (if u then r.y else 0 - r.y).natAbs < 2 ^ 4 ∧ (if v then r.z else 0 - r.z).natAbs < 2 ^ 4 ∧ V3.g ⟨if s then r.x else 0 - r.x, if u then r.y else 0 - r.y, if v then r.z else 0 - r.z⟩ = 1 ∧ V3.dot ⟨if s then r.x else 0 - r.x, if u then r.y else 0 - r.y, if v then r.z else 0 - r.z⟩ ⟨if s then r.x else 0 - r.x, if u then r.y else 0 - r.y, if v then r.z else 0 - r.z⟩ ∈ [(1 : Int), 2, 3, 9, 25, 49, 81] := by decide +kernel
  have bm : ∀ b : Bool, b ∈ [true, false] := fun b => by cases b <;> decide
  have h := this r hr (decide (takeV ns (t + 2) 2 = 0)) (bm _) (decide (takeV ns (t + 3) 2 = 0)) (bm _) (decide (takeV ns (t + 4) 2 = 0)) (bm _)
  simp only [decide_eq_true_eq] at h
  obtain ⟨h1, h2, h3, h4, h5, h6⟩ := h
  exact ⟨h1, ⟨⟨h2⟩, ⟨h3⟩, ⟨h4⟩⟩, h5, h6⟩
theorem sp_pick {ns : List Int} {t : Int} {xs : List D} (h0 : ns.length ≤ 63) (h1 : 0 < xs.length) : callF (TT L) FU (k + 3) f_law_pick [.lst [.scr ns, .int t], .lst xs] = match (ixN xs.length (takeV ns t xs.length)).bind fun j => xs[j]? with
    | some d => .ret (.st d) [.lst [.scr ns, .int (t + 1)]]
    | none => .bad := by
  have h2 : (0 : Int) < xs.length := by omega
  rw [callF, f_law_pick, t_law_pick]
  cases e : (ixN xs.length (takeV ns t xs.length)).bind fun j => xs[j]? with
  | none => simp [ir_law_pick, sp_take, h0, h1, e, idxD, lenD, evFn, exes, exe.eq_1, exe.eq_2, exe.eq_3, exe.eq_4, exe.eq_5, exe.eq_6, exe.eq_7, exe.eq_8, exe.eq_9, exe.eq_10, exe.eq_13, exe.eq_14, exe.eq_15, exe.eq_16, exe.eq_17, exe_whl, exe_for, ev, evs, Res.bind, Res.val, Res.vout, Res.out, Out.seq, getV, getB, getO, opEnd, keepOk, keepFs, rds, rd, Rv.opd, itEnd, Opd.isV, itEval, zipIt, seqIt, range1It, range2It, enumIt, pairD, plainAt, initE, compEnd, compL, asg, asgs, wipe, tst, tsts, gens, opEval, rvOf, opFresh, SZ, back, fnEnd, outsOf, patOk, nodupB, ios, callEnd, wrs, truth, spread]
  | some d => simp [ir_law_pick, sp_take, h0, h1, e, idxD, lenD, evFn, exes, exe.eq_1, exe.eq_2, exe.eq_3, exe.eq_4, exe.eq_5, exe.eq_6, exe.eq_7, exe.eq_8, exe.eq_9, exe.eq_10, exe.eq_13, exe.eq_14, exe.eq_15, exe.eq_16, exe.eq_17, exe_whl, exe_for, ev, evs, Res.bind, Res.val, Res.vout, Res.out, Out.seq, getV, getB, getO, opEnd, keepOk, keepFs, rds, rd, Rv.opd, itEnd, Opd.isV, itEval, zipIt, seqIt, range1It, range2It, enumIt, pairD, plainAt, initE, compEnd, compL, asg, asgs, wipe, tst, tsts, gens, opEval, rvOf, opFresh, SZ, back, fnEnd, outsOf, patOk, nodupB, ios, callEnd, wrs, truth, spread]
theorem sp_sky {ns : List Int} {t : Int} (h0 : ns.length ≤ 63) : callF (TT L) FU (k + 4) f_law_sky [.lst [.scr ns, .int t]] = .ret (.st (skyV ns t).d) [.lst [.scr ns, .int (t + 5)]] := by
  have w1 := rowAt_eq (takeV_nn (ns := ns) (t := t + 1) (show (0 : Int) < 14 by omega)) (takeV_lt (show (0 : Int) < 14 by omega))
  have w2 := rowAt_eq (takeV_nn (ns := ns) (t := t + 1) (show (0 : Int) < 12 by omega)) (Int.lt_trans (takeV_lt (ns := ns) (t := t + 1) (show (0 : Int) < 12 by omega)) (by omega))
  have pk := sp_pick (L := L) (k := k) (ns := ns) (t := t + 1) (xs := rows.map V3.d) h0 (by decide)
  rw [show (rows.map V3.d).length = 14 from rfl] at pk
  rw [show ((14 : Nat) : Int) = 14 from rfl, w1] at pk
  have a1 : t + 1 + 1 = t + 2 := by omega
  have a2 : t + 2 + 1 = t + 3 := by omega
  have a3 : t + 3 + 1 = t + 4 := by omega
  have a4 : t + 4 + 1 = t + 5 := by omega
  rw [callF, f_law_sky, t_law_sky]
  unfold skyV skyRow flip1
  simp [rows, V3.d] at pk w2
  by_cases q : 0 < takeV ns t 8
  · by_cases c1 : takeV ns (t + 2) 2 = 0 <;> by_cases c2 : takeV ns (t + 3) 2 = 0 <;> by_cases c3 : takeV ns (t + 4) 2 = 0 <;> simp [ir_law_sky, sp_take, h0, q, c1, c2, c3, w2, a1, a2, a3, a4, eqI, V3.d, addD, subD, ltD, gtD, idxD, lenD, tupleD, evFn, exes, exe.eq_1, exe.eq_2, exe.eq_3, exe.eq_4, exe.eq_5, exe.eq_6, exe.eq_7, exe.eq_8, exe.eq_9, exe.eq_10, exe.eq_13, exe.eq_14, exe.eq_15, exe.eq_16, exe.eq_17, exe_whl, exe_for, ev, evs, Res.bind, Res.val, Res.vout, Res.out, Out.seq, getV, getB, getO, opEnd, keepOk, keepFs, rds, rd, Rv.opd, itEnd, Opd.isV, itEval, zipIt, seqIt, range1It, range2It, enumIt, pairD, plainAt, initE, compEnd, compL, asg, asgs, wipe, tst, tsts, gens, opEval, rvOf, opFresh, SZ, back, fnEnd, outsOf, patOk, nodupB, ios, callEnd, wrs, truth, spread]
  · by_cases c1 : takeV ns (t + 2) 2 = 0 <;> by_cases c2 : takeV ns (t + 3) 2 = 0 <;> by_cases c3 : takeV ns (t + 4) 2 = 0 <;> simp [ir_law_sky, sp_take, h0, q, c1, c2, c3, pk, a1, a2, a3, a4, eqI, V3.d, addD, subD, ltD, gtD, idxD, lenD, tupleD, evFn, exes, exe.eq_1, exe.eq_2, exe.eq_3, exe.eq_4, exe.eq_5, exe.eq_6, exe.eq_7, exe.eq_8, exe.eq_9, exe.eq_10, exe.eq_13, exe.eq_14, exe.eq_15, exe.eq_16, exe.eq_17, exe_whl, exe_for, ev, evs, Res.bind, Res.val, Res.vout, Res.out, Out.seq, getV, getB, getO, opEnd, keepOk, keepFs, rds, rd, Rv.opd, itEnd, Opd.isV, itEval, zipIt, seqIt, range1It, range2It, enumIt, pairD, plainAt, initE, compEnd, compL, asg, asgs, wipe, tst, tsts, gens, opEval, rvOf, opFresh, SZ, back, fnEnd, outsOf, patOk, nodupB, ios, callEnd, wrs, truth, spread]
end
end SK

set_option linter.all false
set_option maxRecDepth 100000
set_option autoImplicit false
namespace SK
namespace K48
def bodyK : List St := match ir_law_k48.body with
  | [_, .for_ _ _ _ b, _] => b
  | _ => []
def st (i : Nat) : St := bodyK.getD i .pass
abbrev Φ : Nat → List D → CRes := callF (TT L_k48) FU 11
abbrev en (ns : List Int) (t : Int) (s2 : Sl) (a b c d : V3) (s8 s9 s10 s11 s12 s13 : Sl) : Env := [.val (.scr ns), .own (.lst [.scr ns, .int t]), s2, .val a.d, .val b.d, .val c.d, .val d.d, .no, s8, s9, s10, s11, s12, s13, .no]
section
variable {ns : List Int} {t : Int} {a b c d : V3} {s2 s3 s4 s5 s6 s8 s9 s10 s11 s12 s13 : Sl}
theorem st0 (h0 : ns.length ≤ 63) : exe Φ FU (st 0) [.val (.scr ns), .own (.lst [.scr ns, .int t]), s2, s3, s4, s5, s6, .no, s8, s9, s10, s11, s12, s13, .no] = .nx (en ns (t + 5 + 5 + 5 + 5) s2 (skyV ns t) (skyV ns (t + 5)) (skyV ns (t + 5 + 5)) (skyV ns (t + 5 + 5 + 5)) s8 s9 s10 s11 s12 s13) := by
  have r4 : rng 0 4 = [.int 0, .int 1, .int 2, .int 3] := rfl
  have k4 : rngOk 0 4 = true := by decide
  simp [st, bodyK, ir_law_k48, sp_sky, h0, r4, k4, evFn, exes, exe.eq_1, exe.eq_2, exe.eq_3, exe.eq_4, exe.eq_5, exe.eq_6, exe.eq_7, exe.eq_8, exe.eq_9, exe.eq_10, exe.eq_13, exe.eq_14, exe.eq_15, exe.eq_16, exe.eq_17, exe_whl, exe_for, ev, evs, Res.bind, Res.val, Res.vout, Res.out, Out.seq, getV, getB, getO, opEnd, keepOk, keepFs, rds, rd, Rv.opd, itEnd, Opd.isV, itEval, zipIt, seqIt, range1It, range2It, enumIt, pairD, plainAt, initE, compEnd, compL, asg, asgs, wipe, tst, tsts, gens, opEval, rvOf, opFresh, SZ, back, fnEnd, outsOf, patOk, nodupB, ios, callEnd, wrs, truth, spread]
/-! the plain laws -/
theorem lag (a b c d : V3) : (a.cr b).dot (c.cr d) = a.dot c * b.dot d - a.dot d * b.dot c := by unfold V3.dot V3.cr; grind
theorem crd (a b : V3) : (a.cr b).dot a = 0 := by unfold V3.dot V3.cr; grind
theorem crd2 (a b : V3) : (a.cr b).dot b = 0 := by unfold V3.dot V3.cr; grind
theorem cr_neg (a b : V3) : (b.cr a).sm (-1) = a.cr b := by
  simp only [V3.sm, V3.cr, V3.mk.injEq]
  grind
theorem jac (a b c : V3) : ((a.cr (b.cr c)).add (b.cr (c.cr a))).add (c.cr (a.cr b)) = O3 := by
  simp only [V3.cr, V3.add, V3.mk.injEq]
  grind
theorem det1 (a b c : V3) : (b.cr c).dot a = (a.cr b).dot c := by unfold V3.dot V3.cr; grind
theorem det2 (a b c : V3) : (b.cr a).dot c = -(a.cr b).dot c := by unfold V3.dot V3.cr; grind
theorem det3 (a b c : V3) : (a.cr b).dot (c.add (a.sm 3)) = (a.cr b).dot c := by unfold V3.dot V3.cr V3.add V3.sm; grind
theorem dot_comm (a b : V3) : a.dot b = b.dot a := by unfold V3.dot; grind
theorem st1 [Bv 4 a] [Bv 4 b] [Bv 4 c] [Bv 4 d] : exe Φ FU (st 1) (en ns t s2 a b c d s8 s9 s10 s11 s12 s13) = .nx (en ns t s2 a b c d s8 s9 s10 s11 s12 s13) := by
  simp [st, bodyK, ir_law_k48, sp_dot, sp_cross, sp_times, lag, crd, cr_neg, eqI, eq3, tuple3, subD, mulD, mulOk_bd, evFn, exes, exe.eq_1, exe.eq_2, exe.eq_3, exe.eq_4, exe.eq_5, exe.eq_6, exe.eq_7, exe.eq_8, exe.eq_9, exe.eq_10, exe.eq_13, exe.eq_14, exe.eq_15, exe.eq_16, exe.eq_17, exe_whl, exe_for, ev, evs, Res.bind, Res.val, Res.vout, Res.out, Out.seq, getV, getB, getO, opEnd, keepOk, keepFs, rds, rd, Rv.opd, itEnd, Opd.isV, itEval, zipIt, seqIt, range1It, range2It, enumIt, pairD, plainAt, initE, compEnd, compL, asg, asgs, wipe, tst, tsts, gens, opEval, rvOf, opFresh, SZ, back, fnEnd, outsOf, patOk, nodupB, ios, callEnd, wrs, truth, spread]
theorem st2 [Bv 4 a] [Bv 4 b] [Bv 4 c] [Bv 4 d] : exe Φ FU (st 2) (en ns t s2 a b c d s8 s9 s10 s11 s12 s13) = .nx (en ns t s2 a b c d s8 s9 s10 s11 s12 s13) := by
  have e1 := det1 a b c
  have e2 := det2 a b c
  simp [st, bodyK, ir_law_k48, sp_dot, sp_cross, sp_times, sp_plus, sp_det, jac, e1, e2, det3, eqI, eq3, tup3, tuple3, subD, mulD, mulOk_bd, evFn, exes, exe.eq_1, exe.eq_2, exe.eq_3, exe.eq_4, exe.eq_5, exe.eq_6, exe.eq_7, exe.eq_8, exe.eq_9, exe.eq_10, exe.eq_13, exe.eq_14, exe.eq_15, exe.eq_16, exe.eq_17, exe_whl, exe_for, ev, evs, Res.bind, Res.val, Res.vout, Res.out, Out.seq, getV, getB, getO, opEnd, keepOk, keepFs, rds, rd, Rv.opd, itEnd, Opd.isV, itEval, zipIt, seqIt, range1It, range2It, enumIt, pairD, plainAt, initE, compEnd, compL, asg, asgs, wipe, tst, tsts, gens, opEval, rvOf, opFresh, SZ, back, fnEnd, outsOf, patOk, nodupB, ios, callEnd, wrs, truth, spread]
theorem lag2 (a b : V3) : (a.cr b).dot (a.cr b) + a.dot b * a.dot b = a.dot a * b.dot b := by unfold V3.dot V3.cr; grind
theorem st3 [Bv 4 a] [Bv 4 b] [Bv 4 c] [Bv 4 d] : exe Φ FU (st 3) (en ns t s2 a b c d s8 s9 s10 s11 s12 s13) = .nx (en ns t s2 a b c d (.val (.int (a.dot a * b.dot b))) s9 s10 s11 s12 s13) := by
  have e := lag2 a b
  simp [st, bodyK, ir_law_k48, sp_dot, sp_cross, e, addD, mulD, mulOk_bd, evFn, exes, exe.eq_1, exe.eq_2, exe.eq_3, exe.eq_4, exe.eq_5, exe.eq_6, exe.eq_7, exe.eq_8, exe.eq_9, exe.eq_10, exe.eq_13, exe.eq_14, exe.eq_15, exe.eq_16, exe.eq_17, exe_whl, exe_for, ev, evs, Res.bind, Res.val, Res.vout, Res.out, Out.seq, getV, getB, getO, opEnd, keepOk, keepFs, rds, rd, Rv.opd, itEnd, Opd.isV, itEval, zipIt, seqIt, range1It, range2It, enumIt, pairD, plainAt, initE, compEnd, compL, asg, asgs, wipe, tst, tsts, gens, opEval, rvOf, opFresh, SZ, back, fnEnd, outsOf, patOk, nodupB, ios, callEnd, wrs, truth, spread]
theorem tst_line (a b : V3) : a.cr b = O3 ↔ a.dot b * a.dot b = a.dot a * b.dot b := by
  have e := lag2 a b
  constructor
  · intro h
    rw [h] at e
    simp [V3.dot] at e
    simp [V3.dot]
    omega
  · intro h
    by_cases q : a.cr b = O3
    · exact q
    · have := V3.dot_pos q
      omega
theorem st4 [Bv 4 a] [Bv 4 b] (ha : a ≠ O3) (hb : b ≠ O3) : exe Φ FU (st 4) (en ns t s2 a b c d (.val (.int (a.dot a * b.dot b))) s9 s10 s11 s12 s13) = .nx (en ns t s2 a b c d (.val (.int (a.dot a * b.dot b))) s9 s10 s11 s12 s13) := by
  have p1 := V3.dot_pos ha
  have p2 := V3.dot_pos hb
  have p3 : 0 ≤ a.dot a * b.dot b := Int.mul_nonneg (by omega) (by omega)
  have e : decide (a.cr b = O3) = decide (a.dot b * a.dot b = a.dot a * b.dot b) := by
    have := tst_line a b
    by_cases q : a.cr b = O3 <;> by_cases q2 : a.dot b * a.dot b = a.dot a * b.dot b <;> simp_all
  rcases root_cases (a.dot a * b.dot b) with ⟨r, q1, q2, q3⟩ | ⟨q1, q2⟩
  · simp [st, bodyK, ir_law_k48, sp_dot, sp_root, sp_ratio, sp_line, ha, hb, p3, q3, rat, ratD, isN, eqI, eqB, e, mulD, mulOk_bd, evFn, exes, exe.eq_1, exe.eq_2, exe.eq_3, exe.eq_4, exe.eq_5, exe.eq_6, exe.eq_7, exe.eq_8, exe.eq_9, exe.eq_10, exe.eq_13, exe.eq_14, exe.eq_15, exe.eq_16, exe.eq_17, exe_whl, exe_for, ev, evs, Res.bind, Res.val, Res.vout, Res.out, Out.seq, getV, getB, getO, opEnd, keepOk, keepFs, rds, rd, Rv.opd, itEnd, Opd.isV, itEval, zipIt, seqIt, range1It, range2It, enumIt, pairD, plainAt, initE, compEnd, compL, asg, asgs, wipe, tst, tsts, gens, opEval, rvOf, opFresh, SZ, back, fnEnd, outsOf, patOk, nodupB, ios, callEnd, wrs, truth, spread]
  · simp [st, bodyK, ir_law_k48, sp_dot, sp_root, sp_ratio, sp_line, ha, hb, p3, q2, rat, ratD, isN, eqI, eqB, e, mulD, mulOk_bd, evFn, exes, exe.eq_1, exe.eq_2, exe.eq_3, exe.eq_4, exe.eq_5, exe.eq_6, exe.eq_7, exe.eq_8, exe.eq_9, exe.eq_10, exe.eq_13, exe.eq_14, exe.eq_15, exe.eq_16, exe.eq_17, exe_whl, exe_for, ev, evs, Res.bind, Res.val, Res.vout, Res.out, Out.seq, getV, getB, getO, opEnd, keepOk, keepFs, rds, rd, Rv.opd, itEnd, Opd.isV, itEval, zipIt, seqIt, range1It, range2It, enumIt, pairD, plainAt, initE, compEnd, compL, asg, asgs, wipe, tst, tsts, gens, opEval, rvOf, opFresh, SZ, back, fnEnd, outsOf, patOk, nodupB, ios, callEnd, wrs, truth, spread]
noncomputable abbrev ra (a b : V3) : Option (Int × Int) := rat (a.dot a) (b.dot b)
theorem st5 [Bv 4 a] [Bv 4 b] [Bv 4 c] (ha : a ≠ O3) (hb : b ≠ O3) (hc : c ≠ O3) : exe Φ FU (st 5) (en ns t s2 a b c d s8 s9 s10 s11 s12 s13) = .nx (en ns t s2 a b c d s8 (.val (ratD (ra a b))) (.val (ratD (ra b c))) (.val (ratD (ra a c))) s12 s13) := by
  simp [st, bodyK, ir_law_k48, sp_ratio, ha, hb, hc, evFn, exes, exe.eq_1, exe.eq_2, exe.eq_3, exe.eq_4, exe.eq_5, exe.eq_6, exe.eq_7, exe.eq_8, exe.eq_9, exe.eq_10, exe.eq_13, exe.eq_14, exe.eq_15, exe.eq_16, exe.eq_17, exe_whl, exe_for, ev, evs, Res.bind, Res.val, Res.vout, Res.out, Out.seq, getV, getB, getO, opEnd, keepOk, keepFs, rds, rd, Rv.opd, itEnd, Opd.isV, itEval, zipIt, seqIt, range1It, range2It, enumIt, pairD, plainAt, initE, compEnd, compL, asg, asgs, wipe, tst, tsts, gens, opEval, rvOf, opFresh, SZ, back, fnEnd, outsOf, patOk, nodupB, ios, callEnd, wrs, truth, spread]
/-! ratios of the lengths that there are -/
def ratC (u v : Int) : Option (Int × Int) := match ((List.range 820).map Int.ofNat).find? (fun r => r * r == u * v) with
  | some r => some (r / Int.gcd r v, v / Int.gcd r v)
  | none => none
theorem rat_C {u v : Int} (hu0 : 0 < u) (hv0 : 0 < v) (hu : u ≤ 324) (hv : v ≤ 324) : rat u v = ratC u v := by
  unfold rat ratC
  have hb : u * v ≤ 324 * 324 := Int.mul_le_mul hu hv (by omega) (by omega)
  rcases root_cases (u * v) with ⟨r, q1, q2, q3⟩ | ⟨q1, q2⟩
  · have r1 : r ≤ 324 := by
      rcases Int.lt_or_le 324 r with z | z
      · have := sq_lt (show (0 : Int) ≤ 324 by omega) z
        omega
      · exact z
    cases e : ((List.range 820).map Int.ofNat).find? (fun r => r * r == u * v) with
    | some s =>
      have e1 := List.find?_some e
      have e2 := List.mem_of_find?_eq_some e
      simp only [List.mem_map, List.mem_range] at e2
      obtain ⟨n, _, e2⟩ := e2
      have s0 : 0 ≤ s := by rw [← e2]; exact Int.natCast_nonneg n
      have e1 : s * s = u * v := by simpa using e1
      have : r = s := sq_inj q1 s0 (by omega)
      rw [q3, this]
    | none =>
      exfalso
      have e1 := List.find?_eq_none.mp e r (by
        simp only [List.mem_map, List.mem_range]
        exact ⟨r.toNat, by omega, by simp; omega⟩)
      simp [q2] at e1
  · rw [q2]
    cases e : ((List.range 820).map Int.ofNat).find? (fun r => r * r == u * v) with
    | some s =>
      exfalso
      have e1 := List.find?_some e
      have e2 := List.mem_of_find?_eq_some e
      simp only [List.mem_map, List.mem_range] at e2
      obtain ⟨n, _, e2⟩ := e2
      have s0 : 0 ≤ s := by rw [← e2]; exact Int.natCast_nonneg n
      exact q1 s s0 (by simpa using e1)
    | none => rfl
def vl : List Int := [1, 2, 3, 9, 25, 49, 81]
def c6 (u v w : Int) : Bool := match ratC u v, ratC v w with
  | some (p, q), some (p', q') => match ratC u w with
    | some (p'', q'') => p'' * q * q' == p * p' * q''
    | none => false
  | _, _ => true
theorem all6 : ∀ u ∈ vl, ∀ v ∈ vl, ∀ w ∈ vl, c6 u v w = true := by decide +kernel
def c7 (u v : Int) : Bool := match ratC u v with
  | some (p, q) => match ratC v u, ratC (2 * 2 * u) v with
    | some (p', q'), some (p2, q2) => p' == q && q' == p && p2 * q == 2 * p * q2 && p * p * v == q * q * u
    | _, _ => false
  | none => true
theorem all7 : ∀ u ∈ vl, ∀ v ∈ vl, c7 u v = true := by decide +kernel
theorem vl_pos {u : Int} (h : u ∈ vl) : 0 < u ∧ u ≤ 81 := by
  have : ∀ u ∈ vl, 0 < u ∧ u ≤ 81 := by decide
  exact this u h
theorem st6 (ha : Sky a) (hb : Sky b) (hc : Sky c) : exe Φ FU (st 6) (en ns t s2 a b c d s8 (.val (ratD (ra a b))) (.val (ratD (ra b c))) (.val (ratD (ra a c))) s12 s13) = .nx (en ns t s2 a b c d s8 (.val (ratD (ra a b))) (.val (ratD (ra b c))) (.val (ratD (ra a c))) s12 s13) := by
  have va := vl_pos ha.v
  have vb := vl_pos hb.v
  have vc := vl_pos hc.v
  have h := all6 _ ha.v _ hb.v _ hc.v
  haveI := ha.b
  haveI := hb.b
  haveI := hc.b
  have r1 := rat_C va.1 vb.1 (by omega) (by omega)
  have r2 := rat_C vb.1 vc.1 (by omega) (by omega)
  have r3 := rat_C va.1 vc.1 (by omega) (by omega)
  unfold c6 at h
  rw [← r1, ← r2, ← r3] at h
  cases e1 : rat (a.dot a) (b.dot b) with
  | none => simp [st, bodyK, ir_law_k48, e1, ratD, isN, evFn, exes, exe.eq_1, exe.eq_2, exe.eq_3, exe.eq_4, exe.eq_5, exe.eq_6, exe.eq_7, exe.eq_8, exe.eq_9, exe.eq_10, exe.eq_13, exe.eq_14, exe.eq_15, exe.eq_16, exe.eq_17, exe_whl, exe_for, ev, evs, Res.bind, Res.val, Res.vout, Res.out, Out.seq, getV, getB, getO, opEnd, keepOk, keepFs, rds, rd, Rv.opd, itEnd, Opd.isV, itEval, zipIt, seqIt, range1It, range2It, enumIt, pairD, plainAt, initE, compEnd, compL, asg, asgs, wipe, tst, tsts, gens, opEval, rvOf, opFresh, SZ, back, fnEnd, outsOf, patOk, nodupB, ios, callEnd, wrs, truth, spread]
  | some x =>
    obtain ⟨p, q⟩ := x
    cases e2 : rat (b.dot b) (c.dot c) with
    | none => simp [st, bodyK, ir_law_k48, e1, e2, ratD, isN, evFn, exes, exe.eq_1, exe.eq_2, exe.eq_3, exe.eq_4, exe.eq_5, exe.eq_6, exe.eq_7, exe.eq_8, exe.eq_9, exe.eq_10, exe.eq_13, exe.eq_14, exe.eq_15, exe.eq_16, exe.eq_17, exe_whl, exe_for, ev, evs, Res.bind, Res.val, Res.vout, Res.out, Out.seq, getV, getB, getO, opEnd, keepOk, keepFs, rds, rd, Rv.opd, itEnd, Opd.isV, itEval, zipIt, seqIt, range1It, range2It, enumIt, pairD, plainAt, initE, compEnd, compL, asg, asgs, wipe, tst, tsts, gens, opEval, rvOf, opFresh, SZ, back, fnEnd, outsOf, patOk, nodupB, ios, callEnd, wrs, truth, spread]
    | some y =>
      obtain ⟨p', q'⟩ := y
      cases e3 : rat (a.dot a) (c.dot c) with
      | none => rw [e1, e2, e3] at h; cases h
      | some z =>
        obtain ⟨p'', q''⟩ := z
        rw [e1, e2, e3] at h
        have h : p'' * q * q' = p * p' * q'' := by simpa using h
        obtain ⟨_, _, _, _, _, _, _, b1, b2, _, _⟩ := rat_bd va.1 vb.1 e1
        obtain ⟨_, _, _, _, _, _, _, b3, b4, _, _⟩ := rat_bd vb.1 vc.1 e2
        obtain ⟨_, _, _, _, _, _, _, b5, b6, _, _⟩ := rat_bd va.1 vc.1 e3
        simp [st, bodyK, ir_law_k48, e1, e2, e3, ratD, isN, eqI, h, mulD, mulOk_bd, idxD, ixN, evFn, exes, exe.eq_1, exe.eq_2, exe.eq_3, exe.eq_4, exe.eq_5, exe.eq_6, exe.eq_7, exe.eq_8, exe.eq_9, exe.eq_10, exe.eq_13, exe.eq_14, exe.eq_15, exe.eq_16, exe.eq_17, exe_whl, exe_for, ev, evs, Res.bind, Res.val, Res.vout, Res.out, Out.seq, getV, getB, getO, opEnd, keepOk, keepFs, rds, rd, Rv.opd, itEnd, Opd.isV, itEval, zipIt, seqIt, range1It, range2It, enumIt, pairD, plainAt, initE, compEnd, compL, asg, asgs, wipe, tst, tsts, gens, opEval, rvOf, opFresh, SZ, back, fnEnd, outsOf, patOk, nodupB, ios, callEnd, wrs, truth, spread]
theorem sm_dot (a : V3) (n : Int) : (a.sm n).dot (a.sm n) = n * n * a.dot a := by unfold V3.dot V3.sm; grind
theorem sm_ne {a : V3} {n : Int} (h : a ≠ O3) (hn : n ≠ 0) : a.sm n ≠ O3 := fun e => by
  have h1 := sm_dot a n
  rw [e] at h1
  have h2 : (0 : Int) = n * n * a.dot a := h1
  have h3 := V3.dot_pos h
  rcases Int.mul_eq_zero.mp h2.symm with z | z
  · exact hn (sq_zero z)
  · omega
theorem st7 (ha : Sky a) (hb : Sky b) : exe Φ FU (st 7) (en ns t s2 a b c d s8 (.val (ratD (ra a b))) s10 s11 s12 s13) = .nx (en ns t s2 a b c d s8 (.val (ratD (ra a b))) s10 s11 s12 s13) := by
  have va := vl_pos ha.v
  have vb := vl_pos hb.v
  have h := all7 _ ha.v _ hb.v
  haveI := ha.b
  haveI := hb.b
  have r1 := rat_C va.1 vb.1 (by omega) (by omega)
  have r2 := rat_C vb.1 va.1 (by omega) (by omega)
  have r3 := rat_C (show 0 < 2 * 2 * a.dot a by omega) vb.1 (by omega) (by omega)
  have n2 := sm_ne ha.ne (show (2 : Int) ≠ 0 by omega)
  unfold c7 at h
  rw [← r1, ← r2, ← r3, ← sm_dot] at h
  cases e1 : rat (a.dot a) (b.dot b) with
  | none => simp [st, bodyK, ir_law_k48, e1, ratD, isN, evFn, exes, exe.eq_1, exe.eq_2, exe.eq_3, exe.eq_4, exe.eq_5, exe.eq_6, exe.eq_7, exe.eq_8, exe.eq_9, exe.eq_10, exe.eq_13, exe.eq_14, exe.eq_15, exe.eq_16, exe.eq_17, exe_whl, exe_for, ev, evs, Res.bind, Res.val, Res.vout, Res.out, Out.seq, getV, getB, getO, opEnd, keepOk, keepFs, rds, rd, Rv.opd, itEnd, Opd.isV, itEval, zipIt, seqIt, range1It, range2It, enumIt, pairD, plainAt, initE, compEnd, compL, asg, asgs, wipe, tst, tsts, gens, opEval, rvOf, opFresh, SZ, back, fnEnd, outsOf, patOk, nodupB, ios, callEnd, wrs, truth, spread]
  | some x =>
    obtain ⟨p, q⟩ := x
    cases e2 : rat (b.dot b) (a.dot a) with
    | none => rw [e1, e2] at h; cases h
    | some y =>
      obtain ⟨p', q'⟩ := y
      cases e3 : rat ((a.sm 2).dot (a.sm 2)) (b.dot b) with
      | none => rw [e1, e2, e3] at h; cases h
      | some z =>
        obtain ⟨p'', q''⟩ := z
        rw [e1, e2, e3] at h
        simp at h
        obtain ⟨⟨⟨h1, h2⟩, h3⟩, h4⟩ := h
        subst h1
        subst h2
        obtain ⟨_, _, _, _, _, _, _, b1, b2, _, _⟩ := rat_bd va.1 vb.1 e1
        obtain ⟨_, _, _, _, _, _, _, b5, b6, _, _⟩ := rat_bd (V3.dot_pos n2) vb.1 e3
        simp [st, bodyK, ir_law_k48, sp_ratio, sp_times, sp_dot, ha.ne, hb.ne, n2, e1, e2, e3, ratD, isN, eqI, eq2, h3, h4, mulD, mulOk_bd, idxD, ixN, evFn, exes, exe.eq_1, exe.eq_2, exe.eq_3, exe.eq_4, exe.eq_5, exe.eq_6, exe.eq_7, exe.eq_8, exe.eq_9, exe.eq_10, exe.eq_13, exe.eq_14, exe.eq_15, exe.eq_16, exe.eq_17, exe_whl, exe_for, ev, evs, Res.bind, Res.val, Res.vout, Res.out, Out.seq, getV, getB, getO, opEnd, keepOk, keepFs, rds, rd, Rv.opd, itEnd, Opd.isV, itEval, zipIt, seqIt, range1It, range2It, enumIt, pairD, plainAt, initE, compEnd, compL, asg, asgs, wipe, tst, tsts, gens, opEval, rvOf, opFresh, SZ, back, fnEnd, outsOf, patOk, nodupB, ios, callEnd, wrs, truth, spread]
theorem st8 (h0 : ns.length ≤ 63) : exe Φ FU (st 8) (en ns t s2 a b c d s8 s9 s10 s11 s12 s13) = .nx (en ns (t + 1) s2 a b c d s8 s9 s10 s11 (.val (.int (1 + takeV ns t 6))) s13) := by
  simp [st, bodyK, ir_law_k48, sp_take, h0, addD, evFn, exes, exe.eq_1, exe.eq_2, exe.eq_3, exe.eq_4, exe.eq_5, exe.eq_6, exe.eq_7, exe.eq_8, exe.eq_9, exe.eq_10, exe.eq_13, exe.eq_14, exe.eq_15, exe.eq_16, exe.eq_17, exe_whl, exe_for, ev, evs, Res.bind, Res.val, Res.vout, Res.out, Out.seq, getV, getB, getO, opEnd, keepOk, keepFs, rds, rd, Rv.opd, itEnd, Opd.isV, itEval, zipIt, seqIt, range1It, range2It, enumIt, pairD, plainAt, initE, compEnd, compL, asg, asgs, wipe, tst, tsts, gens, opEval, rvOf, opFresh, SZ, back, fnEnd, outsOf, patOk, nodupB, ios, callEnd, wrs, truth, spread]
theorem quo1 (a : V3) : a.quo 1 = a := by simp [V3.quo]
theorem g_neg (a : V3) : a.neg.g = a.g := by simp [V3.g, V3.neg]
theorem neg_neg (a : V3) : a.neg.neg = a := by simp [V3.neg]
theorem neg_ne {a : V3} (h : a ≠ O3) : a.neg ≠ O3 := fun e => by
  apply h
  rw [← neg_neg a, e]
  rfl
theorem g_sm (a : V3) {n : Int} (h : 0 < n) : (a.sm n).g = n * a.g := by
  obtain ⟨m, rfl⟩ : ∃ m : Nat, n = m := ⟨n.toNat, by omega⟩
  unfold V3.g V3.sm
  rw [Int.gcd_mul_left]
  simp only [Int.natAbs_natCast]
  rw [Int.natCast_mul, Int.gcd_mul_left]
  simp
theorem quo_sm (a : V3) {n : Int} (h : 0 < n) : (a.sm n).quo (n * a.g) = a.quo a.g := by
  unfold V3.quo V3.sm
  simp only [Int.mul_ediv_mul_of_pos _ _ h]
theorem dot_neg (a b : V3) : a.dot b.neg = -a.dot b := by unfold V3.dot V3.neg; grind
theorem sgn_neg (n : Int) : sgn (-n) = -sgn n := by
  unfold sgn
  rcases Int.lt_trichotomy n 0 with h | h | h
  · rw [if_pos (by omega), if_neg (by omega), if_neg (by omega)]; rfl
  · subst h; rfl
  · rw [if_neg (by omega), if_neg (by omega), if_pos (by omega)]
theorem st9 {m : Int} [Bd 4 m] (ha : Sky a) (hb : Sky b) (hm : 0 < m) : exe Φ FU (st 9) (en ns t s2 a b c d s8 s9 s10 s11 (.val (.int m)) s13) = .nx (en ns t s2 a b c d s8 s9 s10 s11 (.val (.int m)) s13) := by
  haveI := ha.b
  haveI := hb.b
  have g1 := ha.g
  have g2 := hb.g
  have g3 : a.neg.g = 1 := by rw [g_neg, g1]
  have n1 := sm_ne ha.ne (show m ≠ 0 by omega)
  have n2 := neg_ne ha.ne
  have n3 := neg_ne hb.ne
  have q1 : (a.sm m).quo (a.sm m).g = a := by rw [g_sm a hm, quo_sm a hm, g1, quo1]
  simp [st, bodyK, ir_law_k48, sp_least, sp_is_same, sp_opposite, sp_angle, sp_times, ha.ne, hb.ne, n1, n2, n3, g1, g2, g3, q1, quo1, neg_neg, dot_neg, sgn_neg, eq3, eqI, subD, evFn, exes, exe.eq_1, exe.eq_2, exe.eq_3, exe.eq_4, exe.eq_5, exe.eq_6, exe.eq_7, exe.eq_8, exe.eq_9, exe.eq_10, exe.eq_13, exe.eq_14, exe.eq_15, exe.eq_16, exe.eq_17, exe_whl, exe_for, ev, evs, Res.bind, Res.val, Res.vout, Res.out, Out.seq, getV, getB, getO, opEnd, keepOk, keepFs, rds, rd, Rv.opd, itEnd, Opd.isV, itEval, zipIt, seqIt, range1It, range2It, enumIt, pairD, plainAt, initE, compEnd, compL, asg, asgs, wipe, tst, tsts, gens, opEval, rvOf, opFresh, SZ, back, fnEnd, outsOf, patOk, nodupB, ios, callEnd, wrs, truth, spread]
/-! between -/
theorem cr_lin (a b : V3) (m n : Int) : a.cr ((a.sm m).add (b.sm n)) = (a.cr b).sm n := by
  simp only [V3.cr, V3.add, V3.sm, V3.mk.injEq]; grind
theorem lin_cr (a b : V3) (m n : Int) : ((a.sm m).add (b.sm n)).cr b = (a.cr b).sm m := by
  simp only [V3.cr, V3.add, V3.sm, V3.mk.injEq]; grind
theorem lin_cra (a b : V3) (m n : Int) : ((a.sm m).add (b.sm n)).cr a = (a.cr b).sm (-n) := by
  simp only [V3.cr, V3.add, V3.sm, V3.mk.injEq]; grind
theorem cr_linb (a b : V3) (m n : Int) : b.cr ((a.sm m).add (b.sm n)) = (a.cr b).sm (-m) := by
  simp only [V3.cr, V3.add, V3.sm, V3.mk.injEq]; grind
theorem cr_anti (a b : V3) : b.cr a = (a.cr b).neg := by
  simp only [V3.cr, V3.neg, V3.mk.injEq]; grind
theorem dot_sm (a b : V3) (n : Int) : (a.sm n).dot b = n * a.dot b := by unfold V3.dot V3.sm; grind
theorem dot_sm2 (a b : V3) (n : Int) : a.dot (b.sm n) = n * a.dot b := by unfold V3.dot V3.sm; grind
theorem neg_dot (a b : V3) : a.neg.dot b = -a.dot b := by unfold V3.dot V3.neg; grind
theorem dot_lin (a b : V3) (m n : Int) : (a.cr b).dot ((a.sm m).add (b.sm n)) = 0 := by unfold V3.dot V3.cr V3.add V3.sm; grind
theorem cr_negr (a b : V3) : a.cr b.neg = (a.cr b).neg := by simp only [V3.cr, V3.neg, V3.mk.injEq]; grind
theorem cr_self (a : V3) : a.cr a = O3 := by simp only [V3.cr, V3.mk.injEq]; grind
theorem cr_sm (a b : V3) (n : Int) : a.cr (b.sm n) = (a.cr b).sm n := by simp only [V3.cr, V3.sm, V3.mk.injEq]; grind
theorem zero_dot (a : V3) : O3.dot a = 0 := by simp [V3.dot]
section
variable {a b : V3} {m n : Int} (h : a.cr b ≠ O3) (hm : 0 < m) (hn : 0 < n)
include h hm hn
theorem bt1 : btw a ((a.sm m).add (b.sm n)) b = true := by
  have p := V3.dot_pos h
  unfold btw
  rw [dot_lin, cr_lin, lin_cr, dot_sm, dot_sm]
  simp [h, Int.mul_pos hm p, Int.mul_pos hn p]
theorem bt2 : btw b ((a.sm m).add (b.sm n)) a = true := by
  have p := V3.dot_pos h
  have h2 : b.cr a ≠ O3 := by rw [cr_anti]; exact neg_ne h
  have e1 : (b.cr a).dot ((a.sm m).add (b.sm n)) = 0 := by rw [cr_anti, neg_dot, dot_lin]; rfl
  have e2 : (b.cr ((a.sm m).add (b.sm n))).dot (b.cr a) = m * (a.cr b).dot (a.cr b) := by rw [cr_linb, cr_anti, dot_sm, dot_neg]; grind
  have e3 : (((a.sm m).add (b.sm n)).cr a).dot (b.cr a) = n * (a.cr b).dot (a.cr b) := by rw [lin_cra, cr_anti, dot_sm, dot_neg]; grind
  unfold btw
  rw [e1, e2, e3]
  simp [h2, Int.mul_pos hm p, Int.mul_pos hn p]
theorem mid_ne : (a.sm m).add (b.sm n) ≠ O3 := fun e => by
  have p := V3.dot_pos h
  have h1 := cr_lin a b m n
  rw [e] at h1
  have h2 : (a.cr O3).dot (a.cr b) = n * (a.cr b).dot (a.cr b) := by rw [h1, dot_sm]
  have h3 := Int.mul_pos hn p
  have h4 : (a.cr O3).dot (a.cr b) = 0 := by simp [V3.cr, V3.dot]
  omega
theorem quo_back (c : V3) : (c.quo c.g).sm c.g = c := by
  have h1 : c.g ∣ c.x := Int.dvd_trans (Int.gcd_dvd_left _ _) (Int.gcd_dvd_left _ _)
  have h2 : c.g ∣ c.y := Int.dvd_trans (Int.gcd_dvd_left _ _) (Int.gcd_dvd_right _ _)
  have h3 : c.g ∣ c.z := Int.gcd_dvd_right _ _
  unfold V3.sm V3.quo
  simp only [Int.mul_ediv_cancel' h1, Int.mul_ediv_cancel' h2, Int.mul_ediv_cancel' h3]
theorem bt3 : btw a (((a.sm m).add (b.sm n)).quo ((a.sm m).add (b.sm n)).g).neg b = false := by
  have p := V3.dot_pos h
  have g0 := V3.g_pos (mid_ne h hm hn)
  have e := quo_back h hm hn ((a.sm m).add (b.sm n))
  have h1 := cr_lin a b m n
  generalize (a.sm m).add (b.sm n) = c at *
  rw [← e, cr_sm] at h1
  have h2 : c.g * (a.cr (c.quo c.g)).dot (a.cr b) = n * (a.cr b).dot (a.cr b) := by rw [← dot_sm, h1, dot_sm]
  have h3 := Int.mul_pos hn p
  have h4 : 0 < (a.cr (c.quo c.g)).dot (a.cr b) := by
    rw [← h2] at h3
    rcases Int.lt_or_le 0 ((a.cr (c.quo c.g)).dot (a.cr b)) with z | z
    · exact z
    · have := Int.mul_le_mul_of_nonneg_left z (Int.le_of_lt g0)
      omega
  have h5 : ¬ 0 < (a.cr (c.quo c.g).neg).dot (a.cr b) := by rw [cr_negr, neg_dot]; omega
  unfold btw
  simp [h5]
theorem bt4 : btw ((a.sm m).add (b.sm n)) a b = false := by
  have p := V3.dot_pos h
  have h5 : ¬ 0 < (((a.sm m).add (b.sm n)).cr a).dot (((a.sm m).add (b.sm n)).cr b) := by
    rw [lin_cra, lin_cr, dot_sm, dot_sm2]
    have := Int.mul_pos hn (Int.mul_pos hm p)
    rw [Int.neg_mul]
    omega
  unfold btw
  simp [h5]
theorem bt5 : btw a a b = false := by
  have h5 : ¬ 0 < (a.cr a).dot (a.cr b) := by rw [cr_self, zero_dot]; omega
  unfold btw
  simp [h5]
theorem bt6 : btw a (a.cr b) b = false := by
  have p := V3.dot_pos h
  have h5 : ¬ (a.cr b).dot (a.cr b) = 0 := by omega
  unfold btw
  simp [h5]
end
theorem sq_nn' (x : Int) : ¬ x * x < 0 := by have := sq_nn x; omega
theorem al1 {a b : V3} {m : Int} (ha : a ≠ O3) (hb : b ≠ O3) (hm : 0 < m) : alike a b (a.sm m) (b.sm 2) = true := by
  have sc : ∀ (u i : Int), 0 < u → 0 < i → rat u (i * i * u) = some (1, i) := fun u i hu hi => by
    unfold rat
    rw [show u * (i * i * u) = (i * u) * (i * u) by grind, root_sq (Int.le_of_lt (Int.mul_pos hi hu))]
    have g : Int.gcd (i * u) (i * i * u) = i.natAbs * u.natAbs := by
      rw [show i * i * u = (i * u) * i by grind, Int.gcd_mul_right_right, Int.natAbs_mul]
    have g2 : ((Int.gcd (i * u) (i * i * u) : Nat) : Int) = i * u := by
      rw [g, Int.natCast_mul, Int.natAbs_of_nonneg (by omega), Int.natAbs_of_nonneg (by omega)]
    simp only [g2]
    have p := Int.mul_pos hi hu
    rw [Int.ediv_self (by omega), show i * i * u = (i * u) * i by grind, Int.mul_ediv_cancel_left _ (by omega)]
  have p1 := V3.dot_pos ha
  have p2 := V3.dot_pos hb
  have r1 := sc _ m p1 hm
  have r2 := sc _ 2 p2 (by omega)
  have d : (a.sm m).dot (b.sm 2) = 2 * m * a.dot b := by rw [dot_sm, dot_sm2]; grind
  unfold alike
  rw [sm_dot, sm_dot, d, r1, r2]
  have s := sq_nn (a.dot b)
  rw [if_neg]
  · simp; grind
  · intro z
    rcases z with z | z
    · rw [show a.dot b * (2 * m * a.dot b) = 2 * (m * (a.dot b * a.dot b)) by grind] at z
      have := Int.mul_nonneg (Int.le_of_lt hm) s
      omega
    · apply z
      grind
theorem al2 {a b : V3} (ha : Sky a) (hb : Sky b) (h : rat (a.dot a) (b.dot b) ≠ none) : alike a b b a = true := by
  have va := vl_pos ha.v
  have vb := vl_pos hb.v
  have h7 := all7 _ ha.v _ hb.v
  have r1 := rat_C va.1 vb.1 (by omega) (by omega)
  have r2 := rat_C vb.1 va.1 (by omega) (by omega)
  unfold c7 at h7
  rw [← r1, ← r2] at h7
  unfold alike
  rw [if_neg]
  · cases e1 : rat (a.dot a) (b.dot b) with
    | none => exact (h e1).elim
    | some x =>
      obtain ⟨p, q⟩ := x
      cases e2 : rat (b.dot b) (a.dot a) with
      | none => rw [e1, e2] at h7; cases h7
      | some y =>
        obtain ⟨p', q'⟩ := y
        rw [e1, e2] at h7
        cases e3 : ratC (2 * 2 * a.dot a) (b.dot b) with
        | none => rw [e3] at h7; cases h7
        | some z =>
          rw [e3] at h7
          simp at h7
          obtain ⟨⟨⟨h1, h2⟩, h3⟩, h4⟩ := h7
          subst h1
          subst h2
          simp [dot_comm b a]
          grind
  · intro z
    rcases z with z | z
    · rw [dot_comm b a] at z
      exact sq_nn' _ z
    · apply z
      rw [dot_comm b a]
      grind
theorem al3 {a b : V3} (h : a.dot b ≠ 0) : alike a b a b.neg = false := by
  unfold alike
  rw [if_pos]
  left
  rw [dot_neg]
  have := sq_nn (a.dot b)
  have : a.dot b * a.dot b ≠ 0 := fun e => h (sq_zero e)
  have : a.dot b * -a.dot b = -(a.dot b * a.dot b) := by grind
  omega
theorem st10 {m : Int} [Bd 4 m] (h0 : ns.length ≤ 63) (ha : Sky a) (hb : Sky b) (hm : 0 < m) : ∃ t' s13', exe Φ FU (st 10) (en ns t s2 a b c d s8 s9 s10 s11 (.val (.int m)) s13) = .nx (en ns t' s2 a b c d s8 s9 s10 s11 (.val (.int m)) s13') := by
  haveI := ha.b
  haveI := hb.b
  by_cases h : a.cr b = O3
  · exact ⟨t, s13, by simp [st, bodyK, ir_law_k48, sp_line, h, evFn, exes, exe.eq_1, exe.eq_2, exe.eq_3, exe.eq_4, exe.eq_5, exe.eq_6, exe.eq_7, exe.eq_8, exe.eq_9, exe.eq_10, exe.eq_13, exe.eq_14, exe.eq_15, exe.eq_16, exe.eq_17, exe_whl, exe_for, ev, evs, Res.bind, Res.val, Res.vout, Res.out, Out.seq, getV, getB, getO, opEnd, keepOk, keepFs, rds, rd, Rv.opd, itEnd, Opd.isV, itEval, zipIt, seqIt, range1It, range2It, enumIt, pairD, plainAt, initE, compEnd, compL, asg, asgs, wipe, tst, tsts, gens, opEval, rvOf, opFresh, SZ, back, fnEnd, outsOf, patOk, nodupB, ios, callEnd, wrs, truth, spread]⟩
  have tk0 := takeV_nn (ns := ns) (t := t) (show (0 : Int) < 6 by omega)
  have tk1 := takeV_lt (ns := ns) (t := t) (show (0 : Int) < 6 by omega)
  have hn : 0 < 1 + takeV ns t 6 := by omega
  haveI hbn : Bd 4 (1 + takeV ns t 6) := ⟨by omega⟩
  have sk := sp_take (L := L_k48) (k := 9) (ns := ns) (t := t) (m := 6) h0 (by omega)
  have n1 := sm_ne ha.ne (show m ≠ 0 by omega)
  have n2 := sm_ne hb.ne (show (2 : Int) ≠ 0 by omega)
  have mn := mid_ne h hm hn
  have x1 := bt1 h hm hn
  have x2 := bt2 h hm hn
  have x3 := bt3 h hm hn
  have x4 := bt4 h hm hn
  have x5 := bt5 h hm hn
  have x6 := bt6 h hm hn
  have y1 := al1 (m := m) ha.ne hb.ne hm
  have g2 := hb.g
  have n3 := neg_ne hb.ne
  refine ⟨t + 1, .val ((a.sm m).add (b.sm (1 + takeV ns t 6))).d, ?_⟩
  have key : (alike a b b a = true ∨ rat (a.dot a) (b.dot b) = none) ∧ (alike a b a b.neg = false ∨ a.dot b = 0) := by
    constructor
    · by_cases q : rat (a.dot a) (b.dot b) = none
      · exact .inr q
      · exact .inl (al2 ha hb q)
    · by_cases q : a.dot b = 0
      · exact .inr q
      · exact .inl (al3 q)
  obtain ⟨k1, k2⟩ := key
  by_cases z1 : alike a b b a = true
  · by_cases z2 : alike a b a b.neg = false
    · simp [st, bodyK, ir_law_k48, sp_line, sp_take, sp_times, sp_plus, sp_btw, sp_opposite, sp_cross, sp_alike, sp_dot, sp_ratio, h0, h, ha.ne, hb.ne, n1, n2, n3, mn, x1, x2, x3, x4, x5, x6, y1, g2, quo1, z1, z2, eqI, addD, evFn, exes, exe.eq_1, exe.eq_2, exe.eq_3, exe.eq_4, exe.eq_5, exe.eq_6, exe.eq_7, exe.eq_8, exe.eq_9, exe.eq_10, exe.eq_13, exe.eq_14, exe.eq_15, exe.eq_16, exe.eq_17, exe_whl, exe_for, ev, evs, Res.bind, Res.val, Res.vout, Res.out, Out.seq, getV, getB, getO, opEnd, keepOk, keepFs, rds, rd, Rv.opd, itEnd, Opd.isV, itEval, zipIt, seqIt, range1It, range2It, enumIt, pairD, plainAt, initE, compEnd, compL, asg, asgs, wipe, tst, tsts, gens, opEval, rvOf, opFresh, SZ, back, fnEnd, outsOf, patOk, nodupB, ios, callEnd, wrs, truth, spread]
    · have z2 : alike a b a b.neg = true := by simpa using z2
      rw [z2] at k2
      have k2 : a.dot b = 0 := by simpa using k2
      simp [st, bodyK, ir_law_k48, sp_line, sp_take, sp_times, sp_plus, sp_btw, sp_opposite, sp_cross, sp_alike, sp_dot, sp_ratio, h0, h, ha.ne, hb.ne, n1, n2, n3, mn, x1, x2, x3, x4, x5, x6, y1, g2, quo1, z1, z2, k2, eqI, addD, evFn, exes, exe.eq_1, exe.eq_2, exe.eq_3, exe.eq_4, exe.eq_5, exe.eq_6, exe.eq_7, exe.eq_8, exe.eq_9, exe.eq_10, exe.eq_13, exe.eq_14, exe.eq_15, exe.eq_16, exe.eq_17, exe_whl, exe_for, ev, evs, Res.bind, Res.val, Res.vout, Res.out, Out.seq, getV, getB, getO, opEnd, keepOk, keepFs, rds, rd, Rv.opd, itEnd, Opd.isV, itEval, zipIt, seqIt, range1It, range2It, enumIt, pairD, plainAt, initE, compEnd, compL, asg, asgs, wipe, tst, tsts, gens, opEval, rvOf, opFresh, SZ, back, fnEnd, outsOf, patOk, nodupB, ios, callEnd, wrs, truth, spread]
  · have z1 : alike a b b a = false := by simpa using z1
    rw [z1] at k1
    have k1 : rat (a.dot a) (b.dot b) = none := by simpa using k1
    by_cases z2 : alike a b a b.neg = false
    · simp [st, bodyK, ir_law_k48, sp_line, sp_take, sp_times, sp_plus, sp_btw, sp_opposite, sp_cross, sp_alike, sp_dot, sp_ratio, h0, h, ha.ne, hb.ne, n1, n2, n3, mn, x1, x2, x3, x4, x5, x6, y1, g2, quo1, z1, z2, k1, ratD, isN, eqI, addD, evFn, exes, exe.eq_1, exe.eq_2, exe.eq_3, exe.eq_4, exe.eq_5, exe.eq_6, exe.eq_7, exe.eq_8, exe.eq_9, exe.eq_10, exe.eq_13, exe.eq_14, exe.eq_15, exe.eq_16, exe.eq_17, exe_whl, exe_for, ev, evs, Res.bind, Res.val, Res.vout, Res.out, Out.seq, getV, getB, getO, opEnd, keepOk, keepFs, rds, rd, Rv.opd, itEnd, Opd.isV, itEval, zipIt, seqIt, range1It, range2It, enumIt, pairD, plainAt, initE, compEnd, compL, asg, asgs, wipe, tst, tsts, gens, opEval, rvOf, opFresh, SZ, back, fnEnd, outsOf, patOk, nodupB, ios, callEnd, wrs, truth, spread]
    · have z2 : alike a b a b.neg = true := by simpa using z2
      rw [z2] at k2
      have k2 : a.dot b = 0 := by simpa using k2
      simp [st, bodyK, ir_law_k48, sp_line, sp_take, sp_times, sp_plus, sp_btw, sp_opposite, sp_cross, sp_alike, sp_dot, sp_ratio, h0, h, ha.ne, hb.ne, n1, n2, n3, mn, x1, x2, x3, x4, x5, x6, y1, g2, quo1, z1, z2, k1, k2, ratD, isN, eqI, addD, evFn, exes, exe.eq_1, exe.eq_2, exe.eq_3, exe.eq_4, exe.eq_5, exe.eq_6, exe.eq_7, exe.eq_8, exe.eq_9, exe.eq_10, exe.eq_13, exe.eq_14, exe.eq_15, exe.eq_16, exe.eq_17, exe_whl, exe_for, ev, evs, Res.bind, Res.val, Res.vout, Res.out, Out.seq, getV, getB, getO, opEnd, keepOk, keepFs, rds, rd, Rv.opd, itEnd, Opd.isV, itEval, zipIt, seqIt, range1It, range2It, enumIt, pairD, plainAt, initE, compEnd, compL, asg, asgs, wipe, tst, tsts, gens, opEval, rvOf, opFresh, SZ, back, fnEnd, outsOf, patOk, nodupB, ios, callEnd, wrs, truth, spread]
/-! one turn, all turns -/
theorem exes_split {Ψ : Nat → List D → CRes} {F : Nat} {s : St} {ss : List St} {e e1 : Env} (h : exe Ψ F s e = .nx e1) : exes Ψ F (s :: ss) e = exes Ψ F ss e1 := by
  rw [exes, h]
  rfl
theorem turn (h0 : ns.length ≤ 63) (x : D) : ∃ t' a' b' c' d' s8' s9' s10' s11' s12' s13', fbody Φ FU (.var 2) bodyK x [.val (.scr ns), .own (.lst [.scr ns, .int t]), s2, s3, s4, s5, s6, .no, s8, s9, s10, s11, s12, s13, .no] = .nx (en ns t' (.val x) a' b' c' d' s8' s9' s10' s11' s12' s13') := by
  have ha := sky_ok ns t
  have hb := sky_ok ns (t + 5)
  have hc := sky_ok ns (t + 5 + 5)
  have hd := sky_ok ns (t + 5 + 5 + 5)
  have e0 := st0 (ns := ns) (t := t) (s2 := .val x) (s3 := s3) (s4 := s4) (s5 := s5) (s6 := s6) (s8 := s8) (s9 := s9) (s10 := s10) (s11 := s11) (s12 := s12) (s13 := s13) h0
  generalize skyV ns t = a at *
  generalize skyV ns (t + 5) = b at *
  generalize skyV ns (t + 5 + 5) = c at *
  generalize skyV ns (t + 5 + 5 + 5) = d at *
  generalize t + 5 + 5 + 5 + 5 = t1 at *
  haveI := ha.b
  haveI := hb.b
  haveI := hc.b
  haveI := hd.b
  have tk0 := takeV_nn (ns := ns) (t := t1) (show (0 : Int) < 6 by omega)
  have tk1 := takeV_lt (ns := ns) (t := t1) (show (0 : Int) < 6 by omega)
  haveI hbn : Bd 4 (1 + takeV ns t1 6) := ⟨by omega⟩
  obtain ⟨t', s13', e10⟩ := st10 (ns := ns) (t := t1 + 1) (a := a) (b := b) (c := c) (d := d) (s2 := .val x) (s8 := .val (.int (a.dot a * b.dot b))) (s9 := .val (ratD (ra a b))) (s10 := .val (ratD (ra b c))) (s11 := .val (ratD (ra a c))) (s13 := s13) (m := 1 + takeV ns t1 6) h0 ha hb (by omega)
  refine ⟨t', a, b, c, d, .val (.int (a.dot a * b.dot b)), .val (ratD (ra a b)), .val (ratD (ra b c)), .val (ratD (ra a c)), .val (.int (1 + takeV ns t1 6)), s13', ?_⟩
  show exes Φ FU [st 0, st 1, st 2, st 3, st 4, st 5, st 6, st 7, st 8, st 9, st 10] [.val (.scr ns), .own (.lst [.scr ns, .int t]), .val x, s3, s4, s5, s6, .no, s8, s9, s10, s11, s12, s13, .no] = _
  rw [exes_split e0, exes_split st1, exes_split st2, exes_split st3, exes_split (st4 ha.ne hb.ne), exes_split (st5 ha.ne hb.ne hc.ne), exes_split (st6 ha hb hc), exes_split (st7 ha hb), exes_split (st8 h0), exes_split (st9 ha hb (by omega)), exes_split e10]
  rfl
theorem turns (h0 : ns.length ≤ 63) : ∀ (xs : List D) (t : Int) (s2 s3 s4 s5 s6 s8 s9 s10 s11 s12 s13 : Sl), ∃ t' s2' s3' s4' s5' s6' s8' s9' s10' s11' s12' s13', floop Φ FU (.var 2) bodyK xs [.val (.scr ns), .own (.lst [.scr ns, .int t]), s2, s3, s4, s5, s6, .no, s8, s9, s10, s11, s12, s13, .no] = .nx [.val (.scr ns), .own (.lst [.scr ns, .int t']), s2', s3', s4', s5', s6', .no, s8', s9', s10', s11', s12', s13', .no]
  | [], t, s2, s3, s4, s5, s6, s8, s9, s10, s11, s12, s13 => ⟨t, s2, s3, s4, s5, s6, s8, s9, s10, s11, s12, s13, rfl⟩
  | x :: xs, t, s2, s3, s4, s5, s6, s8, s9, s10, s11, s12, s13 => by
    obtain ⟨t', a', b', c', d', s8', s9', s10', s11', s12', s13', h⟩ := turn (t := t) (s2 := s2) (s3 := s3) (s4 := s4) (s5 := s5) (s6 := s6) (s8 := s8) (s9 := s9) (s10 := s10) (s11 := s11) (s12 := s12) (s13 := s13) h0 x
    obtain ⟨t2, r2, r3, r4, r5, r6, r8, r9, r10, r11, r12, r13, h2⟩ := turns h0 xs t' (.val x) (.val a'.d) (.val b'.d) (.val c'.d) (.val d'.d) s8' s9' s10' s11' s12' s13'
    refine ⟨t2, r2, r3, r4, r5, r6, r8, r9, r10, r11, r12, r13, ?_⟩
    rw [← h2]
    unfold floop
    rw [forL, h]
theorem roots17 : rootD 0 = .int 0 ∧ rootD 1 = .int 1 ∧ rootD 4 = .int 2 ∧ rootD 9 = .int 3 ∧ rootD 16 = .int 4 ∧ ∀ n ∈ [(2 : Int), 3, 5, 6, 7, 8, 10, 11, 12, 13, 14, 15], rootD n = .non := by
  refine ⟨root_sq (r := 0) (by omega), root_sq (r := 1) (by omega), root_sq (r := 2) (by omega), root_sq (r := 3) (by omega), root_sq (r := 4) (by omega), fun n hn => root_no fun r h0 h => ?_⟩
  have r4 : r < 4 := by
    rcases Int.lt_or_le r 4 with z | z
    · exact z
    · have := sq_le (show (0 : Int) ≤ 4 by omega) z
      have : ∀ n ∈ [(2 : Int), 3, 5, 6, 7, 8, 10, 11, 12, 13, 14, 15], n < 16 := by decide
      have := this n hn
      omega
  have : r = 0 ∨ r = 1 ∨ r = 2 ∨ r = 3 := by omega
  have k : ∀ n ∈ [(2 : Int), 3, 5, 6, 7, 8, 10, 11, 12, 13, 14, 15], (0 : Int) * 0 ≠ n ∧ (1 : Int) * 1 ≠ n ∧ (2 : Int) * 2 ≠ n ∧ (3 : Int) * 3 ≠ n := by decide
  obtain ⟨k0, k1, k2, k3⟩ := k n hn
  rcases this with q | q | q | q <;> subst q
  · exact k0 h
  · exact k1 h
  · exact k2 h
  · exact k3 h
theorem last (s2 s3 s4 s5 s6 s8 s9 s10 s11 s12 s13 : Sl) : ∃ s e, exe Φ FU (ir_law_k48.body.getD 2 .pass) [.val (.scr ns), .own (.lst [.scr ns, .int t]), s2, s3, s4, s5, s6, .no, s8, s9, s10, s11, s12, s13, .no] = .ret (.st (.bl true)) (s :: e) := by
  obtain ⟨r0, r1, r4, r9, r16, rn⟩ := roots17
  have r2 := rn 2 (by decide)
  have r3 := rn 3 (by decide)
  have r5 := rn 5 (by decide)
  have r6 := rn 6 (by decide)
  have r7 := rn 7 (by decide)
  have r8 := rn 8 (by decide)
  have r10 := rn 10 (by decide)
  have r11 := rn 11 (by decide)
  have r12 := rn 12 (by decide)
  have r13 := rn 13 (by decide)
  have r14 := rn 14 (by decide)
  have r15 := rn 15 (by decide)
  have rg : rng 0 17 = [.int 0, .int 1, .int 2, .int 3, .int 4, .int 5, .int 6, .int 7, .int 8, .int 9, .int 10, .int 11, .int 12, .int 13, .int 14, .int 15, .int 16] := rfl
  have k17 : rngOk 0 17 = true := by decide
  have sr : ∀ n : Int, 0 ≤ n → n < 1000 → callF (TT L_k48) FU 11 14 [.int n] = .ret (.st (rootD n)) [] := fun n h0 h1 => by
    haveI : Bd 20 n := ⟨by omega⟩
    exact sp_root h0 (by omega)
  refine ⟨.val (.scr ns), [.own (.lst [.scr ns, .int t]), s2, s3, s4, s5, s6, .no, s8, s9, s10, s11, s12, s13, .no], ?_⟩
  simp [ir_law_k48, sr, rg, k17, r0, r1, r2, r3, r4, r5, r6, r7, r8, r9, r10, r11, r12, r13, r14, r15, r16, eqD, D.pl, D.pls, D.eqv, D.eqvs, evFn, exes, exe.eq_1, exe.eq_2, exe.eq_3, exe.eq_4, exe.eq_5, exe.eq_6, exe.eq_7, exe.eq_8, exe.eq_9, exe.eq_10, exe.eq_13, exe.eq_14, exe.eq_15, exe.eq_16, exe.eq_17, exe_whl, exe_for, ev, evs, Res.bind, Res.val, Res.vout, Res.out, Out.seq, getV, getB, getO, opEnd, keepOk, keepFs, rds, rd, Rv.opd, itEnd, Opd.isV, itEval, zipIt, seqIt, range1It, range2It, enumIt, pairD, plainAt, initE, compEnd, compL, asg, asgs, wipe, tst, tsts, gens, opEval, rvOf, opFresh, SZ, back, fnEnd, outsOf, patOk, nodupB, ios, callEnd, wrs, truth, spread]
end
end K48
theorem law_eval_k48 : ∀ ns : List Int, ns.length ≤ 63 → callF (TT L_k48) FU 12 1000 [.scr ns] = .ret (.st (.bl true)) [] := fun ns h0 => by
  obtain ⟨t', s2', s3', s4', s5', s6', s8', s9', s10', s11', s12', s13', h⟩ := K48.turns h0 (rng 0 12) 0 .no .no .no .no .no .no .no .no .no .no .no
  obtain ⟨s, e, he⟩ := K48.last (ns := ns) (t := t') s2' s3' s4' s5' s6' s8' s9' s10' s11' s12' s13'
  have k12 : rngOk 0 12 = true := by decide
  rw [callF, t_law_k48]
  have b : ir_law_k48.body = [.own 1 (.op (.lst [false, false]) [.var 0, .cst (.int 0)]), .for_ (.var 2) .range1 [.cst (.int 12)] K48.bodyK, ir_law_k48.body.getD 2 .pass] := rfl
  dsimp only
  unfold evFn
  rw [show ir_law_k48.io = [false] from rfl, show ir_law_k48.n = 15 from rfl, b]
  generalize ir_law_k48.body.getD 2 .pass = l at *
  simp [h, he, k12, evFn, exes, exe.eq_1, exe.eq_2, exe.eq_3, exe.eq_4, exe.eq_5, exe.eq_6, exe.eq_7, exe.eq_8, exe.eq_9, exe.eq_10, exe.eq_13, exe.eq_14, exe.eq_15, exe.eq_16, exe.eq_17, exe_whl, exe_for, ev, evs, Res.bind, Res.val, Res.vout, Res.out, Out.seq, getV, getB, getO, opEnd, keepOk, keepFs, rds, rd, Rv.opd, itEnd, Opd.isV, itEval, zipIt, seqIt, range1It, range2It, enumIt, pairD, plainAt, initE, compEnd, compL, asg, asgs, wipe, tst, tsts, gens, opEval, rvOf, opFresh, SZ, back, fnEnd, outsOf, patOk, nodupB, ios, callEnd, wrs, truth, spread]
end SK

set_option Elab.async false
set_option linter.all false
set_option maxRecDepth 100000
set_option maxHeartbeats 0
/-! the walk of law_k48_numbers_of_triples; printed by gen.py. -/
namespace W_k48
open PySem PySem.Spec PyProof.Rows L2 SK
def top (i : Nat) : Stmt := PySem.Challenge.pw_skyplaced_k48_numbers_of_triples.main.body.getD i (.Pass ⟨0, 0, 0, 0⟩)
abbrev T : Nat → Option SK.Fn := TT L_k48
abbrev s_is_integer : Stmt := top 4
theorem sc_is_integer : FnScope ["thing"] ["thing"] (defScope s_is_integer) := ⟨rfl, rfl, rfl, by decide +kernel, rfl, by decide +kernel, by decide +kernel⟩
abbrev s_common : Stmt := top 5
theorem sc_common : FnScope ["one", "other"] ["one", "other"] (defScope s_common) := ⟨rfl, rfl, rfl, by decide +kernel, rfl, by decide +kernel, by decide +kernel⟩
abbrev s_lowest : Stmt := top 6
theorem sc_lowest : FnScope ["above", "below", "divisor"] ["above", "below"] (defScope s_lowest) := ⟨rfl, rfl, rfl, by decide +kernel, rfl, by decide +kernel, by decide +kernel⟩
abbrev s_is_triple : Stmt := top 8
theorem sc_is_triple : FnScope ["thing", "one"] ["thing"] (defScope s_is_triple) := ⟨rfl, rfl, rfl, by decide +kernel, rfl, by decide +kernel, by decide +kernel⟩
abbrev s_check_triple : Stmt := top 9
theorem sc_check_triple : FnScope ["part", "thing"] ["part", "thing"] (defScope s_check_triple) := ⟨rfl, rfl, rfl, by decide +kernel, rfl, by decide +kernel, by decide +kernel⟩
abbrev s_least : Stmt := top 10
theorem sc_least : FnScope ["direction", "divisor", "one"] ["direction"] (defScope s_least) := ⟨rfl, rfl, rfl, by decide +kernel, rfl, by decide +kernel, by decide +kernel⟩
abbrev s_is_same : Stmt := top 11
theorem sc_is_same : FnScope ["one", "other"] ["one", "other"] (defScope s_is_same) := ⟨rfl, rfl, rfl, by decide +kernel, rfl, by decide +kernel, by decide +kernel⟩
abbrev s_opposite : Stmt := top 12
theorem sc_opposite : FnScope ["direction", "one"] ["direction"] (defScope s_opposite) := ⟨rfl, rfl, rfl, by decide +kernel, rfl, by decide +kernel, by decide +kernel⟩
abbrev s_dot : Stmt := top 13
theorem sc_dot : FnScope ["one", "other", "left", "right"] ["one", "other"] (defScope s_dot) := ⟨rfl, rfl, rfl, by decide +kernel, rfl, by decide +kernel, by decide +kernel⟩
abbrev s_cross : Stmt := top 14
theorem sc_cross : FnScope ["one", "other"] ["one", "other"] (defScope s_cross) := ⟨rfl, rfl, rfl, by decide +kernel, rfl, by decide +kernel, by decide +kernel⟩
abbrev s_det : Stmt := top 15
theorem sc_det : FnScope ["one", "other", "third"] ["one", "other", "third"] (defScope s_det) := ⟨rfl, rfl, rfl, by decide +kernel, rfl, by decide +kernel, by decide +kernel⟩
abbrev s_plus : Stmt := top 16
theorem sc_plus : FnScope ["one", "other", "left", "right"] ["one", "other"] (defScope s_plus) := ⟨rfl, rfl, rfl, by decide +kernel, rfl, by decide +kernel, by decide +kernel⟩
abbrev s_times : Stmt := top 17
theorem sc_times : FnScope ["factor", "triple", "one"] ["factor", "triple"] (defScope s_times) := ⟨rfl, rfl, rfl, by decide +kernel, rfl, by decide +kernel, by decide +kernel⟩
abbrev s_is_on_line : Stmt := top 18
theorem sc_is_on_line : FnScope ["one", "other"] ["one", "other"] (defScope s_is_on_line) := ⟨rfl, rfl, rfl, by decide +kernel, rfl, by decide +kernel, by decide +kernel⟩
abbrev s_root : Stmt := top 19
theorem sc_root : FnScope ["number", "low", "high", "middle"] ["number"] (defScope s_root) := ⟨rfl, rfl, rfl, by decide +kernel, rfl, by decide +kernel, by decide +kernel⟩
abbrev s_ratio : Stmt := top 20
theorem sc_ratio : FnScope ["one", "other", "found"] ["one", "other"] (defScope s_ratio) := ⟨rfl, rfl, rfl, by decide +kernel, rfl, by decide +kernel, by decide +kernel⟩
abbrev s_are_alike : Stmt := top 21
theorem sc_are_alike : FnScope ["one", "other", "late", "after", "mine", "theirs", "first", "second"] ["one", "other", "late", "after"] (defScope s_are_alike) := ⟨rfl, rfl, rfl, by decide +kernel, rfl, by decide +kernel, by decide +kernel⟩
abbrev s_size_of : Stmt := top 22
theorem sc_size_of : FnScope ["one", "other"] ["one", "other"] (defScope s_size_of) := ⟨rfl, rfl, rfl, by decide +kernel, rfl, by decide +kernel, by decide +kernel⟩
abbrev s_angle_sign : Stmt := top 23
theorem sc_angle_sign : FnScope ["one", "other", "found"] ["one", "other"] (defScope s_angle_sign) := ⟨rfl, rfl, rfl, by decide +kernel, rfl, by decide +kernel, by decide +kernel⟩
abbrev s_is_between : Stmt := top 24
theorem sc_is_between : FnScope ["one", "middle", "other", "normal"] ["one", "middle", "other"] (defScope s_is_between) := ⟨rfl, rfl, rfl, by decide +kernel, rfl, by decide +kernel, by decide +kernel⟩
abbrev s_law_number : Stmt := top 26
theorem sc_law_number : FnScope ["script", "index", "cell", "turn", "rest", "step", "blend"] ["script", "index"] (defScope s_law_number) := ⟨rfl, rfl, rfl, by decide +kernel, rfl, by decide +kernel, by decide +kernel⟩
abbrev s_law_take : Stmt := top 27
theorem sc_law_take : FnScope ["draw", "many"] ["draw", "many"] (defScope s_law_take) := ⟨rfl, rfl, rfl, by decide +kernel, rfl, by decide +kernel, by decide +kernel⟩
abbrev s_law_pick : Stmt := top 28
theorem sc_law_pick : FnScope ["draw", "items"] ["draw", "items"] (defScope s_law_pick) := ⟨rfl, rfl, rfl, by decide +kernel, rfl, by decide +kernel, by decide +kernel⟩
abbrev s_law_sky : Stmt := top 29
theorem sc_law_sky : FnScope ["draw", "rows", "row", "one"] ["draw"] (defScope s_law_sky) := ⟨rfl, rfl, rfl, by decide +kernel, rfl, by decide +kernel, by decide +kernel⟩
abbrev s_law : Stmt := top 30
theorem sc_law : FnScope ["script", "draw", "turn", "a", "b", "c", "d", "again", "whole", "one", "other", "third", "many", "middle", "number"] ["script"] (defScope s_law) := ⟨rfl, rfl, rfl, by decide +kernel, rfl, by decide +kernel, by decide +kernel⟩
theorem ok_is_integer {P : Program} {w : World} {K : PySem.W.Frag} {mg : Str → Option Value} {base : Heap} {R : Rc} (hR : R.K = K) (hcf : ∀ k ∈ R.cs, ClsF K (R.cl k)) {a : Addr} {fd : FuncData} (F : FunD K "is_integer" "is_integer" (defArgs s_is_integer) (defBody s_is_integer) (defScope s_is_integer) [] [] a fd) (m_bool : mg "bool" = none) (m_int : mg "int" = none) (m_isinstance : mg "isinstance" = none) (k : Nat) : FnOk P w K mg base CX0 (2 * k + 2) a fd ["thing"] (spF R (callF T FU (k + 1)) 0 [false]) :=
  fn_ok (kk := 2 * k + 1) (fn := ir_is_integer) F sc_is_integer rfl rfl (by decide) (fun _ => rfl) fun cdv A outer s S0 H0 H vs E hr => by
    have hx : XC (fcOf R (callF T FU k) FU S0 H0 [false] vs) (cxOf CX0 P w K mg base ["thing"] "is_integer" (defScope s_is_integer) a cdv A outer s H E) := ⟨hR.symm, rfl, un_of hr, hcf⟩
    have hr := hr.mono (Nat.le_succ (2 * k))
    have hpo := passes_of (X := cxOf CX0 P w K mg base ["thing"] "is_integer" (defScope s_is_integer) a cdv A outer s H E) rfl
    exact (psd_cons (psd_ret (pd_and (pd_isi hx "int" (by rfl) m_isinstance PyProof.Rows.boot_isinstance (by rfl) m_int PyProof.Rows.boot_int (by decide) (by decide) (by decide) (by decide) (isInt_r hx) (pd_var 0)) (pd_one (pd_not (pd_isi hx "bool" (by rfl) m_isinstance PyProof.Rows.boot_isinstance (by rfl) m_bool PyProof.Rows.boot_bool (by decide) (by decide) (by decide) (by decide) (isBool_r hx) (pd_var 0))))))
    psd_nil)
theorem ok_common {P : Program} {w : World} {K : PySem.W.Frag} {mg : Str → Option Value} {base : Heap} {R : Rc} (hR : R.K = K) (hcf : ∀ k ∈ R.cs, ClsF K (R.cl k)) {a : Addr} {fd : FuncData} (F : FunD K "common" "common" (defArgs s_common) (defBody s_common) (defScope s_common) [] [] a fd) (m_abs : mg "abs" = none) (k : Nat) : FnOk P w K mg base CX0 (2 * k + 2) a fd ["one", "other"] (spF R (callF T FU (k + 1)) 1 [false, false]) :=
  fn_ok (kk := 2 * k + 1) (fn := ir_common) F sc_common rfl rfl (by decide) (fun _ => rfl) fun cdv A outer s S0 H0 H vs E hr => by
    have hx : XC (fcOf R (callF T FU k) FU S0 H0 [false, false] vs) (cxOf CX0 P w K mg base ["one", "other"] "common" (defScope s_common) a cdv A outer s H E) := ⟨hR.symm, rfl, un_of hr, hcf⟩
    have hr := hr.mono (Nat.le_succ (2 * k))
    have hpo := passes_of (X := cxOf CX0 P w K mg base ["one", "other"] "common" (defScope s_common) a cdv A outer s H E) rfl
    exact (psd_cons (psd_par 0 1 hx sc_common.nd (pad_cons (pd_callB call_abs PyProof.Rows.boot_abs (fun σ => abs_r) (by rfl) m_abs (pad_cons (pd_var 0) pad_nil) (by decide) (by decide)) (pad_cons (pd_callB call_abs PyProof.Rows.boot_abs (fun σ => abs_r) (by rfl) m_abs (pad_cons (pd_var 1) pad_nil) (by decide) (by decide)) pad_nil)) (by decide) (by rfl))
    (psd_cons (psd_while hpo (ptd_gt (pd_var 1) pd_int) (psd_cons (psd_par 0 1 hx sc_common.nd (pad_cons (pd_var 1) (pad_cons (pd_mod (pd_var 0) (pd_var 1)) pad_nil)) (by decide) (by rfl))
    psd_nil))
    (psd_cons (psd_ret (pd_var 0))
    psd_nil)))
theorem ok_lowest {P : Program} {w : World} {K : PySem.W.Frag} {mg : Str → Option Value} {base : Heap} {R : Rc} (hR : R.K = K) (hcf : ∀ k ∈ R.cs, ClsF K (R.cl k)) {a : Addr} {fd : FuncData} (F : FunD K "lowest" "lowest" (defArgs s_lowest) (defBody s_lowest) (defScope s_lowest) [] [] a fd) (k : Nat) {a_common : Addr} {fd_common : FuncData} (g_common : GF K mg "common" ["one", "other"] a_common fd_common) (G_common : FnOk P w K mg base CX0 (2 * k) a_common fd_common ["one", "other"] (spF R (callF T FU (k)) 1 [false, false])) : FnOk P w K mg base CX0 (2 * k + 2) a fd ["above", "below"] (spF R (callF T FU (k + 1)) 2 [false, false]) :=
  fn_ok (kk := 2 * k + 1) (fn := ir_lowest) F sc_lowest rfl rfl (by decide) (fun _ => rfl) fun cdv A outer s S0 H0 H vs E hr => by
    have hx : XC (fcOf R (callF T FU k) FU S0 H0 [false, false] vs) (cxOf CX0 P w K mg base ["above", "below", "divisor"] "lowest" (defScope s_lowest) a cdv A outer s H E) := ⟨hR.symm, rfl, un_of hr, hcf⟩
    have hr := hr.mono (Nat.le_succ (2 * k))
    have hpo := passes_of (X := cxOf CX0 P w K mg base ["above", "below", "divisor"] "lowest" (defScope s_lowest) a cdv A outer s H E) rfl
    exact (psd_cons (psd_set 2 sc_lowest.nd (pd_call G_common hr (by rfl) g_common.g g_common.kp g_common.b (fun _ => passAt0) (pad_cons (pd_var 0) (pad_cons (pd_var 1) pad_nil))))
    (psd_cons (psd_ret (pd_tup (pad_cons (pd_fdiv (pd_var 0) (pd_var 2)) (pad_cons (pd_fdiv (pd_var 1) (pd_var 2)) pad_nil))))
    psd_nil))
theorem ok_is_triple {P : Program} {w : World} {K : PySem.W.Frag} {mg : Str → Option Value} {base : Heap} {R : Rc} (hR : R.K = K) (hcf : ∀ k ∈ R.cs, ClsF K (R.cl k)) {a : Addr} {fd : FuncData} (F : FunD K "is_triple" "is_triple" (defArgs s_is_triple) (defBody s_is_triple) (defScope s_is_triple) [] [] a fd) (m_all : mg "all" = none) (m_isinstance : mg "isinstance" = none) (m_len : mg "len" = none) (m_tuple : mg "tuple" = none) (k : Nat) {a_is_integer : Addr} {fd_is_integer : FuncData} (g_is_integer : GF K mg "is_integer" ["thing"] a_is_integer fd_is_integer) (G_is_integer : FnOk P w K mg base CX0 (2 * k) a_is_integer fd_is_integer ["thing"] (spF R (callF T FU (k)) 0 [false])) : FnOk P w K mg base CX0 (2 * k + 2) a fd ["thing"] (spF R (callF T FU (k + 1)) 3 [false]) :=
  fn_ok (kk := 2 * k + 1) (fn := ir_is_triple) F sc_is_triple rfl rfl (by decide) (fun _ => rfl) fun cdv A outer s S0 H0 H vs E hr => by
    have hx : XC (fcOf R (callF T FU k) FU S0 H0 [false] vs) (cxOf CX0 P w K mg base ["thing", "one"] "is_triple" (defScope s_is_triple) a cdv A outer s H E) := ⟨hR.symm, rfl, un_of hr, hcf⟩
    have hr := hr.mono (Nat.le_succ (2 * k))
    have hpo := passes_of (X := cxOf CX0 P w K mg base ["thing", "one"] "is_triple" (defScope s_is_triple) a cdv A outer s H E) rfl
    exact (psd_cons (psd_if (ptd_of (pwd_or (ptd_not (pt_tr hx (pd_isi hx "tuple" (by rfl) m_isinstance PyProof.Rows.boot_isinstance (by rfl) m_tuple PyProof.Rows.boot_tuple (by decide) (by decide) (by decide) (by decide) (isTup_r hx) (pd_var 0)))) (pwd_or (ptd_ne hx (pd_callB call_len PySem.boot_len (fun σ => len_r hx.K) (by rfl) m_len (pad_cons (pd_var 0) pad_nil) (by decide) (by decide)) pd_int) (pwd_or1 (ptd_not (pt_tr hx (pd_callB (cr_all hx.calm) PyProof.Rows.boot_all (fun σ => all_r hx.K) (by rfl) m_all (pad_cons (pd_comp hx sc_is_triple.nd (pid_seq hx (pd_var 0)) (blkOk_by (own := [("one", 1)]) (by kernel_rfl)) (by decide) (fun h0_1 _ _ _ _ _ => (pgd_var 1 sc_is_triple.nd)) (fun h0_1 _ _ _ _ _ => ptds_nil) (fun h0_1 _ _ _ _ _ => (pd_call G_is_integer hr (by rfl) g_is_integer.g g_is_integer.kp g_is_integer.b (fun _ => passAt0) (pad_cons (pd_var 1) pad_nil)))) pad_nil) (by decide) (by decide)))))))) (psd_cons (psd_ret pd_bl)
    psd_nil) psd_nil)
    (psd_cons (psd_ret (pd_ne hx (pd_var 0) (pd_tup (pad_cons pd_int (pad_cons pd_int (pad_cons pd_int pad_nil))))))
    psd_nil))
theorem ok_check_triple {P : Program} {w : World} {K : PySem.W.Frag} {mg : Str → Option Value} {base : Heap} {R : Rc} (hR : R.K = K) (hcf : ∀ k ∈ R.cs, ClsF K (R.cl k)) {a : Addr} {fd : FuncData} (F : FunD K "check_triple" "check_triple" (defArgs s_check_triple) (defBody s_check_triple) (defScope s_check_triple) [] [] a fd) (k : Nat) {a_is_triple : Addr} {fd_is_triple : FuncData} (g_is_triple : GF K mg "is_triple" ["thing"] a_is_triple fd_is_triple) (G_is_triple : FnOk P w K mg base CX0 (2 * k) a_is_triple fd_is_triple ["thing"] (spF R (callF T FU (k)) 3 [false])) : FnOk P w K mg base CX0 (2 * k + 2) a fd ["part", "thing"] (spF R (callF T FU (k + 1)) 4 [false, false]) :=
  fn_ok (kk := 2 * k + 1) (fn := ir_check_triple) F sc_check_triple rfl rfl (by decide) (fun _ => rfl) fun cdv A outer s S0 H0 H vs E hr => by
    have hx : XC (fcOf R (callF T FU k) FU S0 H0 [false, false] vs) (cxOf CX0 P w K mg base ["part", "thing"] "check_triple" (defScope s_check_triple) a cdv A outer s H E) := ⟨hR.symm, rfl, un_of hr, hcf⟩
    have hr := hr.mono (Nat.le_succ (2 * k))
    have hpo := passes_of (X := cxOf CX0 P w K mg base ["part", "thing"] "check_triple" (defScope s_check_triple) a cdv A outer s H E) rfl
    exact (psd_cons (psd_if (ptd_not (pt_tr hx (pd_call G_is_triple hr (by rfl) g_is_triple.g g_is_triple.kp g_is_triple.b (fun _ => passAt0) (pad_cons (pd_var 1) pad_nil)))) (psd_cons psd_never
    psd_nil) psd_nil)
    psd_nil)
theorem ok_least {P : Program} {w : World} {K : PySem.W.Frag} {mg : Str → Option Value} {base : Heap} {R : Rc} (hR : R.K = K) (hcf : ∀ k ∈ R.cs, ClsF K (R.cl k)) {a : Addr} {fd : FuncData} (F : FunD K "least" "least" (defArgs s_least) (defBody s_least) (defScope s_least) [] [] a fd) (m_tuple : mg "tuple" = none) (k : Nat) {a_common : Addr} {fd_common : FuncData} (g_common : GF K mg "common" ["one", "other"] a_common fd_common) (G_common : FnOk P w K mg base CX0 (2 * k) a_common fd_common ["one", "other"] (spF R (callF T FU (k)) 1 [false, false])) {a_check_triple : Addr} {fd_check_triple : FuncData} (g_check_triple : GF K mg "check_triple" ["part", "thing"] a_check_triple fd_check_triple) (G_check_triple : FnOk P w K mg base CX0 (2 * k) a_check_triple fd_check_triple ["part", "thing"] (spF R (callF T FU (k)) 4 [false, false])) : FnOk P w K mg base CX0 (2 * k + 2) a fd ["direction"] (spF R (callF T FU (k + 1)) 5 [false]) :=
  fn_ok (kk := 2 * k + 1) (fn := ir_least) F sc_least rfl rfl (by decide) (fun _ => rfl) fun cdv A outer s S0 H0 H vs E hr => by
    have hx : XC (fcOf R (callF T FU k) FU S0 H0 [false] vs) (cxOf CX0 P w K mg base ["direction", "divisor", "one"] "least" (defScope s_least) a cdv A outer s H E) := ⟨hR.symm, rfl, un_of hr, hcf⟩
    have hr := hr.mono (Nat.le_succ (2 * k))
    have hpo := passes_of (X := cxOf CX0 P w K mg base ["direction", "divisor", "one"] "least" (defScope s_least) a cdv A outer s H E) rfl
    exact (psd_cons (psd_expr (pd_call G_check_triple hr (by rfl) g_check_triple.g g_check_triple.kp g_check_triple.b (fun _ => passAt0) (pad_cons (pd_str [100, 105, 114, 101, 99, 116, 105, 111, 110] (by rfl)) (pad_cons (pd_var 0) pad_nil))))
    (psd_cons (psd_set 1 sc_least.nd (pd_call G_common hr (by rfl) g_common.g g_common.kp g_common.b (fun _ => passAt0) (pad_cons (pd_call G_common hr (by rfl) g_common.g g_common.kp g_common.b (fun _ => passAt0) (pad_cons (pd_idx hx (pd_var 0) pd_int) (pad_cons (pd_idx hx (pd_var 0) pd_int) pad_nil))) (pad_cons (pd_idx hx (pd_var 0) pd_int) pad_nil))))
    (psd_cons (psd_ret (pd_callTy call_tuple_of PyProof.Rows.boot_tuple (fun σ => tuple_r hx.K) (by rfl) m_tuple (pad_cons (pd_comp hx sc_least.nd (pid_seq hx (pd_var 0)) (blkOk_by (own := [("one", 2)]) (by kernel_rfl)) (by decide) (fun h0_1 _ _ _ _ _ => (pgd_var 2 sc_least.nd)) (fun h0_1 _ _ _ _ _ => ptds_nil) (fun h0_1 _ _ _ _ _ => (pd_fdiv (pd_var 2) (pd_var 1)))) pad_nil) (by decide) (by decide)))
    psd_nil)))
theorem ok_is_same {P : Program} {w : World} {K : PySem.W.Frag} {mg : Str → Option Value} {base : Heap} {R : Rc} (hR : R.K = K) (hcf : ∀ k ∈ R.cs, ClsF K (R.cl k)) {a : Addr} {fd : FuncData} (F : FunD K "is_same" "is_same" (defArgs s_is_same) (defBody s_is_same) (defScope s_is_same) [] [] a fd) (k : Nat) {a_least : Addr} {fd_least : FuncData} (g_least : GF K mg "least" ["direction"] a_least fd_least) (G_least : FnOk P w K mg base CX0 (2 * k) a_least fd_least ["direction"] (spF R (callF T FU (k)) 5 [false])) : FnOk P w K mg base CX0 (2 * k + 2) a fd ["one", "other"] (spF R (callF T FU (k + 1)) 6 [false, false]) :=
  fn_ok (kk := 2 * k + 1) (fn := ir_is_same) F sc_is_same rfl rfl (by decide) (fun _ => rfl) fun cdv A outer s S0 H0 H vs E hr => by
    have hx : XC (fcOf R (callF T FU k) FU S0 H0 [false, false] vs) (cxOf CX0 P w K mg base ["one", "other"] "is_same" (defScope s_is_same) a cdv A outer s H E) := ⟨hR.symm, rfl, un_of hr, hcf⟩
    have hr := hr.mono (Nat.le_succ (2 * k))
    have hpo := passes_of (X := cxOf CX0 P w K mg base ["one", "other"] "is_same" (defScope s_is_same) a cdv A outer s H E) rfl
    exact (psd_cons (psd_ret (pd_eq hx (pd_call G_least hr (by rfl) g_least.g g_least.kp g_least.b (fun _ => passAt0) (pad_cons (pd_var 0) pad_nil)) (pd_call G_least hr (by rfl) g_least.g g_least.kp g_least.b (fun _ => passAt0) (pad_cons (pd_var 1) pad_nil))))
    psd_nil)
theorem ok_opposite {P : Program} {w : World} {K : PySem.W.Frag} {mg : Str → Option Value} {base : Heap} {R : Rc} (hR : R.K = K) (hcf : ∀ k ∈ R.cs, ClsF K (R.cl k)) {a : Addr} {fd : FuncData} (F : FunD K "opposite" "opposite" (defArgs s_opposite) (defBody s_opposite) (defScope s_opposite) [] [] a fd) (m_tuple : mg "tuple" = none) (k : Nat) {a_least : Addr} {fd_least : FuncData} (g_least : GF K mg "least" ["direction"] a_least fd_least) (G_least : FnOk P w K mg base CX0 (2 * k) a_least fd_least ["direction"] (spF R (callF T FU (k)) 5 [false])) : FnOk P w K mg base CX0 (2 * k + 2) a fd ["direction"] (spF R (callF T FU (k + 1)) 7 [false]) :=
  fn_ok (kk := 2 * k + 1) (fn := ir_opposite) F sc_opposite rfl rfl (by decide) (fun _ => rfl) fun cdv A outer s S0 H0 H vs E hr => by
    have hx : XC (fcOf R (callF T FU k) FU S0 H0 [false] vs) (cxOf CX0 P w K mg base ["direction", "one"] "opposite" (defScope s_opposite) a cdv A outer s H E) := ⟨hR.symm, rfl, un_of hr, hcf⟩
    have hr := hr.mono (Nat.le_succ (2 * k))
    have hpo := passes_of (X := cxOf CX0 P w K mg base ["direction", "one"] "opposite" (defScope s_opposite) a cdv A outer s H E) rfl
    exact (psd_cons (psd_ret (pd_callTy call_tuple_of PyProof.Rows.boot_tuple (fun σ => tuple_r hx.K) (by rfl) m_tuple (pad_cons (pd_comp hx sc_opposite.nd (pid_seq hx (pd_call G_least hr (by rfl) g_least.g g_least.kp g_least.b (fun _ => passAt0) (pad_cons (pd_var 0) pad_nil))) (blkOk_by (own := [("one", 1)]) (by kernel_rfl)) (by decide) (fun h0_1 _ _ _ _ _ => (pgd_var 1 sc_opposite.nd)) (fun h0_1 _ _ _ _ _ => ptds_nil) (fun h0_1 _ _ _ _ _ => (pd_neg (pd_var 1)))) pad_nil) (by decide) (by decide)))
    psd_nil)
theorem ok_dot {P : Program} {w : World} {K : PySem.W.Frag} {mg : Str → Option Value} {base : Heap} {R : Rc} (hR : R.K = K) (hcf : ∀ k ∈ R.cs, ClsF K (R.cl k)) {a : Addr} {fd : FuncData} (F : FunD K "dot" "dot" (defArgs s_dot) (defBody s_dot) (defScope s_dot) [] [] a fd) (m_sum : mg "sum" = none) (m_zip : mg "zip" = none) (k : Nat) : FnOk P w K mg base CX0 (2 * k + 2) a fd ["one", "other"] (spF R (callF T FU (k + 1)) 8 [false, false]) :=
  fn_ok (kk := 2 * k + 1) (fn := ir_dot) F sc_dot rfl rfl (by decide) (fun _ => rfl) fun cdv A outer s S0 H0 H vs E hr => by
    have hx : XC (fcOf R (callF T FU k) FU S0 H0 [false, false] vs) (cxOf CX0 P w K mg base ["one", "other", "left", "right"] "dot" (defScope s_dot) a cdv A outer s H E) := ⟨hR.symm, rfl, un_of hr, hcf⟩
    have hr := hr.mono (Nat.le_succ (2 * k))
    have hpo := passes_of (X := cxOf CX0 P w K mg base ["one", "other", "left", "right"] "dot" (defScope s_dot) a cdv A outer s H E) rfl
    exact (psd_cons (psd_ret (pd_callB (cr_sum hx.calm) PyProof.Rows.boot_sum (fun σ => sum_r hx.K) (by rfl) m_sum (pad_cons (pd_comp hx sc_dot.nd (pid_zip hx (by rfl) m_zip (pad_cons (pd_var 0) (pad_cons (pd_var 1) pad_nil))) (blkOk_by (own := [("left", 2), ("right", 3)]) (by kernel_rfl)) (by decide) (fun h0_1 _ _ _ _ _ => have hx1 := (hx.at0 h0_1).blk _ _ _ _ _; (pgd_tup hx1 (pgds_cons (pgd_var 2 sc_dot.nd) (pgds_cons (pgd_var 3 sc_dot.nd) pgds_nil)))) (fun h0_1 _ _ _ _ _ => ptds_nil) (fun h0_1 _ _ _ _ _ => (pd_mul (pd_var 2) (pd_var 3)))) pad_nil) (by decide) (by decide)))
    psd_nil)
theorem ok_cross {P : Program} {w : World} {K : PySem.W.Frag} {mg : Str → Option Value} {base : Heap} {R : Rc} (hR : R.K = K) (hcf : ∀ k ∈ R.cs, ClsF K (R.cl k)) {a : Addr} {fd : FuncData} (F : FunD K "cross" "cross" (defArgs s_cross) (defBody s_cross) (defScope s_cross) [] [] a fd) (k : Nat) : FnOk P w K mg base CX0 (2 * k + 2) a fd ["one", "other"] (spF R (callF T FU (k + 1)) 9 [false, false]) :=
  fn_ok (kk := 2 * k + 1) (fn := ir_cross) F sc_cross rfl rfl (by decide) (fun _ => rfl) fun cdv A outer s S0 H0 H vs E hr => by
    have hx : XC (fcOf R (callF T FU k) FU S0 H0 [false, false] vs) (cxOf CX0 P w K mg base ["one", "other"] "cross" (defScope s_cross) a cdv A outer s H E) := ⟨hR.symm, rfl, un_of hr, hcf⟩
    have hr := hr.mono (Nat.le_succ (2 * k))
    have hpo := passes_of (X := cxOf CX0 P w K mg base ["one", "other"] "cross" (defScope s_cross) a cdv A outer s H E) rfl
    exact (psd_cons (psd_ret (pd_tup (pad_cons (pd_sub (pd_mul (pd_idx hx (pd_var 0) pd_int) (pd_idx hx (pd_var 1) pd_int)) (pd_mul (pd_idx hx (pd_var 0) pd_int) (pd_idx hx (pd_var 1) pd_int))) (pad_cons (pd_sub (pd_mul (pd_idx hx (pd_var 0) pd_int) (pd_idx hx (pd_var 1) pd_int)) (pd_mul (pd_idx hx (pd_var 0) pd_int) (pd_idx hx (pd_var 1) pd_int))) (pad_cons (pd_sub (pd_mul (pd_idx hx (pd_var 0) pd_int) (pd_idx hx (pd_var 1) pd_int)) (pd_mul (pd_idx hx (pd_var 0) pd_int) (pd_idx hx (pd_var 1) pd_int))) pad_nil)))))
    psd_nil)
theorem ok_det {P : Program} {w : World} {K : PySem.W.Frag} {mg : Str → Option Value} {base : Heap} {R : Rc} (hR : R.K = K) (hcf : ∀ k ∈ R.cs, ClsF K (R.cl k)) {a : Addr} {fd : FuncData} (F : FunD K "det" "det" (defArgs s_det) (defBody s_det) (defScope s_det) [] [] a fd) (k : Nat) {a_dot : Addr} {fd_dot : FuncData} (g_dot : GF K mg "dot" ["one", "other"] a_dot fd_dot) (G_dot : FnOk P w K mg base CX0 (2 * k) a_dot fd_dot ["one", "other"] (spF R (callF T FU (k)) 8 [false, false])) {a_cross : Addr} {fd_cross : FuncData} (g_cross : GF K mg "cross" ["one", "other"] a_cross fd_cross) (G_cross : FnOk P w K mg base CX0 (2 * k) a_cross fd_cross ["one", "other"] (spF R (callF T FU (k)) 9 [false, false])) : FnOk P w K mg base CX0 (2 * k + 2) a fd ["one", "other", "third"] (spF R (callF T FU (k + 1)) 10 [false, false, false]) :=
  fn_ok (kk := 2 * k + 1) (fn := ir_det) F sc_det rfl rfl (by decide) (fun _ => rfl) fun cdv A outer s S0 H0 H vs E hr => by
    have hx : XC (fcOf R (callF T FU k) FU S0 H0 [false, false, false] vs) (cxOf CX0 P w K mg base ["one", "other", "third"] "det" (defScope s_det) a cdv A outer s H E) := ⟨hR.symm, rfl, un_of hr, hcf⟩
    have hr := hr.mono (Nat.le_succ (2 * k))
    have hpo := passes_of (X := cxOf CX0 P w K mg base ["one", "other", "third"] "det" (defScope s_det) a cdv A outer s H E) rfl
    exact (psd_cons (psd_ret (pd_call G_dot hr (by rfl) g_dot.g g_dot.kp g_dot.b (fun _ => passAt0) (pad_cons (pd_call G_cross hr (by rfl) g_cross.g g_cross.kp g_cross.b (fun _ => passAt0) (pad_cons (pd_var 0) (pad_cons (pd_var 1) pad_nil))) (pad_cons (pd_var 2) pad_nil))))
    psd_nil)
theorem ok_plus {P : Program} {w : World} {K : PySem.W.Frag} {mg : Str → Option Value} {base : Heap} {R : Rc} (hR : R.K = K) (hcf : ∀ k ∈ R.cs, ClsF K (R.cl k)) {a : Addr} {fd : FuncData} (F : FunD K "plus" "plus" (defArgs s_plus) (defBody s_plus) (defScope s_plus) [] [] a fd) (m_tuple : mg "tuple" = none) (m_zip : mg "zip" = none) (k : Nat) : FnOk P w K mg base CX0 (2 * k + 2) a fd ["one", "other"] (spF R (callF T FU (k + 1)) 11 [false, false]) :=
  fn_ok (kk := 2 * k + 1) (fn := ir_plus) F sc_plus rfl rfl (by decide) (fun _ => rfl) fun cdv A outer s S0 H0 H vs E hr => by
    have hx : XC (fcOf R (callF T FU k) FU S0 H0 [false, false] vs) (cxOf CX0 P w K mg base ["one", "other", "left", "right"] "plus" (defScope s_plus) a cdv A outer s H E) := ⟨hR.symm, rfl, un_of hr, hcf⟩
    have hr := hr.mono (Nat.le_succ (2 * k))
    have hpo := passes_of (X := cxOf CX0 P w K mg base ["one", "other", "left", "right"] "plus" (defScope s_plus) a cdv A outer s H E) rfl
    exact (psd_cons (psd_ret (pd_callTy call_tuple_of PyProof.Rows.boot_tuple (fun σ => tuple_r hx.K) (by rfl) m_tuple (pad_cons (pd_comp hx sc_plus.nd (pid_zip hx (by rfl) m_zip (pad_cons (pd_var 0) (pad_cons (pd_var 1) pad_nil))) (blkOk_by (own := [("left", 2), ("right", 3)]) (by kernel_rfl)) (by decide) (fun h0_1 _ _ _ _ _ => have hx1 := (hx.at0 h0_1).blk _ _ _ _ _; (pgd_tup hx1 (pgds_cons (pgd_var 2 sc_plus.nd) (pgds_cons (pgd_var 3 sc_plus.nd) pgds_nil)))) (fun h0_1 _ _ _ _ _ => ptds_nil) (fun h0_1 _ _ _ _ _ => (pd_add (pd_var 2) (pd_var 3)))) pad_nil) (by decide) (by decide)))
    psd_nil)
theorem ok_times {P : Program} {w : World} {K : PySem.W.Frag} {mg : Str → Option Value} {base : Heap} {R : Rc} (hR : R.K = K) (hcf : ∀ k ∈ R.cs, ClsF K (R.cl k)) {a : Addr} {fd : FuncData} (F : FunD K "times" "times" (defArgs s_times) (defBody s_times) (defScope s_times) [] [] a fd) (m_tuple : mg "tuple" = none) (k : Nat) : FnOk P w K mg base CX0 (2 * k + 2) a fd ["factor", "triple"] (spF R (callF T FU (k + 1)) 12 [false, false]) :=
  fn_ok (kk := 2 * k + 1) (fn := ir_times) F sc_times rfl rfl (by decide) (fun _ => rfl) fun cdv A outer s S0 H0 H vs E hr => by
    have hx : XC (fcOf R (callF T FU k) FU S0 H0 [false, false] vs) (cxOf CX0 P w K mg base ["factor", "triple", "one"] "times" (defScope s_times) a cdv A outer s H E) := ⟨hR.symm, rfl, un_of hr, hcf⟩
    have hr := hr.mono (Nat.le_succ (2 * k))
    have hpo := passes_of (X := cxOf CX0 P w K mg base ["factor", "triple", "one"] "times" (defScope s_times) a cdv A outer s H E) rfl
    exact (psd_cons (psd_ret (pd_callTy call_tuple_of PyProof.Rows.boot_tuple (fun σ => tuple_r hx.K) (by rfl) m_tuple (pad_cons (pd_comp hx sc_times.nd (pid_seq hx (pd_var 1)) (blkOk_by (own := [("one", 2)]) (by kernel_rfl)) (by decide) (fun h0_1 _ _ _ _ _ => (pgd_var 2 sc_times.nd)) (fun h0_1 _ _ _ _ _ => ptds_nil) (fun h0_1 _ _ _ _ _ => (pd_mul (pd_var 0) (pd_var 2)))) pad_nil) (by decide) (by decide)))
    psd_nil)
theorem ok_is_on_line {P : Program} {w : World} {K : PySem.W.Frag} {mg : Str → Option Value} {base : Heap} {R : Rc} (hR : R.K = K) (hcf : ∀ k ∈ R.cs, ClsF K (R.cl k)) {a : Addr} {fd : FuncData} (F : FunD K "is_on_line" "is_on_line" (defArgs s_is_on_line) (defBody s_is_on_line) (defScope s_is_on_line) [] [] a fd) (k : Nat) {a_cross : Addr} {fd_cross : FuncData} (g_cross : GF K mg "cross" ["one", "other"] a_cross fd_cross) (G_cross : FnOk P w K mg base CX0 (2 * k) a_cross fd_cross ["one", "other"] (spF R (callF T FU (k)) 9 [false, false])) : FnOk P w K mg base CX0 (2 * k + 2) a fd ["one", "other"] (spF R (callF T FU (k + 1)) 13 [false, false]) :=
  fn_ok (kk := 2 * k + 1) (fn := ir_is_on_line) F sc_is_on_line rfl rfl (by decide) (fun _ => rfl) fun cdv A outer s S0 H0 H vs E hr => by
    have hx : XC (fcOf R (callF T FU k) FU S0 H0 [false, false] vs) (cxOf CX0 P w K mg base ["one", "other"] "is_on_line" (defScope s_is_on_line) a cdv A outer s H E) := ⟨hR.symm, rfl, un_of hr, hcf⟩
    have hr := hr.mono (Nat.le_succ (2 * k))
    have hpo := passes_of (X := cxOf CX0 P w K mg base ["one", "other"] "is_on_line" (defScope s_is_on_line) a cdv A outer s H E) rfl
    exact (psd_cons (psd_ret (pd_eq hx (pd_call G_cross hr (by rfl) g_cross.g g_cross.kp g_cross.b (fun _ => passAt0) (pad_cons (pd_var 0) (pad_cons (pd_var 1) pad_nil))) (pd_tup (pad_cons pd_int (pad_cons pd_int (pad_cons pd_int pad_nil))))))
    psd_nil)
theorem ok_root {P : Program} {w : World} {K : PySem.W.Frag} {mg : Str → Option Value} {base : Heap} {R : Rc} (hR : R.K = K) (hcf : ∀ k ∈ R.cs, ClsF K (R.cl k)) {a : Addr} {fd : FuncData} (F : FunD K "root" "root" (defArgs s_root) (defBody s_root) (defScope s_root) [] [] a fd) (k : Nat) : FnOk P w K mg base CX0 (2 * k + 2) a fd ["number"] (spF R (callF T FU (k + 1)) 14 [false]) :=
  fn_ok (kk := 2 * k + 1) (fn := ir_root) F sc_root rfl rfl (by decide) (fun _ => rfl) fun cdv A outer s S0 H0 H vs E hr => by
    have hx : XC (fcOf R (callF T FU k) FU S0 H0 [false] vs) (cxOf CX0 P w K mg base ["number", "low", "high", "middle"] "root" (defScope s_root) a cdv A outer s H E) := ⟨hR.symm, rfl, un_of hr, hcf⟩
    have hr := hr.mono (Nat.le_succ (2 * k))
    have hpo := passes_of (X := cxOf CX0 P w K mg base ["number", "low", "high", "middle"] "root" (defScope s_root) a cdv A outer s H E) rfl
    exact (psd_cons (psd_unp (pd_tup (pad_cons pd_int (pad_cons pd_int pad_nil))) (pgd_tup hx (pgds_cons (pgd_var 1 sc_root.nd) (pgds_cons (pgd_var 2 sc_root.nd) pgds_nil))))
    (psd_cons (psd_while hpo (ptd_le (pd_mul (pd_var 2) (pd_var 2)) (pd_var 0)) (psd_cons (psd_augMul 2 sc_root.nd pd_int)
    psd_nil))
    (psd_cons (psd_while hpo (ptd_lt hx (pd_var 1) (pd_var 2)) (psd_cons (psd_set 3 sc_root.nd (pd_fdiv (pd_add (pd_var 1) (pd_var 2)) pd_int))
    (psd_cons (psd_if (ptd_lt hx (pd_mul (pd_var 3) (pd_var 3)) (pd_var 0)) (psd_cons (psd_set 1 sc_root.nd (pd_add (pd_var 3) pd_int))
    psd_nil) (psd_cons (psd_set 2 sc_root.nd (pd_var 3))
    psd_nil))
    psd_nil)))
    (psd_cons (psd_ret (pd_ite (ptd_eq hx (pd_mul (pd_var 1) (pd_var 1)) (pd_var 0)) (pd_var 1) pd_non))
    psd_nil))))
theorem ok_ratio {P : Program} {w : World} {K : PySem.W.Frag} {mg : Str → Option Value} {base : Heap} {R : Rc} (hR : R.K = K) (hcf : ∀ k ∈ R.cs, ClsF K (R.cl k)) {a : Addr} {fd : FuncData} (F : FunD K "ratio" "ratio" (defArgs s_ratio) (defBody s_ratio) (defScope s_ratio) [] [] a fd) (k : Nat) {a_lowest : Addr} {fd_lowest : FuncData} (g_lowest : GF K mg "lowest" ["above", "below"] a_lowest fd_lowest) (G_lowest : FnOk P w K mg base CX0 (2 * k) a_lowest fd_lowest ["above", "below"] (spF R (callF T FU (k)) 2 [false, false])) {a_check_triple : Addr} {fd_check_triple : FuncData} (g_check_triple : GF K mg "check_triple" ["part", "thing"] a_check_triple fd_check_triple) (G_check_triple : FnOk P w K mg base CX0 (2 * k) a_check_triple fd_check_triple ["part", "thing"] (spF R (callF T FU (k)) 4 [false, false])) {a_dot : Addr} {fd_dot : FuncData} (g_dot : GF K mg "dot" ["one", "other"] a_dot fd_dot) (G_dot : FnOk P w K mg base CX0 (2 * k) a_dot fd_dot ["one", "other"] (spF R (callF T FU (k)) 8 [false, false])) {a_root : Addr} {fd_root : FuncData} (g_root : GF K mg "root" ["number"] a_root fd_root) (G_root : FnOk P w K mg base CX0 (2 * k) a_root fd_root ["number"] (spF R (callF T FU (k)) 14 [false])) : FnOk P w K mg base CX0 (2 * k + 2) a fd ["one", "other"] (spF R (callF T FU (k + 1)) 15 [false, false]) :=
  fn_ok (kk := 2 * k + 1) (fn := ir_ratio) F sc_ratio rfl rfl (by decide) (fun _ => rfl) fun cdv A outer s S0 H0 H vs E hr => by
    have hx : XC (fcOf R (callF T FU k) FU S0 H0 [false, false] vs) (cxOf CX0 P w K mg base ["one", "other", "found"] "ratio" (defScope s_ratio) a cdv A outer s H E) := ⟨hR.symm, rfl, un_of hr, hcf⟩
    have hr := hr.mono (Nat.le_succ (2 * k))
    have hpo := passes_of (X := cxOf CX0 P w K mg base ["one", "other", "found"] "ratio" (defScope s_ratio) a cdv A outer s H E) rfl
    exact (psd_cons (psd_expr (pd_call G_check_triple hr (by rfl) g_check_triple.g g_check_triple.kp g_check_triple.b (fun _ => passAt0) (pad_cons (pd_str [100, 105, 114, 101, 99, 116, 105, 111, 110] (by rfl)) (pad_cons (pd_var 0) pad_nil))))
    (psd_cons (psd_expr (pd_call G_check_triple hr (by rfl) g_check_triple.g g_check_triple.kp g_check_triple.b (fun _ => passAt0) (pad_cons (pd_str [100, 105, 114, 101, 99, 116, 105, 111, 110] (by rfl)) (pad_cons (pd_var 1) pad_nil))))
    (psd_cons (psd_set 2 sc_ratio.nd (pd_call G_root hr (by rfl) g_root.g g_root.kp g_root.b (fun _ => passAt0) (pad_cons (pd_mul (pd_call G_dot hr (by rfl) g_dot.g g_dot.kp g_dot.b (fun _ => passAt0) (pad_cons (pd_var 0) (pad_cons (pd_var 0) pad_nil))) (pd_call G_dot hr (by rfl) g_dot.g g_dot.kp g_dot.b (fun _ => passAt0) (pad_cons (pd_var 1) (pad_cons (pd_var 1) pad_nil)))) pad_nil)))
    (psd_cons (psd_ret (pd_ite (ptd_isN (pd_var 2)) pd_non (pd_call G_lowest hr (by rfl) g_lowest.g g_lowest.kp g_lowest.b (fun _ => passAt0) (pad_cons (pd_var 2) (pad_cons (pd_call G_dot hr (by rfl) g_dot.g g_dot.kp g_dot.b (fun _ => passAt0) (pad_cons (pd_var 1) (pad_cons (pd_var 1) pad_nil))) pad_nil)))))
    psd_nil))))
theorem ok_are_alike {P : Program} {w : World} {K : PySem.W.Frag} {mg : Str → Option Value} {base : Heap} {R : Rc} (hR : R.K = K) (hcf : ∀ k ∈ R.cs, ClsF K (R.cl k)) {a : Addr} {fd : FuncData} (F : FunD K "are_alike" "are_alike" (defArgs s_are_alike) (defBody s_are_alike) (defScope s_are_alike) [] [] a fd) (k : Nat) {a_dot : Addr} {fd_dot : FuncData} (g_dot : GF K mg "dot" ["one", "other"] a_dot fd_dot) (G_dot : FnOk P w K mg base CX0 (2 * k) a_dot fd_dot ["one", "other"] (spF R (callF T FU (k)) 8 [false, false])) {a_ratio : Addr} {fd_ratio : FuncData} (g_ratio : GF K mg "ratio" ["one", "other"] a_ratio fd_ratio) (G_ratio : FnOk P w K mg base CX0 (2 * k) a_ratio fd_ratio ["one", "other"] (spF R (callF T FU (k)) 15 [false, false])) {a_size_of : Addr} {fd_size_of : FuncData} (g_size_of : GF K mg "size_of" ["one", "other"] a_size_of fd_size_of) (G_size_of : FnOk P w K mg base CX0 (2 * k) a_size_of fd_size_of ["one", "other"] (spF R (callF T FU (k)) 17 [false, false])) : FnOk P w K mg base CX0 (2 * k + 2) a fd ["one", "other", "late", "after"] (spF R (callF T FU (k + 1)) 16 [false, false, false, false]) :=
  fn_ok (kk := 2 * k + 1) (fn := ir_are_alike) F sc_are_alike rfl rfl (by decide) (fun _ => rfl) fun cdv A outer s S0 H0 H vs E hr => by
    have hx : XC (fcOf R (callF T FU k) FU S0 H0 [false, false, false, false] vs) (cxOf CX0 P w K mg base ["one", "other", "late", "after", "mine", "theirs", "first", "second"] "are_alike" (defScope s_are_alike) a cdv A outer s H E) := ⟨hR.symm, rfl, un_of hr, hcf⟩
    have hr := hr.mono (Nat.le_succ (2 * k))
    have hpo := passes_of (X := cxOf CX0 P w K mg base ["one", "other", "late", "after", "mine", "theirs", "first", "second"] "are_alike" (defScope s_are_alike) a cdv A outer s H E) rfl
    exact (psd_cons (psd_par 4 5 hx sc_are_alike.nd (pad_cons (pd_call G_dot hr (by rfl) g_dot.g g_dot.kp g_dot.b (fun _ => passAt0) (pad_cons (pd_var 0) (pad_cons (pd_var 1) pad_nil))) (pad_cons (pd_call G_dot hr (by rfl) g_dot.g g_dot.kp g_dot.b (fun _ => passAt0) (pad_cons (pd_var 2) (pad_cons (pd_var 3) pad_nil))) pad_nil)) (by decide) (by rfl))
    (psd_cons (psd_if (ptd_of (pwd_or (ptd_lt hx (pd_mul (pd_var 4) (pd_var 5)) pd_int) (pwd_or1 (ptd_ne hx (pd_mul (pd_mul (pd_mul (pd_var 4) (pd_var 4)) (pd_call G_dot hr (by rfl) g_dot.g g_dot.kp g_dot.b (fun _ => passAt0) (pad_cons (pd_var 2) (pad_cons (pd_var 2) pad_nil)))) (pd_call G_dot hr (by rfl) g_dot.g g_dot.kp g_dot.b (fun _ => passAt0) (pad_cons (pd_var 3) (pad_cons (pd_var 3) pad_nil)))) (pd_mul (pd_mul (pd_var 5) (pd_var 5)) (pd_call G_size_of hr (by rfl) g_size_of.g g_size_of.kp g_size_of.b (fun _ => passAt0) (pad_cons (pd_var 0) (pad_cons (pd_var 1) pad_nil)))))))) (psd_cons (psd_ret pd_bl)
    psd_nil) psd_nil)
    (psd_cons (psd_par 6 7 hx sc_are_alike.nd (pad_cons (pd_call G_ratio hr (by rfl) g_ratio.g g_ratio.kp g_ratio.b (fun _ => passAt0) (pad_cons (pd_var 0) (pad_cons (pd_var 2) pad_nil))) (pad_cons (pd_call G_ratio hr (by rfl) g_ratio.g g_ratio.kp g_ratio.b (fun _ => passAt0) (pad_cons (pd_var 1) (pad_cons (pd_var 3) pad_nil))) pad_nil)) (by decide) (by rfl))
    (psd_cons (psd_if (ptd_of (pwd_or (ptd_isN (pd_var 6)) (pwd_or1 (ptd_isN (pd_var 7))))) (psd_cons (psd_ret pd_bl)
    psd_nil) psd_nil)
    (psd_cons (psd_ret (pd_eq hx (pd_mul (pd_mul (pd_var 5) (pd_idx hx (pd_var 6) pd_int)) (pd_idx hx (pd_var 7) pd_int)) (pd_mul (pd_mul (pd_var 4) (pd_idx hx (pd_var 6) pd_int)) (pd_idx hx (pd_var 7) pd_int))))
    psd_nil)))))
theorem ok_size_of {P : Program} {w : World} {K : PySem.W.Frag} {mg : Str → Option Value} {base : Heap} {R : Rc} (hR : R.K = K) (hcf : ∀ k ∈ R.cs, ClsF K (R.cl k)) {a : Addr} {fd : FuncData} (F : FunD K "size_of" "size_of" (defArgs s_size_of) (defBody s_size_of) (defScope s_size_of) [] [] a fd) (k : Nat) {a_dot : Addr} {fd_dot : FuncData} (g_dot : GF K mg "dot" ["one", "other"] a_dot fd_dot) (G_dot : FnOk P w K mg base CX0 (2 * k) a_dot fd_dot ["one", "other"] (spF R (callF T FU (k)) 8 [false, false])) : FnOk P w K mg base CX0 (2 * k + 2) a fd ["one", "other"] (spF R (callF T FU (k + 1)) 17 [false, false]) :=
  fn_ok (kk := 2 * k + 1) (fn := ir_size_of) F sc_size_of rfl rfl (by decide) (fun _ => rfl) fun cdv A outer s S0 H0 H vs E hr => by
    have hx : XC (fcOf R (callF T FU k) FU S0 H0 [false, false] vs) (cxOf CX0 P w K mg base ["one", "other"] "size_of" (defScope s_size_of) a cdv A outer s H E) := ⟨hR.symm, rfl, un_of hr, hcf⟩
    have hr := hr.mono (Nat.le_succ (2 * k))
    have hpo := passes_of (X := cxOf CX0 P w K mg base ["one", "other"] "size_of" (defScope s_size_of) a cdv A outer s H E) rfl
    exact (psd_cons (psd_ret (pd_mul (pd_call G_dot hr (by rfl) g_dot.g g_dot.kp g_dot.b (fun _ => passAt0) (pad_cons (pd_var 0) (pad_cons (pd_var 0) pad_nil))) (pd_call G_dot hr (by rfl) g_dot.g g_dot.kp g_dot.b (fun _ => passAt0) (pad_cons (pd_var 1) (pad_cons (pd_var 1) pad_nil)))))
    psd_nil)
theorem ok_angle_sign {P : Program} {w : World} {K : PySem.W.Frag} {mg : Str → Option Value} {base : Heap} {R : Rc} (hR : R.K = K) (hcf : ∀ k ∈ R.cs, ClsF K (R.cl k)) {a : Addr} {fd : FuncData} (F : FunD K "angle_sign" "angle_sign" (defArgs s_angle_sign) (defBody s_angle_sign) (defScope s_angle_sign) [] [] a fd) (k : Nat) {a_check_triple : Addr} {fd_check_triple : FuncData} (g_check_triple : GF K mg "check_triple" ["part", "thing"] a_check_triple fd_check_triple) (G_check_triple : FnOk P w K mg base CX0 (2 * k) a_check_triple fd_check_triple ["part", "thing"] (spF R (callF T FU (k)) 4 [false, false])) {a_dot : Addr} {fd_dot : FuncData} (g_dot : GF K mg "dot" ["one", "other"] a_dot fd_dot) (G_dot : FnOk P w K mg base CX0 (2 * k) a_dot fd_dot ["one", "other"] (spF R (callF T FU (k)) 8 [false, false])) : FnOk P w K mg base CX0 (2 * k + 2) a fd ["one", "other"] (spF R (callF T FU (k + 1)) 18 [false, false]) :=
  fn_ok (kk := 2 * k + 1) (fn := ir_angle_sign) F sc_angle_sign rfl rfl (by decide) (fun _ => rfl) fun cdv A outer s S0 H0 H vs E hr => by
    have hx : XC (fcOf R (callF T FU k) FU S0 H0 [false, false] vs) (cxOf CX0 P w K mg base ["one", "other", "found"] "angle_sign" (defScope s_angle_sign) a cdv A outer s H E) := ⟨hR.symm, rfl, un_of hr, hcf⟩
    have hr := hr.mono (Nat.le_succ (2 * k))
    have hpo := passes_of (X := cxOf CX0 P w K mg base ["one", "other", "found"] "angle_sign" (defScope s_angle_sign) a cdv A outer s H E) rfl
    exact (psd_cons (psd_expr (pd_call G_check_triple hr (by rfl) g_check_triple.g g_check_triple.kp g_check_triple.b (fun _ => passAt0) (pad_cons (pd_str [100, 105, 114, 101, 99, 116, 105, 111, 110] (by rfl)) (pad_cons (pd_var 0) pad_nil))))
    (psd_cons (psd_expr (pd_call G_check_triple hr (by rfl) g_check_triple.g g_check_triple.kp g_check_triple.b (fun _ => passAt0) (pad_cons (pd_str [100, 105, 114, 101, 99, 116, 105, 111, 110] (by rfl)) (pad_cons (pd_var 1) pad_nil))))
    (psd_cons (psd_set 2 sc_angle_sign.nd (pd_call G_dot hr (by rfl) g_dot.g g_dot.kp g_dot.b (fun _ => passAt0) (pad_cons (pd_var 0) (pad_cons (pd_var 1) pad_nil))))
    (psd_cons (psd_ret (pd_ite (ptd_gt (pd_var 2) pd_int) pd_int (pd_ite (ptd_eq hx (pd_var 2) pd_int) pd_int (pd_neg pd_int))))
    psd_nil))))
theorem ok_is_between {P : Program} {w : World} {K : PySem.W.Frag} {mg : Str → Option Value} {base : Heap} {R : Rc} (hR : R.K = K) (hcf : ∀ k ∈ R.cs, ClsF K (R.cl k)) {a : Addr} {fd : FuncData} (F : FunD K "is_between" "is_between" (defArgs s_is_between) (defBody s_is_between) (defScope s_is_between) [] [] a fd) (k : Nat) {a_dot : Addr} {fd_dot : FuncData} (g_dot : GF K mg "dot" ["one", "other"] a_dot fd_dot) (G_dot : FnOk P w K mg base CX0 (2 * k) a_dot fd_dot ["one", "other"] (spF R (callF T FU (k)) 8 [false, false])) {a_cross : Addr} {fd_cross : FuncData} (g_cross : GF K mg "cross" ["one", "other"] a_cross fd_cross) (G_cross : FnOk P w K mg base CX0 (2 * k) a_cross fd_cross ["one", "other"] (spF R (callF T FU (k)) 9 [false, false])) : FnOk P w K mg base CX0 (2 * k + 2) a fd ["one", "middle", "other"] (spF R (callF T FU (k + 1)) 19 [false, false, false]) :=
  fn_ok (kk := 2 * k + 1) (fn := ir_is_between) F sc_is_between rfl rfl (by decide) (fun _ => rfl) fun cdv A outer s S0 H0 H vs E hr => by
    have hx : XC (fcOf R (callF T FU k) FU S0 H0 [false, false, false] vs) (cxOf CX0 P w K mg base ["one", "middle", "other", "normal"] "is_between" (defScope s_is_between) a cdv A outer s H E) := ⟨hR.symm, rfl, un_of hr, hcf⟩
    have hr := hr.mono (Nat.le_succ (2 * k))
    have hpo := passes_of (X := cxOf CX0 P w K mg base ["one", "middle", "other", "normal"] "is_between" (defScope s_is_between) a cdv A outer s H E) rfl
    exact (psd_cons (psd_set 3 sc_is_between.nd (pd_call G_cross hr (by rfl) g_cross.g g_cross.kp g_cross.b (fun _ => passAt0) (pad_cons (pd_var 0) (pad_cons (pd_var 2) pad_nil))))
    (psd_cons (psd_if (ptd_of (pwd_or (ptd_eq hx (pd_var 3) (pd_tup (pad_cons pd_int (pad_cons pd_int (pad_cons pd_int pad_nil))))) (pwd_or1 (ptd_ne hx (pd_call G_dot hr (by rfl) g_dot.g g_dot.kp g_dot.b (fun _ => passAt0) (pad_cons (pd_var 3) (pad_cons (pd_var 1) pad_nil))) pd_int)))) (psd_cons (psd_ret pd_bl)
    psd_nil) psd_nil)
    (psd_cons (psd_ret (pd_and (pd_gt (pd_call G_dot hr (by rfl) g_dot.g g_dot.kp g_dot.b (fun _ => passAt0) (pad_cons (pd_call G_cross hr (by rfl) g_cross.g g_cross.kp g_cross.b (fun _ => passAt0) (pad_cons (pd_var 0) (pad_cons (pd_var 1) pad_nil))) (pad_cons (pd_var 3) pad_nil))) pd_int) (pd_one (pd_gt (pd_call G_dot hr (by rfl) g_dot.g g_dot.kp g_dot.b (fun _ => passAt0) (pad_cons (pd_call G_cross hr (by rfl) g_cross.g g_cross.kp g_cross.b (fun _ => passAt0) (pad_cons (pd_var 1) (pad_cons (pd_var 2) pad_nil))) (pad_cons (pd_var 3) pad_nil))) pd_int))))
    psd_nil)))
theorem ok_law_number {P : Program} {w : World} {K : PySem.W.Frag} {mg : Str → Option Value} {base : Heap} {R : Rc} (hR : R.K = K) (hcf : ∀ k ∈ R.cs, ClsF K (R.cl k)) {a : Addr} {fd : FuncData} (F : FunD K "_law_number" "_law_number" (defArgs s_law_number) (defBody s_law_number) (defScope s_law_number) [] [] a fd) (m_int : mg "int" = none) (m_len : mg "len" = none) (m_range : mg "range" = none) (k : Nat) : FnOk P w K mg base CX0 (2 * k + 2) a fd ["script", "index"] (spF R (callF T FU (k + 1)) 20 [false, false]) :=
  fn_ok (kk := 2 * k + 1) (fn := ir_law_number) F sc_law_number rfl rfl (by decide) (fun _ => rfl) fun cdv A outer s S0 H0 H vs E hr => by
    have hx : XC (fcOf R (callF T FU k) FU S0 H0 [false, false] vs) (cxOf CX0 P w K mg base ["script", "index", "cell", "turn", "rest", "step", "blend"] "_law_number" (defScope s_law_number) a cdv A outer s H E) := ⟨hR.symm, rfl, un_of hr, hcf⟩
    have hr := hr.mono (Nat.le_succ (2 * k))
    have hpo := passes_of (X := cxOf CX0 P w K mg base ["script", "index", "cell", "turn", "rest", "step", "blend"] "_law_number" (defScope s_law_number) a cdv A outer s H E) rfl
    exact (psd_cons (psd_unp (pd_ite (ptd_ne hx (pd_var 0) (pd_lst [] pad_nil)) (pd_tup (pad_cons (pd_idx hx (pd_var 0) (pd_mod (pd_var 1) (pd_callB call_len PySem.boot_len (fun σ => len_r hx.K) (by rfl) m_len (pad_cons (pd_var 0) pad_nil) (by decide) (by decide)))) (pad_cons (pd_fdiv (pd_var 1) (pd_callB call_len PySem.boot_len (fun σ => len_r hx.K) (by rfl) m_len (pad_cons (pd_var 0) pad_nil) (by decide) (by decide))) pad_nil))) (pd_tup (pad_cons pd_int (pad_cons pd_int pad_nil)))) (pgd_tup hx (pgds_cons (pgd_var 2 sc_law_number.nd) (pgds_cons (pgd_var 3 sc_law_number.nd) pgds_nil))))
    (psd_cons (psd_set 4 sc_law_number.nd (pd_ite (ptd_lt hx (pd_var 3) pd_int) (pd_sub (pd_var 2) (pd_pow pd_int pd_int)) pd_int))
    (psd_cons (psd_for hpo hx (pid_range1 (by rfl) m_range (pad_cons (pd_mod (pd_callTy call_int1 PyProof.Rows.boot_int (fun σ => int_r) (by rfl) m_int (pad_cons (pd_var 3) pad_nil) (by decide) (by decide)) pd_int) pad_nil)) (pgd_var 5 sc_law_number.nd) (psd_cons (psd_set 4 sc_law_number.nd (pd_fdiv (pd_var 4) pd_int))
    psd_nil))
    (psd_cons (psd_if (ptd_gt (pd_var 4) pd_int) (psd_cons (psd_ret (pd_mod (pd_callTy call_int1 PyProof.Rows.boot_int (fun σ => int_r) (by rfl) m_int (pad_cons (pd_var 4) pad_nil) (by decide) (by decide)) pd_int))
    psd_nil) psd_nil)
    (psd_cons (psd_set 6 sc_law_number.nd (pd_mod (pd_add (pd_mul (pd_callTy call_int1 PyProof.Rows.boot_int (fun σ => int_r) (by rfl) m_int (pad_cons (pd_add (pd_var 2) (pd_mul pd_int (pd_var 1))) pad_nil) (by decide) (by decide)) pd_int) (pd_mul pd_int (pd_callB call_len PySem.boot_len (fun σ => len_r hx.K) (by rfl) m_len (pad_cons (pd_var 0) pad_nil) (by decide) (by decide)))) pd_int))
    (psd_cons (psd_set 6 sc_law_number.nd (pd_mod (pd_add (pd_mul (pd_var 6) (pd_var 6)) (pd_mul pd_int (pd_var 1))) pd_int))
    (psd_cons (psd_ret (pd_callTy call_int1 PyProof.Rows.boot_int (fun σ => int_r) (by rfl) m_int (pad_cons (pd_mod (pd_add (pd_mul (pd_var 6) pd_int) (pd_fdiv (pd_var 6) pd_int)) pd_int) pad_nil) (by decide) (by decide)))
    psd_nil)))))))
theorem ok_law_take {P : Program} {w : World} {K : PySem.W.Frag} {mg : Str → Option Value} {base : Heap} {R : Rc} (hR : R.K = K) (hcf : ∀ k ∈ R.cs, ClsF K (R.cl k)) {a : Addr} {fd : FuncData} (F : FunD K "_law_take" "_law_take" (defArgs s_law_take) (defBody s_law_take) (defScope s_law_take) [] [] a fd) (m_int : mg "int" = none) (k : Nat) {a_law_number : Addr} {fd_law_number : FuncData} (g_law_number : GF K mg "_law_number" ["script", "index"] a_law_number fd_law_number) (G_law_number : FnOk P w K mg base CX0 (2 * k) a_law_number fd_law_number ["script", "index"] (spF R (callF T FU (k)) 20 [false, false])) : FnOk P w K mg base CX0 (2 * k + 2) a fd ["draw", "many"] (spF R (callF T FU (k + 1)) 21 [true, false]) :=
  fn_ok (kk := 2 * k + 1) (fn := ir_law_take) F sc_law_take rfl rfl (by decide) (fun _ => rfl) fun cdv A outer s S0 H0 H vs E hr => by
    have hx : XC (fcOf R (callF T FU k) FU S0 H0 [true, false] vs) (cxOf CX0 P w K mg base ["draw", "many"] "_law_take" (defScope s_law_take) a cdv A outer s H E) := ⟨hR.symm, rfl, un_of hr, hcf⟩
    have hr := hr.mono (Nat.le_succ (2 * k))
    have hpo := passes_of (X := cxOf CX0 P w K mg base ["draw", "many"] "_law_take" (defScope s_law_take) a cdv A outer s H E) rfl
    exact (psd_cons (psd_augIdx 0 hx iop_add add_g pd_int (by decide) (by decide))
    (psd_cons (psd_ret (pd_mod (pd_callTy call_int1 PyProof.Rows.boot_int (fun σ => int_r) (by rfl) m_int (pad_cons (pd_call G_law_number hr (by rfl) g_law_number.g g_law_number.kp g_law_number.b (fun _ => passAt0) (pad_cons (pd_idx hx (pd_bor 0) pd_int) (pad_cons (pd_callTy call_int1 PyProof.Rows.boot_int (fun σ => int_r) (by rfl) m_int (pad_cons (pd_idx hx (pd_bor 0) pd_int) pad_nil) (by decide) (by decide)) pad_nil))) pad_nil) (by decide) (by decide)) (pd_var 1)))
    psd_nil))
theorem ok_law_pick {P : Program} {w : World} {K : PySem.W.Frag} {mg : Str → Option Value} {base : Heap} {R : Rc} (hR : R.K = K) (hcf : ∀ k ∈ R.cs, ClsF K (R.cl k)) {a : Addr} {fd : FuncData} (F : FunD K "_law_pick" "_law_pick" (defArgs s_law_pick) (defBody s_law_pick) (defScope s_law_pick) [] [] a fd) (m_len : mg "len" = none) (k : Nat) {a_law_take : Addr} {fd_law_take : FuncData} (g_law_take : GF K mg "_law_take" ["draw", "many"] a_law_take fd_law_take) (G_law_take : FnOk P w K mg base CX0 (2 * k) a_law_take fd_law_take ["draw", "many"] (spF R (callF T FU (k)) 21 [true, false])) : FnOk P w K mg base CX0 (2 * k + 2) a fd ["draw", "items"] (spF R (callF T FU (k + 1)) 22 [true, false]) :=
  fn_ok (kk := 2 * k + 1) (fn := ir_law_pick) F sc_law_pick rfl rfl (by decide) (fun _ => rfl) fun cdv A outer s S0 H0 H vs E hr => by
    have hx : XC (fcOf R (callF T FU k) FU S0 H0 [true, false] vs) (cxOf CX0 P w K mg base ["draw", "items"] "_law_pick" (defScope s_law_pick) a cdv A outer s H E) := ⟨hR.symm, rfl, un_of hr, hcf⟩
    have hr := hr.mono (Nat.le_succ (2 * k))
    have hpo := passes_of (X := cxOf CX0 P w K mg base ["draw", "items"] "_law_pick" (defScope s_law_pick) a cdv A outer s H E) rfl
    exact (psd_cons (psd_ret (pd_idx hx (pd_var 1) (pd_call G_law_take hr (by rfl) g_law_take.g g_law_take.kp g_law_take.b (fun _ => passAt0) (pad_cons (pd_io 0) (pad_cons (pd_callB call_len PySem.boot_len (fun σ => len_r hx.K) (by rfl) m_len (pad_cons (pd_var 1) pad_nil) (by decide) (by decide)) pad_nil)))))
    psd_nil)
theorem ok_law_sky {P : Program} {w : World} {K : PySem.W.Frag} {mg : Str → Option Value} {base : Heap} {R : Rc} (hR : R.K = K) (hcf : ∀ k ∈ R.cs, ClsF K (R.cl k)) {a : Addr} {fd : FuncData} (F : FunD K "_law_sky" "_law_sky" (defArgs s_law_sky) (defBody s_law_sky) (defScope s_law_sky) [] [] a fd) (m_tuple : mg "tuple" = none) (k : Nat) {a_law_take : Addr} {fd_law_take : FuncData} (g_law_take : GF K mg "_law_take" ["draw", "many"] a_law_take fd_law_take) (G_law_take : FnOk P w K mg base CX0 (2 * k) a_law_take fd_law_take ["draw", "many"] (spF R (callF T FU (k)) 21 [true, false])) {a_law_pick : Addr} {fd_law_pick : FuncData} (g_law_pick : GF K mg "_law_pick" ["draw", "items"] a_law_pick fd_law_pick) (G_law_pick : FnOk P w K mg base CX0 (2 * k) a_law_pick fd_law_pick ["draw", "items"] (spF R (callF T FU (k)) 22 [true, false])) : FnOk P w K mg base CX0 (2 * k + 2) a fd ["draw"] (spF R (callF T FU (k + 1)) 27 [true]) :=
  fn_ok (kk := 2 * k + 1) (fn := ir_law_sky) F sc_law_sky rfl rfl (by decide) (fun _ => rfl) fun cdv A outer s S0 H0 H vs E hr => by
    have hx : XC (fcOf R (callF T FU k) FU S0 H0 [true] vs) (cxOf CX0 P w K mg base ["draw", "rows", "row", "one"] "_law_sky" (defScope s_law_sky) a cdv A outer s H E) := ⟨hR.symm, rfl, un_of hr, hcf⟩
    have hr := hr.mono (Nat.le_succ (2 * k))
    have hpo := passes_of (X := cxOf CX0 P w K mg base ["draw", "rows", "row", "one"] "_law_sky" (defScope s_law_sky) a cdv A outer s H E) rfl
    exact (psd_cons (psd_set 1 sc_law_sky.nd (pd_lst [false, false, false, false, false, false, false, false, false, false, false, false, false, false] (pad_cons (pd_tup (pad_cons pd_int (pad_cons pd_int (pad_cons pd_int pad_nil)))) (pad_cons (pd_tup (pad_cons pd_int (pad_cons pd_int (pad_cons pd_int pad_nil)))) (pad_cons (pd_tup (pad_cons pd_int (pad_cons pd_int (pad_cons pd_int pad_nil)))) (pad_cons (pd_tup (pad_cons pd_int (pad_cons pd_int (pad_cons pd_int pad_nil)))) (pad_cons (pd_tup (pad_cons pd_int (pad_cons pd_int (pad_cons pd_int pad_nil)))) (pad_cons (pd_tup (pad_cons pd_int (pad_cons pd_int (pad_cons pd_int pad_nil)))) (pad_cons (pd_tup (pad_cons pd_int (pad_cons pd_int (pad_cons pd_int pad_nil)))) (pad_cons (pd_tup (pad_cons pd_int (pad_cons pd_int (pad_cons pd_int pad_nil)))) (pad_cons (pd_tup (pad_cons pd_int (pad_cons pd_int (pad_cons pd_int pad_nil)))) (pad_cons (pd_tup (pad_cons pd_int (pad_cons pd_int (pad_cons pd_int pad_nil)))) (pad_cons (pd_tup (pad_cons pd_int (pad_cons pd_int (pad_cons pd_int pad_nil)))) (pad_cons (pd_tup (pad_cons pd_int (pad_cons pd_int (pad_cons pd_int pad_nil)))) (pad_cons (pd_tup (pad_cons pd_int (pad_cons pd_int (pad_cons pd_int pad_nil)))) (pad_cons (pd_tup (pad_cons pd_int (pad_cons pd_int (pad_cons pd_int pad_nil)))) pad_nil))))))))))))))))
    (psd_cons (psd_set 2 sc_law_sky.nd (pd_ite (ptd_gt (pd_call G_law_take hr (by rfl) g_law_take.g g_law_take.kp g_law_take.b (fun _ => passAt0) (pad_cons (pd_io 0) (pad_cons pd_int pad_nil))) pd_int) (pd_idx hx (pd_var 1) (pd_call G_law_take hr (by rfl) g_law_take.g g_law_take.kp g_law_take.b (fun _ => passAt0) (pad_cons (pd_io 0) (pad_cons pd_int pad_nil)))) (pd_call G_law_pick hr (by rfl) g_law_pick.g g_law_pick.kp g_law_pick.b (fun _ => passAt0) (pad_cons (pd_io 0) (pad_cons (pd_var 1) pad_nil)))))
    (psd_cons (psd_ret (pd_callTy call_tuple_of PyProof.Rows.boot_tuple (fun σ => tuple_r hx.K) (by rfl) m_tuple (pad_cons (pd_comp hx sc_law_sky.nd (pid_seq hx (pd_var 2)) (blkOk_by (own := [("one", 3)]) (by kernel_rfl)) (by decide) (fun h0_1 _ _ _ _ _ => (pgd_var 3 sc_law_sky.nd)) (fun h0_1 _ _ _ _ _ => ptds_nil) (fun h0_1 _ _ _ _ _ => have hx1 := (hx.at0 h0_1).blk _ _ _ _ _; (pd_ite (ptd_eq hx1 (pd_call G_law_take hr (by rfl) g_law_take.g g_law_take.kp g_law_take.b (fun _ => passAt0) (pad_cons (pd_io 0) (pad_cons pd_int pad_nil))) pd_int) (pd_var 3) (pd_sub pd_int (pd_var 3))))) pad_nil) (by decide) (by decide)))
    psd_nil)))
theorem ok_law {P : Program} {w : World} {K : PySem.W.Frag} {mg : Str → Option Value} {base : Heap} {R : Rc} (hR : R.K = K) (hcf : ∀ k ∈ R.cs, ClsF K (R.cl k)) {a : Addr} {fd : FuncData} (F : FunD K "law" "law" (defArgs s_law) (defBody s_law) (defScope s_law) [] [] a fd) (m_range : mg "range" = none) (m_tuple : mg "tuple" = none) (k : Nat) {a_least : Addr} {fd_least : FuncData} (g_least : GF K mg "least" ["direction"] a_least fd_least) (G_least : FnOk P w K mg base CX0 (2 * k) a_least fd_least ["direction"] (spF R (callF T FU (k)) 5 [false])) {a_is_same : Addr} {fd_is_same : FuncData} (g_is_same : GF K mg "is_same" ["one", "other"] a_is_same fd_is_same) (G_is_same : FnOk P w K mg base CX0 (2 * k) a_is_same fd_is_same ["one", "other"] (spF R (callF T FU (k)) 6 [false, false])) {a_opposite : Addr} {fd_opposite : FuncData} (g_opposite : GF K mg "opposite" ["direction"] a_opposite fd_opposite) (G_opposite : FnOk P w K mg base CX0 (2 * k) a_opposite fd_opposite ["direction"] (spF R (callF T FU (k)) 7 [false])) {a_dot : Addr} {fd_dot : FuncData} (g_dot : GF K mg "dot" ["one", "other"] a_dot fd_dot) (G_dot : FnOk P w K mg base CX0 (2 * k) a_dot fd_dot ["one", "other"] (spF R (callF T FU (k)) 8 [false, false])) {a_cross : Addr} {fd_cross : FuncData} (g_cross : GF K mg "cross" ["one", "other"] a_cross fd_cross) (G_cross : FnOk P w K mg base CX0 (2 * k) a_cross fd_cross ["one", "other"] (spF R (callF T FU (k)) 9 [false, false])) {a_det : Addr} {fd_det : FuncData} (g_det : GF K mg "det" ["one", "other", "third"] a_det fd_det) (G_det : FnOk P w K mg base CX0 (2 * k) a_det fd_det ["one", "other", "third"] (spF R (callF T FU (k)) 10 [false, false, false])) {a_plus : Addr} {fd_plus : FuncData} (g_plus : GF K mg "plus" ["one", "other"] a_plus fd_plus) (G_plus : FnOk P w K mg base CX0 (2 * k) a_plus fd_plus ["one", "other"] (spF R (callF T FU (k)) 11 [false, false])) {a_times : Addr} {fd_times : FuncData} (g_times : GF K mg "times" ["factor", "triple"] a_times fd_times) (G_times : FnOk P w K mg base CX0 (2 * k) a_times fd_times ["factor", "triple"] (spF R (callF T FU (k)) 12 [false, false])) {a_is_on_line : Addr} {fd_is_on_line : FuncData} (g_is_on_line : GF K mg "is_on_line" ["one", "other"] a_is_on_line fd_is_on_line) (G_is_on_line : FnOk P w K mg base CX0 (2 * k) a_is_on_line fd_is_on_line ["one", "other"] (spF R (callF T FU (k)) 13 [false, false])) {a_root : Addr} {fd_root : FuncData} (g_root : GF K mg "root" ["number"] a_root fd_root) (G_root : FnOk P w K mg base CX0 (2 * k) a_root fd_root ["number"] (spF R (callF T FU (k)) 14 [false])) {a_ratio : Addr} {fd_ratio : FuncData} (g_ratio : GF K mg "ratio" ["one", "other"] a_ratio fd_ratio) (G_ratio : FnOk P w K mg base CX0 (2 * k) a_ratio fd_ratio ["one", "other"] (spF R (callF T FU (k)) 15 [false, false])) {a_are_alike : Addr} {fd_are_alike : FuncData} (g_are_alike : GF K mg "are_alike" ["one", "other", "late", "after"] a_are_alike fd_are_alike) (G_are_alike : FnOk P w K mg base CX0 (2 * k) a_are_alike fd_are_alike ["one", "other", "late", "after"] (spF R (callF T FU (k)) 16 [false, false, false, false])) {a_angle_sign : Addr} {fd_angle_sign : FuncData} (g_angle_sign : GF K mg "angle_sign" ["one", "other"] a_angle_sign fd_angle_sign) (G_angle_sign : FnOk P w K mg base CX0 (2 * k) a_angle_sign fd_angle_sign ["one", "other"] (spF R (callF T FU (k)) 18 [false, false])) {a_is_between : Addr} {fd_is_between : FuncData} (g_is_between : GF K mg "is_between" ["one", "middle", "other"] a_is_between fd_is_between) (G_is_between : FnOk P w K mg base CX0 (2 * k) a_is_between fd_is_between ["one", "middle", "other"] (spF R (callF T FU (k)) 19 [false, false, false])) {a_law_take : Addr} {fd_law_take : FuncData} (g_law_take : GF K mg "_law_take" ["draw", "many"] a_law_take fd_law_take) (G_law_take : FnOk P w K mg base CX0 (2 * k) a_law_take fd_law_take ["draw", "many"] (spF R (callF T FU (k)) 21 [true, false])) {a_law_sky : Addr} {fd_law_sky : FuncData} (g_law_sky : GF K mg "_law_sky" ["draw"] a_law_sky fd_law_sky) (G_law_sky : FnOk P w K mg base CX0 (2 * k) a_law_sky fd_law_sky ["draw"] (spF R (callF T FU (k)) 27 [true])) : FnOk P w K mg base CX0 (2 * k + 2) a fd ["script"] (spF R (callF T FU (k + 1)) 1000 [false]) :=
  fn_ok (kk := 2 * k + 1) (fn := ir_law_k48) F sc_law rfl rfl (by decide) (fun _ => rfl) fun cdv A outer s S0 H0 H vs E hr => by
    have hx : XC (fcOf R (callF T FU k) FU S0 H0 [false] vs) (cxOf CX0 P w K mg base ["script", "draw", "turn", "a", "b", "c", "d", "again", "whole", "one", "other", "third", "many", "middle", "number"] "law" (defScope s_law) a cdv A outer s H E) := ⟨hR.symm, rfl, un_of hr, hcf⟩
    have hr := hr.mono (Nat.le_succ (2 * k))
    have hpo := passes_of (X := cxOf CX0 P w K mg base ["script", "draw", "turn", "a", "b", "c", "d", "again", "whole", "one", "other", "third", "many", "middle", "number"] "law" (defScope s_law) a cdv A outer s H E) rfl
    exact (psd_cons (psd_own 1 sc_law.nd (nio rfl) (pd_lst [false, false] (pad_cons (pd_var 0) (pad_cons pd_int pad_nil))))
    (psd_cons (psd_for hpo hx (pid_range1 (by rfl) m_range (pad_cons pd_int pad_nil)) (pgd_var 2 sc_law.nd) (psd_cons (psd_unp (pd_comp hx sc_law.nd (pid_range1 (by rfl) m_range (pad_cons pd_int pad_nil)) (blkOk_by (own := [("again", 7)]) (by kernel_rfl)) (by decide) (fun h0_1 _ _ _ _ _ => (pgd_var 7 sc_law.nd)) (fun h0_1 _ _ _ _ _ => ptds_nil) (fun h0_1 _ _ _ _ _ => (pd_call G_law_sky hr (by rfl) g_law_sky.g g_law_sky.kp g_law_sky.b (fun _ => passAt0) (pad_cons (pd_io 1) pad_nil)))) (pgd_tup hx (pgds_cons (pgd_var 3 sc_law.nd) (pgds_cons (pgd_var 4 sc_law.nd) (pgds_cons (pgd_var 5 sc_law.nd) (pgds_cons (pgd_var 6 sc_law.nd) pgds_nil))))))
    (psd_cons (psd_if (ptd_of (pwd_or (ptd_ne hx (pd_call G_dot hr (by rfl) g_dot.g g_dot.kp g_dot.b (fun _ => passAt0) (pad_cons (pd_call G_cross hr (by rfl) g_cross.g g_cross.kp g_cross.b (fun _ => passAt0) (pad_cons (pd_var 3) (pad_cons (pd_var 4) pad_nil))) (pad_cons (pd_call G_cross hr (by rfl) g_cross.g g_cross.kp g_cross.b (fun _ => passAt0) (pad_cons (pd_var 5) (pad_cons (pd_var 6) pad_nil))) pad_nil))) (pd_sub (pd_mul (pd_call G_dot hr (by rfl) g_dot.g g_dot.kp g_dot.b (fun _ => passAt0) (pad_cons (pd_var 3) (pad_cons (pd_var 5) pad_nil))) (pd_call G_dot hr (by rfl) g_dot.g g_dot.kp g_dot.b (fun _ => passAt0) (pad_cons (pd_var 4) (pad_cons (pd_var 6) pad_nil)))) (pd_mul (pd_call G_dot hr (by rfl) g_dot.g g_dot.kp g_dot.b (fun _ => passAt0) (pad_cons (pd_var 3) (pad_cons (pd_var 6) pad_nil))) (pd_call G_dot hr (by rfl) g_dot.g g_dot.kp g_dot.b (fun _ => passAt0) (pad_cons (pd_var 4) (pad_cons (pd_var 5) pad_nil)))))) (pwd_or (ptd_ne hx (pd_call G_dot hr (by rfl) g_dot.g g_dot.kp g_dot.b (fun _ => passAt0) (pad_cons (pd_call G_cross hr (by rfl) g_cross.g g_cross.kp g_cross.b (fun _ => passAt0) (pad_cons (pd_var 3) (pad_cons (pd_var 4) pad_nil))) (pad_cons (pd_var 3) pad_nil))) pd_int) (pwd_or1 (ptd_ne hx (pd_callTy call_tuple_of PyProof.Rows.boot_tuple (fun σ => tuple_r hx.K) (by rfl) m_tuple (pad_cons (pd_call G_cross hr (by rfl) g_cross.g g_cross.kp g_cross.b (fun _ => passAt0) (pad_cons (pd_var 3) (pad_cons (pd_var 4) pad_nil))) pad_nil) (by decide) (by decide)) (pd_callTy call_tuple_of PyProof.Rows.boot_tuple (fun σ => tuple_r hx.K) (by rfl) m_tuple (pad_cons (pd_call G_times hr (by rfl) g_times.g g_times.kp g_times.b (fun _ => passAt0) (pad_cons (pd_sub pd_int pd_int) (pad_cons (pd_call G_cross hr (by rfl) g_cross.g g_cross.kp g_cross.b (fun _ => passAt0) (pad_cons (pd_var 4) (pad_cons (pd_var 3) pad_nil))) pad_nil))) pad_nil) (by decide) (by decide))))))) (psd_cons (psd_ret pd_bl)
    psd_nil) psd_nil)
    (psd_cons (psd_if (ptd_of (pwd_or (ptd_ne hx (pd_callTy call_tuple_of PyProof.Rows.boot_tuple (fun σ => tuple_r hx.K) (by rfl) m_tuple (pad_cons (pd_call G_plus hr (by rfl) g_plus.g g_plus.kp g_plus.b (fun _ => passAt0) (pad_cons (pd_call G_plus hr (by rfl) g_plus.g g_plus.kp g_plus.b (fun _ => passAt0) (pad_cons (pd_call G_cross hr (by rfl) g_cross.g g_cross.kp g_cross.b (fun _ => passAt0) (pad_cons (pd_var 3) (pad_cons (pd_call G_cross hr (by rfl) g_cross.g g_cross.kp g_cross.b (fun _ => passAt0) (pad_cons (pd_var 4) (pad_cons (pd_var 5) pad_nil))) pad_nil))) (pad_cons (pd_call G_cross hr (by rfl) g_cross.g g_cross.kp g_cross.b (fun _ => passAt0) (pad_cons (pd_var 4) (pad_cons (pd_call G_cross hr (by rfl) g_cross.g g_cross.kp g_cross.b (fun _ => passAt0) (pad_cons (pd_var 5) (pad_cons (pd_var 3) pad_nil))) pad_nil))) pad_nil))) (pad_cons (pd_call G_cross hr (by rfl) g_cross.g g_cross.kp g_cross.b (fun _ => passAt0) (pad_cons (pd_var 5) (pad_cons (pd_call G_cross hr (by rfl) g_cross.g g_cross.kp g_cross.b (fun _ => passAt0) (pad_cons (pd_var 3) (pad_cons (pd_var 4) pad_nil))) pad_nil))) pad_nil))) pad_nil) (by decide) (by decide)) (pd_tup (pad_cons pd_int (pad_cons pd_int (pad_cons pd_int pad_nil))))) (pwd_or (ptd_ne hx (pd_call G_det hr (by rfl) g_det.g g_det.kp g_det.b (fun _ => passAt0) (pad_cons (pd_var 3) (pad_cons (pd_var 4) (pad_cons (pd_var 5) pad_nil)))) (pd_call G_det hr (by rfl) g_det.g g_det.kp g_det.b (fun _ => passAt0) (pad_cons (pd_var 4) (pad_cons (pd_var 5) (pad_cons (pd_var 3) pad_nil))))) (pwd_or (ptd_ne hx (pd_call G_det hr (by rfl) g_det.g g_det.kp g_det.b (fun _ => passAt0) (pad_cons (pd_var 3) (pad_cons (pd_var 4) (pad_cons (pd_var 5) pad_nil)))) (pd_sub pd_int (pd_call G_det hr (by rfl) g_det.g g_det.kp g_det.b (fun _ => passAt0) (pad_cons (pd_var 4) (pad_cons (pd_var 3) (pad_cons (pd_var 5) pad_nil)))))) (pwd_or1 (ptd_ne hx (pd_call G_det hr (by rfl) g_det.g g_det.kp g_det.b (fun _ => passAt0) (pad_cons (pd_var 3) (pad_cons (pd_var 4) (pad_cons (pd_call G_plus hr (by rfl) g_plus.g g_plus.kp g_plus.b (fun _ => passAt0) (pad_cons (pd_var 5) (pad_cons (pd_call G_times hr (by rfl) g_times.g g_times.kp g_times.b (fun _ => passAt0) (pad_cons pd_int (pad_cons (pd_var 3) pad_nil))) pad_nil))) pad_nil)))) (pd_call G_det hr (by rfl) g_det.g g_det.kp g_det.b (fun _ => passAt0) (pad_cons (pd_var 3) (pad_cons (pd_var 4) (pad_cons (pd_var 5) pad_nil)))))))))) (psd_cons (psd_ret pd_bl)
    psd_nil) psd_nil)
    (psd_cons (psd_set 8 sc_law.nd (pd_add (pd_call G_dot hr (by rfl) g_dot.g g_dot.kp g_dot.b (fun _ => passAt0) (pad_cons (pd_call G_cross hr (by rfl) g_cross.g g_cross.kp g_cross.b (fun _ => passAt0) (pad_cons (pd_var 3) (pad_cons (pd_var 4) pad_nil))) (pad_cons (pd_call G_cross hr (by rfl) g_cross.g g_cross.kp g_cross.b (fun _ => passAt0) (pad_cons (pd_var 3) (pad_cons (pd_var 4) pad_nil))) pad_nil))) (pd_mul (pd_call G_dot hr (by rfl) g_dot.g g_dot.kp g_dot.b (fun _ => passAt0) (pad_cons (pd_var 3) (pad_cons (pd_var 4) pad_nil))) (pd_call G_dot hr (by rfl) g_dot.g g_dot.kp g_dot.b (fun _ => passAt0) (pad_cons (pd_var 3) (pad_cons (pd_var 4) pad_nil))))))
    (psd_cons (psd_if (ptd_of (pwd_or (ptd_ne hx (pd_var 8) (pd_mul (pd_call G_dot hr (by rfl) g_dot.g g_dot.kp g_dot.b (fun _ => passAt0) (pad_cons (pd_var 3) (pad_cons (pd_var 3) pad_nil))) (pd_call G_dot hr (by rfl) g_dot.g g_dot.kp g_dot.b (fun _ => passAt0) (pad_cons (pd_var 4) (pad_cons (pd_var 4) pad_nil))))) (pwd_or (ptd_ne hx (pd_isN (pd_call G_root hr (by rfl) g_root.g g_root.kp g_root.b (fun _ => passAt0) (pad_cons (pd_var 8) pad_nil))) (pd_isN (pd_call G_ratio hr (by rfl) g_ratio.g g_ratio.kp g_ratio.b (fun _ => passAt0) (pad_cons (pd_var 3) (pad_cons (pd_var 4) pad_nil))))) (pwd_or1 (ptd_ne hx (pd_call G_is_on_line hr (by rfl) g_is_on_line.g g_is_on_line.kp g_is_on_line.b (fun _ => passAt0) (pad_cons (pd_var 3) (pad_cons (pd_var 4) pad_nil))) (pd_eq hx (pd_mul (pd_call G_dot hr (by rfl) g_dot.g g_dot.kp g_dot.b (fun _ => passAt0) (pad_cons (pd_var 3) (pad_cons (pd_var 4) pad_nil))) (pd_call G_dot hr (by rfl) g_dot.g g_dot.kp g_dot.b (fun _ => passAt0) (pad_cons (pd_var 3) (pad_cons (pd_var 4) pad_nil)))) (pd_var 8))))))) (psd_cons (psd_ret pd_bl)
    psd_nil) psd_nil)
    (psd_cons (psd_par3 9 10 11 hx sc_law.nd (pad_cons (pd_call G_ratio hr (by rfl) g_ratio.g g_ratio.kp g_ratio.b (fun _ => passAt0) (pad_cons (pd_var 3) (pad_cons (pd_var 4) pad_nil))) (pad_cons (pd_call G_ratio hr (by rfl) g_ratio.g g_ratio.kp g_ratio.b (fun _ => passAt0) (pad_cons (pd_var 4) (pad_cons (pd_var 5) pad_nil))) (pad_cons (pd_call G_ratio hr (by rfl) g_ratio.g g_ratio.kp g_ratio.b (fun _ => passAt0) (pad_cons (pd_var 3) (pad_cons (pd_var 5) pad_nil))) pad_nil))) (by decide) (by decide) (by decide) (by rfl))
    (psd_cons (psd_if (ptd_of (pwd_and (ptd_notN (pd_var 9)) (pwd_and (ptd_notN (pd_var 10)) (pwd_and1 (ptd_of (pwd_or (ptd_isN (pd_var 11)) (pwd_or1 (ptd_ne hx (pd_mul (pd_mul (pd_idx hx (pd_var 11) pd_int) (pd_idx hx (pd_var 9) pd_int)) (pd_idx hx (pd_var 10) pd_int)) (pd_mul (pd_mul (pd_idx hx (pd_var 9) pd_int) (pd_idx hx (pd_var 10) pd_int)) (pd_idx hx (pd_var 11) pd_int)))))))))) (psd_cons (psd_ret pd_bl)
    psd_nil) psd_nil)
    (psd_cons (psd_if (ptd_of (pwd_and (ptd_notN (pd_var 9)) (pwd_and1 (ptd_of (pwd_or (ptd_ne hx (pd_call G_ratio hr (by rfl) g_ratio.g g_ratio.kp g_ratio.b (fun _ => passAt0) (pad_cons (pd_var 4) (pad_cons (pd_var 3) pad_nil))) (pd_tup (pad_cons (pd_idx hx (pd_var 9) pd_int) (pad_cons (pd_idx hx (pd_var 9) pd_int) pad_nil)))) (pwd_or (ptd_ne hx (pd_mul (pd_idx hx (pd_call G_ratio hr (by rfl) g_ratio.g g_ratio.kp g_ratio.b (fun _ => passAt0) (pad_cons (pd_call G_times hr (by rfl) g_times.g g_times.kp g_times.b (fun _ => passAt0) (pad_cons pd_int (pad_cons (pd_var 3) pad_nil))) (pad_cons (pd_var 4) pad_nil))) pd_int) (pd_idx hx (pd_var 9) pd_int)) (pd_mul (pd_mul pd_int (pd_idx hx (pd_var 9) pd_int)) (pd_idx hx (pd_call G_ratio hr (by rfl) g_ratio.g g_ratio.kp g_ratio.b (fun _ => passAt0) (pad_cons (pd_call G_times hr (by rfl) g_times.g g_times.kp g_times.b (fun _ => passAt0) (pad_cons pd_int (pad_cons (pd_var 3) pad_nil))) (pad_cons (pd_var 4) pad_nil))) pd_int))) (pwd_or1 (ptd_ne hx (pd_mul (pd_mul (pd_idx hx (pd_var 9) pd_int) (pd_idx hx (pd_var 9) pd_int)) (pd_call G_dot hr (by rfl) g_dot.g g_dot.kp g_dot.b (fun _ => passAt0) (pad_cons (pd_var 4) (pad_cons (pd_var 4) pad_nil)))) (pd_mul (pd_mul (pd_idx hx (pd_var 9) pd_int) (pd_idx hx (pd_var 9) pd_int)) (pd_call G_dot hr (by rfl) g_dot.g g_dot.kp g_dot.b (fun _ => passAt0) (pad_cons (pd_var 3) (pad_cons (pd_var 3) pad_nil)))))))))))) (psd_cons (psd_ret pd_bl)
    psd_nil) psd_nil)
    (psd_cons (psd_set 12 sc_law.nd (pd_add pd_int (pd_call G_law_take hr (by rfl) g_law_take.g g_law_take.kp g_law_take.b (fun _ => passAt0) (pad_cons (pd_io 1) (pad_cons pd_int pad_nil)))))
    (psd_cons (psd_if (ptd_of (pwd_or (ptd_ne hx (pd_call G_least hr (by rfl) g_least.g g_least.kp g_least.b (fun _ => passAt0) (pad_cons (pd_call G_times hr (by rfl) g_times.g g_times.kp g_times.b (fun _ => passAt0) (pad_cons (pd_var 12) (pad_cons (pd_var 3) pad_nil))) pad_nil)) (pd_call G_least hr (by rfl) g_least.g g_least.kp g_least.b (fun _ => passAt0) (pad_cons (pd_var 3) pad_nil))) (pwd_or (ptd_not (pt_tr hx (pd_call G_is_same hr (by rfl) g_is_same.g g_is_same.kp g_is_same.b (fun _ => passAt0) (pad_cons (pd_call G_times hr (by rfl) g_times.g g_times.kp g_times.b (fun _ => passAt0) (pad_cons (pd_var 12) (pad_cons (pd_var 3) pad_nil))) (pad_cons (pd_var 3) pad_nil))))) (pwd_or (ptd_ne hx (pd_call G_least hr (by rfl) g_least.g g_least.kp g_least.b (fun _ => passAt0) (pad_cons (pd_call G_opposite hr (by rfl) g_opposite.g g_opposite.kp g_opposite.b (fun _ => passAt0) (pad_cons (pd_var 3) pad_nil)) pad_nil)) (pd_call G_opposite hr (by rfl) g_opposite.g g_opposite.kp g_opposite.b (fun _ => passAt0) (pad_cons (pd_var 3) pad_nil))) (pwd_or (ptd_ne hx (pd_call G_opposite hr (by rfl) g_opposite.g g_opposite.kp g_opposite.b (fun _ => passAt0) (pad_cons (pd_call G_opposite hr (by rfl) g_opposite.g g_opposite.kp g_opposite.b (fun _ => passAt0) (pad_cons (pd_var 3) pad_nil)) pad_nil)) (pd_call G_least hr (by rfl) g_least.g g_least.kp g_least.b (fun _ => passAt0) (pad_cons (pd_var 3) pad_nil))) (pwd_or1 (ptd_ne hx (pd_call G_angle_sign hr (by rfl) g_angle_sign.g g_angle_sign.kp g_angle_sign.b (fun _ => passAt0) (pad_cons (pd_var 3) (pad_cons (pd_call G_opposite hr (by rfl) g_opposite.g g_opposite.kp g_opposite.b (fun _ => passAt0) (pad_cons (pd_var 4) pad_nil)) pad_nil))) (pd_sub pd_int (pd_call G_angle_sign hr (by rfl) g_angle_sign.g g_angle_sign.kp g_angle_sign.b (fun _ => passAt0) (pad_cons (pd_var 3) (pad_cons (pd_var 4) pad_nil))))))))))) (psd_cons (psd_ret pd_bl)
    psd_nil) psd_nil)
    (psd_cons (psd_if (ptd_not (pt_tr hx (pd_call G_is_on_line hr (by rfl) g_is_on_line.g g_is_on_line.kp g_is_on_line.b (fun _ => passAt0) (pad_cons (pd_var 3) (pad_cons (pd_var 4) pad_nil))))) (psd_cons (psd_set 13 sc_law.nd (pd_call G_plus hr (by rfl) g_plus.g g_plus.kp g_plus.b (fun _ => passAt0) (pad_cons (pd_call G_times hr (by rfl) g_times.g g_times.kp g_times.b (fun _ => passAt0) (pad_cons (pd_var 12) (pad_cons (pd_var 3) pad_nil))) (pad_cons (pd_call G_times hr (by rfl) g_times.g g_times.kp g_times.b (fun _ => passAt0) (pad_cons (pd_add pd_int (pd_call G_law_take hr (by rfl) g_law_take.g g_law_take.kp g_law_take.b (fun _ => passAt0) (pad_cons (pd_io 1) (pad_cons pd_int pad_nil)))) (pad_cons (pd_var 4) pad_nil))) pad_nil))))
    (psd_cons (psd_if (ptd_of (pwd_or (ptd_not (pt_tr hx (pd_call G_is_between hr (by rfl) g_is_between.g g_is_between.kp g_is_between.b (fun _ => passAt0) (pad_cons (pd_var 3) (pad_cons (pd_var 13) (pad_cons (pd_var 4) pad_nil)))))) (pwd_or (ptd_not (pt_tr hx (pd_call G_is_between hr (by rfl) g_is_between.g g_is_between.kp g_is_between.b (fun _ => passAt0) (pad_cons (pd_var 4) (pad_cons (pd_var 13) (pad_cons (pd_var 3) pad_nil)))))) (pwd_or (pt_tr hx (pd_call G_is_between hr (by rfl) g_is_between.g g_is_between.kp g_is_between.b (fun _ => passAt0) (pad_cons (pd_var 3) (pad_cons (pd_call G_opposite hr (by rfl) g_opposite.g g_opposite.kp g_opposite.b (fun _ => passAt0) (pad_cons (pd_var 13) pad_nil)) (pad_cons (pd_var 4) pad_nil))))) (pwd_or (pt_tr hx (pd_call G_is_between hr (by rfl) g_is_between.g g_is_between.kp g_is_between.b (fun _ => passAt0) (pad_cons (pd_var 13) (pad_cons (pd_var 3) (pad_cons (pd_var 4) pad_nil))))) (pwd_or (pt_tr hx (pd_call G_is_between hr (by rfl) g_is_between.g g_is_between.kp g_is_between.b (fun _ => passAt0) (pad_cons (pd_var 3) (pad_cons (pd_var 3) (pad_cons (pd_var 4) pad_nil))))) (pwd_or1 (pt_tr hx (pd_call G_is_between hr (by rfl) g_is_between.g g_is_between.kp g_is_between.b (fun _ => passAt0) (pad_cons (pd_var 3) (pad_cons (pd_call G_cross hr (by rfl) g_cross.g g_cross.kp g_cross.b (fun _ => passAt0) (pad_cons (pd_var 3) (pad_cons (pd_var 4) pad_nil))) (pad_cons (pd_var 4) pad_nil)))))))))))) (psd_cons (psd_ret pd_bl)
    psd_nil) psd_nil)
    (psd_cons (psd_if (ptd_of (pwd_or (ptd_not (pt_tr hx (pd_call G_are_alike hr (by rfl) g_are_alike.g g_are_alike.kp g_are_alike.b (fun _ => passAt0) (pad_cons (pd_var 3) (pad_cons (pd_var 4) (pad_cons (pd_call G_times hr (by rfl) g_times.g g_times.kp g_times.b (fun _ => passAt0) (pad_cons (pd_var 12) (pad_cons (pd_var 3) pad_nil))) (pad_cons (pd_call G_times hr (by rfl) g_times.g g_times.kp g_times.b (fun _ => passAt0) (pad_cons pd_int (pad_cons (pd_var 4) pad_nil))) pad_nil))))))) (pwd_or (ptd_of (pwd_and (ptd_not (pt_tr hx (pd_call G_are_alike hr (by rfl) g_are_alike.g g_are_alike.kp g_are_alike.b (fun _ => passAt0) (pad_cons (pd_var 3) (pad_cons (pd_var 4) (pad_cons (pd_var 4) (pad_cons (pd_var 3) pad_nil))))))) (pwd_and1 (ptd_notN (pd_call G_ratio hr (by rfl) g_ratio.g g_ratio.kp g_ratio.b (fun _ => passAt0) (pad_cons (pd_var 3) (pad_cons (pd_var 4) pad_nil))))))) (pwd_or1 (ptd_of (pwd_and (pt_tr hx (pd_call G_are_alike hr (by rfl) g_are_alike.g g_are_alike.kp g_are_alike.b (fun _ => passAt0) (pad_cons (pd_var 3) (pad_cons (pd_var 4) (pad_cons (pd_var 3) (pad_cons (pd_call G_opposite hr (by rfl) g_opposite.g g_opposite.kp g_opposite.b (fun _ => passAt0) (pad_cons (pd_var 4) pad_nil)) pad_nil)))))) (pwd_and1 (ptd_ne hx (pd_call G_dot hr (by rfl) g_dot.g g_dot.kp g_dot.b (fun _ => passAt0) (pad_cons (pd_var 3) (pad_cons (pd_var 4) pad_nil))) pd_int)))))))) (psd_cons (psd_ret pd_bl)
    psd_nil) psd_nil)
    psd_nil))) psd_nil)
    psd_nil))))))))))))
    (psd_cons (psd_ret (pd_eq hx (pd_comp hx sc_law.nd (pid_range1 (by rfl) m_range (pad_cons pd_int pad_nil)) (blkOk_by (own := [("number", 14)]) (by kernel_rfl)) (by decide) (fun h0_1 _ _ _ _ _ => (pgd_var 14 sc_law.nd)) (fun h0_1 _ _ _ _ _ => ptds_nil) (fun h0_1 _ _ _ _ _ => (pd_call G_root hr (by rfl) g_root.g g_root.kp g_root.b (fun _ => passAt0) (pad_cons (pd_var 14) pad_nil)))) (pd_lst [false, false, false, false, false, false, false, false, false, false, false, false, false, false, false, false, false] (pad_cons pd_int (pad_cons pd_int (pad_cons pd_non (pad_cons pd_non (pad_cons pd_int (pad_cons pd_non (pad_cons pd_non (pad_cons pd_non (pad_cons pd_non (pad_cons pd_int (pad_cons pd_non (pad_cons pd_non (pad_cons pd_non (pad_cons pd_non (pad_cons pd_non (pad_cons pd_non (pad_cons pd_int pad_nil))))))))))))))))))))
    psd_nil)))
open He
structure All (P : Program) (w : World) (K : PySem.W.Frag) (mg : Str → Option Value) (base : Heap) (R : Rc) (fd : Nat → FuncData) (k : Nat) : Prop where
  ok_is_integer : FnOk P w K mg base CX0 (2 * k) (fAd K ("is_integer", none)) (fd 0) ["thing"] (spF R (callF T FU (k)) 0 [false])
  ok_common : FnOk P w K mg base CX0 (2 * k) (fAd K ("common", none)) (fd 1) ["one", "other"] (spF R (callF T FU (k)) 1 [false, false])
  ok_lowest : FnOk P w K mg base CX0 (2 * k) (fAd K ("lowest", none)) (fd 2) ["above", "below"] (spF R (callF T FU (k)) 2 [false, false])
  ok_is_triple : FnOk P w K mg base CX0 (2 * k) (fAd K ("is_triple", none)) (fd 3) ["thing"] (spF R (callF T FU (k)) 3 [false])
  ok_check_triple : FnOk P w K mg base CX0 (2 * k) (fAd K ("check_triple", none)) (fd 4) ["part", "thing"] (spF R (callF T FU (k)) 4 [false, false])
  ok_least : FnOk P w K mg base CX0 (2 * k) (fAd K ("least", none)) (fd 5) ["direction"] (spF R (callF T FU (k)) 5 [false])
  ok_is_same : FnOk P w K mg base CX0 (2 * k) (fAd K ("is_same", none)) (fd 6) ["one", "other"] (spF R (callF T FU (k)) 6 [false, false])
  ok_opposite : FnOk P w K mg base CX0 (2 * k) (fAd K ("opposite", none)) (fd 7) ["direction"] (spF R (callF T FU (k)) 7 [false])
  ok_dot : FnOk P w K mg base CX0 (2 * k) (fAd K ("dot", none)) (fd 8) ["one", "other"] (spF R (callF T FU (k)) 8 [false, false])
  ok_cross : FnOk P w K mg base CX0 (2 * k) (fAd K ("cross", none)) (fd 9) ["one", "other"] (spF R (callF T FU (k)) 9 [false, false])
  ok_det : FnOk P w K mg base CX0 (2 * k) (fAd K ("det", none)) (fd 10) ["one", "other", "third"] (spF R (callF T FU (k)) 10 [false, false, false])
  ok_plus : FnOk P w K mg base CX0 (2 * k) (fAd K ("plus", none)) (fd 11) ["one", "other"] (spF R (callF T FU (k)) 11 [false, false])
  ok_times : FnOk P w K mg base CX0 (2 * k) (fAd K ("times", none)) (fd 12) ["factor", "triple"] (spF R (callF T FU (k)) 12 [false, false])
  ok_is_on_line : FnOk P w K mg base CX0 (2 * k) (fAd K ("is_on_line", none)) (fd 13) ["one", "other"] (spF R (callF T FU (k)) 13 [false, false])
  ok_root : FnOk P w K mg base CX0 (2 * k) (fAd K ("root", none)) (fd 14) ["number"] (spF R (callF T FU (k)) 14 [false])
  ok_ratio : FnOk P w K mg base CX0 (2 * k) (fAd K ("ratio", none)) (fd 15) ["one", "other"] (spF R (callF T FU (k)) 15 [false, false])
  ok_are_alike : FnOk P w K mg base CX0 (2 * k) (fAd K ("are_alike", none)) (fd 16) ["one", "other", "late", "after"] (spF R (callF T FU (k)) 16 [false, false, false, false])
  ok_size_of : FnOk P w K mg base CX0 (2 * k) (fAd K ("size_of", none)) (fd 17) ["one", "other"] (spF R (callF T FU (k)) 17 [false, false])
  ok_angle_sign : FnOk P w K mg base CX0 (2 * k) (fAd K ("angle_sign", none)) (fd 18) ["one", "other"] (spF R (callF T FU (k)) 18 [false, false])
  ok_is_between : FnOk P w K mg base CX0 (2 * k) (fAd K ("is_between", none)) (fd 19) ["one", "middle", "other"] (spF R (callF T FU (k)) 19 [false, false, false])
  ok_law_number : FnOk P w K mg base CX0 (2 * k) (fAd K ("_law_number", none)) (fd 20) ["script", "index"] (spF R (callF T FU (k)) 20 [false, false])
  ok_law_take : FnOk P w K mg base CX0 (2 * k) (fAd K ("_law_take", none)) (fd 21) ["draw", "many"] (spF R (callF T FU (k)) 21 [true, false])
  ok_law_pick : FnOk P w K mg base CX0 (2 * k) (fAd K ("_law_pick", none)) (fd 22) ["draw", "items"] (spF R (callF T FU (k)) 22 [true, false])
  ok_law_sky : FnOk P w K mg base CX0 (2 * k) (fAd K ("_law_sky", none)) (fd 23) ["draw"] (spF R (callF T FU (k)) 27 [true])
  ok_law : FnOk P w K mg base CX0 (2 * k) (fAd K ("law", none)) (fd 24) ["script"] (spF R (callF T FU (k)) 1000 [false])
theorem all_k {P : Program} {w : World} {K : PySem.W.Frag} {mg : Str → Option Value} {base : Heap} {R : Rc} (hR : R.K = K) (hcf : ∀ k ∈ R.cs, ClsF K (R.cl k)) (fd : Nat → FuncData)
    (F_is_integer : FunD K "is_integer" "is_integer" (defArgs s_is_integer) (defBody s_is_integer) (defScope s_is_integer) [] [] (fAd K ("is_integer", none)) (fd 0))
    (g_is_integer : GF K mg "is_integer" ["thing"] (fAd K ("is_integer", none)) (fd 0))
    (F_common : FunD K "common" "common" (defArgs s_common) (defBody s_common) (defScope s_common) [] [] (fAd K ("common", none)) (fd 1))
    (g_common : GF K mg "common" ["one", "other"] (fAd K ("common", none)) (fd 1))
    (F_lowest : FunD K "lowest" "lowest" (defArgs s_lowest) (defBody s_lowest) (defScope s_lowest) [] [] (fAd K ("lowest", none)) (fd 2))
    (g_lowest : GF K mg "lowest" ["above", "below"] (fAd K ("lowest", none)) (fd 2))
    (F_is_triple : FunD K "is_triple" "is_triple" (defArgs s_is_triple) (defBody s_is_triple) (defScope s_is_triple) [] [] (fAd K ("is_triple", none)) (fd 3))
    (g_is_triple : GF K mg "is_triple" ["thing"] (fAd K ("is_triple", none)) (fd 3))
    (F_check_triple : FunD K "check_triple" "check_triple" (defArgs s_check_triple) (defBody s_check_triple) (defScope s_check_triple) [] [] (fAd K ("check_triple", none)) (fd 4))
    (g_check_triple : GF K mg "check_triple" ["part", "thing"] (fAd K ("check_triple", none)) (fd 4))
    (F_least : FunD K "least" "least" (defArgs s_least) (defBody s_least) (defScope s_least) [] [] (fAd K ("least", none)) (fd 5))
    (g_least : GF K mg "least" ["direction"] (fAd K ("least", none)) (fd 5))
    (F_is_same : FunD K "is_same" "is_same" (defArgs s_is_same) (defBody s_is_same) (defScope s_is_same) [] [] (fAd K ("is_same", none)) (fd 6))
    (g_is_same : GF K mg "is_same" ["one", "other"] (fAd K ("is_same", none)) (fd 6))
    (F_opposite : FunD K "opposite" "opposite" (defArgs s_opposite) (defBody s_opposite) (defScope s_opposite) [] [] (fAd K ("opposite", none)) (fd 7))
    (g_opposite : GF K mg "opposite" ["direction"] (fAd K ("opposite", none)) (fd 7))
    (F_dot : FunD K "dot" "dot" (defArgs s_dot) (defBody s_dot) (defScope s_dot) [] [] (fAd K ("dot", none)) (fd 8))
    (g_dot : GF K mg "dot" ["one", "other"] (fAd K ("dot", none)) (fd 8))
    (F_cross : FunD K "cross" "cross" (defArgs s_cross) (defBody s_cross) (defScope s_cross) [] [] (fAd K ("cross", none)) (fd 9))
    (g_cross : GF K mg "cross" ["one", "other"] (fAd K ("cross", none)) (fd 9))
    (F_det : FunD K "det" "det" (defArgs s_det) (defBody s_det) (defScope s_det) [] [] (fAd K ("det", none)) (fd 10))
    (g_det : GF K mg "det" ["one", "other", "third"] (fAd K ("det", none)) (fd 10))
    (F_plus : FunD K "plus" "plus" (defArgs s_plus) (defBody s_plus) (defScope s_plus) [] [] (fAd K ("plus", none)) (fd 11))
    (g_plus : GF K mg "plus" ["one", "other"] (fAd K ("plus", none)) (fd 11))
    (F_times : FunD K "times" "times" (defArgs s_times) (defBody s_times) (defScope s_times) [] [] (fAd K ("times", none)) (fd 12))
    (g_times : GF K mg "times" ["factor", "triple"] (fAd K ("times", none)) (fd 12))
    (F_is_on_line : FunD K "is_on_line" "is_on_line" (defArgs s_is_on_line) (defBody s_is_on_line) (defScope s_is_on_line) [] [] (fAd K ("is_on_line", none)) (fd 13))
    (g_is_on_line : GF K mg "is_on_line" ["one", "other"] (fAd K ("is_on_line", none)) (fd 13))
    (F_root : FunD K "root" "root" (defArgs s_root) (defBody s_root) (defScope s_root) [] [] (fAd K ("root", none)) (fd 14))
    (g_root : GF K mg "root" ["number"] (fAd K ("root", none)) (fd 14))
    (F_ratio : FunD K "ratio" "ratio" (defArgs s_ratio) (defBody s_ratio) (defScope s_ratio) [] [] (fAd K ("ratio", none)) (fd 15))
    (g_ratio : GF K mg "ratio" ["one", "other"] (fAd K ("ratio", none)) (fd 15))
    (F_are_alike : FunD K "are_alike" "are_alike" (defArgs s_are_alike) (defBody s_are_alike) (defScope s_are_alike) [] [] (fAd K ("are_alike", none)) (fd 16))
    (g_are_alike : GF K mg "are_alike" ["one", "other", "late", "after"] (fAd K ("are_alike", none)) (fd 16))
    (F_size_of : FunD K "size_of" "size_of" (defArgs s_size_of) (defBody s_size_of) (defScope s_size_of) [] [] (fAd K ("size_of", none)) (fd 17))
    (g_size_of : GF K mg "size_of" ["one", "other"] (fAd K ("size_of", none)) (fd 17))
    (F_angle_sign : FunD K "angle_sign" "angle_sign" (defArgs s_angle_sign) (defBody s_angle_sign) (defScope s_angle_sign) [] [] (fAd K ("angle_sign", none)) (fd 18))
    (g_angle_sign : GF K mg "angle_sign" ["one", "other"] (fAd K ("angle_sign", none)) (fd 18))
    (F_is_between : FunD K "is_between" "is_between" (defArgs s_is_between) (defBody s_is_between) (defScope s_is_between) [] [] (fAd K ("is_between", none)) (fd 19))
    (g_is_between : GF K mg "is_between" ["one", "middle", "other"] (fAd K ("is_between", none)) (fd 19))
    (F_law_number : FunD K "_law_number" "_law_number" (defArgs s_law_number) (defBody s_law_number) (defScope s_law_number) [] [] (fAd K ("_law_number", none)) (fd 20))
    (g_law_number : GF K mg "_law_number" ["script", "index"] (fAd K ("_law_number", none)) (fd 20))
    (F_law_take : FunD K "_law_take" "_law_take" (defArgs s_law_take) (defBody s_law_take) (defScope s_law_take) [] [] (fAd K ("_law_take", none)) (fd 21))
    (g_law_take : GF K mg "_law_take" ["draw", "many"] (fAd K ("_law_take", none)) (fd 21))
    (F_law_pick : FunD K "_law_pick" "_law_pick" (defArgs s_law_pick) (defBody s_law_pick) (defScope s_law_pick) [] [] (fAd K ("_law_pick", none)) (fd 22))
    (g_law_pick : GF K mg "_law_pick" ["draw", "items"] (fAd K ("_law_pick", none)) (fd 22))
    (F_law_sky : FunD K "_law_sky" "_law_sky" (defArgs s_law_sky) (defBody s_law_sky) (defScope s_law_sky) [] [] (fAd K ("_law_sky", none)) (fd 23))
    (g_law_sky : GF K mg "_law_sky" ["draw"] (fAd K ("_law_sky", none)) (fd 23))
    (F_law : FunD K "law" "law" (defArgs s_law) (defBody s_law) (defScope s_law) [] [] (fAd K ("law", none)) (fd 24))
    (g_law : GF K mg "law" ["script"] (fAd K ("law", none)) (fd 24))
    (m_abs : mg "abs" = none)
    (m_all : mg "all" = none)
    (m_bool : mg "bool" = none)
    (m_int : mg "int" = none)
    (m_isinstance : mg "isinstance" = none)
    (m_len : mg "len" = none)
    (m_range : mg "range" = none)
    (m_sum : mg "sum" = none)
    (m_tuple : mg "tuple" = none)
    (m_zip : mg "zip" = none)
    : ∀ k, All P w K mg base R fd k
  | 0 => ⟨fn_zero rfl, fn_zero rfl, fn_zero rfl, fn_zero rfl, fn_zero rfl, fn_zero rfl, fn_zero rfl, fn_zero rfl, fn_zero rfl, fn_zero rfl, fn_zero rfl, fn_zero rfl, fn_zero rfl, fn_zero rfl, fn_zero rfl, fn_zero rfl, fn_zero rfl, fn_zero rfl, fn_zero rfl, fn_zero rfl, fn_zero rfl, fn_zero rfl, fn_zero rfl, fn_zero rfl, fn_zero rfl⟩
  | k + 1 => by
    have A := all_k (P := P) (w := w) (base := base) hR hcf fd F_is_integer g_is_integer F_common g_common F_lowest g_lowest F_is_triple g_is_triple F_check_triple g_check_triple F_least g_least F_is_same g_is_same F_opposite g_opposite F_dot g_dot F_cross g_cross F_det g_det F_plus g_plus F_times g_times F_is_on_line g_is_on_line F_root g_root F_ratio g_ratio F_are_alike g_are_alike F_size_of g_size_of F_angle_sign g_angle_sign F_is_between g_is_between F_law_number g_law_number F_law_take g_law_take F_law_pick g_law_pick F_law_sky g_law_sky F_law g_law m_abs m_all m_bool m_int m_isinstance m_len m_range m_sum m_tuple m_zip k
    exact ⟨ok_is_integer hR hcf F_is_integer m_bool m_int m_isinstance k ,
      ok_common hR hcf F_common m_abs k ,
      ok_lowest hR hcf F_lowest  k g_common A.ok_common,
      ok_is_triple hR hcf F_is_triple m_all m_isinstance m_len m_tuple k g_is_integer A.ok_is_integer,
      ok_check_triple hR hcf F_check_triple  k g_is_triple A.ok_is_triple,
      ok_least hR hcf F_least m_tuple k g_common A.ok_common g_check_triple A.ok_check_triple,
      ok_is_same hR hcf F_is_same  k g_least A.ok_least,
      ok_opposite hR hcf F_opposite m_tuple k g_least A.ok_least,
      ok_dot hR hcf F_dot m_sum m_zip k ,
      ok_cross hR hcf F_cross  k ,
      ok_det hR hcf F_det  k g_dot A.ok_dot g_cross A.ok_cross,
      ok_plus hR hcf F_plus m_tuple m_zip k ,
      ok_times hR hcf F_times m_tuple k ,
      ok_is_on_line hR hcf F_is_on_line  k g_cross A.ok_cross,
      ok_root hR hcf F_root  k ,
      ok_ratio hR hcf F_ratio  k g_lowest A.ok_lowest g_check_triple A.ok_check_triple g_dot A.ok_dot g_root A.ok_root,
      ok_are_alike hR hcf F_are_alike  k g_dot A.ok_dot g_ratio A.ok_ratio g_size_of A.ok_size_of,
      ok_size_of hR hcf F_size_of  k g_dot A.ok_dot,
      ok_angle_sign hR hcf F_angle_sign  k g_check_triple A.ok_check_triple g_dot A.ok_dot,
      ok_is_between hR hcf F_is_between  k g_dot A.ok_dot g_cross A.ok_cross,
      ok_law_number hR hcf F_law_number m_int m_len m_range k ,
      ok_law_take hR hcf F_law_take m_int k g_law_number A.ok_law_number,
      ok_law_pick hR hcf F_law_pick m_len k g_law_take A.ok_law_take,
      ok_law_sky hR hcf F_law_sky m_tuple k g_law_take A.ok_law_take g_law_pick A.ok_law_pick,
      ok_law hR hcf F_law m_range m_tuple k g_least A.ok_least g_is_same A.ok_is_same g_opposite A.ok_opposite g_dot A.ok_dot g_cross A.ok_cross g_det A.ok_det g_plus A.ok_plus g_times A.ok_times g_is_on_line A.ok_is_on_line g_root A.ok_root g_ratio A.ok_ratio g_are_alike A.ok_are_alike g_angle_sign A.ok_angle_sign g_is_between A.ok_is_between g_law_take A.ok_law_take g_law_sky A.ok_law_sky⟩
/-! the head -/
def d_is_integer : DefD := ⟨("is_integer", none), "is_integer", "is_integer", defArgs s_is_integer, defBody s_is_integer, defScope s_is_integer, [], []⟩
def d_common : DefD := ⟨("common", none), "common", "common", defArgs s_common, defBody s_common, defScope s_common, [], []⟩
def d_lowest : DefD := ⟨("lowest", none), "lowest", "lowest", defArgs s_lowest, defBody s_lowest, defScope s_lowest, [], []⟩
def d_is_triple : DefD := ⟨("is_triple", none), "is_triple", "is_triple", defArgs s_is_triple, defBody s_is_triple, defScope s_is_triple, [], []⟩
def d_check_triple : DefD := ⟨("check_triple", none), "check_triple", "check_triple", defArgs s_check_triple, defBody s_check_triple, defScope s_check_triple, [], []⟩
def d_least : DefD := ⟨("least", none), "least", "least", defArgs s_least, defBody s_least, defScope s_least, [], []⟩
def d_is_same : DefD := ⟨("is_same", none), "is_same", "is_same", defArgs s_is_same, defBody s_is_same, defScope s_is_same, [], []⟩
def d_opposite : DefD := ⟨("opposite", none), "opposite", "opposite", defArgs s_opposite, defBody s_opposite, defScope s_opposite, [], []⟩
def d_dot : DefD := ⟨("dot", none), "dot", "dot", defArgs s_dot, defBody s_dot, defScope s_dot, [], []⟩
def d_cross : DefD := ⟨("cross", none), "cross", "cross", defArgs s_cross, defBody s_cross, defScope s_cross, [], []⟩
def d_det : DefD := ⟨("det", none), "det", "det", defArgs s_det, defBody s_det, defScope s_det, [], []⟩
def d_plus : DefD := ⟨("plus", none), "plus", "plus", defArgs s_plus, defBody s_plus, defScope s_plus, [], []⟩
def d_times : DefD := ⟨("times", none), "times", "times", defArgs s_times, defBody s_times, defScope s_times, [], []⟩
def d_is_on_line : DefD := ⟨("is_on_line", none), "is_on_line", "is_on_line", defArgs s_is_on_line, defBody s_is_on_line, defScope s_is_on_line, [], []⟩
def d_root : DefD := ⟨("root", none), "root", "root", defArgs s_root, defBody s_root, defScope s_root, [], []⟩
def d_ratio : DefD := ⟨("ratio", none), "ratio", "ratio", defArgs s_ratio, defBody s_ratio, defScope s_ratio, [], []⟩
def d_are_alike : DefD := ⟨("are_alike", none), "are_alike", "are_alike", defArgs s_are_alike, defBody s_are_alike, defScope s_are_alike, [], []⟩
def d_size_of : DefD := ⟨("size_of", none), "size_of", "size_of", defArgs s_size_of, defBody s_size_of, defScope s_size_of, [], []⟩
def d_angle_sign : DefD := ⟨("angle_sign", none), "angle_sign", "angle_sign", defArgs s_angle_sign, defBody s_angle_sign, defScope s_angle_sign, [], []⟩
def d_is_between : DefD := ⟨("is_between", none), "is_between", "is_between", defArgs s_is_between, defBody s_is_between, defScope s_is_between, [], []⟩
def d_law_number : DefD := ⟨("_law_number", none), "_law_number", "_law_number", defArgs s_law_number, defBody s_law_number, defScope s_law_number, [], []⟩
def d_law_take : DefD := ⟨("_law_take", none), "_law_take", "_law_take", defArgs s_law_take, defBody s_law_take, defScope s_law_take, [], []⟩
def d_law_pick : DefD := ⟨("_law_pick", none), "_law_pick", "_law_pick", defArgs s_law_pick, defBody s_law_pick, defScope s_law_pick, [], []⟩
def d_law_sky : DefD := ⟨("_law_sky", none), "_law_sky", "_law_sky", defArgs s_law_sky, defBody s_law_sky, defScope s_law_sky, [], []⟩
def d_law : DefD := ⟨("law", none), "law", "law", defArgs s_law, defBody s_law, defScope s_law, [], []⟩
def fn : List DefD := [d_is_integer, d_common, d_lowest, d_is_triple, d_check_triple, d_least, d_is_same, d_opposite, d_dot, d_cross, d_det, d_plus, d_times, d_is_on_line, d_root, d_ratio, d_are_alike, d_size_of, d_angle_sign, d_is_between, d_law_number, d_law_take, d_law_pick, d_law_sky, d_law]
def fa : List Fa := [.glo "is_integer", .glo "common", .glo "lowest", .glo "is_triple", .glo "check_triple", .glo "least", .glo "is_same", .glo "opposite", .glo "dot", .glo "cross", .glo "det", .glo "plus", .glo "times", .glo "is_on_line", .glo "root", .glo "ratio", .glo "are_alike", .glo "size_of", .glo "angle_sign", .glo "is_between", .glo "_law_number", .glo "_law_take", .glo "_law_pick", .glo "_law_sky", .glo "law", .free "abs", .free "all", .free "bool", .free "int", .free "isinstance", .free "len", .free "range", .free "sum", .free "tuple", .free "zip"]
abbrev Rr : PySem.W.OpenRow := PySem.W.OpenLaw.row PySem.Challenge.rw_skyplaced_k48_numbers_of_triples
abbrev hk : PySem.W.Hook := hookD 4 fa fn
def ob (s : PySem.W.SharedT) : AlD := obsDG 4 fa fn (HandSHeadRun.getT s)
theorem ob_eq (s : PySem.W.SharedT) : ob s = hk.obs s.abs := obsDG_eq (HandSHeadRun.getT_eq s)
def ls0 : List PySem.Str := ["SkyError", "BadPart", "is_integer", "common", "lowest", "is_triple", "check_triple", "least", "is_same", "opposite", "dot", "cross", "det", "plus", "times", "is_on_line", "root", "ratio", "are_alike", "size_of", "angle_sign", "is_between", "_law_number", "_law_take", "_law_pick", "_law_sky"]
def ls : List PySem.Str := ls0
theorem run (w : World) : HandSHeadRun.RunEq Rr (PySem.W.view Rr.prog [30]) hk ob 6000 ls w := by
  intro os
  kernel_rfl
theorem facts {P : Program} {w : World} {K : PySem.W.Frag} {h : Heap} {mg : Str → Option Value} {f : Addr} (X : K.In h) (G : h.Ns mainGlobals mg) (hfa : mg ("law" : Str) = some (.ref f)) (c : SaysD fa fn K) (he : ∀ ns : List Int, ns.length ≤ 63 → callF T FU 12 1000 [.scr ns] = .ret (.st (.bl true)) []) :
    ∃ fd : FuncData, (∀ (s : Shared) (v : Value), BindsTo s fd ⟨[v], []⟩ [("script", v)]) ∧ ∀ base : Heap, K.In base → base.Ns mainGlobals mg → FnOk P w K mg base CX0 (2 * 12) f fd ["script"] (spLaw K) := by
  obtain ⟨fd_is_integer, F_is_integer⟩ := c.def_ 0 (d := d_is_integer) rfl
  obtain ⟨fd_common, F_common⟩ := c.def_ 1 (d := d_common) rfl
  obtain ⟨fd_lowest, F_lowest⟩ := c.def_ 2 (d := d_lowest) rfl
  obtain ⟨fd_is_triple, F_is_triple⟩ := c.def_ 3 (d := d_is_triple) rfl
  obtain ⟨fd_check_triple, F_check_triple⟩ := c.def_ 4 (d := d_check_triple) rfl
  obtain ⟨fd_least, F_least⟩ := c.def_ 5 (d := d_least) rfl
  obtain ⟨fd_is_same, F_is_same⟩ := c.def_ 6 (d := d_is_same) rfl
  obtain ⟨fd_opposite, F_opposite⟩ := c.def_ 7 (d := d_opposite) rfl
  obtain ⟨fd_dot, F_dot⟩ := c.def_ 8 (d := d_dot) rfl
  obtain ⟨fd_cross, F_cross⟩ := c.def_ 9 (d := d_cross) rfl
  obtain ⟨fd_det, F_det⟩ := c.def_ 10 (d := d_det) rfl
  obtain ⟨fd_plus, F_plus⟩ := c.def_ 11 (d := d_plus) rfl
  obtain ⟨fd_times, F_times⟩ := c.def_ 12 (d := d_times) rfl
  obtain ⟨fd_is_on_line, F_is_on_line⟩ := c.def_ 13 (d := d_is_on_line) rfl
  obtain ⟨fd_root, F_root⟩ := c.def_ 14 (d := d_root) rfl
  obtain ⟨fd_ratio, F_ratio⟩ := c.def_ 15 (d := d_ratio) rfl
  obtain ⟨fd_are_alike, F_are_alike⟩ := c.def_ 16 (d := d_are_alike) rfl
  obtain ⟨fd_size_of, F_size_of⟩ := c.def_ 17 (d := d_size_of) rfl
  obtain ⟨fd_angle_sign, F_angle_sign⟩ := c.def_ 18 (d := d_angle_sign) rfl
  obtain ⟨fd_is_between, F_is_between⟩ := c.def_ 19 (d := d_is_between) rfl
  obtain ⟨fd_law_number, F_law_number⟩ := c.def_ 20 (d := d_law_number) rfl
  obtain ⟨fd_law_take, F_law_take⟩ := c.def_ 21 (d := d_law_take) rfl
  obtain ⟨fd_law_pick, F_law_pick⟩ := c.def_ 22 (d := d_law_pick) rfl
  obtain ⟨fd_law_sky, F_law_sky⟩ := c.def_ 23 (d := d_law_sky) rfl
  obtain ⟨fd_law, F_law⟩ := c.def_ 24 (d := d_law) rfl
  have g_is_integer : GF K mg "is_integer" ["thing"] (fAd K ("is_integer", none)) fd_is_integer := ⟨glo_ok X G (c.fact 0 (f := .glo "is_integer") rfl), F_is_integer.kp, FunD.bindsN F_is_integer fun _ _ _ _ _ _ us hl => match us, hl with | [_], _ => rfl⟩
  have g_common : GF K mg "common" ["one", "other"] (fAd K ("common", none)) fd_common := ⟨glo_ok X G (c.fact 1 (f := .glo "common") rfl), F_common.kp, FunD.bindsN F_common fun _ _ _ _ _ _ us hl => match us, hl with | [_, _], _ => rfl⟩
  have g_lowest : GF K mg "lowest" ["above", "below"] (fAd K ("lowest", none)) fd_lowest := ⟨glo_ok X G (c.fact 2 (f := .glo "lowest") rfl), F_lowest.kp, FunD.bindsN F_lowest fun _ _ _ _ _ _ us hl => match us, hl with | [_, _], _ => rfl⟩
  have g_is_triple : GF K mg "is_triple" ["thing"] (fAd K ("is_triple", none)) fd_is_triple := ⟨glo_ok X G (c.fact 3 (f := .glo "is_triple") rfl), F_is_triple.kp, FunD.bindsN F_is_triple fun _ _ _ _ _ _ us hl => match us, hl with | [_], _ => rfl⟩
  have g_check_triple : GF K mg "check_triple" ["part", "thing"] (fAd K ("check_triple", none)) fd_check_triple := ⟨glo_ok X G (c.fact 4 (f := .glo "check_triple") rfl), F_check_triple.kp, FunD.bindsN F_check_triple fun _ _ _ _ _ _ us hl => match us, hl with | [_, _], _ => rfl⟩
  have g_least : GF K mg "least" ["direction"] (fAd K ("least", none)) fd_least := ⟨glo_ok X G (c.fact 5 (f := .glo "least") rfl), F_least.kp, FunD.bindsN F_least fun _ _ _ _ _ _ us hl => match us, hl with | [_], _ => rfl⟩
  have g_is_same : GF K mg "is_same" ["one", "other"] (fAd K ("is_same", none)) fd_is_same := ⟨glo_ok X G (c.fact 6 (f := .glo "is_same") rfl), F_is_same.kp, FunD.bindsN F_is_same fun _ _ _ _ _ _ us hl => match us, hl with | [_, _], _ => rfl⟩
  have g_opposite : GF K mg "opposite" ["direction"] (fAd K ("opposite", none)) fd_opposite := ⟨glo_ok X G (c.fact 7 (f := .glo "opposite") rfl), F_opposite.kp, FunD.bindsN F_opposite fun _ _ _ _ _ _ us hl => match us, hl with | [_], _ => rfl⟩
  have g_dot : GF K mg "dot" ["one", "other"] (fAd K ("dot", none)) fd_dot := ⟨glo_ok X G (c.fact 8 (f := .glo "dot") rfl), F_dot.kp, FunD.bindsN F_dot fun _ _ _ _ _ _ us hl => match us, hl with | [_, _], _ => rfl⟩
  have g_cross : GF K mg "cross" ["one", "other"] (fAd K ("cross", none)) fd_cross := ⟨glo_ok X G (c.fact 9 (f := .glo "cross") rfl), F_cross.kp, FunD.bindsN F_cross fun _ _ _ _ _ _ us hl => match us, hl with | [_, _], _ => rfl⟩
  have g_det : GF K mg "det" ["one", "other", "third"] (fAd K ("det", none)) fd_det := ⟨glo_ok X G (c.fact 10 (f := .glo "det") rfl), F_det.kp, FunD.bindsN F_det fun _ _ _ _ _ _ us hl => match us, hl with | [_, _, _], _ => rfl⟩
  have g_plus : GF K mg "plus" ["one", "other"] (fAd K ("plus", none)) fd_plus := ⟨glo_ok X G (c.fact 11 (f := .glo "plus") rfl), F_plus.kp, FunD.bindsN F_plus fun _ _ _ _ _ _ us hl => match us, hl with | [_, _], _ => rfl⟩
  have g_times : GF K mg "times" ["factor", "triple"] (fAd K ("times", none)) fd_times := ⟨glo_ok X G (c.fact 12 (f := .glo "times") rfl), F_times.kp, FunD.bindsN F_times fun _ _ _ _ _ _ us hl => match us, hl with | [_, _], _ => rfl⟩
  have g_is_on_line : GF K mg "is_on_line" ["one", "other"] (fAd K ("is_on_line", none)) fd_is_on_line := ⟨glo_ok X G (c.fact 13 (f := .glo "is_on_line") rfl), F_is_on_line.kp, FunD.bindsN F_is_on_line fun _ _ _ _ _ _ us hl => match us, hl with | [_, _], _ => rfl⟩
  have g_root : GF K mg "root" ["number"] (fAd K ("root", none)) fd_root := ⟨glo_ok X G (c.fact 14 (f := .glo "root") rfl), F_root.kp, FunD.bindsN F_root fun _ _ _ _ _ _ us hl => match us, hl with | [_], _ => rfl⟩
  have g_ratio : GF K mg "ratio" ["one", "other"] (fAd K ("ratio", none)) fd_ratio := ⟨glo_ok X G (c.fact 15 (f := .glo "ratio") rfl), F_ratio.kp, FunD.bindsN F_ratio fun _ _ _ _ _ _ us hl => match us, hl with | [_, _], _ => rfl⟩
  have g_are_alike : GF K mg "are_alike" ["one", "other", "late", "after"] (fAd K ("are_alike", none)) fd_are_alike := ⟨glo_ok X G (c.fact 16 (f := .glo "are_alike") rfl), F_are_alike.kp, FunD.bindsN F_are_alike fun _ _ _ _ _ _ us hl => match us, hl with | [_, _, _, _], _ => rfl⟩
  have g_size_of : GF K mg "size_of" ["one", "other"] (fAd K ("size_of", none)) fd_size_of := ⟨glo_ok X G (c.fact 17 (f := .glo "size_of") rfl), F_size_of.kp, FunD.bindsN F_size_of fun _ _ _ _ _ _ us hl => match us, hl with | [_, _], _ => rfl⟩
  have g_angle_sign : GF K mg "angle_sign" ["one", "other"] (fAd K ("angle_sign", none)) fd_angle_sign := ⟨glo_ok X G (c.fact 18 (f := .glo "angle_sign") rfl), F_angle_sign.kp, FunD.bindsN F_angle_sign fun _ _ _ _ _ _ us hl => match us, hl with | [_, _], _ => rfl⟩
  have g_is_between : GF K mg "is_between" ["one", "middle", "other"] (fAd K ("is_between", none)) fd_is_between := ⟨glo_ok X G (c.fact 19 (f := .glo "is_between") rfl), F_is_between.kp, FunD.bindsN F_is_between fun _ _ _ _ _ _ us hl => match us, hl with | [_, _, _], _ => rfl⟩
  have g_law_number : GF K mg "_law_number" ["script", "index"] (fAd K ("_law_number", none)) fd_law_number := ⟨glo_ok X G (c.fact 20 (f := .glo "_law_number") rfl), F_law_number.kp, FunD.bindsN F_law_number fun _ _ _ _ _ _ us hl => match us, hl with | [_, _], _ => rfl⟩
  have g_law_take : GF K mg "_law_take" ["draw", "many"] (fAd K ("_law_take", none)) fd_law_take := ⟨glo_ok X G (c.fact 21 (f := .glo "_law_take") rfl), F_law_take.kp, FunD.bindsN F_law_take fun _ _ _ _ _ _ us hl => match us, hl with | [_, _], _ => rfl⟩
  have g_law_pick : GF K mg "_law_pick" ["draw", "items"] (fAd K ("_law_pick", none)) fd_law_pick := ⟨glo_ok X G (c.fact 22 (f := .glo "_law_pick") rfl), F_law_pick.kp, FunD.bindsN F_law_pick fun _ _ _ _ _ _ us hl => match us, hl with | [_, _], _ => rfl⟩
  have g_law_sky : GF K mg "_law_sky" ["draw"] (fAd K ("_law_sky", none)) fd_law_sky := ⟨glo_ok X G (c.fact 23 (f := .glo "_law_sky") rfl), F_law_sky.kp, FunD.bindsN F_law_sky fun _ _ _ _ _ _ us hl => match us, hl with | [_], _ => rfl⟩
  have g_law : GF K mg "law" ["script"] (fAd K ("law", none)) fd_law := ⟨glo_ok X G (c.fact 24 (f := .glo "law") rfl), F_law.kp, FunD.bindsN F_law fun _ _ _ _ _ _ us hl => match us, hl with | [_], _ => rfl⟩
  have m_abs := free_ok X G (c.fact 25 (f := .free "abs") rfl)
  have m_all := free_ok X G (c.fact 26 (f := .free "all") rfl)
  have m_bool := free_ok X G (c.fact 27 (f := .free "bool") rfl)
  have m_int := free_ok X G (c.fact 28 (f := .free "int") rfl)
  have m_isinstance := free_ok X G (c.fact 29 (f := .free "isinstance") rfl)
  have m_len := free_ok X G (c.fact 30 (f := .free "len") rfl)
  have m_range := free_ok X G (c.fact 31 (f := .free "range") rfl)
  have m_sum := free_ok X G (c.fact 32 (f := .free "sum") rfl)
  have m_tuple := free_ok X G (c.fact 33 (f := .free "tuple") rfl)
  have m_zip := free_ok X G (c.fact 34 (f := .free "zip") rfl)
  have e := hfa.symm.trans g_law.g
  cases e
  refine ⟨fd_law, fun s v => FunD.bindsA (ps := ["script"]) F_law (fun _ _ _ _ _ _ us hl => match us, hl with | [_], _ => rfl) s [v] rfl, fun base _ _ => ?_⟩
  have A := all_k (P := P) (w := w) (K := K) (mg := mg) (base := base) (R := ⟨K, fun _ => 0, fun _ => Str.empty, [], fun _ _ _ _ _ => False⟩) rfl (fun _ z => nomatch z) (fun i => [fd_is_integer, fd_common, fd_lowest, fd_is_triple, fd_check_triple, fd_least, fd_is_same, fd_opposite, fd_dot, fd_cross, fd_det, fd_plus, fd_times, fd_is_on_line, fd_root, fd_ratio, fd_are_alike, fd_size_of, fd_angle_sign, fd_is_between, fd_law_number, fd_law_take, fd_law_pick, fd_law_sky, fd_law].getD i fd_law) F_is_integer g_is_integer F_common g_common F_lowest g_lowest F_is_triple g_is_triple F_check_triple g_check_triple F_least g_least F_is_same g_is_same F_opposite g_opposite F_dot g_dot F_cross g_cross F_det g_det F_plus g_plus F_times g_times F_is_on_line g_is_on_line F_root g_root F_ratio g_ratio F_are_alike g_are_alike F_size_of g_size_of F_angle_sign g_angle_sign F_is_between g_is_between F_law_number g_law_number F_law_take g_law_take F_law_pick g_law_pick F_law_sky g_law_sky F_law g_law m_abs m_all m_bool m_int m_isinstance m_len m_range m_sum m_tuple m_zip 12
  exact law_of rfl A.ok_law he
end W_k48
open PySem PySem.W PySem.Calls PyProof.Rows
theorem PySem.Challenge.cw_skyplaced_k48_numbers_of_triples_holds : PySem.Challenge.rw_skyplaced_k48_numbers_of_triples.Holds := by
  w_on; o_law
  refine HandSHeadRun.head_any (r := OpenLaw.row PySem.Challenge.rw_skyplaced_k48_numbers_of_triples) (q := view (OpenLaw.row PySem.Challenge.rw_skyplaced_k48_numbers_of_triples).prog [30]) (H := W_k48.hk) (ob := W_k48.ob) (M := 6000) (loose := W_k48.ls) (d := HandSHeadRun.topDef (OpenLaw.row PySem.Challenge.rw_skyplaced_k48_numbers_of_triples).prog 30) (kwd := []) W_k48.ob_eq
    (by kernel_rfl) (fun s => by kernel_rfl) W_k48.run (by kernel_rfl) (by kernel_rfl) (by kernel_rfl) (by rfl) (by first | assumption | decide +kernel) (by decide +kernel) ⟨rfl, rfl, rfl, rfl, rfl, by decide +kernel⟩ ?hw ?hc
  case hw => w_witness2
  case hc =>
    refine L2.walk_ofE (l := PySem.Challenge.rw_skyplaced_k48_numbers_of_triples) (n := 63) (k := 24) (x := "script") (CX := L2.CX0) rfl (by decide) (by kernel_rfl) ⟨rfl, by decide, by decide⟩ ?F (fun _ _ _ _ z => z)
    intro w mg fa h Y G hmg0
    obtain ⟨K, KX, c⟩ := Y
    have hmg : mg ("law" : PySem.Str) = some (.ref fa) := by
      have e : (HandSHeadRun.topDef (OpenLaw.row PySem.Challenge.rw_skyplaced_k48_numbers_of_triples).prog 30).name = ("law" : PySem.Str) := by kernel_rfl
      rw [← e]
      exact hmg0
    obtain ⟨fd, hb, hF⟩ := W_k48.facts (P := (PySem.Challenge.rw_skyplaced_k48_numbers_of_triples).prog) (w := w) KX G hmg c SK.law_eval_k48
    exact ⟨K, fd, SK.spLaw K, KX, hb, fun H a ns hl _ hS => ⟨a, ns, rfl, hS, hl, fun _ => rfl⟩, hF⟩
