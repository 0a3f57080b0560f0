import PyProof.Rows.All
import Wide.All
import OpenK.AllK
import Wide.FinOn
import HandS.ForMost
import KE.SortCalls
import KE.DataCmp
import KE.DataAny
import HandS.TupMul
import HandS.Style
import HandS.TupLe
import HandS.TupAny
import HandS.Deep
import HandS.Wide
import HandS.Gcd
import HandS.IsInst
import HandS.Dict
import HandS.Text
import HandS.Call
import HandS.RaiseMore
import HandS.Small
import HandS.More
import HandS.Flow
import KE.GoesNew
import KE.GoesEnum
import KE.GoesEnumKw
import HandS.SortKw
import HandS.Zip
import KE.GoesMore
import KE.KTurns
import HandS.SetFor
import HandS.Iter
import PyProof.Rows.ChunkEnd
import HandS.Conv
import HandS.Words
import HandS.Ends
import HandS.Defaults
import HandS.Head0
import HandS.Head1
import HandS.Head2
import HandS.Head3
import HandS.HeadEnd
import HandS.HeadHook1
import HandS.HeadHook2
import HandS.HeadHook3
import HandS.HeadHook4
import KE.SortData
import PySem.Challenge.RW_lockwork_k31_locks_and_their_keys
set_option Elab.async false
section
set_option linter.all false
set_option maxRecDepth 100000
/-! Mi0: data as trees, a small language, its evaluator -/
namespace Mi
open PySem
open L2 (ixN atI)

/-! ### data -/
inductive D where
  | non
  | bl (b : Bool)
  | int (i : Int)
  | str (s : Str)
  | tup (ds : List D)
  | lst (ds : List D)
  | dct (ks vs : List D)
  | set (ds : List D)
  /-- a list of ints that is only read: the script -/
  | scr (ns : List Int)
  deriving Inhabited, Repr
mutual
def D.dec : (a b : D) → Decidable (a = b)
  | .non, .non => .isTrue rfl
  | .bl a, .bl b => if h : a = b then .isTrue (h ▸ rfl) else .isFalse fun e => h (D.bl.inj e)
  | .int a, .int b => if h : a = b then .isTrue (h ▸ rfl) else .isFalse fun e => h (D.int.inj e)
  | .str a, .str b => if h : a = b then .isTrue (h ▸ rfl) else .isFalse fun e => h (D.str.inj e)
  | .scr a, .scr b => if h : a = b then .isTrue (h ▸ rfl) else .isFalse fun e => h (D.scr.inj e)
  | .tup a, .tup b => match D.decL a b with | .isTrue h => .isTrue (h ▸ rfl) | .isFalse h => .isFalse fun e => h (D.tup.inj e)
  | .lst a, .lst b => match D.decL a b with | .isTrue h => .isTrue (h ▸ rfl) | .isFalse h => .isFalse fun e => h (D.lst.inj e)
  | .set a, .set b => match D.decL a b with | .isTrue h => .isTrue (h ▸ rfl) | .isFalse h => .isFalse fun e => h (D.set.inj e)
  | .dct a c, .dct b d => match D.decL a b, D.decL c d with
    | .isTrue h, .isTrue h' => .isTrue (h ▸ h' ▸ rfl)
    | .isFalse h, _ => .isFalse fun e => h (D.dct.inj e).1
    | _, .isFalse h => .isFalse fun e => h (D.dct.inj e).2
  | .non, .bl _ | .non, .int _ | .non, .str _ | .non, .tup _ | .non, .lst _ | .non, .dct _ _ | .non, .set _ | .non, .scr _ => .isFalse fun e => nomatch e
  | .bl _, .non | .bl _, .int _ | .bl _, .str _ | .bl _, .tup _ | .bl _, .lst _ | .bl _, .dct _ _ | .bl _, .set _ | .bl _, .scr _ => .isFalse fun e => nomatch e
  | .int _, .non | .int _, .bl _ | .int _, .str _ | .int _, .tup _ | .int _, .lst _ | .int _, .dct _ _ | .int _, .set _ | .int _, .scr _ => .isFalse fun e => nomatch e
  | .str _, .non | .str _, .bl _ | .str _, .int _ | .str _, .tup _ | .str _, .lst _ | .str _, .dct _ _ | .str _, .set _ | .str _, .scr _ => .isFalse fun e => nomatch e
  | .tup _, .non | .tup _, .bl _ | .tup _, .int _ | .tup _, .str _ | .tup _, .lst _ | .tup _, .dct _ _ | .tup _, .set _ | .tup _, .scr _ => .isFalse fun e => nomatch e
  | .lst _, .non | .lst _, .bl _ | .lst _, .int _ | .lst _, .str _ | .lst _, .tup _ | .lst _, .dct _ _ | .lst _, .set _ | .lst _, .scr _ => .isFalse fun e => nomatch e
  | .dct _ _, .non | .dct _ _, .bl _ | .dct _ _, .int _ | .dct _ _, .str _ | .dct _ _, .tup _ | .dct _ _, .lst _ | .dct _ _, .set _ | .dct _ _, .scr _ => .isFalse fun e => nomatch e
  | .set _, .non | .set _, .bl _ | .set _, .int _ | .set _, .str _ | .set _, .tup _ | .set _, .lst _ | .set _, .dct _ _ | .set _, .scr _ => .isFalse fun e => nomatch e
  | .scr _, .non | .scr _, .bl _ | .scr _, .int _ | .scr _, .str _ | .scr _, .tup _ | .scr _, .lst _ | .scr _, .dct _ _ | .scr _, .set _ => .isFalse fun e => nomatch e
def D.decL : (a b : List D) → Decidable (a = b)
  | [], [] => .isTrue rfl
  | x :: xs, y :: ys => match D.dec x y, D.decL xs ys with
    | .isTrue h, .isTrue h' => .isTrue (h ▸ h' ▸ rfl)
    | .isFalse h, _ => .isFalse fun e => h (List.cons.inj e).1
    | _, .isFalse h => .isFalse fun e => h (List.cons.inj e).2
  | [], _ :: _ => .isFalse fun e => nomatch e
  | _ :: _, [] => .isFalse fun e => nomatch e
end
instance : DecidableEq D := D.dec

/-- a slot: unset; shared data; an object that only this slot holds; one that a caller lends -/
inductive Sl where
  | un | sh (d : D) | ow (d : D) | bw (d : D)
  deriving DecidableEq, Inhabited, Repr
abbrev Env := List Sl
/-- a value: shared data; a new object; the object of a slot -/
inductive Rv where
  | v (d : D) | f (d : D) | s (i : Nat)
  deriving DecidableEq, Inhabited, Repr

def pk (env : Env) : Rv → Option D
  | .v d => some d
  | .f d => some d
  | .s i => match env[i]? with
    | some (.sh d) => some d
    | some (.ow d) => some d
    | some (.bw d) => some d
    | _ => none
def take (env : Env) : Rv → Option (D × Env)
  | .v d => some (d, env)
  | .f d => some (d, env)
  | .s i => match env[i]? with
    | some (.sh d) => some (d, env)
    | some (.ow d) => some (d, env.set i (.sh d))
    | _ => none

/-! ### operations on data -/
mutual
def shp : D → Bool
  | .non | .bl _ | .int _ => true
  | .str x => PyData.strOk x
  | .tup ds | .lst ds => shpL ds
  | .dct _ _ | .set _ | .scr _ => false
def shpL : List D → Bool
  | [] => true
  | d :: ds => shp d && shpL ds
end
mutual
def deep : D → Nat
  | .tup ds | .lst ds => deepL ds + 1
  | _ => 0
def deepL : List D → Nat
  | [] => 0
  | d :: ds => max (deep d) (deepL ds)
end
mutual
/-- Python's == on shaped data -/
def deq : D → D → Bool
  | .non, .non => true
  | .bl a, .bl b => a == b
  | .bl a, .int j => (if a then 1 else 0) == j
  | .int i, .bl b => i == (if b then 1 else 0)
  | .int i, .int j => i == j
  | .str x, .str y => x == y
  | .lst xs, .lst ys => deqL xs ys
  | .tup xs, .tup ys => deqL xs ys
  | _, _ => false
def deqL : List D → List D → Bool
  | [], [] => true
  | x :: xs, y :: ys => deq x y && deqL xs ys
  | [], _ :: _ => false
  | _ :: _, [] => false
end
def shaped (d : D) : Bool := shp d && decide (deep d ≤ 64)
def flat : D → Bool
  | .non | .bl _ | .int _ | .str _ => true
  | _ => false

def truth : D → Option Bool
  | .non => some false
  | .bl b => some b
  | .int i => some (i != 0)
  | .str s => if s.length ≤ sizeLine then some (s.length != 0) else none
  | .lst ds => some (!ds.isEmpty)
  | .tup ds => some (!ds.isEmpty)
  | .dct _ _ | .set _ => none
  | .scr ns => some (!ns.isEmpty)

def mulOk (i j : Int) : Bool := decide (i.natAbs < 2 ^ 64) || decide (j.natAbs < 2 ^ 64) || (decide (i.natAbs < 2 ^ 100000) && decide (j.natAbs < 2 ^ 100000))

def dInts : List D → Option (List Int)
  | [] => some []
  | .int i :: ds => (dInts ds).map (i :: ·)
  | _ => none
def dStrs : List D → Option (List Str)
  | [] => some []
  | .str i :: ds => (dStrs ds).map (i :: ·)
  | _ => none
def dBools : List D → Option (List Bool)
  | [] => some []
  | .bl i :: ds => (dBools ds).map (i :: ·)
  | _ => none

def binop : Operator → D → D → Option Rv
  | .Add, .int i, .int j => some (.v (.int (i + j)))
  | .Add, .str a, .str b => if a.length + b.length ≤ sizeLine then some (.v (.str (a ++ b))) else none
  | .Add, .lst a, .lst b => if a.length + b.length ≤ sizeLine then some (.f (.lst (a ++ b))) else none
  | .Add, .tup a, .tup b => if a.length + b.length ≤ sizeLine then some (.v (.tup (a ++ b))) else none
  | .Sub, .int i, .int j => some (.v (.int (i - j)))
  | .Mult, .int i, .int j => if mulOk i j then some (.v (.int (i * j))) else none
  | .Mult, .lst a, .int k => if -(2 ^ 63) ≤ k ∧ k < 2 ^ 63 ∧ a.length * k.toNat ≤ sizeLine then some (.f (.lst (List.replicate k.toNat a).flatten)) else none
  | .Mult, .tup a, .int k => if k = 1 then some (.v (.tup a)) else if 2 ≤ k ∧ k ≤ 1000 ∧ a.length ≤ 1000 ∧ a ≠ [] then some (.v (.tup (List.replicate k.toNat a).flatten)) else none
  | .Mod, .int i, .int j => if 0 < j then some (.v (.int (i % j))) else if j ≠ 0 then some (.v (.int (i.fmod j))) else none
  | .FloorDiv, .int i, .int j => if 0 < j ∧ j < 2 ^ 8000 then some (.v (.int (i / j))) else none
  | .Pow, .int i, .int j => if 0 ≤ j ∧ j ≤ 1000000 ∧ i.natAbs < 2 ^ 64 then some (.v (.int (i ^ j.toNat))) else none
  | .LShift, .int i, .int j => if 0 ≤ j ∧ j ≤ 1000000 ∧ i.natAbs < 2 ^ 64 then some (.v (.int (i * 2 ^ j.toNat))) else none
  | .RShift, .int i, .int j => if 0 ≤ j then some (.v (.int (i / 2 ^ j.toNat))) else none
  | .BitAnd, .int i, .int j => some (.v (.int (Builtin.bitAnd i j)))
  | _, _, _ => none

mutual
def toPy : D → PyData
  | .non => .none
  | .bl b => .bool b
  | .int i => .int i
  | .str s => .str s
  | .tup ds => .tuple (toPyL ds)
  | .lst ds => .list (toPyL ds)
  | .dct _ _ | .set _ | .scr _ => .dict []
def toPyL : List D → List PyData
  | [] => []
  | d :: ds => toPy d :: toPyL ds
end
/-- the two can be compared -/
def alk (a b : D) : Bool := PySem.W.alike (toPy a) (toPy b)
/-- Python's < on data that can be compared -/
def dlt (a b : D) : Bool := PySem.W.dataLt (toPy a) (toPy b)
def isNon : D → Bool
  | .non => true
  | _ => false
def cmpb (a b : D) : Bool := shaped a && shaped b && alk a b && !isNon a
/-- lexicographic < of int lists -/
def ltI : List Int → List Int → Bool := HT.lexLt

/-- a key of a dict -/
def keyD : D → Bool
  | .int _ | .str _ => true
  | _ => false
def dGet : List D → List D → D → Option D
  | y :: ks, d :: ws, k => if y = k then some d else dGet ks ws k
  | _, _, _ => none
def dAny (ks : List D) (k : D) : Bool := ks.any fun y => decide (y = k)
def dRep : List D → List D → D → D → List D
  | y :: ks, w :: ws, k, d => (if y = k then d else w) :: dRep ks ws k d
  | _, ws, _, _ => ws
def cmpop : CmpOp → D → D → Option Bool
  | .Eq, x, y => if shaped x && shaped y then some (deq x y) else none
  | .NotEq, x, y => if shaped x && shaped y then some (!deq x y) else none
  | .Lt, .int i, .int j => some (decide (i < j))
  | .LtE, .int i, .int j => some (decide (i ≤ j))
  | .Gt, .int i, .int j => some (decide (j < i))
  | .GtE, .int i, .int j => some (decide (j ≤ i))
  | .Is, .non, .non => some true
  | .Is, _, .non => some false
  | .IsNot, .non, .non => some false
  | .IsNot, _, .non => some true
  | .Is, .bl a, .bl b => some (a == b)
  | .Is, _, .bl _ => some false
  | .IsNot, .bl a, .bl b => some (!(a == b))
  | .IsNot, _, .bl _ => some true
  | .In, x, .lst ds => if shaped x && ds.all shaped then some (ds.any fun y => deq y x) else none
  | .In, x, .tup ds => if shaped x && ds.all shaped then some (ds.any fun y => deq y x) else none
  | .NotIn, x, .lst ds => if shaped x && ds.all shaped then some (!ds.any fun y => deq y x) else none
  | .NotIn, x, .tup ds => if shaped x && ds.all shaped then some (!ds.any fun y => deq y x) else none
  | .In, x, .dct ks _ => if keyD x = true then some (dAny ks x) else none
  | .NotIn, x, .dct ks _ => if keyD x = true then some (!dAny ks x) else none
  | .Lt, x, y => if cmpb x y then some (dlt x y) else none
  | .LtE, x, y => if cmpb x y then some (!dlt y x) else none
  | .Gt, x, y => if cmpb x y then some (dlt y x) else none
  | .GtE, x, y => if cmpb x y then some (!dlt x y) else none
  | _, _, _ => none

def getIx : D → D → Option Rv
  | .lst ds, .int i => (atI ds i).map .v
  | .tup ds, .int i => (atI ds i).map .v
  | .scr ns, .int i => (atI ns i).map fun n => .v (.int n)
  | .str x, .int i => if x.length ≤ sizeLine then (atI x.cps.toList i).map fun c => .v (.str ⟨#[c]⟩) else none
  | .dct ks ws, k => if keyD k = true then (dGet ks ws k).map .v else none
  | _, _ => none
def setIx : D → D → D → Option D
  | .lst ds, .int i, d => (ixN ds.length i).map fun j => .lst (ds.set j d)
  | .dct ks ws, k, d => if keyD k = true ∧ ks.length < sizeLine then some (if dAny ks k = true then .dct ks (dRep ks ws k d) else .dct (ks ++ [k]) (ws ++ [d])) else none
  | _, _, _ => none
def sIx (n d : Nat) : Option Int → Nat := HT.sIx n d
def cut (ds : List D) (lo hi : Option Int) : List D := (ds.drop (sIx ds.length 0 lo)).take (sIx ds.length ds.length hi - sIx ds.length 0 lo)
def sliceOf : D → Option Int → Option Int → Option Rv
  | .lst ds, lo, hi => some (.f (.lst (cut ds lo hi)))
  | .tup ds, lo, hi => some (.v (.tup (cut ds lo hi)))
  | .str x, lo, hi => if x.length ≤ sizeLine then some (.v (.str (L2.cutS x lo hi))) else none
  | _, _, _ => none

inductive Ty where
  | int | bool | str | list | tuple | dict
  deriving DecidableEq, Repr
def isTy : Ty → D → Bool
  | .int, .int _ => true
  | .int, .bl _ => true
  | .bool, .bl _ => true
  | .str, .str _ => true
  | .list, .lst _ => true
  | .list, .scr _ => true
  | .tuple, .tup _ => true
  | .dict, .dct _ _ => true
  | _, _ => false

inductive Blt where
  | len | int | abs | sum | all | any | min1 | max1 | min2 | max2 | list | tuple | sorted | gcd | isi (t : Ty) | str | dict
  deriving DecidableEq, Repr
def lenOf : D → Option Nat
  | .str s => if s.length ≤ sizeLine then some s.length else none
  | .lst ds => some ds.length
  | .tup ds => some ds.length
  | .scr ns => some ns.length
  | .dct ks _ => some ks.length
  | _ => none
def lenF : List D → Option Rv
  | [d] => (lenOf d).map fun n => .v (.int (n : Nat))
  | _ => none
def intF : List D → Option Rv
  | [.int i] => some (.v (.int i))
  | [.bl b] => some (.v (.int (if b then 1 else 0)))
  | _ => none
def absF : List D → Option Rv
  | [.int i] => some (.v (.int (if i < 0 then -i else i)))
  | _ => none
def sumF : List D → Option Rv
  | [.lst ds] => (dInts ds).map fun ns => .v (.int ns.sum)
  | _ => none
/-- the truth of plain things -/
def truA : D → Option Bool
  | .non => some false
  | .bl b => some b
  | .int i => some (i != 0)
  | _ => none
def truAs : List D → Option (List Bool)
  | [] => some []
  | d :: ds => (truA d).bind fun b => (truAs ds).map (b :: ·)
def allF : List D → Option Rv
  | [.lst ds] => match dBools ds with
    | some ns => some (.v (.bl (ns.all id)))
    | none => (truAs ds).map fun ns => .v (.bl (ns.all id))
  | [.tup ds] => (truAs ds).map fun ns => .v (.bl (ns.all id))
  | _ => none
def anyF : List D → Option Rv
  | [.lst ds] => match dBools ds with
    | some ns => some (.v (.bl (ns.any id)))
    | none => (truAs ds).map fun ns => .v (.bl (ns.any id))
  | [.tup ds] => (truAs ds).map fun ns => .v (.bl (ns.any id))
  | _ => none
def min2F : List D → Option Rv
  | [.int i, .int j] => some (.v (.int (if j < i then j else i)))
  | _ => none
def max2F : List D → Option Rv
  | [.int i, .int j] => some (.v (.int (if j > i then j else i)))
  | _ => none
def gcdF : List D → Option Rv
  | [.int i, .int j] => some (.v (.int (Nat.gcd i.natAbs j.natAbs : Nat)))
  | _ => none
def listF : List D → Option Rv
  | [.lst ds] => some (.f (.lst ds))
  | [.tup ds] => some (.f (.lst ds))
  | [.dct ks _] => some (.f (.lst ks))
  | _ => none
def strF : List D → Option Rv
  | [.int i] => if i.natAbs.log2 < 1920 then some (.v (.str (toString i : String))) else none
  | [.str x] => some (.v (.str x))
  | _ => none
def tupleF : List D → Option Rv
  | [.lst ds] => some (.v (.tup ds))
  | [.tup ds] => some (.v (.tup ds))
  | _ => none
/-- an item put into a sorted list -/
def insB {α : Type} (le : α → α → Bool) (x : α) : List α → List α
  | [] => [x]
  | y :: l => if le x y then x :: y :: l else y :: insB le x l
def sortB {α : Type} (le : α → α → Bool) (l : List α) : List α := l.foldr (insB le) []
def dle (a b : D) : Bool := !dlt b a
def isTup1 : D → Bool
  | .tup (_ :: _) => true
  | _ => false
def noTup : D → Bool
  | .tup _ => false
  | .non => false
  | _ => true
def sortable (ds : List D) : Bool := (ds.all isTup1 || ds.all noTup) && (ds.all fun a => ds.all fun b => alk a b) && shpL ds && decide (deepL ds ≤ 60)
def sortedF : List D → Option Rv
  | [.lst ds] => if sortable ds then some (.f (.lst (sortB dle ds))) else none
  | [.dct ks _] => (dInts ks).bind fun ns => if ns.length < 64 then some (.f (.lst ((sortB (fun a b : Int => decide (a ≤ b)) ns).map .int))) else none
  | _ => none
/-- the first of the least, of the greatest -/
def minDD (d : D) (ds : List D) : D := ds.foldl (fun a y => if dlt y a then y else a) d
def maxDD (d : D) (ds : List D) : D := ds.foldl (fun a y => if dlt a y then y else a) d
def min1F : List D → Option Rv
  | [.lst (.int i :: ds)] => (dInts ds).map fun ns => .v (.int (ns.foldl (fun m x => if x < m then x else m) i))
  | [.tup (.int i :: ds)] => (dInts ds).map fun ns => .v (.int (ns.foldl (fun m x => if x < m then x else m) i))
  | [.lst (.tup t :: ds)] => if sortable (.tup t :: ds) then some (.v (minDD (.tup t) ds)) else none
  | _ => none
def max1F : List D → Option Rv
  | [.lst (.int i :: ds)] => (dInts ds).map fun ns => .v (.int (ns.foldl (fun m x => if m < x then x else m) i))
  | [.tup (.int i :: ds)] => (dInts ds).map fun ns => .v (.int (ns.foldl (fun m x => if m < x then x else m) i))
  | [.lst (.tup t :: ds)] => if sortable (.tup t :: ds) then some (.v (maxDD (.tup t) ds)) else none
  | _ => none
def isiF (t : Ty) : List D → Option Rv
  | [.set _] => none
  | [d] => some (.v (.bl (isTy t d)))
  | _ => none
/-- dict(d) -/
def dictF : List D → Option Rv
  | [.dct ks ws] => some (.f (.dct ks ws))
  | _ => none
def bltF : Blt → List D → Option Rv
  | .len => lenF
  | .int => intF
  | .abs => absF
  | .sum => sumF
  | .all => allF
  | .any => anyF
  | .min2 => min2F
  | .max2 => max2F
  | .gcd => gcdF
  | .list => listF
  | .tuple => tupleF
  | .str => strF
  | .dict => dictF
  | .isi t => isiF t
  | .sorted => sortedF
  | .min1 => min1F
  | .max1 => max1F

inductive Mth where
  | append | pop0 | pop1 | extend | insert | remove
  deriving DecidableEq, Repr
def appendF : D → List D → Option (D × Rv)
  | .lst ds, [d] => if ds.length < sizeLine then some (.lst (ds ++ [d]), .v .non) else none
  | _, _ => none
def pop0F : D → List D → Option (D × Rv)
  | .lst ds, [] => ds[ds.length - 1]?.map fun d => (.lst ds.dropLast, .v d)
  | _, _ => none
def pop1F : D → List D → Option (D × Rv)
  | .lst ds, [.int i] => (ixN ds.length i).bind fun j => if -(2 ^ 63) ≤ i ∧ i < 2 ^ 63 then ds[j]?.map fun d => (.lst (ds.eraseIdx j), .v d) else none
  | _, _ => none
def extendF : D → List D → Option (D × Rv)
  | .lst ds, [.lst es] => if ds.length + es.length ≤ sizeLine then some (.lst (ds ++ es), .v .non) else none
  | _, _ => none
def insertF : D → List D → Option (D × Rv)
  | .lst ds, [.int i, d] => if 0 ≤ i ∧ i < 2 ^ 63 ∧ ds.length < sizeLine then some (.lst (ds.take i.toNat ++ [d] ++ ds.drop i.toNat), .v .non) else none
  | _, _ => none
def removeF : D → List D → Option (D × Rv)
  | .lst ds, [.int k] => (dInts ds).bind fun ns => if k ∈ ns then some (.lst ((ns.eraseIdx (ns.idxOf k)).map .int), .v .non) else none
  | _, _ => none
/-- a method that changes its object: the object behind it, the answer -/
def mutF : Mth → D → List D → Option (D × Rv)
  | .append => appendF
  | .pop0 => pop0F
  | .pop1 => pop1F
  | .extend => extendF
  | .insert => insertF
  | .remove => removeF
/-- a list's method that changes nothing -/
inductive Lok where
  | index
  deriving DecidableEq, Repr
def indexF : D → List D → Option Rv
  | .lst ds, [x] => if shaped (.lst ds) && shaped x then (ds.findIdx? fun y => deq y x).map fun j => .v (.int (j : Nat)) else none
  | _, _ => none
def lokF : Lok → D → List D → Option Rv
  | .index => indexF
def isLst : D → Bool
  | .lst _ => true
  | _ => false

/-! ### the language -/
inductive Gx where
  | nm (i : Nat) | tp (is : List Nat)
  deriving DecidableEq, Repr, Inhabited
mutual
inductive Xp where
  | bad
  | var (i : Nat)
  | con (d : D)
  | dnw
  | bin (op : Operator) (a b : Xp)
  | neg (a : Xp)
  | not (a : Xp)
  | and (a b : Xp)
  | or (a b : Xp)
  | ife (t a b : Xp)
  | cmp (op : CmpOp) (a b : Xp)
  | chn (op op' : CmpOp) (a b c : Xp)
  | tup (es : Xs)
  | lst (es : Xs)
  | idx (a b : Xp)
  | sli (a : Xp) (lo hi : Xo)
  | rev (a : Xp)
  | cal (f : Nat) (es : Xs)
  | blt (b : Blt) (es : Xs)
  | mut (m : Mth) (o : Xp) (es : Xs)
  | mux (o : Xp) (es : Xs)
  | lok (m : Lok) (o : Xp) (es : Xs)
  | lc (e : Xp) (g : Gx) (it : Ix) (c : Xo) (own : List Nat)
  | lc2 (e : Xp) (g : Gx) (it : Ix) (c : Xo) (g1 : Gx) (it1 : Ix) (c1 : Xo) (own own1 : List Nat)
  | lrg (es : Xs)
  | lr3 (es : Xs)
inductive Xs where
  | nil | cons (e : Xp) (es : Xs)
inductive Xo where
  | no | so (e : Xp)
inductive Ix where
  | e (a : Xp) | dk (a : Xp) | rng (es : Xs) | enm (a : Xp) | zps (es : Xs) | zpn (es : Xs) | rn3 (es : Xs)
end
mutual
inductive Sx where
  | bad
  | set (i : Nat) (e : Xp)
  | unp (is : List Nat) (e : Xp)
  | par (is : List Nat) (es : Xs)
  | sti (o i v : Xp)
  | exp (e : Xp)
  | ite (t : Xp) (a b : Ss)
  | whl (t : Xp) (b : Ss)
  | for (g : Gx) (it : Ix) (b : Ss)
  | brk | cnt | pas | retN
  | ret (e : Xp)
inductive Ss where
  | nil | cons (s : Sx) (ss : Ss)
end
structure Fn where
  np : Nat
  ns : Nat
  io : Option Nat
  body : Ss

/-! ### the evaluator -/
structure Cf where
  /-- a call: the answer and what a lent object has become -/
  C : Nat → List Sl → Option (Rv × Option D)
  io : Nat → Option Nat
  F : Nat

def wipe (env : Env) (own : List Nat) : Env := own.foldl (fun e i => e.set i .un) env
def restore (old new : Env) (own : List Nat) : Env := own.foldl (fun e i => e.set i (old.getD i .un)) new
def isBw (env : Env) (i : Nat) : Bool := match env[i]? with | some (.bw _) => true | _ => false
/-- a store of shared data at a slot -/
def put (env : Env) (i : Nat) (d : D) : Option Env := if i < env.length ∧ isBw env i = false then some (env.set i (.sh d)) else none
def puts : Env → List Nat → List D → Option Env
  | env, [], [] => some env
  | env, i :: is, d :: ds => (put env i d).bind fun e => puts e is ds
  | _, _, _ => none
def putG (env : Env) : Gx → D → Option Env
  | .nm i, d => put env i d
  | .tp is, .tup ds => puts env is ds
  | _, _ => none
def store (env : Env) (i : Nat) : Rv → Option Env
  | .v d => put env i d
  | .f d => if i < env.length ∧ isBw env i = false then some (env.set i (.ow d)) else none
  | .s j => (take env (.s j)).bind fun p => put p.2 i p.1
/-- slots' objects among several values are shared first -/
def settle : List Rv → Env → Option (List Rv × Env)
  | [], env => some ([], env)
  | .s j :: rs, env => (take env (.s j)).bind fun p => (settle rs p.2).map fun q => (.v p.1 :: q.1, q.2)
  | r :: rs, env => (settle rs env).map fun q => (r :: q.1, q.2)
def storesR : Env → List Nat → List Rv → Option Env
  | env, [], [] => some env
  | env, i :: is, r :: rs => (store env i r).bind fun e => storesR e is rs
  | _, _, _ => none
/-- the object of a slot, changed -/
def setOwn (env : Env) (i : Nat) (d : D) : Option Env := match env[i]? with
  | some (.ow _) => some (env.set i (.ow d))
  | some (.bw _) => some (env.set i (.bw d))
  | _ => none
def ownOf (env : Env) (i : Nat) : Option D := match env[i]? with
  | some (.ow d) => some d
  | some (.bw d) => some d
  | _ => none
def lstAt (env : Env) (i : Nat) : Bool := match ownOf env i with | some (.lst _) => true | _ => false
/-- an argument: shared data, or a slot whose object is lent -/
inductive Ag where
  | d (d : D) | s (i : Nat)
  deriving DecidableEq, Inhabited, Repr
/-- what a call hands over -/
def bindA (env : Env) : List Ag → Option (List Sl)
  | [] => some []
  | .d d :: as => (bindA env as).map (.sh d :: ·)
  | .s i :: as => (ownOf env i).bind fun d => (bindA env as).map (.bw d :: ·)
def lent : List Ag → Option Nat
  | [] => none
  | .d _ :: as => lent as
  | .s i :: _ => some i
def back (env : Env) (as : List Ag) (o : Option D) : Option Env := match lent as, o with
  | none, none => some env
  | some i, some d => setOwn env i d
  | _, _ => none
def pks (env : Env) : List Rv → Option (List D)
  | [] => some []
  | r :: rs => (pk env r).bind fun d => (pks env rs).map (d :: ·)

def itemsOf : D → Option (List D)
  | .lst ds => some ds
  | .scr ns => some (ns.map .int)
  | .tup ds => some ds
  | _ => none
def enumOf (ds : List D) : List D := ds.zipIdx.map fun p => .tup [.int (p.2 : Nat), p.1]
/-- two of one length, pair by pair -/
def zipOf : List D → Option (List D)
  | [x, y] => (itemsOf x).bind fun xs => (itemsOf y).bind fun ys => if xs.length = ys.length then some ((xs.zip ys).map fun p => .tup [p.1, p.2]) else none
  | _ => none
/-- two lists or two tuples, to the end of the shorter one -/
def zpnOf : List D → Option (List D)
  | [.lst xs, .lst ys] => some ((xs.zip ys).map fun p => .tup [p.1, p.2])
  | [.tup xs, .tup ys] => some ((xs.zip ys).map fun p => .tup [p.1, p.2])
  | _ => none
def revOf : D → Option Rv
  | .lst ds => some (.f (.lst ds.reverse))
  | _ => none
def big (i : Int) : Bool := decide (-(2 ^ 62) ≤ i) && decide (i < 2 ^ 62)
def rangeOf : List D → Option (List D)
  | [.int j] => if big j then some ((List.range j.toNat).map fun (k : Nat) => .int k) else none
  | [.int i, .int j] => if big i && big j then some ((List.range (j - i).toNat).map fun (k : Nat) => .int (i + k)) else none
  | _ => none
def range3Of : List D → Option (List D)
  | [.int i, .int j, .int c] => if c = -1 ∧ big i = true ∧ big j = true then some ((List.range (i - j).toNat).map fun (k : Nat) => .int (i - k)) else none
  | _ => none
/-- range(0, j, c) -/
def lr3Of : List D → Option (List D)
  | [.int i, .int j, .int c] => if i = 0 ∧ 0 ≤ j ∧ j < 1048576 ∧ 1 ≤ c ∧ c < 1048576 then some ((List.range ((j + c - 1) / c).toNat).map fun (k : Nat) => .int (k * c)) else none
  | _ => none
/-- a dict that is walked: its keys (it is shared from then on) -/
def dictI (it : Ix) (env : Env) : Option (List D × Env) := match it with
  | .dk (.var i) => match env[i]? with
    | some (.ow (.dct ks ws)) => some (ks, env.set i (.sh (.dct ks ws)))
    | some (.sh (.dct ks _)) => some (ks, env)
    | _ => none
  | _ => none
def lcLoop (own : List Nat) (turn : D → Env → Option (Option D × Env)) : List D → Env → Option (List D × Env)
  | [], env => some ([], env)
  | d :: ds, env => (turn d env).bind fun p => (lcLoop own turn ds (wipe p.2 own)).map fun q => (p.1.toList ++ q.1, q.2)
/-- each turn gives several -/
def flatLoop (own : List Nat) (turn : D → Env → Option (List D × Env)) : List D → Env → Option (List D × Env)
  | [], env => some ([], env)
  | d :: ds, env => (turn d env).bind fun p => (flatLoop own turn ds (wipe p.2 own)).map fun q => (p.1 ++ q.1, q.2)

inductive Fl where
  | nx | bk | ct | rt (r : Rv)
  deriving DecidableEq, Repr, Inhabited
def forLoop (turn : D → Env → Option (Fl × Env)) : List D → Env → Option (Fl × Env)
  | [], env => some (.nx, env)
  | d :: ds, env => (turn d env).bind fun p => match p.1 with
    | .nx => forLoop turn ds p.2
    | .ct => forLoop turn ds p.2
    | .bk => some (.nx, p.2)
    | .rt r => some (.rt r, p.2)
def whileLoop (test : Env → Option (Bool × Env)) (turn : Env → Option (Fl × Env)) : Nat → Env → Option (Fl × Env)
  | 0, _ => none
  | n + 1, env => (test env).bind fun p => if p.1 then (turn p.2).bind fun q => match q.1 with
      | .nx => whileLoop test turn n q.2
      | .ct => whileLoop test turn n q.2
      | .bk => some (.nx, q.2)
      | .rt r => some (.rt r, q.2)
    else some (.nx, p.2)

section
variable (cf : Cf)
mutual
def eval : Xp → Env → Option (Rv × Env)
  | .bad, _ => none
  | .var i, env => match env[i]? with
    | some (.sh d) => some (.v d, env)
    | some (.ow _) => some (.s i, env)
    | some (.bw _) => some (.s i, env)
    | _ => none
  | .con d, env => some (.v d, env)
  | .dnw, env => some (.f (.dct [] []), env)
  | .bin op a b, env => (eval a env).bind fun p => (eval b p.2).bind fun q => (pk q.2 p.1).bind fun x => (pk q.2 q.1).bind fun y => (binop op x y).map fun r => (r, q.2)
  | .neg a, env => (eval a env).bind fun p => match pk p.2 p.1 with
    | some (.int i) => some (.v (.int (-i)), p.2)
    | _ => none
  | .not a, env => (eval a env).bind fun p => (pk p.2 p.1).bind fun x => (truth x).map fun b => (.v (.bl (!b)), p.2)
  | .and a b, env => (eval a env).bind fun p => (pk p.2 p.1).bind fun x => (truth x).bind fun k => if k then eval b p.2 else some p
  | .or a b, env => (eval a env).bind fun p => (pk p.2 p.1).bind fun x => (truth x).bind fun k => if k then some p else eval b p.2
  | .ife t a b, env => (eval t env).bind fun p => (pk p.2 p.1).bind fun x => (truth x).bind fun k => if k then eval a p.2 else eval b p.2
  | .cmp op a b, env => (eval a env).bind fun p => (eval b p.2).bind fun q => (pk q.2 p.1).bind fun x => (pk q.2 q.1).bind fun y => (cmpop op x y).map fun r => (.v (.bl r), q.2)
  | .chn op op' a b c, env => (eval a env).bind fun p => (eval b p.2).bind fun q => (pk q.2 p.1).bind fun x => (pk q.2 q.1).bind fun y => (cmpop op x y).bind fun r =>
    if r then (eval c q.2).bind fun s => (pk s.2 q.1).bind fun y' => (pk s.2 s.1).bind fun z => (cmpop op' y' z).map fun r' => (.v (.bl r'), s.2) else some (.v (.bl false), q.2)
  | .tup es, env => (evalsT es env).bind fun q => if q.1.length ≤ sizeLine then some (.v (.tup q.1), q.2) else none
  | .lst es, env => (evalsT es env).bind fun q => if q.1.length ≤ sizeLine then some (.f (.lst q.1), q.2) else none
  | .idx a b, env => (eval a env).bind fun p => (eval b p.2).bind fun q => (pk q.2 p.1).bind fun x => (pk q.2 q.1).bind fun y => (getIx x y).map fun r => (r, q.2)
  | .sli a lo hi, env => (eval a env).bind fun p => (evalO lo p.2).bind fun q => (evalO hi q.2).bind fun s => (pk s.2 p.1).bind fun x => (sliceOf x q.1 s.1).map fun r => (r, s.2)
  | .rev a, env => (eval a env).bind fun p => (pk p.2 p.1).bind fun x => (revOf x).map fun r => (r, p.2)
  | .cal f es, env => (evalsA (cf.io f) es env).bind fun p => (bindA p.2 p.1).bind fun q => (cf.C f q).bind fun r => (back p.2 p.1 r.2).map fun e => (r.1, e)
  | .blt b es, env => (evals es env).bind fun p => (pks p.2 p.1).bind fun ds => (bltF b ds).map fun r => (r, p.2)
  | .lok m o es, env => (eval o env).bind fun p => (pk p.2 p.1).bind fun y => if isLst y then (evals es p.2).bind fun t => (pk t.2 p.1).bind fun x => (pks t.2 t.1).bind fun ds => (lokF m x ds).map fun r => (r, t.2) else none
  | .mux o es, env => (eval o env).bind fun p => match p.1 with
    | .s i => if lstAt p.2 i then (evals es p.2).bind fun t => (pks t.2 t.1).bind fun ds => (ownOf t.2 i).bind fun d => (extendF d ds).bind fun r => (setOwn t.2 i r.1).map fun e => (r.2, e) else none
    | _ => none
  | .mut m o es, env => (eval o env).bind fun p => match p.1 with
    | .s i => if lstAt p.2 i then (evalsT es p.2).bind fun t => (ownOf t.2 i).bind fun d => (mutF m d t.1).bind fun r => (setOwn t.2 i r.1).map fun e => (r.2, e) else none
    | _ => none
  | .lc e g it c own, env => (match dictI it env with | some p => some p | none => evalI it env : Option (List D × Env)).bind fun p =>
    (lcLoop own (fun d env => (putG env g d).bind fun e1 => (evalC c e1).bind fun k => if k.1 then (eval e k.2).bind fun q => (take q.2 q.1).map fun t => (some t.1, t.2) else some (none, k.2)) p.1 (wipe p.2 own)).bind fun r =>
      if r.1.length ≤ sizeLine then some (.f (.lst r.1), restore p.2 r.2 own) else none
  | .lc2 e g it c g1 it1 c1 own own1, env => (evalI it env).bind fun p =>
    (flatLoop own (fun d env => (putG env g d).bind fun e1 => (evalC c e1).bind fun k => if k.1 then (evalI it1 k.2).bind fun p1 => lcLoop own1 (fun d env => (putG env g1 d).bind fun e1 => (evalC c1 e1).bind fun k => if k.1 then (eval e k.2).bind fun q => (take q.2 q.1).map fun t => (some t.1, t.2) else some (none, k.2)) p1.1 (wipe p1.2 own1) else some ([], k.2)) p.1 (wipe p.2 own)).bind fun r =>
      if r.1.length ≤ sizeLine then some (.f (.lst r.1), restore p.2 r.2 own) else none
  | .lrg es, env => (evals es env).bind fun p => (pks p.2 p.1).bind fun ds => (rangeOf ds).bind fun xs => if xs.length ≤ sizeLine then some (.f (.lst xs), p.2) else none
  | .lr3 es, env => (evals es env).bind fun p => (pks p.2 p.1).bind fun ds => (lr3Of ds).map fun xs => (.f (.lst xs), p.2)
def evals : Xs → Env → Option (List Rv × Env)
  | .nil, env => some ([], env)
  | .cons e es, env => (eval e env).bind fun p => (evals es p.2).map fun q => (p.1 :: q.1, q.2)
def evalsT : Xs → Env → Option (List D × Env)
  | .nil, env => some ([], env)
  | .cons e es, env => (eval e env).bind fun p => (take p.2 p.1).bind fun t => (evalsT es t.2).map fun q => (t.1 :: q.1, q.2)
/-- arguments; the one at the place told is lent -/
def evalsA : Option Nat → Xs → Env → Option (List Ag × Env)
  | _, .nil, env => some ([], env)
  | some 0, .cons e es, env => (eval e env).bind fun p => match p.1 with
    | .s i => (evalsA none es p.2).map fun q => (.s i :: q.1, q.2)
    | _ => none
  | some (j + 1), .cons e es, env => (eval e env).bind fun p => (take p.2 p.1).bind fun t => (evalsA (some j) es t.2).map fun q => (.d t.1 :: q.1, q.2)
  | none, .cons e es, env => (eval e env).bind fun p => (take p.2 p.1).bind fun t => (evalsA none es t.2).map fun q => (.d t.1 :: q.1, q.2)
/-- a part of a slice -/
def evalO : Xo → Env → Option (Option Int × Env)
  | .no, env => some (none, env)
  | .so e, env => (eval e env).bind fun p => match pk p.2 p.1 with
    | some (.int i) => some (some i, p.2)
    | _ => none
/-- a test -/
def evalC : Xo → Env → Option (Bool × Env)
  | .no, env => some (true, env)
  | .so e, env => (eval e env).bind fun p => (pk p.2 p.1).bind fun x => (truth x).map fun k => (k, p.2)
/-- what is walked: its items (it is shared from then on) -/
def evalI : Ix → Env → Option (List D × Env)
  | .e a, env => (eval a env).bind fun p => (take p.2 p.1).bind fun t => (itemsOf t.1).map fun ds => (ds, t.2)
  | .dk a, env => (eval a env).bind fun p => (take p.2 p.1).bind fun t => (itemsOf t.1).map fun ds => (ds, t.2)
  | .rng es, env => (evals es env).bind fun p => (pks p.2 p.1).bind fun ds => (rangeOf ds).map fun xs => (xs, p.2)
  | .enm a, env => (eval a env).bind fun p => (take p.2 p.1).bind fun t => (itemsOf t.1).map fun ds => (enumOf ds, t.2)
  | .zps es, env => (evalsT es env).bind fun t => (zipOf t.1).map fun ds => (ds, t.2)
  | .zpn es, env => (evalsT es env).bind fun t => (zpnOf t.1).map fun ds => (ds, t.2)
  | .rn3 es, env => (evals es env).bind fun p => (pks p.2 p.1).bind fun ds => (range3Of ds).map fun xs => (xs, p.2)
end
def test (t : Xp) (env : Env) : Option (Bool × Env) := (eval cf t env).bind fun p => (pk p.2 p.1).bind fun x => (truth x).map fun k => (k, p.2)
mutual
def exec : Sx → Env → Option (Fl × Env)
  | .bad, _ => none
  | .set i e, env => (eval cf e env).bind fun p => (store p.2 i p.1).map fun e => (.nx, e)
  | .unp is e, env => (eval cf e env).bind fun p => (pk p.2 p.1).bind fun x => match x with
    | .tup ds => (puts p.2 is ds).map fun e => (.nx, e)
    | _ => none
  | .par is es, env => (evals cf es env).bind fun p => (settle p.1 p.2).bind fun q => (storesR q.2 is q.1).map fun e => (.nx, e)
  | .sti o i v, env => (eval cf v env).bind fun p => (take p.2 p.1).bind fun t => (eval cf o t.2).bind fun q => (eval cf i q.2).bind fun r => (pk r.2 r.1).bind fun k => match q.1 with
    | .s j => (ownOf r.2 j).bind fun d => (setIx d k t.1).bind fun d' => (setOwn r.2 j d').map fun e => (.nx, e)
    | _ => none
  | .exp e, env => (eval cf e env).map fun p => (.nx, p.2)
  | .ite t a b, env => (test cf t env).bind fun p => if p.1 then execs a p.2 else execs b p.2
  | .whl t b, env => whileLoop (test cf t) (fun e => execs b e) cf.F env
  | .for g it b, env => (match dictI it env with | some p => some p | none => evalI cf it env : Option (List D × Env)).bind fun p => forLoop (fun d env => (putG env g d).bind fun e1 => execs b e1) p.1 p.2
  | .brk, env => some (.bk, env)
  | .cnt, env => some (.ct, env)
  | .pas, env => some (.nx, env)
  | .retN, env => some (.rt (.v .non), env)
  | .ret e, env => (eval cf e env).map fun p => (.rt p.1, p.2)
def execs : Ss → Env → Option (Fl × Env)
  | .nil, env => some (.nx, env)
  | .cons s ss, env => (exec s env).bind fun p => match p.1 with
    | .nx => execs ss p.2
    | _ => some p
end
end
/-- what a def hands back -/
def outR (env : Env) : Rv → Option Rv
  | .v d => some (.v d)
  | .f d => some (.f d)
  | .s i => match env[i]? with
    | some (.sh d) => some (.v d)
    | some (.ow d) => some (.f d)
    | _ => none
def outIo (env : Env) : Option Nat → Option (Option D)
  | none => some none
  | some j => match env[j]? with
    | some (.bw d) => some (some d)
    | _ => none
def argOk : Option Nat → List Sl → Bool
  | _, [] => true
  | some 0, .bw _ :: as => argOk none as
  | some 0, _ => false
  | some (j + 1), .sh _ :: as => argOk (some j) as
  | none, .sh _ :: as => argOk none as
  | _, _ => false
def runFn (cf : Cf) (fn : Fn) (args : List Sl) : Option (Rv × Option D) :=
  if args.length = fn.np ∧ argOk fn.io args = true then
    (execs cf fn.body (args ++ List.replicate (fn.ns - fn.np) .un)).bind fun p => match p.1 with
      | .nx => (outIo p.2 fn.io).map fun o => (.v .non, o)
      | .rt r => (outR p.2 r).bind fun r' => (outIo p.2 fn.io).map fun o => (r', o)
      | _ => none
  else none
def ioOf (fns : List Fn) (f : Nat) : Option Nat := (fns[f]?).bind (·.io)
def callN (fns : List Fn) (F : Nat) : Nat → Nat → List Sl → Option (Rv × Option D)
  | 0, _, _ => none
  | k + 1, f, args => match fns[f]? with
    | some fn => runFn ⟨callN fns F k, ioOf fns, F⟩ fn args
    | none => none
end Mi

end

section
set_option linter.all false
set_option maxRecDepth 100000
/-! Mi1: how data lie in the heap -/
namespace Mi
open PySem PySem.Spec PyProof.Rows L2

/-- an extension -/
def Ex (H H' : Hp) : Prop := ∀ a o, H a = some o → H' a = some o
theorem Ex.refl (H : Hp) : Ex H H := fun _ _ h => h
theorem Ex.trans {H H1 H2 : Hp} (a : Ex H H1) (b : Ex H1 H2) : Ex H H2 := fun x o h => b x o (a x o h)
theorem Ex.new {H : Hp} {p : Addr} {o : HO} (h : H p = none) : Ex H (upd H p o) := fun a u e => by
  rw [upd_ne (ne_of_none e h)]; exact e
/-- what may be read stays -/
structure Le (H H' : Hp) : Prop where
  rd : ∀ a u, (∀ o w, u ≠ .frz o w) → Rd H a u → Rd H' a u
  ls : ∀ a xs, H a = some (.lst xs) → H' a = some (.lst xs)
theorem Ex.le {H H' : Hp} (e : Ex H H') : Le H H' := ⟨fun a u _ h => by
  rcases h with h | ⟨o, h⟩
  · exact .inl (e a _ h)
  · exact .inr ⟨o, e a _ h⟩, fun a xs h => e a _ h⟩
theorem le_sl {K : PySem.W.Frag} {H H' : Hp} {a : Addr} {xs : List V} (e : Le H H') (h : SqL K H a xs) : SqL K H' a xs := by
  rcases h with h | h
  · exact .inl (e.rd _ _ (fun _ _ z => nomatch z) h)
  · exact .inr h
theorem le_st {K : PySem.W.Frag} {H H' : Hp} {a : Addr} {xs : List V} (e : Le H H') (h : SqT K H a xs) : SqT K H' a xs := by
  rcases h with h | h
  · exact .inl (e.rd _ _ (fun _ _ z => nomatch z) h)
  · exact .inr h

def kD : Key → D
  | .inl i => .int i
  | .inr x => .str x
def kT (ks : List Key) : D := .tup (ks.map kD)

section
variable (K : PySem.W.Frag) (R : Hp)
mutual
/-- the value v is the data, read in R -/
def At : D → V → Prop
  | .non, v => v = .non
  | .bl b, v => v = .bl b
  | .int i, v => v = .int i
  | .str s, v => v = .str s
  | .tup ds, v => ∃ a vs, v = .ref a ∧ SqT K R a vs ∧ AtL ds vs
  | .lst ds, v => ∃ a vs, v = .ref a ∧ R a = some (.lst vs) ∧ AtL ds vs
  | .dct ks ws, v => ∃ a, v = .ref a ∧ ∃ kl : List (Key × V), Rd R a (.dK kl) ∧ kl.map (fun p => kD p.1) = ks ∧ AtL ws (kl.map (·.2))
  | .set _, _ => False
  | .scr ns, v => ∃ a, v = .ref a ∧ SqL K R a (ns.map V.int)
def AtL : List D → List V → Prop
  | [], vs => vs = []
  | d :: ds, vs => ∃ v r, vs = v :: r ∧ At d v ∧ AtL ds r
end
end
section
variable {K : PySem.W.Frag} {R R' H H' : Hp}
mutual
theorem At.mono (e : Le R R') : ∀ {d : D} {v : V}, At K R d v → At K R' d v
  | .non, _, h => h
  | .bl _, _, h => h
  | .int _, _, h => h
  | .str _, _, h => h
  | .tup ds, _, ⟨a, vs, h1, h2, h3⟩ => ⟨a, vs, h1, le_st e h2, AtL.mono e h3⟩
  | .lst ds, _, ⟨a, vs, h1, h2, h3⟩ => ⟨a, vs, h1, e.ls _ _ h2, AtL.mono e h3⟩
  | .dct ks ws, _, ⟨a, h1, kl, h2, h3, h4⟩ => ⟨a, h1, kl, e.rd _ _ (fun _ _ z => nomatch z) h2, h3, AtL.mono e h4⟩
  | .set _, _, h => h.elim
  | .scr _, _, ⟨a, h1, h2⟩ => ⟨a, h1, le_sl e h2⟩
theorem AtL.mono (e : Le R R') : ∀ {ds : List D} {vs : List V}, AtL K R ds vs → AtL K R' ds vs
  | [], _, h => h
  | d :: ds, _, ⟨v, r, h1, h2, h3⟩ => ⟨v, r, h1, At.mono e h2, AtL.mono e h3⟩
end
theorem AtL.length : ∀ {ds : List D} {vs : List V}, AtL K R ds vs → ds.length = vs.length
  | [], _, h => by cases (show _ = ([] : List V) from h); rfl
  | d :: ds, _, ⟨v, r, h1, _, h3⟩ => by rw [h1, List.length_cons, List.length_cons, AtL.length h3]
theorem AtL.get : ∀ {ds : List D} {vs : List V} {i : Nat} {d : D}, AtL K R ds vs → ds[i]? = some d → ∃ v, vs[i]? = some v ∧ At K R d v
  | [], _, _, _, _, e => by simp at e
  | d :: ds, _, 0, _, ⟨v, r, h1, h2, _⟩, e => by
    rw [List.getElem?_cons_zero] at e; cases e
    exact ⟨v, by rw [h1]; rfl, h2⟩
  | d :: ds, _, i + 1, _, ⟨v, r, h1, _, h3⟩, e => by
    rw [List.getElem?_cons_succ] at e
    obtain ⟨w, e1, e2⟩ := AtL.get h3 e
    exact ⟨w, by rw [h1, List.getElem?_cons_succ]; exact e1, e2⟩
theorem AtL.getV : ∀ {ds : List D} {vs : List V} {i : Nat} {v : V}, AtL K R ds vs → vs[i]? = some v → ∃ d, ds[i]? = some d ∧ At K R d v := fun {ds vs i v} h e => by
  have hl := h.length
  have hi : i < ds.length := by rw [hl]; exact (List.getElem?_eq_some_iff.mp e).1
  obtain ⟨w, e1, e2⟩ := h.get (List.getElem?_eq_getElem hi)
  rw [e] at e1; cases e1
  exact ⟨_, List.getElem?_eq_getElem hi, e2⟩
theorem AtL.nil : AtL K R [] [] := rfl
theorem AtL.cons {d : D} {ds : List D} {v : V} {vs : List V} (h : At K R d v) (t : AtL K R ds vs) : AtL K R (d :: ds) (v :: vs) := ⟨v, vs, rfl, h, t⟩
theorem AtL.append : ∀ {ds es : List D} {vs ws : List V}, AtL K R ds vs → AtL K R es ws → AtL K R (ds ++ es) (vs ++ ws)
  | [], _, _, _, h, t => by rw [h]; exact t
  | d :: ds, _, _, _, ⟨v, r, h1, h2, h3⟩, t => by rw [h1]; exact .cons h2 (AtL.append h3 t)
theorem AtL.drop : ∀ {ds : List D} {vs : List V} (n : Nat), AtL K R ds vs → AtL K R (ds.drop n) (vs.drop n)
  | _, _, 0, h => h
  | [], _, n + 1, h => by rw [h]; exact AtL.nil
  | d :: ds, _, n + 1, ⟨v, r, h1, _, h3⟩ => by rw [h1]; exact AtL.drop n h3
theorem AtL.take : ∀ {ds : List D} {vs : List V} (n : Nat), AtL K R ds vs → AtL K R (ds.take n) (vs.take n)
  | _, _, 0, h => by rw [List.take_zero, List.take_zero]; exact AtL.nil
  | [], _, n + 1, h => by rw [h]; exact AtL.nil
  | d :: ds, _, n + 1, ⟨v, r, h1, h2, h3⟩ => by rw [h1]; exact .cons h2 (AtL.take n h3)
theorem AtL.set : ∀ {ds : List D} {vs : List V} {d : D} {v : V} (i : Nat), AtL K R ds vs → At K R d v → AtL K R (ds.set i d) (vs.set i v)
  | [], _, _, _, i, h, _ => by rw [h]; cases i <;> exact AtL.nil
  | d :: ds, _, _, _, 0, ⟨v, r, h1, _, h3⟩, t => by rw [h1]; exact .cons t h3
  | d :: ds, _, _, _, i + 1, ⟨v, r, h1, h2, h3⟩, t => by rw [h1]; exact .cons h2 (AtL.set i h3 t)
theorem AtL.eraseIdx : ∀ {ds : List D} {vs : List V} (i : Nat), AtL K R ds vs → AtL K R (ds.eraseIdx i) (vs.eraseIdx i)
  | [], _, i, h => by rw [h]; cases i <;> exact AtL.nil
  | d :: ds, _, 0, ⟨v, r, h1, _, h3⟩ => by rw [h1]; exact h3
  | d :: ds, _, i + 1, ⟨v, r, h1, h2, h3⟩ => by rw [h1]; exact .cons h2 (AtL.eraseIdx i h3)
theorem AtL.dropLast {ds : List D} {vs : List V} (h : AtL K R ds vs) : AtL K R ds.dropLast vs.dropLast := by
  rw [List.dropLast_eq_take, List.dropLast_eq_take, h.length]; exact h.take _
theorem AtL.rep {ds : List D} {vs : List V} (h : AtL K R ds vs) : ∀ k : Nat, AtL K R (List.replicate k ds).flatten (List.replicate k vs).flatten
  | 0 => AtL.nil
  | k + 1 => by
    rw [List.replicate_succ, List.replicate_succ, List.flatten_cons, List.flatten_cons]
    exact h.append (AtL.rep h k)
theorem AtL.reverse : ∀ {ds : List D} {vs : List V}, AtL K R ds vs → AtL K R ds.reverse vs.reverse
  | [], _, h => by rw [h]; exact AtL.nil
  | d :: ds, _, ⟨v, r, h1, h2, h3⟩ => by
    rw [h1, List.reverse_cons, List.reverse_cons]
    exact (AtL.reverse h3).append (.cons h2 AtL.nil)
theorem AtL.isEmpty {ds : List D} {vs : List V} (h : AtL K R ds vs) : ds.isEmpty = vs.isEmpty := by
  have := h.length
  cases ds <;> cases vs <;> simp_all

/-- the object at a, held by one slot, is the data; its items lie in R -/
def Own (K : PySem.W.Frag) (R H : Hp) (a : Addr) : D → Prop
  | .lst ds => ∃ vs, H a = some (.lst vs) ∧ AtL K R ds vs
  | .dct ks ws => ∃ kl : List (Key × V), H a = some (.dK kl) ∧ kl.map (fun p => kD p.1) = ks ∧ AtL K R ws (kl.map (·.2))
  | _ => False
theorem Own.some {a : Addr} {d : D} (h : Own K R H a d) : ∃ o, H a = some o ∧ Mut (some o) := by
  cases d with
  | lst ds => obtain ⟨vs, h, _⟩ := h; exact ⟨_, h, trivial⟩
  | dct ks ws =>
    obtain ⟨kl, h, _⟩ := h
    exact ⟨_, h, trivial⟩
  | _ => exact h.elim
theorem Own.ne {a : Addr} {d : D} (h : Own K R H a d) : H a ≠ none := by
  obtain ⟨o, e, _⟩ := h.some
  rw [e]; exact fun z => nomatch z
theorem Own.mono {a : Addr} {d : D} (e : Le R R') (eh : H' a = H a) (h : Own K R H a d) : Own K R' H' a d := by
  cases d with
  | lst ds => obtain ⟨vs, h1, h2⟩ := h; exact ⟨vs, by rw [eh]; exact h1, h2.mono e⟩
  | dct ks ws =>
    obtain ⟨kl, h1, h2, h3⟩ := h
    exact ⟨kl, by rw [eh]; exact h1, h2, h3.mono e⟩
  | _ => exact h.elim
/-- what is held may be shared: R learns the object -/
theorem Own.share {a : Addr} {d : D} {o : HO} (h : Own K R H a d) (ho : H a = .some o) (hn : R a = none) : At K (upd R a o) d (.ref a) := by
  have le : Le R (upd R a o) := (Ex.new hn).le
  cases d with
  | lst ds => obtain ⟨vs, h1, h2⟩ := h; rw [h1] at ho; cases ho; exact ⟨a, vs, rfl, upd_same, h2.mono le⟩
  | dct ks ws =>
    obtain ⟨kl, h1, h2, h3⟩ := h
    rw [h1] at ho; cases ho; exact ⟨a, rfl, kl, .inl upd_same, h2, h3.mono le⟩
  | _ => exact h.elim

/-- a value that may be read as the data: shared, or held -/
def Pk (K : PySem.W.Frag) (R H : Hp) (d : D) (v : V) : Prop := At K R d v ∨ ∃ a, v = .ref a ∧ Own K R H a d
theorem Pk.lst {ds : List D} {v : V} (e : Ex R H) (h : Pk K R H (.lst ds) v) : ∃ a vs, v = .ref a ∧ H a = some (.lst vs) ∧ AtL K R ds vs := by
  rcases h with ⟨a, vs, h1, h2, h3⟩ | ⟨a, h1, vs, h2, h3⟩
  · exact ⟨a, vs, h1, e _ _ h2, h3⟩
  · exact ⟨a, vs, h1, h2, h3⟩
theorem Ex.rd {a : Addr} {u : HO} (e : Ex R H) (h : Rd R a u) : Rd H a u := by
  rcases h with h | ⟨o, h⟩
  · exact .inl (e a _ h)
  · exact .inr ⟨o, e a _ h⟩
theorem Pk.dct {ks ws : List D} {v : V} (e : Ex R H) (h : Pk K R H (.dct ks ws) v) : ∃ (a : Addr) (kl : List (Key × V)), v = .ref a ∧ Rd H a (.dK kl) ∧ kl.map (fun p => kD p.1) = ks ∧ AtL K R ws (kl.map (·.2)) := by
  rcases h with ⟨a, h1, kl, h2, h3, h4⟩ | ⟨a, h1, kl, h2, h3, h4⟩
  · exact ⟨a, kl, h1, e.rd h2, h3, h4⟩
  · exact ⟨a, kl, h1, .inl h2, h3, h4⟩
theorem Pk.scr {ns : List Int} {v : V} (e : Ex R H) (h : Pk K R H (.scr ns) v) : ∃ a, v = .ref a ∧ SqL K H a (ns.map V.int) := by
  rcases h with ⟨a, h1, h2⟩ | ⟨a, h1, h2⟩
  · exact ⟨a, h1, le_sl e.le h2⟩
  · exact h2.elim
theorem Pk.tup {ds : List D} {v : V} (e : Ex R H) (h : Pk K R H (.tup ds) v) : ∃ a vs, v = .ref a ∧ SqT K H a vs ∧ AtL K R ds vs := by
  rcases h with ⟨a, vs, h1, h2, h3⟩ | ⟨a, h1, h2⟩
  · exact ⟨a, vs, h1, le_st e.le h2, h3⟩
  · exact h2.elim
theorem Pk.flat {d : D} {v : V} (f : flat d = true) (h : Pk K R H d v) : At K R d v := by
  rcases h with h | ⟨a, _, h⟩
  · exact h
  · cases d <;> first | exact h.elim | cases f
theorem Pk.int {i : Int} {v : V} (h : Pk K R H (.int i) v) : v = .int i := h.flat rfl
theorem Pk.bl {i : Bool} {v : V} (h : Pk K R H (.bl i) v) : v = .bl i := h.flat rfl
theorem Pk.str {i : Str} {v : V} (h : Pk K R H (.str i) v) : v = .str i := h.flat rfl
theorem Pk.non {v : V} (h : Pk K R H .non v) : v = .non := h.flat rfl

/-! ### frames -/
def Hold (env : Env) (σ : L2.St) (i : Nat) (a : Addr) : Prop := ((∃ d, env[i]? = some (Sl.ow d)) ∨ ∃ d, env[i]? = some (Sl.bw d)) ∧ σ[i]? = some (some (V.ref a))
def Owns (env : Env) (σ : L2.St) (a : Addr) : Prop := ∃ i, Hold env σ i a
def OwnsO (env : Env) (σ : L2.St) (a : Addr) : Prop := ∃ i : Nat, (∃ d, env[i]? = some (Sl.ow d)) ∧ σ[i]? = some (some (V.ref a))
theorem OwnsO.owns {env : Env} {σ : L2.St} {a : Addr} (h : OwnsO env σ a) : Owns env σ a := let ⟨i, h1, h2⟩ := h; ⟨i, .inl h1, h2⟩
/-- the frame's slots are what the evaluator says -/
structure Rep (K : PySem.W.Frag) (env : Env) (σ : L2.St) (R H : Hp) : Prop where
  len : env.length = σ.length
  ex : Ex R H
  sh : ∀ (i : Nat) (d : D), env[i]? = some (Sl.sh d) → ∃ v, σ[i]? = some (some v) ∧ At K R d v
  ow : ∀ (i : Nat) (d : D), (env[i]? = some (Sl.ow d) ∨ env[i]? = some (Sl.bw d)) → ∃ a, σ[i]? = some (some (V.ref a)) ∧ R a = none ∧ Own K R H a d
  ne : ∀ i j a, Hold env σ i a → Hold env σ j a → i = j
/-- what an expression may do to a slot -/
def SlLe : Sl → Sl → Prop
  | .un, t => t = .un
  | .sh d, t => t = .sh d
  | .ow _, t => (∃ d, t = .ow d) ∨ ∃ d, t = .sh d
  | .bw _, t => ∃ d, t = .bw d
theorem SlLe.refl (s : Sl) : SlLe s s := by
  cases s with
  | un => rfl
  | sh d => rfl
  | ow d => exact .inl ⟨d, rfl⟩
  | bw d => exact ⟨d, rfl⟩
theorem SlLe.trans {s t u : Sl} (h : SlLe s t) (k : SlLe t u) : SlLe s u := by
  cases s with
  | un => cases h; exact k
  | sh d => cases h; exact k
  | ow d =>
    rcases h with ⟨e, rfl⟩ | ⟨e, rfl⟩
    · exact k
    · cases k; exact .inr ⟨e, rfl⟩
  | bw d => obtain ⟨e, rfl⟩ := h; exact k
def EnvLe (env env' : Env) : Prop := env'.length = env.length ∧ ∀ (i : Nat) (s : Sl), env[i]? = some s → ∃ t : Sl, env'[i]? = some t ∧ SlLe s t
theorem EnvLe.refl (env : Env) : EnvLe env env := ⟨rfl, fun i s h => ⟨s, h, .refl s⟩⟩
theorem EnvLe.trans {a b c : Env} (h : EnvLe a b) (k : EnvLe b c) : EnvLe a c := ⟨k.1.trans h.1, fun i s e => by
  obtain ⟨t, e1, l1⟩ := h.2 i s e
  obtain ⟨u, e2, l2⟩ := k.2 i t e1
  exact ⟨u, e2, l1.trans l2⟩⟩
theorem EnvLe.back {env env' : Env} (h : EnvLe env env') {i : Nat} {t : Sl} (e : env'[i]? = some t) : ∃ s, env[i]? = some s ∧ SlLe s t := by
  have hi : i < env.length := by rw [← h.1]; exact (List.getElem?_eq_some_iff.mp e).1
  obtain ⟨t', e1, l⟩ := h.2 i _ (List.getElem?_eq_getElem hi)
  rw [e] at e1; cases e1
  exact ⟨_, List.getElem?_eq_getElem hi, l⟩
theorem EnvLe.hold {env env' : Env} {σ : L2.St} {i : Nat} {a : Addr} (h : EnvLe env env') (k : Hold env' σ i a) : Hold env σ i a := by
  obtain ⟨k1, k2⟩ := k
  refine ⟨?_, k2⟩
  rcases k1 with ⟨d, e⟩ | ⟨d, e⟩
  · obtain ⟨s, e1, l⟩ := h.back e
    cases s with
    | un => cases l
    | sh d => cases l
    | ow d => exact .inl ⟨d, e1⟩
    | bw d => obtain ⟨_, l⟩ := l; cases l
  · obtain ⟨s, e1, l⟩ := h.back e
    cases s with
    | un => cases l
    | sh d => cases l
    | ow d => rcases l with ⟨_, l⟩ | ⟨_, l⟩ <;> cases l
    | bw d => exact .inr ⟨d, e1⟩
theorem EnvLe.owns {env env' : Env} {σ : L2.St} {a : Addr} (h : EnvLe env env') (k : Owns env' σ a) : Owns env σ a := let ⟨i, k⟩ := k; ⟨i, h.hold k⟩
theorem EnvLe.ownsO {env env' : Env} {σ : L2.St} {a : Addr} (h : EnvLe env env') (k : OwnsO env' σ a) : OwnsO env σ a := by
  obtain ⟨i, ⟨d, e⟩, k2⟩ := k
  obtain ⟨s, e1, l⟩ := h.back e
  cases s with
  | un => cases l
  | sh d => cases l
  | ow d => exact ⟨i, ⟨d, e1⟩, k2⟩
  | bw d => obtain ⟨_, l⟩ := l; cases l

/-- what lies around a step: R and H before, behind -/
structure Fr (O OO : Addr → Prop) (R H R' H' : Hp) : Prop where
  ex : Ex R R'
  dom : ∀ a, H a ≠ none → H' a ≠ none
  frame : ∀ a o, H a = some o → ¬ O a → H' a = some o
  keepR : ∀ a, R a = none → H a ≠ none → ¬ OO a → R' a = none
theorem Fr.refl {O OO : Addr → Prop} (R H : Hp) : Fr O OO R H R H := ⟨Ex.refl _, fun _ h => h, fun _ _ h _ => h, fun _ h _ _ => h⟩
theorem Fr.trans {O OO O' OO' : Addr → Prop} {R H R1 H1 R2 H2 : Hp} (h : Fr O OO R H R1 H1) (k : Fr O' OO' R1 H1 R2 H2) (ho : ∀ a, O' a → O a ∨ H a = none) (hoo : ∀ a, OO' a → OO a ∨ H a = none) : Fr O OO R H R2 H2 :=
  ⟨h.ex.trans k.ex, fun a e => k.dom a (h.dom a e), fun a o e n => k.frame a o (h.frame a o e n) (fun z => (ho a z).elim n (fun q => by rw [q] at e; cases e)),
   fun a e1 e2 n => k.keepR a (h.keepR a e1 e2 n) (h.dom a e2) fun z => (hoo a z).elim n e2⟩
theorem Fr.mono {O OO O' OO' : Addr → Prop} {R H R' H' : Hp} (h : Fr O OO R H R' H') (ho : ∀ a, O a → O' a) (hoo : ∀ a, OO a → OO' a) : Fr O' OO' R H R' H' :=
  ⟨h.ex, h.dom, fun a o e n => h.frame a o e fun z => n (ho a z), fun a e1 e2 n => h.keepR a e1 e2 fun z => n (hoo a z)⟩
/-- an expression's step -/
structure ESt (env : Env) (σ : L2.St) (R H : Hp) (env' : Env) (R' H' : Hp) : Prop where
  fr : Fr (Owns env σ) (OwnsO env σ) R H R' H'
  le : EnvLe env env'
theorem ESt.refl (env : Env) (σ : L2.St) (R H : Hp) : ESt env σ R H env R H := ⟨.refl _ _, .refl _⟩
theorem ESt.trans {env env1 env2 : Env} {σ : L2.St} {R H R1 H1 R2 H2 : Hp} (h : ESt env σ R H env1 R1 H1) (k : ESt env1 σ R1 H1 env2 R2 H2) : ESt env σ R H env2 R2 H2 :=
  ⟨h.fr.trans k.fr (fun _ z => .inl (h.le.owns z)) (fun _ z => .inl (h.le.ownsO z)), h.le.trans k.le⟩
/-- a value behind an expression that began at H0 -/
def RvAt (K : PySem.W.Frag) (env : Env) (σ : L2.St) (R H H0 : Hp) (v : V) : Rv → Prop
  | .v d => At K R d v
  | .f d => ∃ a, v = .ref a ∧ H0 a = none ∧ R a = none ∧ Own K R H a d ∧ ¬ Owns env σ a
  | .s i => σ[i]? = some (some v) ∧ ∃ d, env[i]? = some (Sl.ow d) ∨ env[i]? = some (Sl.bw d) ∨ env[i]? = some (Sl.sh d)
theorem RvAt.later {env env' : Env} {σ : L2.St} {H0 : Hp} {v : V} {rv : Rv} (h : RvAt K env σ R H H0 v rv) (st : ESt env σ R H env' R' H') : RvAt K env' σ R' H' H0 v rv := by
  cases rv with
  | v d => exact h.mono st.fr.ex.le
  | f d =>
    obtain ⟨a, h1, h2, h3, h4, h5⟩ := h
    obtain ⟨o, ho, _⟩ := h4.some
    refine ⟨a, h1, h2, st.fr.keepR a h3 h4.ne fun z => h5 z.owns, h4.mono st.fr.ex.le ?_, fun z => h5 (st.le.owns z)⟩
    rw [ho, st.fr.frame a o ho h5]
  | s i =>
    obtain ⟨h1, d, h2⟩ := h
    refine ⟨h1, ?_⟩
    rcases h2 with e | e | e
    · obtain ⟨t, e1, l⟩ := st.le.2 i _ e
      rcases l with ⟨d', rfl⟩ | ⟨d', rfl⟩
      · exact ⟨d', .inl e1⟩
      · exact ⟨d', .inr (.inr e1)⟩
    · obtain ⟨t, e1, ⟨d', rfl⟩⟩ := st.le.2 i _ e
      exact ⟨d', .inr (.inl e1)⟩
    · obtain ⟨t, e1, l⟩ := st.le.2 i _ e
      cases l
      exact ⟨d, .inr (.inr e1)⟩
/-- .. counted from an earlier heap -/
theorem RvAt.since {env : Env} {σ : L2.St} {H0 H1 : Hp} {v : V} {rv : Rv} (h : RvAt K env σ R H H1 v rv) (dom : ∀ a, H0 a ≠ none → H1 a ≠ none) : RvAt K env σ R H H0 v rv := by
  cases rv with
  | v d => exact h
  | f d =>
    obtain ⟨a, h1, h2, h3⟩ := h
    exact ⟨a, h1, Classical.byContradiction fun z => dom a z h2, h3⟩
  | s i => exact h
theorem RvAt.pk {env : Env} {σ : L2.St} {H0 : Hp} {v : V} {rv : Rv} {d : D} (rep : Rep K env σ R H) (h : RvAt K env σ R H H0 v rv) (e : Mi.pk env rv = some d) : Pk K R H d v := by
  cases rv with
  | v d' => cases e; exact .inl h
  | f d' => cases e; obtain ⟨a, h1, _, _, h4, _⟩ := h; exact .inr ⟨a, h1, h4⟩
  | s i =>
    obtain ⟨h1, d', h2⟩ := h
    unfold Mi.pk at e
    rcases h2 with h2 | h2 | h2
    · simp only [h2] at e; cases e
      obtain ⟨a, e1, _, e3⟩ := rep.ow i d (.inl h2)
      rw [h1] at e1; cases e1
      exact .inr ⟨a, rfl, e3⟩
    · simp only [h2] at e; cases e
      obtain ⟨a, e1, _, e3⟩ := rep.ow i d (.inr h2)
      rw [h1] at e1; cases e1
      exact .inr ⟨a, rfl, e3⟩
    · simp only [h2] at e; cases e
      obtain ⟨w, e1, e2⟩ := rep.sh i d h2
      rw [h1] at e1; cases e1
      exact .inl e2
theorem Rep.with {env : Env} {σ : L2.St} {o : HO} {a : Addr} (rep : Rep K env σ R H) (ho : H a = some o) (hn : R a = none) (hf : ¬ Owns env σ a) : Rep K env σ (upd R a o) H := by
  refine ⟨rep.len, fun b u e => ?_, fun i d e => ?_, fun i d e => ?_, rep.ne⟩
  · by_cases hb : b = a
    · subst hb; rw [upd_same] at e; cases e; exact ho
    · rw [upd_ne hb] at e; exact rep.ex b u e
  · obtain ⟨v, e1, e2⟩ := rep.sh i d e
    exact ⟨v, e1, e2.mono (Ex.new hn).le⟩
  · obtain ⟨b, e1, e2, e3⟩ := rep.ow i d e
    have : b ≠ a := by
      rintro rfl
      refine hf ⟨i, ?_, e1⟩
      rcases e with e | e
      · exact .inl ⟨d, e⟩
      · exact .inr ⟨d, e⟩
    exact ⟨b, e1, by rw [upd_ne this]; exact e2, e3.mono (Ex.new hn).le rfl⟩
/-- a value is taken to be shared; all from an expression's start -/
theorem RvAt.take {env0 env env' : Env} {σ : L2.St} {R0 H0 : Hp} {v : V} {rv : Rv} {d : D} (rep : Rep K env σ R H) (st : ESt env0 σ R0 H0 env R H) (h : RvAt K env σ R H H0 v rv) (e : Mi.take env rv = some (d, env')) :
    ∃ R', Rep K env' σ R' H ∧ ESt env0 σ R0 H0 env' R' H ∧ At K R' d v := by
  cases rv with
  | v d' => cases e; exact ⟨R, rep, st, h⟩
  | f d' =>
    cases e
    obtain ⟨a, rfl, h2, h3, h4, h5⟩ := h
    obtain ⟨o, ho, _⟩ := h4.some
    refine ⟨upd R a o, rep.with ho h3 h5, ⟨⟨st.fr.ex.trans (Ex.new h3), st.fr.dom, st.fr.frame, fun b e1 e2 n => ?_⟩, st.le⟩, h4.share ho h3⟩
    have : b ≠ a := by rintro rfl; exact e2 h2
    rw [upd_ne this]
    exact st.fr.keepR b e1 e2 n
  | s i =>
    obtain ⟨h1, d', h2⟩ := h
    unfold Mi.take at e
    rcases h2 with h2 | h2 | h2
    · simp only [h2] at e
      obtain ⟨rfl, rfl⟩ : d' = d ∧ env.set i (.sh d') = env' := by cases e; exact ⟨rfl, rfl⟩
      obtain ⟨a, e1, e2, e3⟩ := rep.ow i d' (.inl h2)
      rw [h1] at e1; cases e1
      obtain ⟨o, ho, _⟩ := e3.some
      have hi : i < env.length := (List.getElem?_eq_some_iff.mp h2).1
      have le1 : EnvLe env (env.set i (.sh d')) := ⟨List.length_set, fun j s ej => by
        by_cases hj : j = i
        · subst hj
          rw [h2] at ej; cases ej
          exact ⟨_, List.getElem?_set_self hi, .inr ⟨d', rfl⟩⟩
        · exact ⟨s, by rw [List.getElem?_set_ne (Ne.symm hj)]; exact ej, .refl s⟩⟩
      have noh : ∀ j, ¬ Hold (env.set i (.sh d')) σ j a := fun j hj => by
        have : j = i := rep.ne j i a (le1.hold hj) ⟨.inl ⟨d', h2⟩, h1⟩
        subst this
        obtain ⟨hj, _⟩ := hj
        rw [List.getElem?_set_self hi] at hj
        rcases hj with ⟨_, z⟩ | ⟨_, z⟩ <;> cases z
      have sh : At K (upd R a o) d' (.ref a) := e3.share ho e2
      refine ⟨upd R a o, ⟨by rw [List.length_set]; exact rep.len, fun b u e => ?_, fun j d e => ?_, fun j d e => ?_, fun j k b hj hk => rep.ne j k b (le1.hold hj) (le1.hold hk)⟩, ⟨⟨st.fr.ex.trans (Ex.new e2), st.fr.dom, st.fr.frame, fun b q1 q2 n => ?_⟩, st.le.trans le1⟩, sh⟩
      · by_cases hb : b = a
        · subst hb; rw [upd_same] at e; cases e; exact ho
        · rw [upd_ne hb] at e; exact rep.ex b u e
      · by_cases hj : j = i
        · subst hj
          rw [List.getElem?_set_self hi] at e; cases e
          exact ⟨_, h1, sh⟩
        · rw [List.getElem?_set_ne (Ne.symm hj)] at e
          obtain ⟨w, q1, q2⟩ := rep.sh j d e
          exact ⟨w, q1, q2.mono (Ex.new e2).le⟩
      · have hj : j ≠ i := by
          rintro rfl
          rw [List.getElem?_set_self hi] at e
          rcases e with e | e <;> cases e
        have e' := e
        rw [List.getElem?_set_ne (Ne.symm hj)] at e
        obtain ⟨b, q1, q2, q3⟩ := rep.ow j d e
        have : b ≠ a := by
          rintro rfl
          refine noh j ⟨?_, q1⟩
          rcases e' with e' | e'
          · exact .inl ⟨d, e'⟩
          · exact .inr ⟨d, e'⟩
        exact ⟨b, q1, by rw [upd_ne this]; exact q2, q3.mono (Ex.new e2).le rfl⟩
      · have : b ≠ a := by
          rintro rfl
          exact n (st.le.ownsO ⟨i, ⟨d', h2⟩, h1⟩)
        rw [upd_ne this]
        exact st.fr.keepR b q1 q2 n
    · simp only [h2] at e; cases e
    · simp only [h2] at e
      obtain ⟨rfl, rfl⟩ : d' = d ∧ env = env' := by cases e; exact ⟨rfl, rfl⟩
      obtain ⟨w, e1, e2⟩ := rep.sh i d' h2
      rw [h1] at e1; cases e1
      exact ⟨R, rep, st, e2⟩
end
end Mi

end

section
set_option linter.all false
set_option maxRecDepth 100000
set_option maxHeartbeats 4000000
/-! a tuple once -/
namespace Mi
open PySem PySem.Spec PyProof.Rows L2
theorem tuple_mul1 (l : Addr) (items : Array Value) (n : Nat) (dd : Option Addr) (sl : Array (Option Value)) (u : Tok) :
    Meets (Builtin.«tuple.__mul__» ⟨[.ref l, .int 1 u], []⟩) (fun _ R s => s.heap.get? l = some { cls := .type "tuple", dict := dd, data := .seq items n, slots := sl } ∧
      R (.ok (.ret (Value.ref l))) s) :=
  .of_wp fun prog w A R s h => by
    obtain ⟨hp, g, d, tk, os⟩ := s
    obtain ⟨hl, h⟩ := h
    have f1 := AutoSeq1.idx_int
    have c1 : (items.isEmpty || (1 : Int) == 1) = true := by simp
    wp_walk using wpAny_loadPart' hl
    exact ⟨_, rfl, h⟩
section
variable {X : Cx}
theorem op_repT1 : OpR X (binaryOp .Mult) (fun x y H Q => ∃ l xs, x = .ref l ∧ y = .int 1 ∧ SqT X.K H l xs ∧ Q (.ref l) H) := by
  intro pins s σ H x y v u Q I rx ry h
  obtain ⟨l, xs, rfl, rfl, hT, q⟩ := h
  cases rx
  obtain ⟨t, rfl⟩ := ry
  obtain ⟨its, r, ⟨⟨cls, dd, data, sl⟩, ho, hc, n, hd⟩, hs⟩ := I.tuple hT
  simp only at hc hd
  subst hc hd
  exact wpAny_binaryOp_repeat_ref (T := "tuple") (U := "int") (by decide) ⟨_, ho, rfl⟩ (fun s' => typeIs_int s' 1 t) noFill_tuple_mul F.fills_int_mul F.slot_int_rmul repeat_tuple F.slot_int_index.lookup
    (call_meets F.slot_int_rmul (typeIs_int s 1 t) F.entry_int_rmul (F.args_int_rmul_2 _ _) (int_rmul_tuple 1 t l its.toArray n dd sl)
      ⟨ho, rfl, ⟨_, ho, rfl⟩, call_meets F.slot_tuple_mul ⟨_, ho, rfl⟩ F.entry_tuple_mul (F.args_tuple_mul_2 _ _) (tuple_mul1 l its.toArray n dd sl t) ⟨ho, .ref l, H, I, rfl, q⟩⟩)
end
end Mi

end

section
set_option linter.all false
set_option maxRecDepth 100000
/-! Mi2: operations on values -/
namespace Mi
open PySem PySem.Spec PyProof.Rows L2

/-- only new objects came -/
structure Al (R H R' H' : Hp) : Prop where
  ex : Ex R R'
  exH : Ex H H'
  sub : Ex R' H'
  keep : ∀ a, R a = none → H a ≠ none → R' a = none
theorem Al.refl {R H : Hp} (e : Ex R H) : Al R H R H := ⟨.refl _, .refl _, e, fun _ h _ => h⟩
/-- a new shared object -/
theorem Al.sh {R H : Hp} {p : Addr} {o : HO} (e : Ex R H) (h : H p = none) : Al R H (upd R p o) (upd H p o) := by
  have hr : R p = none := by
    cases q : R p with
    | none => rfl
    | some u => rw [e p u q] at h; cases h
  refine ⟨.new hr, .new h, fun a u q => ?_, fun a q n => ?_⟩
  · by_cases ha : a = p
    · subst ha; rw [upd_same] at q ⊢; exact q
    · rw [upd_ne ha] at q ⊢; exact e a u q
  · have ha : a ≠ p := by rintro rfl; exact n h
    rw [upd_ne ha]; exact q
/-- a new object of nobody -/
theorem Al.fr {R H : Hp} {p : Addr} {o : HO} (e : Ex R H) (h : H p = none) : Al R H R (upd H p o) := ⟨.refl _, .new h, e.trans (.new h), fun _ q _ => q⟩
theorem Al.rep {K : PySem.W.Frag} {env : Env} {σ : L2.St} {R H R' H' : Hp} (a : Al R H R' H') (r : Rep K env σ R H) : Rep K env σ R' H' := by
  refine ⟨r.len, a.sub, fun i d e => ?_, fun i d e => ?_, r.ne⟩
  · obtain ⟨v, h1, h2⟩ := r.sh i d e
    exact ⟨v, h1, h2.mono a.ex.le⟩
  · obtain ⟨b, h1, h2, h3⟩ := r.ow i d e
    obtain ⟨o, ho, _⟩ := h3.some
    exact ⟨b, h1, a.keep b h2 h3.ne, h3.mono a.ex.le (by rw [ho, a.exH b o ho])⟩
theorem Al.st {env : Env} {σ : L2.St} {R H R' H' : Hp} (a : Al R H R' H') : ESt env σ R H env R' H' :=
  have d : ∀ b, H b ≠ none → H' b ≠ none := fun b h => by
    cases q : H b with
    | none => exact absurd q h
    | some o => rw [a.exH b o q]; exact fun z => nomatch z
  ⟨⟨a.ex, d, fun b o h _ => a.exH b o h, fun b h n _ => a.keep b h n⟩, .refl _⟩
/-- an operation's answer -/
def RO (K : PySem.W.Frag) (R H H0 : Hp) (v : V) : Rv → Prop
  | .v d => At K R d v
  | .f d => ∃ a, v = .ref a ∧ H0 a = none ∧ R a = none ∧ Own K R H a d
  | .s _ => False
theorem RO.at {K : PySem.W.Frag} {env : Env} {σ : L2.St} {R H R0 H0 : Hp} {v : V} {r : Rv} (rep : Rep K env σ R0 H0) (h : RO K R H H0 v r) : RvAt K env σ R H H0 v r := by
  cases r with
  | v d => exact h
  | f d =>
    obtain ⟨a, h1, h2, h3, h4⟩ := h
    refine ⟨a, h1, h2, h3, h4, fun ⟨i, k1, k2⟩ => ?_⟩
    rcases k1 with ⟨d', e⟩ | ⟨d', e⟩
    · obtain ⟨b, e1, _, e3⟩ := rep.ow i d' (.inl e)
      rw [k2] at e1; cases e1
      exact e3.ne h2
    · obtain ⟨b, e1, _, e3⟩ := rep.ow i d' (.inr e)
      rw [k2] at e1; cases e1
      exact e3.ne h2
  | s i => exact h.elim
/-- how an answer is handed on -/
def Fin (K : PySem.W.Frag) (R H : Hp) (r : Rv) (Q : VK) : Prop := ∀ v R' H', Al R H R' H' → RO K R' H' H v r → Q v H'
section
variable {K : PySem.W.Frag} {R H : Hp} {Q : VK}
theorem Fin.sc {d : D} {v : V} (e : Ex R H) (q : Fin K R H (.v d) Q) (h : At K R d v) : Q v H := q v R H (.refl e) h
theorem Fin.lst {ds : List D} {vs : List V} (e : Ex R H) (q : Fin K R H (.f (.lst ds)) Q) (h : AtL K R ds vs) : ∀ p, H p = none → Q (.ref p) (upd H p (.lst vs)) := fun p hp => by
  have hr : R p = none := by
    cases h' : R p with
    | none => rfl
    | some u => rw [e p u h'] at hp; cases hp
  exact q _ R _ (.fr e hp) ⟨p, rfl, hp, hr, vs, upd_same, h⟩
theorem Fin.tup {ds : List D} {vs : List V} (e : Ex R H) (q : Fin K R H (.v (.tup ds)) Q) (h : AtL K R ds vs) : ∀ p, H p = none → Q (.ref p) (upd H p (.tup vs)) := fun p hp => by
  have a := Al.sh (o := .tup vs) e hp
  exact q _ _ _ a ⟨p, vs, rfl, .inl (.inl upd_same), h.mono a.ex.le⟩
end

def rB (K : PySem.W.Frag) (f : D → D → Option Rv) : R2 := fun x y H Q => ∃ R dx dy r, Ex R H ∧ Pk K R H dx x ∧ Pk K R H dy y ∧ f dx dy = some r ∧ Fin K R H r Q
section
variable {X : Cx}
theorem add_tup {x y : V} {v u : Value} {pins : List (Addr × Obj)} {σ : L2.St} {H R : Hp} {s : Shared} {Q : VK} {as bs : List D} (I : Inv X pins σ H s) (rx : RelV x v) (ry : RelV y u) (e : Ex R H)
    (h1 : Pk X.K R H (.tup as) x) (h2 : Pk X.K R H (.tup bs) y) (hz : as.length + bs.length ≤ sizeLine) (q : Fin X.K R H (.v (.tup (as ++ bs))) Q) : wpAny (model X.prog X.w) X.A (binaryOp .Add v u) (EP X pins σ Q) X.xe s := by
  have h1' := h1; have h2' := h2
  obtain ⟨a, xs, rfl, hx, ax⟩ := h1.tup e
  obtain ⟨b, ys, rfl, hy, ay⟩ := h2.tup e
  have lx := ax.length
  have ly := ay.length
  refine op_catA pins s σ H _ _ v u Q I rx ry ⟨a, b, xs, ys, rfl, rfl, hx, hy, by omega, fun z => ?_, fun z1 z => ?_, fun _ _ => q.tup e (ax.append ay)⟩
  · have : as = [] := List.length_eq_zero_iff.mp (by rw [lx, z]; rfl)
    subst this
    exact q.sc e (show At X.K R (.tup bs) (.ref b) from by
      rcases h2' with h | ⟨_, _, h⟩
      · exact h
      · exact h.elim)
  · have : bs = [] := List.length_eq_zero_iff.mp (by rw [ly, z]; rfl)
    subst this
    rw [List.append_nil] at q
    exact q.sc e (show At X.K R (.tup as) (.ref a) from by
      rcases h1' with h | ⟨_, _, h⟩
      · exact h
      · exact h.elim)
theorem mulOk_op {i j : Int} (h : mulOk i j = true) : CMul i j ∨ CMulW i j := by
  unfold mulOk at h
  simp only [Bool.or_eq_true, Bool.and_eq_true, decide_eq_true_eq] at h
  rcases h with (h | h) | ⟨h, k⟩
  · exact .inl (.inl (by omega))
  · exact .inl (.inr (by omega))
  · exact .inr (wide_mul h k (by decide) (by decide) (by decide))
theorem ob {op : Operator} : OpR X (binaryOp op) (rB X.K (binop op)) := by
  intro pins s σ H x y v u Q I rx ry h
  obtain ⟨R, dx, dy, r, e, h1, h2, hf, q⟩ := h
  unfold binop at hf
  split at hf
  · cases hf; exact op_add pins s σ H x y v u Q I rx ry ⟨_, _, h1.int, h2.int, q.sc e rfl⟩
  · split at hf
    · cases hf; exact op_add_str pins s σ H x y v u Q I rx ry ⟨_, _, h1.str, h2.str, by assumption, q.sc e rfl⟩
    · cases hf
  · split at hf
    · rename_i hz
      cases hf
      obtain ⟨a, xs, rfl, hx, ax⟩ := h1.lst e
      obtain ⟨b, ys, rfl, hy, ay⟩ := h2.lst e
      exact op_cat pins s σ H _ _ v u Q I rx ry ⟨a, b, xs, ys, rfl, rfl, hx, hy, by rw [← ax.length, ← ay.length]; exact hz, q.lst e (ax.append ay)⟩
    · cases hf
  · split at hf
    · rename_i hz
      cases hf
      exact add_tup I rx ry e h1 h2 hz q
    · cases hf
  · cases hf; exact op_sub pins s σ H x y v u Q I rx ry ⟨_, _, h1.int, h2.int, q.sc e rfl⟩
  · split at hf
    · rename_i hm
      cases hf
      rcases mulOk_op hm with c | c
      · exact op_mul pins s σ H x y v u Q I rx ry ⟨_, _, h1.int, h2.int, c, q.sc e rfl⟩
      · exact op_mulW pins s σ H x y v u Q I rx ry ⟨_, _, h1.int, h2.int, c, q.sc e rfl⟩
    · cases hf
  · split at hf
    · rename_i hz
      cases hf
      obtain ⟨a, xs, rfl, hx, ax⟩ := h1.lst e
      exact op_rep pins s σ H _ _ v u Q I rx ry ⟨a, _, xs, rfl, h2.int, hx, hz.1, hz.2.1, by rw [← ax.length]; exact hz.2.2, q.lst e (ax.rep _)⟩
    · cases hf
  · split at hf
    · rename_i hk
      cases hf
      subst hk
      rename_i ds0
      have h' : At X.K R (.tup ds0) x := by
        rcases h1 with z | ⟨_, _, z⟩
        · exact z
        · exact z.elim
      obtain ⟨a, xs, rfl, hx, ax⟩ := h1.tup e
      have e2 := h2.int
      subst e2
      exact op_repT1 pins s σ H _ _ v u Q I rx ry ⟨a, xs, rfl, rfl, hx, q.sc e h'⟩
    · split at hf
      · rename_i hz
        cases hf
        obtain ⟨a, xs, rfl, hx, ax⟩ := h1.tup e
        have e2 := h2.int
        subst e2
        exact op_repT pins s σ H _ _ v u Q I rx ry ⟨a, _, xs, rfl, rfl, hx, fun z => hz.2.2.2 (by have := ax.length; rw [z] at this; exact List.eq_nil_of_length_eq_zero this), hz.1, hz.2.1, by rw [← ax.length]; exact hz.2.2.1, q.tup e (ax.rep _)⟩
      · cases hf
  · split at hf
    · cases hf; exact op_mod pins s σ H x y v u Q I rx ry ⟨_, _, h1.int, h2.int, by assumption, q.sc e rfl⟩
    · split at hf
      · cases hf; exact op_modN pins s σ H x y v u Q I rx ry ⟨_, _, h1.int, h2.int, by assumption, q.sc e rfl⟩
      · cases hf
  · split at hf
    · rename_i hz
      cases hf; exact op_fdivW pins s σ H x y v u Q I rx ry ⟨_, _, h1.int, h2.int, wide_div (b := 8000) hz.1 (by omega) (by decide) (by decide), q.sc e rfl⟩
    · cases hf
  · split at hf
    · cases hf; exact op_pow pins s σ H x y v u Q I rx ry ⟨_, _, h1.int, h2.int, by assumption, q.sc e rfl⟩
    · cases hf
  · split at hf
    · cases hf; exact op_shl pins s σ H x y v u Q I rx ry ⟨_, _, h1.int, h2.int, by assumption, q.sc e rfl⟩
    · cases hf
  · split at hf
    · cases hf; exact op_shr pins s σ H x y v u Q I rx ry ⟨_, _, h1.int, h2.int, by assumption, q.sc e rfl⟩
    · cases hf
  · cases hf; exact op_and pins s σ H x y v u Q I rx ry ⟨_, _, h1.int, h2.int, q.sc e rfl⟩
  · cases hf

/-! ### comparisons -/
mutual
theorem toPy_shp : ∀ (d : D), (toPy d).canLay0 = shp d
  | .non | .bl _ | .int _ | .str _ => by simp only [toPy, PyData.canLay0, shp]
  | .tup ds | .lst ds => by simp only [toPy, PyData.canLay0, shp]; exact toPyL_shp ds
  | .dct _ _ | .set _ | .scr _ => by simp only [toPy, PyData.canLay0, shp]
theorem toPyL_shp : ∀ (ds : List D), PyData.canLayAll0 (toPyL ds) = shpL ds
  | [] => by simp only [toPyL, PyData.canLayAll0, shpL]
  | d :: ds => by simp only [toPyL, PyData.canLayAll0, shpL, toPy_shp d, toPyL_shp ds]
end
mutual
theorem toPy_deep : ∀ (d : D), shp d = true → (toPy d).depth = deep d
  | .non, _ | .bl _, _ | .int _, _ | .str _, _ => by simp only [toPy, PyData.depth, deep]
  | .tup ds, h | .lst ds, h => by simp only [toPy, PyData.depth, deep]; rw [toPyL_deep ds (by simpa only [shp] using h)]
  | .dct _ _, h | .set _, h | .scr _, h => by simp [shp] at h
theorem toPyL_deep : ∀ (ds : List D), shpL ds = true → PyData.depthAll (toPyL ds) = deepL ds
  | [], _ => by simp only [toPyL, PyData.depthAll, deepL]
  | d :: ds, h => by
    simp only [shpL, Bool.and_eq_true] at h
    simp only [toPyL, PyData.depthAll, deepL, toPy_deep d h.1, toPyL_deep ds h.2]
end
theorem toPy_shaped {d : D} (h : shaped d = true) : SeqAt.shaped (toPy d) = true := by
  unfold shaped at h
  simp only [Bool.and_eq_true, decide_eq_true_eq] at h
  unfold SeqAt.shaped
  rw [toPy_shp, h.1, toPy_deep d h.1, decide_eq_true h.2]; rfl
mutual
theorem toPy_eqv : ∀ (a b : D), shp a = true → shp b = true → PyData.eqv (toPy a) (toPy b) = deq a b
  | a, b, ha, hb => by
    cases a <;> cases b <;> first
      | (simp [shp] at ha; done)
      | (simp [shp] at hb; done)
      | (simp only [toPy, PyData.eqv, deq]; done)
      | (simp only [toPy, PyData.eqv, deq]; exact toPyL_eqv _ _ (by simpa only [shp] using ha) (by simpa only [shp] using hb))
theorem toPyL_eqv : ∀ (a b : List D), shpL a = true → shpL b = true → PyData.eqvAll (toPyL a) (toPyL b) = deqL a b
  | [], [], _, _ => by simp only [toPyL, PyData.eqvAll, deqL]
  | x :: xs, y :: ys, ha, hb => by
    simp only [shpL, Bool.and_eq_true] at ha hb
    simp only [toPyL, PyData.eqvAll, deqL, toPy_eqv x y ha.1 hb.1, toPyL_eqv xs ys ha.2 hb.2]
  | [], _ :: _, _, _ => by simp only [toPyL, PyData.eqvAll, deqL]
  | _ :: _, [], _, _ => by simp only [toPyL, PyData.eqvAll, deqL]
end
end
end Mi

end

section
set_option linter.all false
set_option maxRecDepth 100000
/-! Mi3: comparisons, truth, subscripts, slices -/
namespace Mi
open PySem PySem.Spec PyProof.Rows L2

section
variable {K : PySem.W.Frag} {R H : Hp}
mutual
theorem At.dp (e : Ex R H) : ∀ {d : D} {v : V}, shp d = true → At K R d v → Dp K H v (toPy d)
  | .non, _, _, h => by cases h; exact .non
  | .bl _, _, _, h => by cases h; exact .bl _
  | .int _, _, _, h => by cases h; exact .int _
  | .str _, _, _, h => by cases h; exact .str _
  | .tup ds, _, s, ⟨a, vs, h1, h2, h3⟩ => by
    subst h1
    simp only [toPy]
    exact .tup (le_st e.le h2) (AtL.dp e (by simpa only [shp] using s) h3)
  | .lst ds, _, s, ⟨a, vs, h1, h2, h3⟩ => by
    subst h1
    simp only [toPy]
    exact .lst (.inl (.inl (e _ _ h2))) (AtL.dp e (by simpa only [shp] using s) h3)
  | .dct _ _, _, s, _ | .set _, _, s, _ | .scr _, _, s, _ => by simp [shp] at s
theorem AtL.dp (e : Ex R H) : ∀ {ds : List D} {vs : List V}, shpL ds = true → AtL K R ds vs → DpAll K H vs (toPyL ds)
  | [], _, _, h => by cases (show _ = ([] : List V) from h); exact .nil
  | d :: ds, _, s, ⟨v, r, h1, h2, h3⟩ => by
    subst h1
    simp only [shpL, Bool.and_eq_true] at s
    exact .cons (At.dp e s.1 h2) (AtL.dp e s.2 h3)
end
theorem Pk.dp {d : D} {v : V} (e : Ex R H) (s : shp d = true) (h : Pk K R H d v) : Dp K H v (toPy d) := by
  rcases h with h | ⟨a, rfl, h⟩
  · exact h.dp e s
  · cases d with
    | lst ds =>
      obtain ⟨vs, h1, h2⟩ := h
      simp only [toPy]
      exact .lst (.inl (.inl h1)) (h2.dp e (by simpa only [shp] using s))
    | dct ks ws => simp [shp] at s
    | _ => exact h.elim
theorem shp_of {d : D} (h : shaped d = true) : shp d = true := by
  unfold shaped at h; simp only [Bool.and_eq_true] at h; exact h.1
theorem shaped_list {ds : List D} (h : ds.all shaped = true) : shpL ds = true ∧ deepL ds ≤ 64 := by
  induction ds with
  | nil => exact ⟨by simp only [shpL], by simp [deepL]⟩
  | cons d ds ih =>
    simp only [List.all_cons, Bool.and_eq_true] at h
    obtain ⟨h1, h2⟩ := ih h.2
    have h3 := h.1
    unfold shaped at h3
    simp only [Bool.and_eq_true, decide_eq_true_eq] at h3
    exact ⟨by simp only [shpL, h1, h3.1, Bool.and_self], by simp only [deepL]; omega⟩
theorem any_py {x : D} (hx : shp x = true) : ∀ {ds : List D}, shpL ds = true → ((toPyL ds).any fun z => PyData.eqv z (toPy x)) = ds.any fun y => deq y x
  | [], _ => rfl
  | d :: ds, h => by
    simp only [shpL, Bool.and_eq_true] at h
    simp only [toPyL, List.any_cons, toPy_eqv d x h.1 hx, any_py hx h.2]
theorem dInts_eq : ∀ {ds : List D} {ns : List Int}, dInts ds = some ns → ds = ns.map D.int
  | [], ns, h => by cases h; rfl
  | .int i :: ds, ns, h => by
    simp only [dInts, Option.map_eq_some_iff] at h
    obtain ⟨ms, h1, rfl⟩ := h
    rw [dInts_eq h1]; rfl
  | .non :: _, _, h | .bl _ :: _, _, h | .str _ :: _, _, h | .tup _ :: _, _, h | .lst _ :: _, _, h | .dct _ _ :: _, _, h | .set _ :: _, _, h | .scr _ :: _, _, h => by simp [dInts] at h
theorem dBools_eq : ∀ {ds : List D} {ns : List Bool}, dBools ds = some ns → ds = ns.map D.bl
  | [], ns, h => by cases h; rfl
  | .bl i :: ds, ns, h => by
    simp only [dBools, Option.map_eq_some_iff] at h
    obtain ⟨ms, h1, rfl⟩ := h
    rw [dBools_eq h1]; rfl
  | .non :: _, _, h | .int _ :: _, _, h | .str _ :: _, _, h | .tup _ :: _, _, h | .lst _ :: _, _, h | .dct _ _ :: _, _, h | .set _ :: _, _, h | .scr _ :: _, _, h => by simp [dBools] at h
theorem dStrs_eq : ∀ {ds : List D} {ns : List Str}, dStrs ds = some ns → ds = ns.map D.str
  | [], ns, h => by cases h; rfl
  | .str i :: ds, ns, h => by
    simp only [dStrs, Option.map_eq_some_iff] at h
    obtain ⟨ms, h1, rfl⟩ := h
    rw [dStrs_eq h1]; rfl
  | .non :: _, _, h | .bl _ :: _, _, h | .int _ :: _, _, h | .tup _ :: _, _, h | .lst _ :: _, _, h | .dct _ _ :: _, _, h | .set _ :: _, _, h | .scr _ :: _, _, h => by simp [dStrs] at h
theorem AtL.ofInts : ∀ {ns : List Int} {vs : List V}, AtL K R (ns.map D.int) vs → vs = ns.map V.int
  | [], _, h => h
  | n :: ns, _, ⟨v, r, h1, h2, h3⟩ => by rw [h1, show v = V.int n from h2, AtL.ofInts h3]; rfl
theorem AtL.ofBools : ∀ {ns : List Bool} {vs : List V}, AtL K R (ns.map D.bl) vs → vs = ns.map V.bl
  | [], _, h => h
  | n :: ns, _, ⟨v, r, h1, h2, h3⟩ => by rw [h1, show v = V.bl n from h2, AtL.ofBools h3]; rfl
theorem AtL.ofStrs : ∀ {ns : List Str} {vs : List V}, AtL K R (ns.map D.str) vs → vs = ns.map V.str
  | [], _, h => h
  | n :: ns, _, ⟨v, r, h1, h2, h3⟩ => by rw [h1, show v = V.str n from h2, AtL.ofStrs h3]; rfl
theorem AtL.toInts : ∀ (ns : List Int), AtL K R (ns.map D.int) (ns.map V.int)
  | [] => AtL.nil
  | n :: ns => .cons (show At K R (.int n) (.int n) from rfl) (AtL.toInts ns)
theorem AtL.toStrs : ∀ (ns : List Str), AtL K R (ns.map D.str) (ns.map V.str)
  | [] => AtL.nil
  | n :: ns => .cons (show At K R (.str n) (.str n) from rfl) (AtL.toStrs ns)
end

def rC (K : PySem.W.Frag) (f : D → D → Option Bool) : R2 := fun x y H Q => ∃ R dx dy r, Ex R H ∧ Pk K R H dx x ∧ Pk K R H dy y ∧ f dx dy = some r ∧ Q (.bl r) H
section
variable {X : Cx}
theorem is_bl_gen {M : Model} {A : Around} {E : Value → Shared → Prop} {s : Shared} {Q : Value → Shared → Prop} {x : V} {v : Value} {b : Bool} (rx : RelV x v) (h : Q (.bool (v == .bool b)) s) : wpAny M A (compareOp .Is v (.bool b)) Q E s := by
  cases x <;> first
    | (cases rx; exact wpAny_pure h)
    | (obtain ⟨t, rfl⟩ := rx; exact wpAny_pure h)
theorem isnot_bl_gen {M : Model} {A : Around} {E : Value → Shared → Prop} {s : Shared} {Q : Value → Shared → Prop} {x : V} {v : Value} {b : Bool} (rx : RelV x v) (h : Q (.bool (!(v == .bool b))) s) : wpAny M A (compareOp .IsNot v (.bool b)) Q E s := by
  cases x <;> first
    | (cases rx; exact wpAny_pure h)
    | (obtain ⟨t, rfl⟩ := rx; exact wpAny_pure h)
/-- a value that stands for data that is no bool -/
theorem Pk.nobl {K : PySem.W.Frag} {R H : Hp} {d : D} {v : V} {u : Value} (h : Pk K R H d v) (r : RelV v u) (n : ∀ b, d ≠ .bl b) (b : Bool) : (u == Value.bool b) = false := by
  have aux : ∀ a : Addr, v = .ref a → (u == Value.bool b) = false := fun a e => by subst e; cases r; rfl
  rcases h with h | ⟨a, e, _⟩
  · cases d with
    | non => cases h; cases r; rfl
    | bl c => exact absurd rfl (n c)
    | int i => cases h; obtain ⟨t, rfl⟩ := r; rfl
    | str i => cases h; obtain ⟨t, rfl⟩ := r; rfl
    | tup ds => obtain ⟨a, _, e, _⟩ := h; exact aux a e
    | lst ds => obtain ⟨a, _, e, _⟩ := h; exact aux a e
    | dct ks ws => obtain ⟨a, e, _⟩ := h; exact aux a e
    | set ds => exact h.elim
    | scr ns => obtain ⟨a, e, _⟩ := h; exact aux a e
  · exact aux a e
theorem Pk.nonone {K : PySem.W.Frag} {R H : Hp} {d : D} {v : V} (h : Pk K R H d v) (n : d ≠ .non) : decide (v = .non) = false := by
  have aux : ∀ a : Addr, v = .ref a → decide (v = V.non) = false := fun a e => by subst e; rfl
  rcases h with h | ⟨a, e, _⟩
  · cases d with
    | non => exact absurd rfl n
    | bl c => cases h; rfl
    | int i => cases h; rfl
    | str i => cases h; rfl
    | tup ds => obtain ⟨a, _, e, _⟩ := h; exact aux a e
    | lst ds => obtain ⟨a, _, e, _⟩ := h; exact aux a e
    | dct ks ws => obtain ⟨a, e, _⟩ := h; exact aux a e
    | set ds => exact h.elim
    | scr ns => obtain ⟨a, e, _⟩ := h; exact aux a e
  · exact aux a e
theorem cmpb_iff {a b : D} (h : cmpb a b = true) : shaped a = true ∧ shaped b = true ∧ PySem.W.alike (toPy a) (toPy b) = true ∧ toPy a ≠ .none := by
  unfold cmpb at h
  simp only [Bool.and_eq_true, Bool.not_eq_true'] at h
  obtain ⟨⟨⟨h1, h2⟩, h3⟩, h4⟩ := h
  refine ⟨h1, h2, h3, fun z => ?_⟩
  cases a <;> simp [toPy, isNon] at z h4
theorem cmp_room {A : Around} {a : D} {y : PyData} (hu : A.units + 65 < cLine) (h : shaped a = true) : A.units + min (toPy a).depth y.depth < cLine := by
  have h2 : shp a = true ∧ deep a ≤ 64 := by
    unfold shaped at h
    simpa only [Bool.and_eq_true, decide_eq_true_eq] using h
  have h3 := toPy_deep a h2.1
  omega
theorem kD_of {k : D} (h : keyD k = true) : ∃ q : Key, k = kD q := by
  cases k <;> first | exact ⟨.inl _, rfl⟩ | exact ⟨.inr _, rfl⟩ | (simp [keyD] at h)
theorem kD_inj {a b : Key} (h : kD a = kD b) : a = b := by
  rcases a with a | a <;> rcases b with b | b <;> simp [kD] at h <;> rw [h]
theorem Pk.key {K : PySem.W.Frag} {R H : Hp} {k : Key} {v : V} (h : Pk K R H (kD k) v) : v = kV k := by
  rcases k with k | k
  · exact h.int
  · exact h.str
theorem dget_ok {K : PySem.W.Frag} {R : Hp} {k : Key} {d : D} : ∀ {kl : List (Key × V)} {ws : List D}, AtL K R ws (kl.map (·.2)) → dGet (kl.map fun p => kD p.1) ws (kD k) = some d → ∃ v, valV kl k = some v ∧ At K R d v
  | [], ws, _, h => by simp [dGet] at h
  | p :: kl, [], h, _ => by cases (show (_ :: _ : List V) = [] from h)
  | p :: kl, w :: ws, h, e => by
    obtain ⟨v, r, h1, h2, h3⟩ := h
    obtain ⟨rfl, rfl⟩ := List.cons.inj h1
    simp only [List.map_cons, dGet] at e
    by_cases q : p.1 = k
    · rw [if_pos (by rw [q])] at e
      cases e
      exact ⟨_, valV_pos q, h2⟩
    · rw [if_neg fun z => q (kD_inj z)] at e
      obtain ⟨v, e1, e2⟩ := dget_ok h3 e
      exact ⟨v, by rw [valV_neg q]; exact e1, e2⟩
theorem dany_ok (k : Key) (kl : List (Key × V)) : dAny (kl.map fun p => kD p.1) (kD k) = (valV kl k).isSome := by
  rw [← valV_any, dAny, List.any_map]
  congr 1
  funext p
  show decide (kD p.1 = kD k) = decide (p.1 = k)
  exact decide_eq_decide.mpr ⟨kD_inj, fun h => by rw [h]⟩
theorem oc {op : CmpOp} (hu : X.A.units + 65 < cLine) : OpR X (compareOp op) (rC X.K (cmpop op)) := by
  intro pins s σ H x y v u Q I rx ry h
  obtain ⟨R, dx, dy, r, e, h1, h2, hf, q⟩ := h
  unfold cmpop at hf
  split at hf
  · split at hf
    · rename_i hs
      cases hf
      simp only [Bool.and_eq_true] at hs
      refine op_eqD (by omega) pins s σ H x y v u Q I rx ry ⟨_, _, h1.dp e (shp_of hs.1), h2.dp e (shp_of hs.2), toPy_shaped hs.1, toPy_shaped hs.2, ?_⟩
      rw [toPy_eqv _ _ (shp_of hs.1) (shp_of hs.2)]; exact q
    · cases hf
  · split at hf
    · rename_i hs
      cases hf
      simp only [Bool.and_eq_true] at hs
      refine op_neD (by omega) pins s σ H x y v u Q I rx ry ⟨_, _, h1.dp e (shp_of hs.1), h2.dp e (shp_of hs.2), toPy_shaped hs.1, toPy_shaped hs.2, ?_⟩
      rw [toPy_eqv _ _ (shp_of hs.1) (shp_of hs.2)]; exact q
    · cases hf
  · cases hf; exact op_lt pins s σ H x y v u Q I rx ry ⟨_, _, h1.int, h2.int, q⟩
  · cases hf; exact op_le pins s σ H x y v u Q I rx ry ⟨_, _, h1.int, h2.int, q⟩
  · cases hf; exact op_gt pins s σ H x y v u Q I rx ry ⟨_, _, h1.int, h2.int, q⟩
  · cases hf; exact op_ge pins s σ H x y v u Q I rx ry ⟨_, _, h1.int, h2.int, q⟩
  · cases hf
    exact op_isN pins s σ H x y v u Q I rx ry ⟨h2.non, by rw [h1.non]; exact q⟩
  · rename_i hn
    cases hf
    exact op_isN pins s σ H x y v u Q I rx ry ⟨h2.non, by rw [h1.nonone hn]; exact q⟩
  · cases hf
    exact op_notN pins s σ H x y v u Q I rx ry ⟨h2.non, by rw [h1.non]; exact q⟩
  · rename_i hn
    cases hf
    exact op_notN pins s σ H x y v u Q I rx ry ⟨h2.non, by rw [h1.nonone hn]; exact q⟩
  · rename_i a b
    cases hf
    have e1 := h1.bl; have e2 := h2.bl
    subst e1 e2
    exact op_isBl pins s σ H _ _ v u Q I rx ry ⟨a, b, rfl, rfl, by rw [← Bool.beq_eq_decide_eq]; exact q⟩
  · rename_i b hn
    cases hf
    have e2 := h2.bl
    subst e2
    cases (show u = Value.bool b from ry)
    exact is_bl_gen rx ⟨.bl false, H, I, by rw [h1.nobl rx (fun c z => hn c z) b]; rfl, q⟩
  · rename_i a b
    cases hf
    have e1 := h1.bl; have e2 := h2.bl
    subst e1 e2
    exact op_notBl pins s σ H _ _ v u Q I rx ry ⟨a, b, rfl, rfl, by rw [← Bool.beq_eq_decide_eq]; exact q⟩
  · rename_i b hn
    cases hf
    have e2 := h2.bl
    subst e2
    cases (show u = Value.bool b from ry)
    exact isnot_bl_gen rx ⟨.bl true, H, I, by rw [h1.nobl rx (fun c z => hn c z) b]; rfl, q⟩
  · split at hf
    · rename_i hs
      cases hf
      simp only [Bool.and_eq_true] at hs
      obtain ⟨c1, c2⟩ := shaped_list hs.2
      obtain ⟨as, r1⟩ := Dp.reads I _ x v (h1.dp e (shp_of hs.1)) rx
      have dy := h2.dp e (show shp (.lst _) = true by simpa only [shp] using c1)
      simp only [toPy] at dy
      obtain ⟨bs, r2⟩ := Dp.reads I _ y u dy ry
      refine SeqAt.in_list_reads r2 r1 (by rw [toPyL_shp]; exact c1) (SeqAt.canLay_of_shaped (toPy_shaped hs.1)) (room_in_shaped (toPy_shaped hs.1) hu) ⟨.bl _, H, I, rfl, ?_⟩
      rw [any_py (shp_of hs.1) c1]; exact q
    · cases hf
  · split at hf
    · rename_i hs
      cases hf
      simp only [Bool.and_eq_true] at hs
      obtain ⟨c1, c2⟩ := shaped_list hs.2
      obtain ⟨as, r1⟩ := Dp.reads I _ x v (h1.dp e (shp_of hs.1)) rx
      have dy := h2.dp e (show shp (.tup _) = true by simpa only [shp] using c1)
      simp only [toPy] at dy
      obtain ⟨bs, r2⟩ := Dp.reads I _ y u dy ry
      refine SeqAt.in_tuple_reads r2 r1 (by rw [toPyL_shp]; exact c1) (SeqAt.canLay_of_shaped (toPy_shaped hs.1)) (room_in_shaped (toPy_shaped hs.1) hu) ⟨.bl _, H, I, rfl, ?_⟩
      rw [any_py (shp_of hs.1) c1]; exact q
    · cases hf
  · split at hf
    · rename_i hs
      cases hf
      simp only [Bool.and_eq_true] at hs
      obtain ⟨c1, c2⟩ := shaped_list hs.2
      obtain ⟨as, r1⟩ := Dp.reads I _ x v (h1.dp e (shp_of hs.1)) rx
      have dy := h2.dp e (show shp (.lst _) = true by simpa only [shp] using c1)
      simp only [toPy] at dy
      obtain ⟨bs, r2⟩ := Dp.reads I _ y u dy ry
      refine SeqAt.notIn_list_reads r2 r1 (by rw [toPyL_shp]; exact c1) (SeqAt.canLay_of_shaped (toPy_shaped hs.1)) (room_in_shaped (toPy_shaped hs.1) hu) ⟨.bl _, H, I, rfl, ?_⟩
      rw [any_py (shp_of hs.1) c1]; exact q
    · cases hf
  · split at hf
    · rename_i hs
      cases hf
      simp only [Bool.and_eq_true] at hs
      obtain ⟨c1, c2⟩ := shaped_list hs.2
      obtain ⟨as, r1⟩ := Dp.reads I _ x v (h1.dp e (shp_of hs.1)) rx
      have dy := h2.dp e (show shp (.tup _) = true by simpa only [shp] using c1)
      simp only [toPy] at dy
      obtain ⟨bs, r2⟩ := Dp.reads I _ y u dy ry
      refine SeqAt.notIn_tuple_reads r2 r1 (by rw [toPyL_shp]; exact c1) (SeqAt.canLay_of_shaped (toPy_shaped hs.1)) (room_in_shaped (toPy_shaped hs.1) hu) ⟨.bl _, H, I, rfl, ?_⟩
      rw [any_py (shp_of hs.1) c1]; exact q
    · cases hf
  · split at hf
    · rename_i hk
      cases hf
      obtain ⟨k, rfl⟩ := kD_of hk
      obtain ⟨a, kl, rfl, h4, h5, h6⟩ := h2.dct e
      subst h5
      cases (show u = Value.ref a from ry)
      refine d_in (by show X.A.units + 1 < cLine; omega) I (.inl ⟨kl, k, h4, h1.key, rfl⟩) rx fun s' I' => ⟨.bl _, H, I', rfl, ?_⟩
      rw [← dany_ok]; exact q
    · cases hf
  · split at hf
    · rename_i hk
      cases hf
      obtain ⟨k, rfl⟩ := kD_of hk
      obtain ⟨a, kl, rfl, h4, h5, h6⟩ := h2.dct e
      subst h5
      cases (show u = Value.ref a from ry)
      refine d_notIn (by show X.A.units + 1 < cLine; omega) I (.inl ⟨kl, k, h4, h1.key, rfl⟩) rx fun s' I' => ⟨.bl _, H, I', rfl, ?_⟩
      rw [← dany_ok]; exact q
    · cases hf
  · split at hf
    · rename_i hs
      cases hf
      obtain ⟨s1, s2, s3, s4⟩ := cmpb_iff hs
      obtain ⟨as, r1⟩ := Dp.reads I _ x v (h1.dp e (shp_of s1)) rx
      obtain ⟨bs, r2⟩ := Dp.reads I _ y u (h2.dp e (shp_of s2)) ry
      exact PySem.W.lt_data r1 r2 s3 s4 (cmp_room hu s1) ⟨.bl _, H, I, rfl, q⟩
    · cases hf
  · split at hf
    · rename_i hs
      cases hf
      obtain ⟨s1, s2, s3, s4⟩ := cmpb_iff hs
      obtain ⟨as, r1⟩ := Dp.reads I _ x v (h1.dp e (shp_of s1)) rx
      obtain ⟨bs, r2⟩ := Dp.reads I _ y u (h2.dp e (shp_of s2)) ry
      exact PySem.W.le_data r1 r2 s3 s4 (cmp_room hu s1) ⟨.bl _, H, I, rfl, q⟩
    · cases hf
  · split at hf
    · rename_i hs
      cases hf
      obtain ⟨s1, s2, s3, s4⟩ := cmpb_iff hs
      obtain ⟨as, r1⟩ := Dp.reads I _ x v (h1.dp e (shp_of s1)) rx
      obtain ⟨bs, r2⟩ := Dp.reads I _ y u (h2.dp e (shp_of s2)) ry
      exact PySem.W.gt_data r1 r2 s3 s4 (cmp_room hu s1) ⟨.bl _, H, I, rfl, q⟩
    · cases hf
  · split at hf
    · rename_i hs
      cases hf
      obtain ⟨s1, s2, s3, s4⟩ := cmpb_iff hs
      obtain ⟨as, r1⟩ := Dp.reads I _ x v (h1.dp e (shp_of s1)) rx
      obtain ⟨bs, r2⟩ := Dp.reads I _ y u (h2.dp e (shp_of s2)) ry
      exact PySem.W.ge_data r1 r2 s3 s4 (cmp_room hu s1) ⟨.bl _, H, I, rfl, q⟩
    · cases hf
  · cases hf

/-! ### truth -/
theorem Pk.tru {K : PySem.W.Frag} {R H : Hp} {x : V} {d : D} {k : Bool} (e : Ex R H) (h1 : Pk K R H d x) (hf : truth d = some k) : TruV K x H k := by
  cases d with
  | non => cases hf; rw [h1.non]; rfl
  | bl b => cases hf; rw [h1.bl]; rfl
  | int i => cases hf; rw [h1.int]; rfl
  | str x =>
    simp only [truth] at hf
    split at hf
    · rename_i hz; cases hf; rw [h1.str]; exact ⟨hz, by cases x.length <;> rfl⟩
    · cases hf
  | tup ds =>
    cases hf
    obtain ⟨a, vs, rfl, h2, h3⟩ := h1.tup e
    exact .inr (.inl ⟨vs, h2, by rw [h3.isEmpty]⟩)
  | lst ds =>
    cases hf
    obtain ⟨a, vs, rfl, h2, h3⟩ := h1.lst e
    exact .inl ⟨vs, .inl (.inl h2), by rw [h3.isEmpty]⟩
  | dct ks ws => cases hf
  | set ds => cases hf
  | scr ns =>
    cases hf
    obtain ⟨a, rfl, h2⟩ := h1.scr e
    exact .inl ⟨_, h2, by cases ns <;> rfl⟩
end
end Mi

end

section
set_option linter.all false
set_option maxRecDepth 100000
/-! Mi4: subscripts, slices, built-in functions, methods -/
namespace Mi
open PySem PySem.Spec PyProof.Rows L2

section
variable {X : Cx}
theorem AtL.atI {K : PySem.W.Frag} {R : Hp} {ds : List D} {vs : List V} {i : Int} {d : D} (h : AtL K R ds vs) (e : L2.atI ds i = some d) : ∃ v, L2.atI vs i = some v ∧ At K R d v := by
  unfold L2.atI at e ⊢
  rw [← h.length]
  cases q : ixN ds.length i with
  | none => rw [q] at e; cases e
  | some j => rw [q] at e; exact h.get e
theorem ix_dct (hu : X.A.units + 65 < cLine) : IxR X (fun x y H Q => ∃ a v, x = .ref a ∧ DGet H a y (some v) ∧ Q v H) := by
  intro value slice pins s σ H x y v u Q I rx ry h hs
  obtain ⟨a, w, rfl, g, q⟩ := h
  obtain rfl : v = Value.ref a := rx
  exact tail_any (dict_typeIs I g) PySem.F.slot_dict_getitem.lookup (d_getItem (by show X.A.units + 1 < cLine; omega) I g ry fun w' s' I' r' => ⟨w, H, I', r', q⟩) hs
theorem oix (hu : X.A.units + 65 < cLine) : IxR X (rB X.K getIx) := by
  intro value slice pins s σ H x y v u Q I rx ry h hs
  obtain ⟨R, dx, dy, r, e, h1, h2, hf, q⟩ := h
  unfold getIx at hf
  split at hf
  · simp only [Option.map_eq_some_iff] at hf
    obtain ⟨d, h3, rfl⟩ := hf
    obtain ⟨a, vs, rfl, ha, al⟩ := h1.lst e
    obtain ⟨w, h4, h5⟩ := al.atI h3
    exact ix_list value slice pins s σ H _ y v u Q I rx ry ⟨a, vs, _, w, rfl, h2.int, .inl (.inl ha), h4, q.sc e h5⟩ hs
  · simp only [Option.map_eq_some_iff] at hf
    obtain ⟨d, h3, rfl⟩ := hf
    obtain ⟨a, vs, rfl, ha, al⟩ := h1.tup e
    obtain ⟨w, h4, h5⟩ := al.atI h3
    exact ix_tup value slice pins s σ H _ y v u Q I rx ry ⟨a, vs, _, w, rfl, h2.int, ha, h4, q.sc e h5⟩ hs
  · simp only [Option.map_eq_some_iff] at hf
    rename_i ns i
    obtain ⟨n, h3, rfl⟩ := hf
    obtain ⟨a, rfl, ha⟩ := h1.scr e
    have h4 : L2.atI (ns.map V.int) i = some (V.int n) := by
      unfold L2.atI at h3 ⊢
      rw [List.length_map]
      cases qq : ixN ns.length i with
      | none => rw [qq] at h3; cases h3
      | some j =>
        rw [qq] at h3
        have h3' : ns[j]? = some n := h3
        show (List.map V.int ns)[j]? = _
        rw [List.getElem?_map, h3']; rfl
    exact ix_list value slice pins s σ H _ y v u Q I rx ry ⟨a, _, _, _, rfl, h2.int, ha, h4, q.sc e rfl⟩ hs
  · split at hf
    · rename_i hz
      simp only [Option.map_eq_some_iff] at hf
      obtain ⟨c, h3, rfl⟩ := hf
      exact ix_str value slice pins s σ H _ y v u Q I rx ry ⟨_, _, c, h1.str, h2.int, hz, h3, q.sc e rfl⟩ hs
    · cases hf
  · split at hf
    · rename_i hk
      simp only [Option.map_eq_some_iff] at hf
      obtain ⟨d, h3, rfl⟩ := hf
      obtain ⟨k, rfl⟩ := kD_of hk
      obtain ⟨a, kl, rfl, h4, h5, h6⟩ := h1.dct e
      subst h5
      obtain ⟨w, h7, h8⟩ := dget_ok h6 h3
      exact ix_dct hu value slice pins s σ H _ y v u Q I rx ry ⟨a, w, rfl, .inl ⟨kl, k, h4, h2.key, h7.symm⟩, q.sc e h8⟩ hs
    · cases hf
  · cases hf
def rSl (K : PySem.W.Frag) : V → Option Int → Option Int → Hp → VK → Prop := fun x lo hi H Q => ∃ R d r, Ex R H ∧ Pk K R H d x ∧ sliceOf d lo hi = some r ∧ Fin K R H r Q
theorem AtL.cut {K : PySem.W.Frag} {R : Hp} {ds : List D} {vs : List V} {lo hi : Option Int} (h : AtL K R ds vs) : AtL K R (Mi.cut ds lo hi) (cutV vs lo hi) := by
  unfold Mi.cut cutV sIx
  rw [h.length]
  exact (h.drop _).take _
theorem osl : SlR X (rSl X.K) := by
  intro pins s σ H x v vl vu lo hi sl Q I rx hs pl pu h
  obtain ⟨R, d, r, e, h1, hf, q⟩ := h
  unfold sliceOf at hf
  split at hf
  · cases hf
    obtain ⟨a, vs, rfl, ha, al⟩ := h1.lst e
    exact sl_list pins s σ H _ v vl vu lo hi sl Q I rx hs pl pu ⟨a, vs, rfl, .inl (.inl ha), q.lst e al.cut⟩
  · rename_i ds
    cases hf
    have h1' := h1
    obtain ⟨a, vs, rfl, ha, al⟩ := h1.tup e
    refine sl_tupA pins s σ H _ v vl vu lo hi sl Q I rx hs pl pu ⟨a, vs, rfl, ha, fun w => ?_, fun _ => q.tup e al.cut⟩
    have hc : cut ds lo hi = ds := by
      unfold cut sIx
      rw [al.length, w.1, w.2, Nat.sub_zero, List.drop_zero, ← al.length, List.take_length]
    rw [hc] at q
    exact q.sc e (show At X.K R (.tup ds) (.ref a) from by
      rcases h1' with h | ⟨_, _, h⟩
      · exact h
      · exact h.elim)
  · split at hf
    · rename_i hz
      cases hf
      exact sl_str pins s σ H _ v vl vu lo hi sl Q I rx hs pl pu ⟨_, h1.str, hz, q.sc e rfl⟩
    · cases hf
  · cases hf

/-! ### built-in functions -/
def PkL (K : PySem.W.Frag) (R H : Hp) : List D → List V → Prop
  | [], vs => vs = []
  | d :: ds, vs => ∃ v r, vs = v :: r ∧ Pk K R H d v ∧ PkL K R H ds r
theorem PkL.one {K : PySem.W.Frag} {R H : Hp} {d : D} {vs : List V} (h : PkL K R H [d] vs) : ∃ v, vs = [v] ∧ Pk K R H d v := by
  obtain ⟨v, r, rfl, h1, h2⟩ := h
  cases (show r = [] from h2)
  exact ⟨v, rfl, h1⟩
theorem PkL.two {K : PySem.W.Frag} {R H : Hp} {d d' : D} {vs : List V} (h : PkL K R H [d, d'] vs) : ∃ v w, vs = [v, w] ∧ Pk K R H d v ∧ Pk K R H d' w := by
  obtain ⟨v, r, rfl, h1, w, r', rfl, h2, h3⟩ := h
  cases (show r' = [] from h3)
  exact ⟨v, w, rfl, h1, h2⟩
def rBl (K : PySem.W.Frag) (b : Blt) : List V → Hp → VK → Prop := fun vs H Q => ∃ R ds r, Ex R H ∧ PkL K R H ds vs ∧ bltF b ds = some r ∧ Fin K R H r Q
def Ty.nm : Ty → String
  | .int => "int" | .bool => "bool" | .str => "str" | .list => "list" | .tuple => "tuple" | .dict => "dict"
theorem kit_same {K : PySem.W.Frag} {t : Value} : PySem.W.kitOne K t t = some true := by unfold PySem.W.kitOne; simp
end
section
variable {X : Cx}
/-- the class of data -/
def tyOf : D → Option String
  | .non => some "NoneType" | .bl _ => some "bool" | .int _ => some "int" | .str _ => some "str" | .tup _ => some "tuple" | .lst _ | .scr _ => some "list" | .dct _ _ => some "dict" | .set _ => none
/-- a value's type, for isinstance -/
def TyY (K : PySem.W.Frag) (H : Hp) (v : V) (t : String) : Prop := TyX K H v (.type t) ∨ (t = "dict" ∧ ∃ a o, ∃ kl : List (List Key × V), v = .ref a ∧ H a = some (.frz o (.dT kl)))
theorem Pk.tyX {K : PySem.W.Frag} {R H : Hp} {d : D} {v : V} {t : String} (e : Ex R H) (h : Pk K R H d v) (ht : tyOf d = some t) : TyY K H v t := by
  have lst : ∀ {a : Addr} {xs : List V}, SqL K H a xs → TyX K H (.ref a) (.type "list") := fun {a xs} h => by
    rcases h with (h | ⟨o, h⟩) | ⟨o, its, n, h, hc, _⟩
    · exact .base (.lst h)
    · exact .base (.frz h)
    · exact .kList h hc
  cases d with
  | non => cases ht; rw [h.non]; exact .inl (.base .non)
  | bl b => cases ht; rw [h.bl]; exact .inl (.base (.bl _))
  | int b => cases ht; rw [h.int]; exact .inl (.base (.int _))
  | str b => cases ht; rw [h.str]; exact .inl (.base (.str _))
  | tup ds =>
    cases ht
    obtain ⟨a, vs, rfl, ha, _⟩ := h.tup e
    rcases ha with (ha | ⟨o, ha⟩) | ⟨o, its, n, ha, hc, _⟩
    · exact .inl (.base (.tup ha))
    · exact .inl (.fTuple ha)
    · exact .inl (.kTuple ha hc)
  | lst ds =>
    cases ht
    obtain ⟨a, vs, rfl, ha, _⟩ := h.lst e
    exact .inl (.base (.lst ha))
  | scr ns =>
    cases ht
    obtain ⟨a, rfl, ha⟩ := h.scr e
    exact .inl (lst ha)
  | dct ks ws =>
    cases ht
    obtain ⟨a, kl, rfl, h, _⟩ := h.dct e
    rcases h with h | ⟨o, h⟩
    · exact .inl (.base (.dK h))
    · exact .inl (.fDict h)
  | set ds => cases ht
theorem kit_ofY {pins : List (Addr × Obj)} {σ : L2.St} {H : Hp} {s : Shared} {x : V} {u : Value} {t : String} (I : Inv X pins σ H s) (rx : RelV x u) (ty : TyY X.K H x t) : ∃ P : Heap → Prop, PySem.W.KitX X.K u (.type t) P ∧ P s.heap ∧ u ≠ .builtin "__main__.__loader__#opaque" := by
  rcases ty with ty | ⟨rfl, a, o, kl, rfl, ea⟩
  · exact kit_of I rx ty
  · cases (show u = Value.ref a from rx)
    obtain ⟨_, _, _, vs, _, o, es, ep, h1, h2, _⟩ := (show ObjOk X.prog X.w H s.heap a (.frz o (.dT kl)) from I.hok a _ ea)
    exact ⟨_, PySem.W.kitx_dict, ⟨o, h1, h2.1⟩, fun z => nomatch z⟩
/-- isinstance(x, T) as a call of two values -/
def rIsT (K : PySem.W.Frag) (t : Ty) : List V → Hp → VK → Prop := fun vs H Q => ∃ R d x, Ex R H ∧ vs = [x, .ty t.nm] ∧ Pk K R H d x ∧ tyOf d ≠ none ∧ Q (.bl (isTy t d)) H
theorem kit_ty2 (K : PySem.W.Frag) : ∀ (t : Ty) (d : D) (n : String), tyOf d = some n → PySem.W.kitOne K (.type n) (.type t.nm) = some (isTy t d) := by
  intro t d n h
  cases t <;> cases d <;> cases h <;> first
    | exact kit_ty (r := true) (by decide +kernel)
    | exact kit_ty (r := false) (by decide +kernel)
theorem call_isT {t : Ty} : CallR X (.builtin "isinstance") (rIsT X.K t) := by
  intro pins s σ H xs us Q I r h
  obtain ⟨R, d, x, e, rfl, h1, h2, q⟩ := h
  obtain ⟨u1, u2, rfl, r1, r2⟩ := vals2 r
  cases (show u2 = Value.type t.nm from r2)
  cases ht : tyOf d with
  | none => exact absurd ht h2
  | some n =>
    obtain ⟨P, Z, p, hx⟩ := kit_ofY I r1 (h1.tyX e ht)
    exact PySem.W.kia_one Z I.kIn p (kit_ty2 X.K t d n ht) hx fun tk => ⟨.bl _, H, I.tok tk, rfl, q⟩
end
end Mi

end

section
set_option linter.all false
set_option maxRecDepth 100000
/-! Mi5: built-in functions by name, methods that change a list -/
namespace Mi
open PySem PySem.Spec PyProof.Rows L2

theorem truAs_ok : ∀ {ds : List D} {bs : List Bool}, truAs ds = some bs → shpL ds = true ∧ PyData.plainAll (toPyL ds) = true ∧ (∀ x ∈ toPyL ds, x.fits63) ∧ ((toPyL ds).all PyData.truthy = bs.all id ∧ (toPyL ds).any PyData.truthy = bs.any id)
  | [], bs, h => by cases h; exact ⟨rfl, by simp [toPyL, PyData.plainAll], fun x hx => by simp [toPyL] at hx, by simp [toPyL]⟩
  | d :: ds, bs, h => by
    simp only [truAs, Option.bind_eq_some_iff, Option.map_eq_some_iff] at h
    obtain ⟨b, h1, bs', h2, rfl⟩ := h
    obtain ⟨t1, t2, t3, t4, t5⟩ := truAs_ok h2
    cases d with
    | non | bl _ | int _ =>
      cases h1
      refine ⟨by simp only [shpL, shp, t1, Bool.and_self], by simp [toPyL, toPy, PyData.plainAll, PyData.plain, t2], fun x hx => ?_, by simp [toPyL, toPy, PyData.truthy, t4, t5]⟩
      rcases List.mem_cons.mp (by simpa only [toPyL] using hx) with rfl | hx
      · trivial
      · exact t3 x hx
    | _ => cases h1
section
variable {X : Cx}
theorem obl_len : CallR X (.builtin "len") (rBl X.K .len) := by
  intro pins s σ H xs us Q I rv h
  obtain ⟨R, ds, r, e, hp, hf, q⟩ := h
  simp only [bltF] at hf
  unfold lenF at hf
  split at hf
  · rename_i d
    obtain ⟨x, rfl, h1⟩ := hp.one
    simp only [Option.map_eq_some_iff] at hf
    obtain ⟨n, hn, rfl⟩ := hf
    have hd : (∃ ks ws, d = .dct ks ws) ∨ LenV X.K x H n := by
      cases d with
      | str z =>
        simp only [lenOf] at hn
        split at hn
        · cases hn; rename_i hz; rw [h1.str]; exact .inr ⟨hz, rfl⟩
        · cases hn
      | lst ds => cases hn; obtain ⟨a, vs, rfl, h2, h3⟩ := h1.lst e; exact .inr (.inl ⟨vs, .inl (.inl h2), h3.length⟩)
      | tup ds => cases hn; obtain ⟨a, vs, rfl, h2, h3⟩ := h1.tup e; exact .inr (.inr ⟨vs, h2, h3.length⟩)
      | scr ns => cases hn; obtain ⟨a, rfl, h2⟩ := h1.scr e; exact .inr (.inl ⟨_, h2, by rw [List.length_map]⟩)
      | dct ks ws => exact .inl ⟨ks, ws, rfl⟩
      | _ => simp [lenOf] at hn
    rcases hd with ⟨ks, ws, rfl⟩ | hd
    · cases hn
      obtain ⟨a, kl, rfl, h4, h5, h6⟩ := h1.dct e
      subst h5
      obtain ⟨u, rfl, ru⟩ := vals1 rv
      cases ru
      rw [List.length_map] at q
      exact d_len I h4 fun t s' I' => ⟨.int _, H, I', ⟨t, rfl⟩, q.sc e rfl⟩
    · exact call_len pins s σ H _ us Q I rv ⟨x, n, rfl, hd, q.sc e rfl⟩
  · cases hf
theorem obl_int : CallR X (.type "int") (rBl X.K .int) := by
  intro pins s σ H xs us Q I rv h
  obtain ⟨R, ds, r, e, hp, hf, q⟩ := h
  simp only [bltF] at hf
  unfold intF at hf
  split at hf
  · obtain ⟨x, rfl, h1⟩ := hp.one
    cases hf
    exact call_int1 pins s σ H _ us Q I rv (.inl ⟨_, by rw [h1.int], q.sc e rfl⟩)
  · obtain ⟨x, rfl, h1⟩ := hp.one
    cases hf
    exact call_int1 pins s σ H _ us Q I rv (.inr ⟨_, by rw [h1.bl], q.sc e rfl⟩)
  · cases hf
theorem obl_abs : CallR X (.builtin "abs") (rBl X.K .abs) := by
  intro pins s σ H xs us Q I rv h
  obtain ⟨R, ds, r, e, hp, hf, q⟩ := h
  simp only [bltF] at hf
  unfold absF at hf
  split at hf
  · obtain ⟨x, rfl, h1⟩ := hp.one
    cases hf
    exact call_abs pins s σ H _ us Q I rv ⟨_, by rw [h1.int], q.sc e rfl⟩
  · cases hf
theorem obl_sum (hc : X.calm = true) : CallR X (.builtin "sum") (rBl X.K .sum) := by
  intro pins s σ H xs us Q I rv h
  obtain ⟨R, ds, r, e, hp, hf, q⟩ := h
  simp only [bltF] at hf
  unfold sumF at hf
  split at hf
  · obtain ⟨x, rfl, h1⟩ := hp.one
    simp only [Option.map_eq_some_iff] at hf
    obtain ⟨ns, hn, rfl⟩ := hf
    have e1 := dInts_eq hn
    subst e1
    obtain ⟨a, vs, rfl, h2, h3⟩ := h1.lst e
    rw [h3.ofInts] at h2
    exact cr_sum hc pins s σ H _ us Q I rv ⟨a, ns, rfl, .inl (.inl h2), q.sc e rfl⟩
  · cases hf
theorem obl_all (hc : X.calm = true) : CallR X (.builtin "all") (rBl X.K .all) := by
  intro pins s σ H xs us Q I rv h
  obtain ⟨R, ds, r, e, hp, hf, q⟩ := h
  simp only [bltF] at hf
  unfold allF at hf
  split at hf
  · obtain ⟨x, rfl, h1⟩ := hp.one
    obtain ⟨a, vs, rfl, h2, h3⟩ := h1.lst e
    split at hf
    · rename_i ns hn
      cases hf
      have e1 := dBools_eq hn
      subst e1
      rw [h3.ofBools] at h2
      exact cr_all hc pins s σ H _ us Q I rv ⟨a, ns, rfl, .inl (.inl h2), q.sc e rfl⟩
    · simp only [Option.map_eq_some_iff] at hf
      obtain ⟨bs, hb, rfl⟩ := hf
      obtain ⟨t1, t2, t3, t4⟩ := truAs_ok hb
      obtain ⟨u, rfl, ru⟩ := vals1 rv
      cases ru
      obtain ⟨its, rv', hl, hz⟩ := I.list (.inl (.inl h2))
      obtain ⟨as, hr⟩ := Dp.readsAll I _ _ _ (h3.dp e t1) rv'
      refine PySem.W.all_list_data (I.ok.hd hc) hl.isList (by simpa using hr) t2 t3 fun h' tk kp => ⟨.bl _, H, I.kept (t' := tk) kp, rfl, ?_⟩
      rw [t4.1]
      exact q.sc e rfl
  · obtain ⟨x, rfl, h1⟩ := hp.one
    obtain ⟨a, vs, rfl, h2, h3⟩ := h1.tup e
    simp only [Option.map_eq_some_iff] at hf
    obtain ⟨bs, hb, rfl⟩ := hf
    obtain ⟨t1, t2, t3, t4⟩ := truAs_ok hb
    obtain ⟨u, rfl, ru⟩ := vals1 rv
    cases ru
    obtain ⟨its, rv', hl, hz⟩ := I.tuple h2
    obtain ⟨as, hr⟩ := Dp.readsAll I _ _ _ (h3.dp e t1) rv'
    refine PySem.W.all_tuple_data (I.ok.hd hc) (show s.heap.IsTuple a its.toArray from hl) (by simpa using hr) t2 t3 fun h' tk kp => ⟨.bl _, H, I.kept (t' := tk) kp, rfl, ?_⟩
    rw [t4.1]
    exact q.sc e rfl
  · cases hf
theorem obl_any (hc : X.calm = true) : CallR X (.builtin "any") (rBl X.K .any) := by
  intro pins s σ H xs us Q I rv h
  obtain ⟨R, ds, r, e, hp, hf, q⟩ := h
  simp only [bltF] at hf
  unfold anyF at hf
  split at hf
  · obtain ⟨x, rfl, h1⟩ := hp.one
    obtain ⟨a, vs, rfl, h2, h3⟩ := h1.lst e
    split at hf
    · rename_i ns hn
      cases hf
      have e1 := dBools_eq hn
      subst e1
      rw [h3.ofBools] at h2
      exact cr_any hc pins s σ H _ us Q I rv ⟨a, ns, rfl, .inl (.inl h2), q.sc e rfl⟩
    · simp only [Option.map_eq_some_iff] at hf
      obtain ⟨bs, hb, rfl⟩ := hf
      obtain ⟨t1, t2, t3, t4⟩ := truAs_ok hb
      obtain ⟨u, rfl, ru⟩ := vals1 rv
      cases ru
      obtain ⟨its, rv', hl, hz⟩ := I.list (.inl (.inl h2))
      obtain ⟨as, hr⟩ := Dp.readsAll I _ _ _ (h3.dp e t1) rv'
      refine PySem.W.any_list_data (I.ok.hd hc) hl.isList (by simpa using hr) t2 t3 fun h' tk kp => ⟨.bl _, H, I.kept (t' := tk) kp, rfl, ?_⟩
      rw [t4.2]
      exact q.sc e rfl
  · obtain ⟨x, rfl, h1⟩ := hp.one
    obtain ⟨a, vs, rfl, h2, h3⟩ := h1.tup e
    simp only [Option.map_eq_some_iff] at hf
    obtain ⟨bs, hb, rfl⟩ := hf
    obtain ⟨t1, t2, t3, t4⟩ := truAs_ok hb
    obtain ⟨u, rfl, ru⟩ := vals1 rv
    cases ru
    obtain ⟨its, rv', hl, hz⟩ := I.tuple h2
    obtain ⟨as, hr⟩ := Dp.readsAll I _ _ _ (h3.dp e t1) rv'
    refine PySem.W.any_tuple_data (I.ok.hd hc) (show s.heap.IsTuple a its.toArray from hl) (by simpa using hr) t2 t3 fun h' tk kp => ⟨.bl _, H, I.kept (t' := tk) kp, rfl, ?_⟩
    rw [t4.2]
    exact q.sc e rfl
  · cases hf
theorem obl_min2 (hc : X.calm = true) : CallR X (.builtin "min") (rBl X.K .min2) := by
  intro pins s σ H xs us Q I rv h
  obtain ⟨R, ds, r, e, hp, hf, q⟩ := h
  simp only [bltF] at hf
  unfold min2F at hf
  split at hf
  · obtain ⟨x, y, rfl, h1, h2⟩ := hp.two
    cases hf
    exact call_min2 hc pins s σ H _ us Q I rv ⟨_, _, by rw [h1.int, h2.int], q.sc e rfl⟩
  · cases hf
theorem obl_max2 (hc : X.calm = true) : CallR X (.builtin "max") (rBl X.K .max2) := by
  intro pins s σ H xs us Q I rv h
  obtain ⟨R, ds, r, e, hp, hf, q⟩ := h
  simp only [bltF] at hf
  unfold max2F at hf
  split at hf
  · obtain ⟨x, y, rfl, h1, h2⟩ := hp.two
    cases hf
    exact call_max2 hc pins s σ H _ us Q I rv ⟨_, _, by rw [h1.int, h2.int], q.sc e rfl⟩
  · cases hf
theorem obl_gcd : CallR X (.builtin "math.gcd") (rBl X.K .gcd) := by
  intro pins s σ H xs us Q I rv h
  obtain ⟨R, ds, r, e, hp, hf, q⟩ := h
  simp only [bltF] at hf
  unfold gcdF at hf
  split at hf
  · obtain ⟨x, y, rfl, h1, h2⟩ := hp.two
    cases hf
    exact cr_gcd pins s σ H _ us Q I rv ⟨_, _, by rw [h1.int, h2.int], q.sc e rfl⟩
  · cases hf
theorem AtL.keys {K : PySem.W.Frag} {R : Hp} : ∀ kl : List (Key × V), AtL K R (kl.map fun p => kD p.1) (kl.map fun p => kV p.1)
  | [] => AtL.nil
  | p :: kl => .cons (by rcases p with ⟨k | k, v⟩ <;> rfl) (AtL.keys kl)
theorem obl_list (hc : X.calm = true) : CallR X (.type "list") (rBl X.K .list) := by
  intro pins s σ H xs us Q I rv h
  obtain ⟨R, ds, r, e, hp, hf, q⟩ := h
  simp only [bltF] at hf
  unfold listF at hf
  split at hf
  · obtain ⟨x, rfl, h1⟩ := hp.one
    cases hf
    obtain ⟨a, vs, rfl, h2, h3⟩ := h1.lst e
    exact call_list_of pins s σ H _ us Q I rv ⟨a, vs, rfl, .inl (.inl (.inl h2)), q.lst e h3⟩
  · obtain ⟨x, rfl, h1⟩ := hp.one
    cases hf
    obtain ⟨a, vs, rfl, h2, h3⟩ := h1.tup e
    exact call_list_of pins s σ H _ us Q I rv ⟨a, vs, rfl, .inr h2, q.lst e h3⟩
  · obtain ⟨x, rfl, h1⟩ := hp.one
    cases hf
    obtain ⟨a, kl, rfl, h4, h5, h6⟩ := h1.dct e
    subst h5
    exact call_listD hc pins s σ H _ us Q I rv ⟨a, kl, rfl, h4, q.lst e (AtL.keys kl)⟩
  · cases hf
theorem obl_dict : CallR X (.type "dict") (rBl X.K .dict) := by
  intro pins s σ H xs us Q I rv h
  obtain ⟨R, ds, r, e, hp, hf, q⟩ := h
  simp only [bltF] at hf
  unfold dictF at hf
  split at hf
  · obtain ⟨x, rfl, h1⟩ := hp.one
    cases hf
    obtain ⟨a, kl, rfl, h4, h5, h6⟩ := h1.dct e
    subst h5
    obtain ⟨u, rfl, ru⟩ := vals1 rv
    cases ru
    refine d_copyOf I h4 fun p s' hp I' => ⟨.ref p, _, I', rfl, ?_⟩
    have hr : R p = none := by
      cases h' : R p with
      | none => rfl
      | some u => rw [e p u h'] at hp; cases hp
    exact q _ R _ (.fr e hp) ⟨p, rfl, hp, hr, kl, upd_same, rfl, h6⟩
  · cases hf
/-! sorted -/
theorem insB_at {α : Type} {le : α → α → Bool} {x : α} : ∀ {l₁ l₂ : List α}, (∀ b ∈ l₁, le x b = false) → (∀ b ∈ l₂, le x b = true) → insB le x (l₁ ++ l₂) = l₁ ++ x :: l₂
  | [], [], _, _ => rfl
  | [], y :: l, _, h => by
    show (if le x y then x :: y :: l else y :: insB le x l) = _
    rw [if_pos (h y (List.mem_cons_self ..))]; rfl
  | y :: l₁, l₂, h1, h2 => by
    show (if le x y then x :: y :: (l₁ ++ l₂) else y :: insB le x (l₁ ++ l₂)) = _
    rw [if_neg (by rw [h1 y (List.mem_cons_self ..)]; exact Bool.false_ne_true), insB_at (fun b hb => h1 b (List.mem_cons_of_mem _ hb)) h2]; rfl
theorem sortB_eq {α : Type} {le : α → α → Bool} (ht : ∀ a b c, le a b = true → le b c = true → le a c = true) (hl : ∀ a b, (le a b || le b a) = true) : ∀ l : List α, sortB le l = l.mergeSort le
  | [] => by simp [sortB]
  | a :: l => by
    obtain ⟨l₁, l₂, h1, h2, h3⟩ := List.mergeSort_cons ht hl a l
    show insB le a (sortB le l) = _
    rw [sortB_eq ht hl l, h2, h1]
    refine insB_at (fun b hb => by simpa using h3 b hb) fun b hb => ?_
    have := List.pairwise_mergeSort ht hl (a :: l)
    rw [h1] at this
    exact (List.pairwise_cons.mp (List.pairwise_append.mp this).2.1).1 b hb
theorem dle_tr (a b c : D) (h1 : dle a b = true) (h2 : dle b c = true) : dle a c = true := (PySem.W.sortLe_total (listOrd itemOrd) false fun d : D => PySem.W.keyToks (toPy d)).trans a b c h1 h2
theorem dle_to (a b : D) : (dle a b || dle b a) = true := by
  rw [Bool.or_eq_true]
  exact (PySem.W.sortLe_total (listOrd itemOrd) false fun d : D => PySem.W.keyToks (toPy d)).total a b
/-- data, their values, what these are in the heap -/
theorem trip {K : PySem.W.Frag} {R : Hp} : ∀ {ds : List D} {vs : List V} {us : List Value}, AtL K R ds vs → Vals vs us → ∃ L : List (D × V × Value), L.map (·.1) = ds ∧ L.map (·.2.1) = vs ∧ L.map (·.2.2) = us ∧ ∀ p ∈ L, At K R p.1 p.2.1 ∧ RelV p.2.1 p.2.2
  | [], _, _, h, .nil => ⟨[], rfl, rfl, rfl, fun p hp => nomatch hp⟩
  | [], _, _, h, .cons _ _ => by cases h
  | d :: ds, _, _, ⟨v, r, h1, h2, h3⟩, t => by
    subst h1
    cases t with
    | @cons _ u _ _ rx t =>
      obtain ⟨L, e1, e2, e3, hL⟩ := trip h3 t
      refine ⟨(d, v, u) :: L, by simp [e1], by simp [e2], by simp [e3], fun p hp => ?_⟩
      rcases List.mem_cons.mp hp with rfl | hp
      · exact ⟨h2, rx⟩
      · exact hL p hp
theorem trip_at {K : PySem.W.Frag} {R : Hp} : ∀ {L : List (D × V × Value)}, (∀ p ∈ L, At K R p.1 p.2.1 ∧ RelV p.2.1 p.2.2) → AtL K R (L.map (·.1)) (L.map (·.2.1)) ∧ Vals (L.map (·.2.1)) (L.map (·.2.2))
  | [], _ => ⟨AtL.nil, .nil⟩
  | p :: L, h => by
    obtain ⟨h1, h2⟩ := h p (List.mem_cons_self ..)
    obtain ⟨h3, h4⟩ := trip_at fun q hq => h q (List.mem_cons_of_mem _ hq)
    exact ⟨.cons h1 h3, .cons h2 h4⟩
theorem shpL_mem : ∀ {ds : List D}, shpL ds = true → ∀ d ∈ ds, shp d = true
  | [], _, d, h => nomatch h
  | d :: ds, h, e, he => by
    simp only [shpL, Bool.and_eq_true] at h
    rcases List.mem_cons.mp he with rfl | he
    · exact h.1
    · exact shpL_mem h.2 e he
theorem deepL_mem : ∀ {ds : List D}, ∀ d ∈ ds, deep d ≤ deepL ds
  | [], d, h => nomatch h
  | d :: ds, e, he => by
    simp only [deepL]
    rcases List.mem_cons.mp he with rfl | he
    · exact Nat.le_max_left ..
    · exact Nat.le_trans (deepL_mem e he) (Nat.le_max_right ..)
theorem kInts : ∀ (kl : List (Key × V)) (ns : List Int), dInts (kl.map fun p => kD p.1) = some ns → kl.map (·.1) = ns.map Sum.inl
  | [], ns, h => by cases h; rfl
  | ⟨.inl i, v⟩ :: kl, ns, h => by
    simp only [List.map_cons, kD, dInts, Option.map_eq_some_iff] at h
    obtain ⟨ms, h1, rfl⟩ := h
    rw [List.map_cons, List.map_cons, kInts kl ms h1]
  | ⟨.inr x, v⟩ :: kl, ns, h => by simp [kD, dInts] at h
theorem sort_uniq {ns ys : List Int} (hp : ys.Perm ns) (hs : ys.Pairwise (· ≤ ·)) : ys = sortB (fun a b : Int => decide (a ≤ b)) ns := by
  have ht : ∀ a b c : Int, decide (a ≤ b) = true → decide (b ≤ c) = true → decide (a ≤ c) = true := fun a b c h1 h2 => by simp only [decide_eq_true_eq] at *; omega
  have hl : ∀ a b : Int, (decide (a ≤ b) || decide (b ≤ a)) = true := fun a b => by simp; omega
  rw [sortB_eq ht hl]
  have h1 := List.pairwise_mergeSort ht hl ns
  have h2 : ys.Perm (ns.mergeSort fun a b => decide (a ≤ b)) := hp.trans (List.mergeSort_perm ns _).symm
  refine h2.eq_of_pairwise (le := fun a b : Int => decide (a ≤ b) = true) (fun a b _ _ x y => by simp only [decide_eq_true_eq] at *; omega) (hs.imp fun h => by simpa using h) h1
theorem obl_sorted (hc : X.calm = true) (hu : X.A.units + 65 < cLine) : CallR X (.builtin "sorted") (rBl X.K .sorted) := by
  intro pins s σ H xs us Q I rv h
  obtain ⟨R, ds, r, e, hp, hf, q⟩ := h
  simp only [bltF] at hf
  unfold sortedF at hf
  split at hf
  · rename_i ds
    obtain ⟨x, rfl, h1⟩ := hp.one
    split at hf
    · rename_i hs
      cases hf
      obtain ⟨a, vs, rfl, h2, h3⟩ := h1.lst e
      obtain ⟨u, rfl, ru⟩ := vals1 rv
      cases ru
      obtain ⟨its, rv', hl, hz⟩ := I.list (.inl (.inl h2))
      unfold sortable at hs
      simp only [Bool.and_eq_true, Bool.or_eq_true, decide_eq_true_eq, List.all_eq_true] at hs
      obtain ⟨⟨⟨s1, s2⟩, s3⟩, s4⟩ := hs
      obtain ⟨L, e1, e2, e3, hL⟩ := trip h3 rv'
      have rd : ∀ p ∈ L, ∃ as, Reads s.heap p.2.2 (toPy p.1) as := fun p hpL => by
        obtain ⟨k1, k2⟩ := hL p hpL
        have : shp p.1 = true := shpL_mem s3 p.1 (by rw [← e1]; exact List.mem_map_of_mem hpL)
        exact Dp.reads I _ _ _ (k1.dp e this) k2
      have old : ∀ b o, s.heap.get? b = some o → (PySem.W.sortingHeap (PySem.W.copyHeap s.heap its) (s.heap.objs.size + 1) its).get? b = some o := fun b o hb => PySem.W.sorting_copy_old hb
      have al : PySem.W.AllAlike (L.map fun p => toPy p.1) := fun d hd d' hd' => by
        obtain ⟨p, hp, rfl⟩ := List.mem_map.mp hd
        obtain ⟨p', hp', rfl⟩ := List.mem_map.mp hd'
        exact s2 p.1 (by rw [← e1]; exact List.mem_map_of_mem hp) p'.1 (by rw [← e1]; exact List.mem_map_of_mem hp')
      have each : ∀ (h' : Heap), (∀ b o, s.heap.get? b = some o → h'.get? b = some o) → ∀ M : List (D × V × Value), (∀ p ∈ M, ∃ as, Reads s.heap p.2.2 (toPy p.1) as) → PySem.W.EachIs (fun v d => ∃ as, Reads h' v d as) (M.map (·.2.2)) (M.map fun p => toPy p.1) := fun h' kp M => by
        induction M with
        | nil => exact fun _ => .nil
        | cons p M ih =>
          intro hM
          obtain ⟨as, hr⟩ := hM p (List.mem_cons_self ..)
          exact .cons ⟨as, Reads.keeps kp hr⟩ (ih fun q hq => hM q (List.mem_cons_of_mem _ hq))
      have S := PySem.W.SortsAt.data (prog := X.prog) (w := X.w) (A := X.A.in1.in1) (s := { s with heap := PySem.W.sortingHeap (PySem.W.copyHeap s.heap its) (s.heap.objs.size + 1) its }) (by have := each _ old L rd; rw [e3] at this; exact this) al (by
        have mm : ∀ d, d ∈ (L.map fun p => toPy p.1) → ∃ d' ∈ ds, d = toPy d' := fun d hd => by
          obtain ⟨p, hp, rfl⟩ := List.mem_map.mp hd
          exact ⟨p.1, by rw [← e1]; exact List.mem_map_of_mem hp, rfl⟩
        rcases s1 with s1 | s1
        · refine .inl fun d hd => ?_
          obtain ⟨d', h1, rfl⟩ := mm d hd
          have := s1 d' h1
          unfold isTup1 at this
          split at this
          · exact ⟨_, _, rfl⟩
          · cases this
        · refine .inr fun d hd => ?_
          obtain ⟨d', h1, rfl⟩ := mm d hd
          have := s1 d' h1
          cases d' <;> simp_all [noTup, toPy]) (fun d hd => by
        obtain ⟨p, hp, rfl⟩ := List.mem_map.mp hd
        have hm : p.1 ∈ ds := by rw [← e1]; exact List.mem_map_of_mem hp
        have := toPy_deep p.1 (shpL_mem s3 _ hm)
        have := deepL_mem _ hm
        show X.A.units + 1 + 1 + _ < _
        omega)
      refine PySem.W.sorted_vals hl.isList S (by rw [← rv'.length]; exact hz) ?_
      generalize hκ : PySem.W.dataKind _ (L.map fun p => toPy p.1) = κ at S ⊢
      have key : ∀ p ∈ L, κ.keyOf p.2.2 = some (cast (by rw [← hκ]; rfl) (PySem.W.keyToks (toPy p.1))) := fun p hp => by
        subst hκ
        obtain ⟨as, hr⟩ := rd p hp
        exact PySem.W.dataKind_some al (List.mem_map_of_mem hp) (Reads.keeps old hr)
      subst hκ
      have key2 : ∀ p ∈ L, PySem.W.keyD (PySem.W.dataKind (PySem.W.sortingHeap (PySem.W.copyHeap s.heap its) (s.heap.objs.size + 1) its) (L.map fun p => toPy p.1)) p.2.2 = PySem.W.keyToks (toPy p.1) := fun p hp => PySem.W.keyD_some (key p hp)
      let le3 : D × V × Value → D × V × Value → Bool := fun p q => dle p.1 q.1
      let L' := L.mergeSort le3
      have hperm : L'.Perm L := List.mergeSort_perm L le3
      have hd : sortB dle ds = L'.map (·.1) := by
        rw [sortB_eq dle_tr dle_to, ← e1]
        exact (List.map_mergeSort (r := le3) (s := dle) (f := fun p : D × V × Value => p.1) fun a _ b _ => rfl).symm
      have hvs : PySem.W.sortVals (PySem.W.dataKind (PySem.W.sortingHeap (PySem.W.copyHeap s.heap its) (s.heap.objs.size + 1) its) (L.map fun p => toPy p.1)) false its its = L'.map (·.2.2) := by
        unfold PySem.W.sortVals
        have ez : its.zip its = L.map fun p => (p.2.2, p.2.2) := by
          rw [← e3, List.zip_map']
        rw [ez, ← List.map_mergeSort (r := le3) (f := fun p : D × V × Value => (p.2.2, p.2.2))]
        · rw [List.map_map]; rfl
        · intro a ha b hb
          show dle a.1 b.1 = PySem.W.sortLe _ false _ _ _
          unfold PySem.W.sortLe
          simp only [cond_false, key2 a ha, key2 b hb]
          rfl
      rw [hvs]
      obtain ⟨ep, he'⟩ := PyProof.Rows.sortedAll_at s.heap its (L'.map (·.2.2)).toArray
      obtain ⟨f1, f2⟩ := trip_at fun p hp => hL p (hperm.mem_iff.mp hp)
      have hlen : (L'.map (·.2.1)).length ≤ sizeLine := by
        rw [List.length_map, hperm.length_eq]
        have : L.length = vs.length := by rw [← e2, List.length_map]
        omega
      rw [hd] at q
      refine ⟨.ref _, upd H (s.heap.objs.size + 1) (.lst (L'.map (·.2.1))), I.laid (t' := s.toks) (fun _ _ => PyProof.Rows.sortedAll_old) (Nat.le_succ _) ⟨hlen, L'.map (·.2.2), ep, f2, he'⟩, rfl, q.lst e f1 _ (I.hok.fresh (Nat.le_succ _))⟩
    · cases hf
  · simp only [Option.bind_eq_some_iff] at hf
    obtain ⟨ns, hn, hf⟩ := hf
    split at hf
    · rename_i h64
      cases hf
      obtain ⟨x, rfl, h1⟩ := hp.one
      obtain ⟨a, kl, rfl, h4, h5, h6⟩ := h1.dct e
      subst h5
      refine call_sortedDI hc pins s σ H _ us Q I rv ⟨a, kl, ns, rfl, h4, kInts kl ns hn, h64, fun ys p hp hs hfr => ?_⟩
      have := sort_uniq hp hs
      subst this
      exact q.lst e (AtL.toInts _) p hfr
    · cases hf
  · cases hf
theorem foldl_min : ∀ (ns : List Int) (i : Int), (ns.foldl (fun m x => if x < m then x else m) i) ∈ i :: ns ∧ ∀ y ∈ i :: ns, (ns.foldl (fun m x => if x < m then x else m) i) ≤ y
  | [], i => ⟨List.mem_cons_self .., fun y hy => by simp at hy; subst hy; exact Int.le_refl _⟩
  | n :: ns, i => by
    obtain ⟨h1, h2⟩ := foldl_min ns (if n < i then n else i)
    rw [List.foldl_cons]
    refine ⟨?_, fun y hy => ?_⟩
    · rcases List.mem_cons.mp h1 with h | h
      · rw [h]; split <;> simp
      · exact List.mem_cons_of_mem _ (List.mem_cons_of_mem _ h)
    · have h3 := h2 (if n < i then n else i) (List.mem_cons_self ..)
      rcases List.mem_cons.mp hy with rfl | hy
      · split at h3 <;> rename_i hc <;> simp only [hc, if_true, if_false] at h2 ⊢ <;> omega
      · rcases List.mem_cons.mp hy with rfl | hy
        · split at h3 <;> rename_i hc <;> simp only [hc, if_true, if_false] at h2 ⊢ <;> omega
        · exact h2 y (List.mem_cons_of_mem _ hy)
theorem foldl_max : ∀ (ns : List Int) (i : Int), (ns.foldl (fun m x => if m < x then x else m) i) ∈ i :: ns ∧ ∀ y ∈ i :: ns, y ≤ (ns.foldl (fun m x => if m < x then x else m) i)
  | [], i => ⟨List.mem_cons_self .., fun y hy => by simp at hy; subst hy; exact Int.le_refl _⟩
  | n :: ns, i => by
    obtain ⟨h1, h2⟩ := foldl_max ns (if i < n then n else i)
    rw [List.foldl_cons]
    refine ⟨?_, fun y hy => ?_⟩
    · rcases List.mem_cons.mp h1 with h | h
      · rw [h]; split <;> simp
      · exact List.mem_cons_of_mem _ (List.mem_cons_of_mem _ h)
    · have h3 := h2 (if i < n then n else i) (List.mem_cons_self ..)
      rcases List.mem_cons.mp hy with rfl | hy
      · split at h3 <;> rename_i hc <;> simp only [hc, if_true, if_false] at h2 ⊢ <;> omega
      · rcases List.mem_cons.mp hy with rfl | hy
        · split at h3 <;> rename_i hc <;> simp only [hc, if_true, if_false] at h2 ⊢ <;> omega
        · exact h2 y (List.mem_cons_of_mem _ hy)
theorem toPyL_ints : ∀ ns : List Int, toPyL (ns.map D.int) = ns.map PyData.int
  | [] => rfl
  | n :: ns => by rw [List.map_cons, List.map_cons, toPyL, toPyL_ints ns]; rfl
theorem shpL_ints : ∀ ns : List Int, shpL (ns.map D.int) = true
  | [] => rfl
  | n :: ns => by rw [List.map_cons, shpL, shpL_ints ns]; rfl
theorem alike_ints (ns : List Int) : PySem.W.AlikeAll (ns.map PyData.int) := ⟨fun x hx y hy => by
  obtain ⟨i, _, rfl⟩ := List.mem_map.mp hx
  obtain ⟨j, _, rfl⟩ := List.mem_map.mp hy
  simp [PySem.W.alike], fun x hx => by
  obtain ⟨i, _, rfl⟩ := List.mem_map.mp hx
  exact fun e => nomatch e⟩
theorem depth_ints : ∀ ns : List Int, PyData.depthAll (ns.map PyData.int) = 0
  | [] => rfl
  | n :: ns => by rw [List.map_cons, PyData.depthAll, depth_ints ns]; rfl
theorem fold_min (ns : List Int) (i : Int) : ns.foldl (fun m x => if x < m then x else m) i = ns.foldl min i := by
  have : (fun m x : Int => if x < m then x else m) = min := by
    funext m x
    split <;> omega
  rw [this]
theorem fold_max (ns : List Int) (i : Int) : ns.foldl (fun m x => if m < x then x else m) i = ns.foldl max i := by
  have : (fun m x : Int => if m < x then x else m) = max := by
    funext m x
    split <;> omega
  rw [this]
mutual
theorem toPy_plain : ∀ (d : D), shp d = true → (toPy d).plain = true
  | .non, _ | .bl _, _ | .int _, _ | .str _, _ => by simp only [toPy, PyData.plain]
  | .tup ds, h | .lst ds, h => by simp only [toPy, PyData.plain]; exact toPyL_plain ds (by simpa only [shp] using h)
  | .dct _ _, h | .set _, h | .scr _, h => by simp [shp] at h
theorem toPyL_plain : ∀ (ds : List D), shpL ds = true → PyData.plainAll (toPyL ds) = true
  | [], _ => by simp only [toPyL, PyData.plainAll]
  | d :: ds, h => by
    simp only [shpL, Bool.and_eq_true] at h
    simp only [toPyL, PyData.plainAll, toPy_plain d h.1, toPyL_plain ds h.2, Bool.and_self]
end
mutual
theorem toPy_inj : ∀ (a b : D), shp a = true → shp b = true → toPy a = toPy b → a = b
  | a, b, ha, hb, h => by
    cases a <;> cases b <;> first
      | (simp [shp] at ha; done)
      | (simp [shp] at hb; done)
      | (simp [toPy] at h; done)
      | rfl
      | (simp only [toPy, PyData.bool.injEq, PyData.int.injEq, PyData.str.injEq] at h; rw [h]; done)
      | (simp only [toPy, PyData.tuple.injEq, PyData.list.injEq] at h; rw [toPyL_inj _ _ (by simpa only [shp] using ha) (by simpa only [shp] using hb) h]; done)
theorem toPyL_inj : ∀ (a b : List D), shpL a = true → shpL b = true → toPyL a = toPyL b → a = b
  | [], [], _, _, _ => rfl
  | [], _ :: _, _, _, h => by simp [toPyL] at h
  | _ :: _, [], _, _, h => by simp [toPyL] at h
  | x :: a, y :: b, ha, hb, h => by
    simp only [shpL, Bool.and_eq_true] at ha hb
    simp only [toPyL, List.cons.injEq] at h
    rw [toPy_inj x y ha.1 hb.1 h.1, toPyL_inj a b ha.2 hb.2 h.2]
end
theorem toPyL_map : ∀ ds : List D, toPyL ds = ds.map toPy
  | [] => rfl
  | d :: ds => by rw [toPyL, toPyL_map ds]; rfl
theorem minDD_py : ∀ (ds : List D) (d : D), PySem.W.minD (toPy d) (toPyL ds) = toPy (minDD d ds)
  | [], d => rfl
  | x :: ds, d => by
    have ih := minDD_py ds (if dlt x d then x else d)
    unfold minDD at ih ⊢
    unfold PySem.W.minD at ih ⊢
    rw [toPyL, List.foldl_cons, List.foldl_cons, ← ih]
    congr 1
    unfold dlt
    split <;> rfl
theorem maxDD_py : ∀ (ds : List D) (d : D), PySem.W.maxD (toPy d) (toPyL ds) = toPy (maxDD d ds)
  | [], d => rfl
  | x :: ds, d => by
    have ih := maxDD_py ds (if dlt d x then x else d)
    unfold maxDD at ih ⊢
    unfold PySem.W.maxD at ih ⊢
    rw [toPyL, List.foldl_cons, List.foldl_cons, ← ih]
    congr 1
    unfold dlt
    split <;> rfl
theorem minDD_mem : ∀ (ds : List D) (d : D), minDD d ds ∈ d :: ds
  | [], d => List.mem_cons_self ..
  | x :: ds, d => by
    have := minDD_mem ds (if dlt x d then x else d)
    unfold minDD at this ⊢
    rw [List.foldl_cons]
    rcases List.mem_cons.mp this with h | h
    · rw [h]; split <;> simp
    · exact List.mem_cons_of_mem _ (List.mem_cons_of_mem _ h)
theorem maxDD_mem : ∀ (ds : List D) (d : D), maxDD d ds ∈ d :: ds
  | [], d => List.mem_cons_self ..
  | x :: ds, d => by
    have := maxDD_mem ds (if dlt d x then x else d)
    unfold maxDD at this ⊢
    rw [List.foldl_cons]
    rcases List.mem_cons.mp this with h | h
    · rw [h]; split <;> simp
    · exact List.mem_cons_of_mem _ (List.mem_cons_of_mem _ h)
theorem sortable_alike {ds : List D} (h : sortable ds = true) : PySem.W.AlikeAll (toPyL ds) ∧ shpL ds = true ∧ PyData.depthAll (toPyL ds) ≤ 60 := by
  unfold sortable at h
  simp only [Bool.and_eq_true, Bool.or_eq_true, decide_eq_true_eq, List.all_eq_true] at h
  obtain ⟨⟨⟨s1, s2⟩, s3⟩, s4⟩ := h
  refine ⟨⟨fun x hx y hy => ?_, fun x hx => ?_⟩, s3, by rw [toPyL_deep ds s3]; exact s4⟩
  · rw [toPyL_map] at hx hy
    obtain ⟨a, ha, rfl⟩ := List.mem_map.mp hx
    obtain ⟨b, hb, rfl⟩ := List.mem_map.mp hy
    exact s2 a ha b hb
  · rw [toPyL_map] at hx
    obtain ⟨a, ha, rfl⟩ := List.mem_map.mp hx
    rcases s1 with s1 | s1
    · have := s1 a ha
      cases a <;> simp_all [isTup1, toPy]
    · have := s1 a ha
      cases a <;> simp_all [noTup, toPy]
theorem obl_min1 (hc : X.calm = true) (hu : X.A.units + 65 < cLine) : CallR X (.builtin "min") (rBl X.K .min1) := by
  intro pins s σ H xs us Q I rv h
  obtain ⟨R, ds, r, e, hp, hf, q⟩ := h
  simp only [bltF] at hf
  unfold min1F at hf
  split at hf
  · rename_i i ds
    obtain ⟨x, rfl, h1⟩ := hp.one
    simp only [Option.map_eq_some_iff] at hf
    obtain ⟨ns, hn, rfl⟩ := hf
    have e1 := dInts_eq hn
    subst e1
    obtain ⟨a, vs, rfl, h2, h3⟩ := h1.lst e
    rw [AtL.ofInts (ns := i :: ns) h3] at h2
    obtain ⟨m1, m2⟩ := foldl_min ns i
    refine cr_min hc pins s σ H _ us Q I rv ⟨a, i :: ns, rfl, .inl (.inl h2), by simp, fun m k1 k2 => ?_⟩
    rw [Int.le_antisymm (k2 _ m1) (m2 _ k1)]
    exact q.sc e rfl
  · rename_i i ds
    obtain ⟨x, rfl, h1⟩ := hp.one
    simp only [Option.map_eq_some_iff] at hf
    obtain ⟨ns, hn, rfl⟩ := hf
    have e1 := dInts_eq hn
    subst e1
    obtain ⟨a, vs, rfl, h2, h3⟩ := h1.tup e
    obtain ⟨u, rfl, ru⟩ := vals1 rv
    cases ru
    obtain ⟨its, rv', hl, hz⟩ := I.tuple h2
    obtain ⟨as, hr⟩ := Dp.readsAll I _ _ _ (h3.dp e (shpL_ints (i :: ns))) rv'
    refine PySem.W.min_tuple_data (x := .int i) (xs := ns.map .int) (I.ok.hd hc) (show s.heap.IsTuple a its.toArray from hl) (by rw [toPyL_ints (i :: ns)] at hr; simpa using hr) (alike_ints (i :: ns)) (by rw [← List.map_cons, depth_ints]; omega) fun k v h' tk bs hv hr' kp => ?_
    rw [PySem.W.minD_ints, ← fold_min] at hr'
    cases hr'
    exact ⟨.int _, H, I.kept (t' := tk) kp, ⟨_, rfl⟩, q.sc e rfl⟩
  · rename_i t ds
    split at hf
    · rename_i hs
      cases hf
      obtain ⟨s1, s2, s3⟩ := sortable_alike hs
      obtain ⟨x, rfl, h1⟩ := hp.one
      obtain ⟨a, vs, rfl, h2, h3⟩ := h1.lst e
      obtain ⟨u, rfl, ru⟩ := vals1 rv
      cases ru
      obtain ⟨its, rv', hl, hz⟩ := I.list (.inl (.inl h2))
      obtain ⟨as, hr⟩ := Dp.readsAll I _ _ _ (h3.dp e s2) rv'
      rw [toPyL] at hr s1 s3
      refine PySem.W.min_list_data (x := toPy (.tup t)) (xs := toPyL ds) (I.ok.hd hc) hl.isList (by simpa using hr) s1 (by omega) fun k v h' tk bs hv hr' kp => ?_
      rw [minDD_py] at hr'
      obtain ⟨L, e1, e2, e3, hL⟩ := trip h3 rv'
      have hk : its[k]? = some v := by simpa using hv
      rw [← e3, List.getElem?_map] at hk
      obtain ⟨p, hp, rfl⟩ := Option.map_eq_some_iff.mp hk
      have hpL := List.mem_of_getElem? hp
      obtain ⟨k1, k2⟩ := hL p hpL
      have hpm : p.1 ∈ D.tup t :: ds := by rw [← e1]; exact List.mem_map_of_mem hpL
      have hps := shpL_mem s2 p.1 hpm
      obtain ⟨as2, r2⟩ := Dp.reads I _ _ _ (k1.dp e hps) k2
      have hm := shpL_mem s2 _ (minDD_mem ds (.tup t))
      have heq := PySem.SeqAt.plain_unique _ _ _ _ _ (toPy_plain _ hps) (Reads.keeps kp r2) hr'
      have hd := toPy_inj _ _ hps hm heq
      rw [← hd] at q
      exact ⟨p.2.1, H, I.kept (t' := tk) kp, k2, q.sc e k1⟩
    · cases hf
  · cases hf
theorem obl_max1 (hc : X.calm = true) (hu : X.A.units + 65 < cLine) : CallR X (.builtin "max") (rBl X.K .max1) := by
  intro pins s σ H xs us Q I rv h
  obtain ⟨R, ds, r, e, hp, hf, q⟩ := h
  simp only [bltF] at hf
  unfold max1F at hf
  split at hf
  · rename_i i ds
    obtain ⟨x, rfl, h1⟩ := hp.one
    simp only [Option.map_eq_some_iff] at hf
    obtain ⟨ns, hn, rfl⟩ := hf
    have e1 := dInts_eq hn
    subst e1
    obtain ⟨a, vs, rfl, h2, h3⟩ := h1.lst e
    rw [AtL.ofInts (ns := i :: ns) h3] at h2
    obtain ⟨m1, m2⟩ := foldl_max ns i
    refine cr_max hc pins s σ H _ us Q I rv ⟨a, i :: ns, rfl, .inl (.inl h2), by simp, fun m k1 k2 => ?_⟩
    rw [Int.le_antisymm (m2 _ k1) (k2 _ m1)]
    exact q.sc e rfl
  · rename_i i ds
    obtain ⟨x, rfl, h1⟩ := hp.one
    simp only [Option.map_eq_some_iff] at hf
    obtain ⟨ns, hn, rfl⟩ := hf
    have e1 := dInts_eq hn
    subst e1
    obtain ⟨a, vs, rfl, h2, h3⟩ := h1.tup e
    obtain ⟨u, rfl, ru⟩ := vals1 rv
    cases ru
    obtain ⟨its, rv', hl, hz⟩ := I.tuple h2
    obtain ⟨as, hr⟩ := Dp.readsAll I _ _ _ (h3.dp e (shpL_ints (i :: ns))) rv'
    refine PySem.W.max_tuple_data (x := .int i) (xs := ns.map .int) (I.ok.hd hc) (show s.heap.IsTuple a its.toArray from hl) (by rw [toPyL_ints (i :: ns)] at hr; simpa using hr) (alike_ints (i :: ns)) (by rw [← List.map_cons, depth_ints]; omega) fun k v h' tk bs hv hr' kp => ?_
    rw [PySem.W.maxD_ints, ← fold_max] at hr'
    cases hr'
    exact ⟨.int _, H, I.kept (t' := tk) kp, ⟨_, rfl⟩, q.sc e rfl⟩
  · rename_i t ds
    split at hf
    · rename_i hs
      cases hf
      obtain ⟨s1, s2, s3⟩ := sortable_alike hs
      obtain ⟨x, rfl, h1⟩ := hp.one
      obtain ⟨a, vs, rfl, h2, h3⟩ := h1.lst e
      obtain ⟨u, rfl, ru⟩ := vals1 rv
      cases ru
      obtain ⟨its, rv', hl, hz⟩ := I.list (.inl (.inl h2))
      obtain ⟨as, hr⟩ := Dp.readsAll I _ _ _ (h3.dp e s2) rv'
      rw [toPyL] at hr s1 s3
      refine PySem.W.max_list_data (x := toPy (.tup t)) (xs := toPyL ds) (I.ok.hd hc) hl.isList (by simpa using hr) s1 (by omega) fun k v h' tk bs hv hr' kp => ?_
      rw [maxDD_py] at hr'
      obtain ⟨L, e1, e2, e3, hL⟩ := trip h3 rv'
      have hk : its[k]? = some v := by simpa using hv
      rw [← e3, List.getElem?_map] at hk
      obtain ⟨p, hp, rfl⟩ := Option.map_eq_some_iff.mp hk
      have hpL := List.mem_of_getElem? hp
      obtain ⟨k1, k2⟩ := hL p hpL
      have hpm : p.1 ∈ D.tup t :: ds := by rw [← e1]; exact List.mem_map_of_mem hpL
      have hps := shpL_mem s2 p.1 hpm
      obtain ⟨as2, r2⟩ := Dp.reads I _ _ _ (k1.dp e hps) k2
      have hm := shpL_mem s2 _ (maxDD_mem ds (.tup t))
      have heq := PySem.SeqAt.plain_unique _ _ _ _ _ (toPy_plain _ hps) (Reads.keeps kp r2) hr'
      have hd := toPy_inj _ _ hps hm heq
      rw [← hd] at q
      exact ⟨p.2.1, H, I.kept (t' := tk) kp, k2, q.sc e k1⟩
    · cases hf
  · cases hf
theorem obl_str : CallR X (.type "str") (rBl X.K .str) := by
  intro pins s σ H xs us Q I rv h
  obtain ⟨R, ds, r, e, hp, hf, q⟩ := h
  simp only [bltF] at hf
  unfold strF at hf
  split at hf
  · split at hf
    · rename_i i hi
      obtain ⟨x, rfl, h1⟩ := hp.one
      cases hf
      exact call_str_int pins s σ H _ us Q I rv ⟨i, by rw [h1.int], hi, q.sc e rfl⟩
    · cases hf
  · obtain ⟨x, rfl, h1⟩ := hp.one
    cases hf
    exact SkE.call_str_str pins s σ H _ us Q I rv ⟨_, by rw [h1.str], q.sc e rfl⟩
  · cases hf
theorem obl_tuple : CallR X (.type "tuple") (rBl X.K .tuple) := by
  intro pins s σ H xs us Q I rv h
  obtain ⟨R, ds, r, e, hp, hf, q⟩ := h
  simp only [bltF] at hf
  unfold tupleF at hf
  split at hf
  · obtain ⟨x, rfl, h1⟩ := hp.one
    cases hf
    obtain ⟨a, vs, rfl, h2, h3⟩ := h1.lst e
    exact call_tuple_of pins s σ H _ us Q I rv ⟨a, vs, rfl, .inl ⟨.inl (.inl h2), q.tup e h3⟩⟩
  · obtain ⟨x, rfl, h1⟩ := hp.one
    cases hf
    have h1' := h1
    obtain ⟨a, vs, rfl, h2, h3⟩ := h1.tup e
    refine call_tuple_of pins s σ H _ us Q I rv ⟨a, vs, rfl, .inr ⟨h2, q.sc e ?_⟩⟩
    rcases h1' with h | ⟨_, _, h⟩
    · exact h
    · exact h.elim
  · cases hf

/-! ### methods -/
def rMu (K : PySem.W.Frag) (m : Mth) : V → List V → Hp → VK → Prop := fun x vs H Q => ∃ a R d ds d' r, x = .ref a ∧ Ex R H ∧ R a = none ∧ Own K R H a d ∧ AtL K R ds vs ∧ mutF m d ds = some (d', r) ∧
  ∀ v o, Own K R (upd H a o) a d' → Mut (some o) → (∃ dv, r = .v dv ∧ At K R dv v) → Q v (upd H a o)
theorem om_append : MtR X "list.append" (rMu X.K .append) := by
  intro pins s σ H x xs v us Q I rx rv h
  obtain ⟨a, R, d, ds, d', r, rfl, e, hn, ho, al, hf, q⟩ := h
  simp only [mutF] at hf
  unfold appendF at hf
  split at hf
  · split at hf
    · rename_i hz
      cases hf
      obtain ⟨vs, h1, h2⟩ := ho
      obtain ⟨y, r', rfl, h3, h4⟩ := al
      cases (show r' = [] from h4)
      exact mt_append pins s σ H _ _ v us Q I rx rv ⟨a, vs, y, rfl, rfl, h1, by rw [← h2.length]; exact hz, q _ _ ⟨_, upd_same, h2.append (.cons h3 AtL.nil)⟩ trivial ⟨_, rfl, rfl⟩⟩
    · cases hf
  · cases hf
theorem om_pop0 : MtR X "list.pop" (rMu X.K .pop0) := by
  intro pins s σ H x xs v us Q I rx rv h
  obtain ⟨a, R, d, ds, d', r, rfl, e, hn, ho, al, hf, q⟩ := h
  simp only [mutF] at hf
  unfold pop0F at hf
  split at hf
  · simp only [Option.map_eq_some_iff] at hf
    obtain ⟨y, hy, hf⟩ := hf
    cases hf
    obtain ⟨vs, h1, h2⟩ := ho
    cases (show xs = [] from al)
    obtain ⟨w, h3, h4⟩ := h2.get hy
    rw [h2.length] at h3
    exact mt_pop pins s σ H _ _ v us Q I rx rv ⟨a, vs, w, rfl, rfl, h1, h3, q _ _ ⟨_, upd_same, h2.dropLast⟩ trivial ⟨_, rfl, h4⟩⟩
  · cases hf
theorem om_pop1 : MtR X "list.pop" (rMu X.K .pop1) := by
  intro pins s σ H x xs v us Q I rx rv h
  obtain ⟨a, R, d, ds, d', r, rfl, e, hn, ho, al, hf, q⟩ := h
  simp only [mutF] at hf
  unfold pop1F at hf
  split at hf
  · rename_i ds i
    simp only [Option.bind_eq_some_iff] at hf
    obtain ⟨j, hj, hf⟩ := hf
    split at hf
    · rename_i hz
      simp only [Option.map_eq_some_iff] at hf
      obtain ⟨y, hy, hf⟩ := hf
      cases hf
      obtain ⟨vs, h1, h2⟩ := ho
      obtain ⟨z, r', rfl, h3, h4⟩ := al
      cases (show r' = [] from h4)
      cases (show z = .int i from h3)
      obtain ⟨w, h5, h6⟩ := h2.get hy
      obtain ⟨h7, _⟩ := ixN_seq hj
      exact mt_popAt pins s σ H _ _ v us Q I rx rv ⟨a, vs, i, j, w, rfl, rfl, h1, hz.1, hz.2, by rw [← h2.length]; exact h7, h5, q _ _ ⟨_, upd_same, h2.eraseIdx j⟩ trivial ⟨_, rfl, h6⟩⟩
    · cases hf
  · cases hf
end
section
variable {K : PySem.W.Frag} {env env' : Env} {σ : L2.St} {R H : Hp} {i : Nat} {a : Addr} {o : HO} {d d' : D}
/-- a held object is changed -/
theorem Rep.change (rep : Rep K env σ R H) (hv : σ[i]? = some (some (V.ref a))) (hh : ownOf env i = some d) (hs : setOwn env i d' = some env') (ho : Own K R (upd H a o) a d') :
    Rep K env' σ R (upd H a o) ∧ ESt env σ R H env' R (upd H a o) := by
  have own : Hold env σ i a ∧ R a = none ∧ H a ≠ none ∧ i < env.length ∧ ((∃ c, env[i]? = some (Sl.ow c) ∧ env' = env.set i (.ow d')) ∨ ∃ c, env[i]? = some (Sl.bw c) ∧ env' = env.set i (.bw d')) := by
    unfold setOwn at hs
    cases q : env[i]? with
    | none => simp only [q] at hs; cases hs
    | some s =>
      have hi : i < env.length := (List.getElem?_eq_some_iff.mp q).1
      cases s with
      | un => simp only [q] at hs; cases hs
      | sh c => simp only [q] at hs; cases hs
      | ow c =>
        simp only [q] at hs; cases hs
        obtain ⟨b, e1, e2, e3⟩ := rep.ow i c (.inl q)
        rw [hv] at e1; cases e1
        exact ⟨⟨.inl ⟨c, q⟩, hv⟩, e2, e3.ne, hi, .inl ⟨c, rfl, rfl⟩⟩
      | bw c =>
        simp only [q] at hs; cases hs
        obtain ⟨b, e1, e2, e3⟩ := rep.ow i c (.inr q)
        rw [hv] at e1; cases e1
        exact ⟨⟨.inr ⟨c, q⟩, hv⟩, e2, e3.ne, hi, .inr ⟨c, rfl, rfl⟩⟩
  obtain ⟨hold, hR, hH, hi, hc⟩ := own
  have le : EnvLe env env' := by
    rcases hc with ⟨c, q, rfl⟩ | ⟨c, q, rfl⟩
    · refine ⟨List.length_set, fun j s e => ?_⟩
      by_cases hj : j = i
      · subst hj; rw [q] at e; cases e
        exact ⟨_, List.getElem?_set_self hi, .inl ⟨_, rfl⟩⟩
      · exact ⟨s, by rw [List.getElem?_set_ne (Ne.symm hj)]; exact e, .refl s⟩
    · refine ⟨List.length_set, fun j s e => ?_⟩
      by_cases hj : j = i
      · subst hj; rw [q] at e; cases e
        exact ⟨_, List.getElem?_set_self hi, ⟨_, rfl⟩⟩
      · exact ⟨s, by rw [List.getElem?_set_ne (Ne.symm hj)]; exact e, .refl s⟩
  have get : ∀ j, j ≠ i → env'[j]? = env[j]? := fun j hj => by
    rcases hc with ⟨c, q, rfl⟩ | ⟨c, q, rfl⟩ <;> rw [List.getElem?_set_ne (Ne.symm hj)]
  have at_i : env'[i]? = some (Sl.ow d') ∨ env'[i]? = some (Sl.bw d') := by
    rcases hc with ⟨c, q, rfl⟩ | ⟨c, q, rfl⟩
    · exact .inl (List.getElem?_set_self hi)
    · exact .inr (List.getElem?_set_self hi)
  refine ⟨⟨le.1.trans rep.len, fun b u e => ?_, fun j c e => ?_, fun j c e => ?_, fun j k b hj hk => rep.ne j k b (le.hold hj) (le.hold hk)⟩, ⟨⟨Ex.refl R, fun b hb => ?_, fun b u hb hn => ?_, fun b e _ _ => e⟩, le⟩⟩
  · have : b ≠ a := by rintro rfl; rw [hR] at e; cases e
    rw [upd_ne this]; exact rep.ex b u e
  · have hj : j ≠ i := by
      rintro rfl
      rcases at_i with z | z <;> rw [z] at e <;> cases e
    rw [get j hj] at e
    exact rep.sh j c e
  · by_cases hj : j = i
    · subst hj
      have : c = d' := by
        rcases at_i with z | z <;> rw [z] at e <;> rcases e with e | e <;> cases e <;> rfl
      subst this
      exact ⟨a, hv, hR, ho⟩
    · rw [get j hj] at e
      obtain ⟨b, e1, e2, e3⟩ := rep.ow j c e
      have : b ≠ a := by
        rintro rfl
        refine hj (rep.ne j i b ⟨?_, e1⟩ hold)
        rcases e with e | e
        · exact .inl ⟨c, e⟩
        · exact .inr ⟨c, e⟩
      exact ⟨b, e1, e2, e3.mono (Ex.refl R).le (upd_ne this)⟩
  · by_cases hb' : b = a
    · subst hb'; rw [upd_same]; exact fun z => nomatch z
    · rw [upd_ne hb']; exact hb
  · have : b ≠ a := by rintro rfl; exact hn ⟨i, hold⟩
    rw [upd_ne this]; exact hb
end
end Mi

end

section
set_option linter.all false
set_option maxRecDepth 100000
/-! Mi6: from the text to the language -/
namespace Mi
open PySem PySem.Spec PyProof.Rows L2

/-- the names of a module -/
structure Tab where
  fns : List Str
  con : List (Str × D)
  free : List Str
  gcd : Bool := false
  /-- names of dicts that are walked -/
  dn : List Str := []

def slotOf (N : List Str) (sc : Scope) (x : Str) : Option Nat :=
  if (sc.names.lookup x = some .local ∨ sc.names.lookup x = some .cell ∨ sc.names.lookup x = some .free) ∧ N[N.idxOf x]? = some x ∧ (x == ("__debug__" : Str)) = false ∧ (x == ("__classdict__" : Str)) = false then some (N.idxOf x) else none
def glob (sc : Scope) (x : Str) : Bool := decide (sc.names.lookup x = some .globalImplicit) && (x == ("__debug__" : Str)) == false && x != ("__name__" : Str)
def pln : Expr → Bool
  | .Starred .. | .Set .. | .Slice .. => false
  | _ => true
def bltB (x : Str) (n : Nat) : Option (Blt × String) :=
  if x = ("len" : Str) ∧ n = 1 then some (.len, "len")
  else if x = ("abs" : Str) ∧ n = 1 then some (.abs, "abs")
  else if x = ("sum" : Str) ∧ n = 1 then some (.sum, "sum")
  else if x = ("all" : Str) ∧ n = 1 then some (.all, "all")
  else if x = ("any" : Str) ∧ n = 1 then some (.any, "any")
  else if x = ("min" : Str) ∧ n = 2 then some (.min2, "min")
  else if x = ("max" : Str) ∧ n = 2 then some (.max2, "max")
  else if x = ("sorted" : Str) ∧ n = 1 then some (.sorted, "sorted")
  else if x = ("min" : Str) ∧ n = 1 then some (.min1, "min")
  else if x = ("max" : Str) ∧ n = 1 then some (.max1, "max")
  else none
def bltT (x : Str) (n : Nat) : Option (Blt × String) :=
  if x = ("int" : Str) ∧ n = 1 then some (.int, "int")
  else if x = ("list" : Str) ∧ n = 1 then some (.list, "list")
  else if x = ("tuple" : Str) ∧ n = 1 then some (.tuple, "tuple")
  else if x = ("str" : Str) ∧ n = 1 then some (.str, "str")
  else if x = ("dict" : Str) ∧ n = 1 then some (.dict, "dict")
  else none
def tyName (x : Str) : Option Ty :=
  if x = ("int" : Str) then some .int else if x = ("bool" : Str) then some .bool else if x = ("str" : Str) then some .str
  else if x = ("list" : Str) then some .list else if x = ("tuple" : Str) then some .tuple else if x = ("dict" : Str) then some .dict else none
def mthOf (m : Str) (n : Nat) : Option Mth :=
  if m = ("append" : Str) ∧ n = 1 then some .append
  else if m = ("pop" : Str) ∧ n = 0 then some .pop0
  else if m = ("pop" : Str) ∧ n = 1 then some .pop1
  else if m = ("insert" : Str) ∧ n = 2 then some .insert
  else if m = ("remove" : Str) ∧ n = 1 then some .remove
  else none
def lokOf (m : Str) (n : Nat) : Option Lok := if m = ("index" : Str) ∧ n = 1 then some .index else none
/-- the receiver of a method -/
def recv : Expr → Bool
  | .Name _ _ => true
  | _ => false

def xs (f : Expr → Xp) : List Expr → Xs
  | [] => .nil
  | e :: es => .cons (f e) (xs f es)
def fold2 (f : Xp → Xp → Xp) : Xp → List Xp → Xp
  | a, [] => a
  | a, b :: r => f a (fold2 f b r)
def ownOfScope (N : List Str) (scope : Scope) : List (Str × Nat) := (scope.names.filter fun y => (y.2 == .local || y.2 == .cell) && y.1 != (".0" : Str)).map fun y => (y.1, N.idxOf y.1)
/-- a target: names by their slots -/
def tgt (f : Str → Option Nat) : Expr → Option Gx
  | .Name x _ => (f x).map .nm
  | .Tuple es _ _ => (es.mapM fun (e : Expr) => match e with
      | .Name x _ => f x
      | _ => none).map .tp
  | _ => none
/-- the expression -1 -/
def isM1 : Expr → Bool
  | .UnaryOp .USub (.Constant (.int i) _ _) _ => i == 1
  | _ => false
def isTup : Expr → Bool
  | .Tuple _ _ _ => true
  | _ => false
def plnAll (es : List Expr) : Bool := es.all pln
/-- list(range(..)): the range's arguments -/
def lrgB (T : Tab) (sc : Scope) (x : Str) (args : List Expr) : Option (List Expr) := if x = ("list" : Str) then (match args with
  | [.Call (.Name r _) ras [] _] => if glob sc r && T.free.contains r && plnAll ras && r == ("range" : Str) && (ras.length == 1 || ras.length == 2) then some ras else none
  | _ => none) else none
/-- list(range(a, b, c)) -/
def lr3B (T : Tab) (sc : Scope) (x : Str) (args : List Expr) : Option (List Expr) := if x = ("list" : Str) then (match args with
  | [.Call (.Name r _) [a, b, c] [] _] => if glob sc r && T.free.contains r && plnAll [a, b, c] && r == ("range" : Str) then some [a, b, c] else none
  | _ => none) else none
def ifsX (f : Expr → Xp) : List Expr → Option Xo
  | [] => some .no
  | [c] => some (.so (f c))
  | _ => none
def Gx.sl : Gx → List Nat
  | .nm i => [i]
  | .tp is => is

mutual
def comp (T : Tab) : Nat → List Str → Scope → Expr → Xp
  | 0, _, _, _ => .bad
  | n + 1, N, sc, e => match e with
    | .Name x _ => match slotOf N sc x with
      | some i => .var i
      | none => if glob sc x then (match T.con.lookup x with
        | some d => .con d
        | none => .bad) else .bad
    | .Constant c _ _ => match c with
      | .none => .con .non
      | .bool b => .con (.bl b)
      | .int i => .con (.int i)
      | .str x => .con (.str x)
      | _ => .bad
    | .BinOp a op b _ => .bin op (comp T n N sc a) (comp T n N sc b)
    | .UnaryOp .USub a _ => .neg (comp T n N sc a)
    | .UnaryOp .Not a _ => .not (comp T n N sc a)
    | .BoolOp .And (a :: es) _ => fold2 .and (comp T n N sc a) (es.map (comp T n N sc))
    | .BoolOp .Or (a :: es) _ => fold2 .or (comp T n N sc a) (es.map (comp T n N sc))
    | .IfExp t a b _ => .ife (comp T n N sc t) (comp T n N sc a) (comp T n N sc b)
    | .Compare a [op] [b] _ => if pln b then .cmp op (comp T n N sc a) (comp T n N sc b) else .bad
    | .Compare a [op, op'] [b, c] _ => if pln b && pln c then .chn op op' (comp T n N sc a) (comp T n N sc b) (comp T n N sc c) else .bad
    | .Call (.Name x _) args [] _ => match args with
      | [] => if glob sc x && T.fns.contains x then .cal (T.fns.idxOf x) .nil else .bad
      | _ :: _ =>
        if glob sc x && plnAll args then
          if T.fns.contains x then .cal (T.fns.idxOf x) (xs (comp T n N sc) args)
          else if T.free.contains x then
            match lrgB T sc x args with
            | some ras => .lrg (xs (comp T n N sc) ras)
            | none => match lr3B T sc x args with
             | some ras => .lr3 (xs (comp T n N sc) ras)
             | none => match bltB x args.length with
              | some (b, _) => .blt b (xs (comp T n N sc) args)
              | none => match bltT x args.length with
                | some (b, _) => .blt b (xs (comp T n N sc) args)
                | none => match args with
                  | [a, .Name ty _] => if x = ("isinstance" : Str) ∧ glob sc ty = true ∧ T.free.contains ty = true then (match tyName ty with
                    | some t => .blt (.isi t) (.cons (comp T n N sc a) .nil)
                    | none => .bad) else .bad
                  | _ => .bad
          else if x = ("gcd" : Str) ∧ T.gcd = true ∧ args.length = 2 then .blt .gcd (xs (comp T n N sc) args)
          else .bad
        else .bad
    | .Call (.Attribute o m apos) args [] cpos => if recv o && apos.endLine == cpos.line && plnAll args then (match mthOf m args.length with
      | some k => .mut k (comp T n N sc o) (xs (comp T n N sc) args)
      | none => match lokOf m args.length with
        | some k => .lok k (comp T n N sc o) (xs (comp T n N sc) args)
        | none => if m = ("extend" : Str) ∧ args.length = 1 then .mux (comp T n N sc o) (xs (comp T n N sc) args) else .bad) else .bad
    | .Subscript a (.Slice none none (some s) _) _ => if isM1 s then .rev (comp T n N sc a) else .bad
    | .Subscript a (.Slice lo hi none _) _ => .sli (comp T n N sc a) (compO T n N sc lo) (compO T n N sc hi)
    | .Subscript a b _ => if pln b then .idx (comp T n N sc a) (comp T n N sc b) else .bad
    | .Tuple es _ _ => if plnAll es then .tup (xs (comp T n N sc) es) else .bad
    | .Dict [] [] _ => .dnw
    | .List es _ => if plnAll es then .lst (xs (comp T n N sc) es) else .bad
    | .ListComp elt [⟨tg, it, ifs, 0⟩] scope _ =>
      let own := ownOfScope N scope
      let sc' := relS scope sc
      if blkC N sc scope own && pln it then
        match tgt (fun x => if (scope.names.lookup x = some .local ∨ scope.names.lookup x = some .cell) ∧ (own.lookup x).isSome = true then own.lookup x else none) tg with
        | some g => match ifs with
          | [] => .lc (comp T n N sc' elt) g (compI T n N sc tg it) .no (own.map (·.2))
          | [c] => .lc (comp T n N sc' elt) g (compI T n N sc tg it) (.so (comp T n N sc' c)) (own.map (·.2))
          | _ => .bad
        | none => .bad
      else .bad
    | .ListComp elt [⟨tg, it, ifs, 0⟩, ⟨tg1, it1, ifs1, 0⟩] scope _ =>
      let own := ownOfScope N scope
      let sc' := relS scope sc
      if blkC N sc scope own && pln it && pln it1 then
        match tgt (fun x => if (scope.names.lookup x = some .local ∨ scope.names.lookup x = some .cell) ∧ (own.lookup x).isSome = true then own.lookup x else none) tg, tgt (fun x => if (scope.names.lookup x = some .local ∨ scope.names.lookup x = some .cell) ∧ (own.lookup x).isSome = true then own.lookup x else none) tg1, ifsX (comp T n N sc') ifs, ifsX (comp T n N sc') ifs1 with
        | some g, some g1, some c, some c1 => .lc2 (comp T n N sc' elt) g (compI T n N sc tg it) c g1 (compI T n N sc' tg1 it1) c1 (own.map (·.2)) g1.sl
        | _, _, _, _ => .bad
      else .bad
    | _ => .bad
def compO (T : Tab) : Nat → List Str → Scope → Option Expr → Xo
  | 0, _, _, _ => .so .bad
  | n + 1, N, sc, e => match e with
    | none => .no
    | some e => .so (comp T n N sc e)
def compI (T : Tab) : Nat → List Str → Scope → Expr → Expr → Ix
  | 0, _, _, _, _ => .e .bad
  | n + 1, N, sc, tg, e => match e with
    | .Call (.Name x p) args [] pos =>
      if glob sc x && T.free.contains x && !T.fns.contains x && plnAll args && x == ("range" : Str) && (args.length == 1 || args.length == 2) then .rng (xs (comp T n N sc) args)
      else if glob sc x && T.free.contains x && !T.fns.contains x && plnAll args && x == ("enumerate" : Str) && isTup tg then (match args with
        | [a] => .enm (comp T n N sc a)
        | _ => .e .bad)
      else if glob sc x && T.free.contains x && !T.fns.contains x && plnAll args && x == ("zip" : Str) && isTup tg then (match args with
        | [a, b] => .zpn (xs (comp T n N sc) [a, b])
        | _ => .e .bad)
      else if glob sc x && T.free.contains x && !T.fns.contains x && plnAll args && x == ("range" : Str) then (match args with
        | [a, b, c] => .rn3 (xs (comp T n N sc) [a, b, c])
        | _ => .e .bad)
      else .e (comp T n N sc (.Call (.Name x p) args [] pos))
    | .Call (.Name x p) [a, b] [⟨some kx, .Constant (.bool true) _ _, _⟩] pos =>
      if glob sc x && T.free.contains x && plnAll [a, b] && x == ("zip" : Str) && kx == ("strict" : Str) && isTup tg then .zps (xs (comp T n N sc) [a, b]) else .e .bad
    | .Call (.Name x p) [a, b] [⟨some kx, .Constant (.bool false) _ _, _⟩] pos =>
      if glob sc x && T.free.contains x && plnAll [a, b] && x == ("zip" : Str) && kx == ("strict" : Str) && isTup tg then .zpn (xs (comp T n N sc) [a, b]) else .e .bad
    | .Name x p => if T.dn.contains x then .dk (comp T n N sc (.Name x p)) else .e (comp T n N sc (.Name x p))
    | e => .e (comp T n N sc e)
end
end Mi

end

section
set_option linter.all false
set_option maxRecDepth 100000
set_option maxHeartbeats 1000000
/-! Mi7: expressions are sound -/
namespace Mi
open PySem PySem.Spec PyProof.Rows L2

section
variable (cf : Cf) (K : PySem.W.Frag)
/-- what the evaluator says of an expression, as a reading -/
def TD (c : Xp) : TE := fun σ H Q => ∃ env R rv env', Rep K env σ R H ∧ Mi.eval cf c env = some (rv, env') ∧
  ∀ v R' H', Rep K env' σ R' H' → ESt env σ R H env' R' H' → RvAt K env' σ R' H' H v rv → Q v H'
def TT (c : Xp) : L2.TT := fun σ H Q => ∃ env R k env', Rep K env σ R H ∧ Mi.test cf c env = some (k, env') ∧
  ∀ R' H', Rep K env' σ R' H' → ESt env σ R H env' R' H' → Q k H'
def RvL (env : Env) (σ : L2.St) (R H H0 : Hp) : List Rv → List V → Prop
  | [], vs => vs = []
  | r :: rs, vs => ∃ v t, vs = v :: t ∧ RvAt K env σ R H H0 v r ∧ RvL env σ R H H0 rs t ∧ ∀ d, r = .f d → ∀ (k : Nat) d', rs[k]? = some (Rv.f d') → t[k]? ≠ some v
def TL (es : Xs) : TA := fun σ H Q => ∃ env R rs env', Rep K env σ R H ∧ Mi.evals cf es env = some (rs, env') ∧
  ∀ vs R' H', Rep K env' σ R' H' → ESt env σ R H env' R' H' → RvL K env' σ R' H' H rs vs → Q vs H'
def TLT (es : Xs) : TA := fun σ H Q => ∃ env R ds env', Rep K env σ R H ∧ Mi.evalsT cf es env = some (ds, env') ∧
  ∀ vs R' H', Rep K env' σ R' H' → ESt env σ R H env' R' H' → AtL K R' ds vs → Q vs H'
/-- arguments: shared data, or a slot's object -/
def AgL (env : Env) (σ : L2.St) (R : Hp) : List Ag → List V → Prop
  | [], vs => vs = []
  | .d d :: as, vs => ∃ v t, vs = v :: t ∧ At K R d v ∧ AgL env σ R as t
  | .s i :: as, vs => ∃ v t, vs = v :: t ∧ σ[i]? = some (some v) ∧ AgL env σ R as t
def TLA (io : Option Nat) (es : Xs) : TA := fun σ H Q => ∃ env R as env', Rep K env σ R H ∧ Mi.evalsA cf io es env = some (as, env') ∧
  ∀ vs R' H', Rep K env' σ R' H' → ESt env σ R H env' R' H' → AgL K env' σ R' as vs → Q vs H'
def TO' (o : Xo) : L2.TO := fun σ H Q => ∃ env R k env', Rep K env σ R H ∧ Mi.evalO cf o env = some (k, env') ∧
  ∀ R' H', Rep K env' σ R' H' → ESt env σ R H env' R' H' → Q k H'
/-- what a call does: as shared or lent arguments at vs -/
def CallEnd (as : List Sl) (vs : List V) (R H : Hp) (r : Rv) (o : Option D) (v : V) (R' H' : Hp) : Prop :=
  Fr (Owns as (vs.map some)) (fun _ => False) R H R' H' ∧ Ex R' H' ∧ RO K R' H' H v r ∧
  (o = none → ∀ (i : Nat) d, as[i]? ≠ some (Sl.bw d)) ∧ ∀ d, o = some d → ∀ (i : Nat) c, as[i]? = some (Sl.bw c) → ∃ a, vs[i]? = some (V.ref a) ∧ R' a = none ∧ Own K R' H' a d
def spD (f : Nat) : Sp := fun vs H Q _ => ∃ as R r o, Rep K as (vs.map some) R H ∧ cf.C f as = some (r, o) ∧ ∀ v R' H', CallEnd K as vs R H r o v R' H' → Q v H'
end

/-- where the text stands -/
structure Gd (T : Tab) (cf : Cf) (X : Cx) (N : List Str) (sc : Scope) : Prop where
  hN : X.N = N
  nd : N.Nodup
  hsc : X.env.scope = sc
  calm : X.calm = true
  xe : X.xe = fun _ _ => False
  con : ∀ x d, T.con.lookup x = some d → ∃ u v, X.mg x = some u ∧ RelV v u ∧ ∀ R, At X.K R d v
  free : ∀ x, T.free.contains x = true → X.mg x = none
  gcd : T.gcd = true → X.mg "gcd" = some (.builtin "math.gcd")
  hu : X.A.units + 65 < cLine
  call : ∀ x, T.fns.contains x = true → ∃ (k : Nat) (a : Addr) (fd : FuncData) (ps : List Str), FnOk X.prog X.w X.K X.mg X.base CX0 k a fd ps (spD cf X.K (T.fns.idxOf x)) ∧ Room k X.A ∧ X.mg x = some (.ref a) ∧
    PySem.W.keepIn X.K (.ref a) = true ∧ Binds X.K fd ps []

section
variable {X : Cx} {T : Tab} {cf : Cf} {N : List Str} {sc : Scope}
theorem imp_e {e : Expr} {t t' : TE} (h : PE X e t) (i : ∀ σ H Q, t' σ H Q → t σ H Q) : PE X e t' := ⟨fun pins s σ H Q I w => h.run pins s σ H Q I (i σ H Q w)⟩
theorem imp_t {e : Expr} {t t' : L2.TT} (h : PT X e t) (i : ∀ σ H Q, t' σ H Q → t σ H Q) : PT X e t' := ⟨fun pins s σ H Q I w => h.run pins s σ H Q I (i σ H Q w)⟩
theorem imp_a {e : List Expr} {t t' : TA} (h : PA X e t) (i : ∀ σ H Q, t' σ H Q → t σ H Q) : PA X e t' := ⟨fun pos pins s σ H Q I w => h.run pos pins s σ H Q I (i σ H Q w)⟩
theorem imp_o {e : Option Expr} {t t' : L2.TO} (h : PO X e t) (i : ∀ σ H Q, t' σ H Q → t σ H Q) : PO X e t' := ⟨fun pins s σ H Q I w => h.run pins s σ H Q I (i σ H Q w)⟩
theorem td_bad {e : Expr} : PE X e (TD cf X.K .bad) := ⟨fun _ _ _ _ _ _ ⟨_, _, _, _, _, h, _⟩ => by simp [Mi.eval] at h⟩
theorem tt_bad {e : Expr} : PT X e (TT cf X.K .bad) := ⟨fun _ _ _ _ _ _ ⟨_, _, _, _, _, h, _⟩ => by simp [Mi.test, Mi.eval] at h⟩

variable {a b c e : Expr} {ca cb cc : Xp} {pos : Pos}
theorem td_bin {op : Operator} (ha : PE X a (TD cf X.K ca)) (hb : PE X b (TD cf X.K cb)) : PE X (.BinOp a op b pos) (TD cf X.K (.bin op ca cb)) := by
  refine imp_e (pe_op (ob (op := op)) ha hb) fun σ H Q h => ?_
  obtain ⟨env, R, rv, env', rep, ev, q⟩ := h
  simp only [Mi.eval, Option.bind_eq_some_iff, Option.map_eq_some_iff] at ev
  obtain ⟨p, e1, p2, e2, x, e3, y, e4, r, e5, e6⟩ := ev
  cases e6
  refine ⟨env, R, p.1, p.2, rep, e1, fun v1 R1 H1 rep1 st1 at1 => ⟨p.2, R1, p2.1, p2.2, rep1, e2, fun v2 R2 H2 rep2 st2 at2 => ?_⟩⟩
  exact ⟨R2, x, y, _, rep2.ex, (at1.later st2).pk rep2 e3, at2.pk rep2 e4, e5, fun v R3 H3 al ro => q v R3 H3 (al.rep rep2) ((st1.trans st2).trans al.st) ((ro.at rep2).since fun b hb => st2.fr.dom b (st1.fr.dom b hb))⟩
theorem td_cmp {op : CmpOp} (G : Gd T cf X N sc) (ha : PE X a (TD cf X.K ca)) (hb : PE X b (TD cf X.K cb)) (hm : behindInMarks op b = false) : PE X (.Compare a [op] [b] pos) (TD cf X.K (.cmp op ca cb)) := by
  refine imp_e (pe_cmpR (oc (op := op) G.hu) ha hb hm) fun σ H Q h => ?_
  obtain ⟨env, R, rv, env', rep, ev, q⟩ := h
  simp only [Mi.eval, Option.bind_eq_some_iff, Option.map_eq_some_iff] at ev
  obtain ⟨p, e1, p2, e2, x, e3, y, e4, r, e5, e6⟩ := ev
  cases e6
  refine ⟨env, R, p.1, p.2, rep, e1, fun v1 R1 H1 rep1 st1 at1 => ⟨p.2, R1, p2.1, p2.2, rep1, e2, fun v2 R2 H2 rep2 st2 at2 => ?_⟩⟩
  exact ⟨R2, x, y, _, rep2.ex, (at1.later st2).pk rep2 e3, at2.pk rep2 e4, e5, q _ R2 H2 rep2 (st1.trans st2) rfl⟩
theorem tt_cmp {op : CmpOp} (G : Gd T cf X N sc) (ha : PE X a (TD cf X.K ca)) (hb : PE X b (TD cf X.K cb)) (hm : behindInMarks op b = false) : PT X (.Compare a [op] [b] pos) (TT cf X.K (.cmp op ca cb)) := by
  refine imp_t (pt_cmpR (oc (op := op) G.hu) ha hb hm) fun σ H Q h => ?_
  obtain ⟨env, R, k, env', rep, ev, q⟩ := h
  simp only [Mi.test, Mi.eval, Option.bind_eq_some_iff, Option.map_eq_some_iff] at ev
  obtain ⟨p0, ⟨p, e1, p2, e2, x, e3, y, e4, r, e5, e6⟩, z, e7, k', e8, e9⟩ := ev
  cases e6; cases e7; cases e8; cases e9
  refine ⟨env, R, p.1, p.2, rep, e1, fun v1 R1 H1 rep1 st1 at1 => ⟨p.2, R1, p2.1, p2.2, rep1, e2, fun v2 R2 H2 rep2 st2 at2 => ?_⟩⟩
  exact ⟨R2, x, y, _, rep2.ex, (at1.later st2).pk rep2 e3, at2.pk rep2 e4, e5, _, rfl, q R2 H2 rep2 (st1.trans st2)⟩
/-- a test by its value's truth -/
theorem tt_val (ha : PE X a (TD cf X.K ca)) (he : ∀ whole, isTrue a X.env whole = (do let v ← whole; standAt a.pos; holding [v] (truthy v))) : PT X a (TT cf X.K ca) := by
  refine imp_t (pt_truth ha he) fun σ H Q h => ?_
  obtain ⟨env, R, k, env', rep, ev, q⟩ := h
  simp only [Mi.test, Option.bind_eq_some_iff, Option.map_eq_some_iff] at ev
  obtain ⟨p, e1, x, e2, k', e3, e4⟩ := ev
  cases e4
  exact ⟨env, R, p.1, p.2, rep, e1, fun v1 R1 H1 rep1 st1 at1 => ⟨_, (at1.pk rep1 e2).tru rep1.ex e3, q R1 H1 rep1 st1⟩⟩
theorem td_not (ha : PE X a (TD cf X.K ca)) : PE X (.UnaryOp .Not a pos) (TD cf X.K (.not ca)) := by
  refine imp_e (pe_notT ha) fun σ H Q h => ?_
  obtain ⟨env, R, rv, env', rep, ev, q⟩ := h
  simp only [Mi.eval, Option.bind_eq_some_iff, Option.map_eq_some_iff] at ev
  obtain ⟨p, e1, x, e2, k, e3, e4⟩ := ev
  cases e4
  exact ⟨env, R, p.1, p.2, rep, e1, fun v1 R1 H1 rep1 st1 at1 => ⟨_, (at1.pk rep1 e2).tru rep1.ex e3, q _ R1 H1 rep1 st1 rfl⟩⟩
theorem tt_not (ha : PT X a (TT cf X.K ca)) : PT X (.UnaryOp .Not a pos) (TT cf X.K (.not ca)) := by
  refine imp_t (pt_not ha) fun σ H Q h => ?_
  obtain ⟨env, R, k, env', rep, ev, q⟩ := h
  simp only [Mi.test, Mi.eval, Option.bind_eq_some_iff, Option.map_eq_some_iff] at ev
  obtain ⟨p0, ⟨p, e1, x, e2, k, e3, e4⟩, z, e7, k', e8, e9⟩ := ev
  cases e4; cases e7; cases e8; cases e9
  exact ⟨env, R, k, p.2, rep, by simp only [Mi.test, e1, e2, e3, Option.bind_some, Option.map_some], fun R1 H1 rep1 st1 => q R1 H1 rep1 st1⟩
theorem td_neg (ha : PE X a (TD cf X.K ca)) : PE X (.UnaryOp .USub a pos) (TD cf X.K (.neg ca)) := by
  refine imp_e (pe_un un_neg ha) fun σ H Q h => ?_
  obtain ⟨env, R, rv, env', rep, ev, q⟩ := h
  simp only [Mi.eval, Option.bind_eq_some_iff] at ev
  obtain ⟨p, e1, e2⟩ := ev
  split at e2
  · rename_i i e3
    cases e2
    exact ⟨env, R, p.1, p.2, rep, e1, fun v1 R1 H1 rep1 st1 at1 => ⟨i, (at1.pk rep1 e3).int, q _ R1 H1 rep1 st1 rfl⟩⟩
  · cases e2
theorem td_and {es : List Expr} (ha : PE X a (TD cf X.K ca)) (hb : PE X (.BoolOp .And (b :: es) pos) (TD cf X.K cb)) : PE X (.BoolOp .And (a :: b :: es) pos) (TD cf X.K (.and ca cb)) := by
  refine imp_e (pe_andT ha hb) fun σ H Q h => ?_
  obtain ⟨env, R, rv, env', rep, ev, q⟩ := h
  simp only [Mi.eval, Option.bind_eq_some_iff] at ev
  obtain ⟨p, e1, x, e2, k, e3, e4⟩ := ev
  refine ⟨env, R, p.1, p.2, rep, e1, fun v1 R1 H1 rep1 st1 at1 => ⟨k, (at1.pk rep1 e2).tru rep1.ex e3, ?_⟩⟩
  cases k with
  | true =>
    rw [if_pos rfl] at e4 ⊢
    exact ⟨p.2, R1, rv, env', rep1, e4, fun v2 R2 H2 rep2 st2 at2 => q v2 R2 H2 rep2 (st1.trans st2) (at2.since st1.fr.dom)⟩
  | false =>
    rw [if_neg Bool.false_ne_true] at e4 ⊢
    cases e4
    exact q v1 R1 H1 rep1 st1 at1
theorem td_or {es : List Expr} (ha : PE X a (TD cf X.K ca)) (hb : PE X (.BoolOp .Or (b :: es) pos) (TD cf X.K cb)) : PE X (.BoolOp .Or (a :: b :: es) pos) (TD cf X.K (.or ca cb)) := by
  refine imp_e (pe_orT ha hb) fun σ H Q h => ?_
  obtain ⟨env, R, rv, env', rep, ev, q⟩ := h
  simp only [Mi.eval, Option.bind_eq_some_iff] at ev
  obtain ⟨p, e1, x, e2, k, e3, e4⟩ := ev
  refine ⟨env, R, p.1, p.2, rep, e1, fun v1 R1 H1 rep1 st1 at1 => ⟨k, (at1.pk rep1 e2).tru rep1.ex e3, ?_⟩⟩
  cases k with
  | false =>
    rw [if_neg Bool.false_ne_true] at e4 ⊢
    exact ⟨p.2, R1, rv, env', rep1, e4, fun v2 R2 H2 rep2 st2 at2 => q v2 R2 H2 rep2 (st1.trans st2) (at2.since st1.fr.dom)⟩
  | true =>
    rw [if_pos rfl] at e4 ⊢
    cases e4
    exact q v1 R1 H1 rep1 st1 at1
/-- a test of a conjunction, a disjunction -/
theorem tw_and {es : List Expr} (ha : PT X a (TT cf X.K ca)) (hb : PW X (.BoolOp .And (b :: es) pos) (TT cf X.K cb)) : PW X (.BoolOp .And (a :: b :: es) pos) (TT cf X.K (.and ca cb)) := by
  refine ⟨fun wh pins s σ H Q I h => (pw_and ha hb).run wh pins s σ H Q I ?_⟩
  obtain ⟨env, R, k, env', rep, ev, q⟩ := h
  simp only [Mi.test, Mi.eval, Option.bind_eq_some_iff, Option.map_eq_some_iff] at ev
  obtain ⟨p0, ⟨p, e1, x, e2, k1, e3, e4⟩, z, e7, k', e8, e9⟩ := ev
  refine ⟨env, R, k1, p.2, rep, by simp only [Mi.test, e1, e2, e3, Option.bind_some, Option.map_some], fun R1 H1 rep1 st1 => ?_⟩
  cases k1 with
  | true =>
    rw [if_pos rfl] at e4 ⊢
    cases e9
    exact ⟨p.2, R1, _, _, rep1, by simp only [Mi.test, e4, e7, e8, Option.bind_some, Option.map_some], fun R2 H2 rep2 st2 => q R2 H2 rep2 (st1.trans st2)⟩
  | false =>
    rw [if_neg Bool.false_ne_true] at e4 ⊢
    cases e4; cases e9
    rw [e2] at e7; cases e7
    rw [e3] at e8; cases e8
    exact q R1 H1 rep1 st1
theorem tw_or {es : List Expr} (ha : PT X a (TT cf X.K ca)) (hb : PW X (.BoolOp .Or (b :: es) pos) (TT cf X.K cb)) : PW X (.BoolOp .Or (a :: b :: es) pos) (TT cf X.K (.or ca cb)) := by
  refine ⟨fun wh pins s σ H Q I h => (pw_or ha hb).run wh pins s σ H Q I ?_⟩
  obtain ⟨env, R, k, env', rep, ev, q⟩ := h
  simp only [Mi.test, Mi.eval, Option.bind_eq_some_iff, Option.map_eq_some_iff] at ev
  obtain ⟨p0, ⟨p, e1, x, e2, k1, e3, e4⟩, z, e7, k', e8, e9⟩ := ev
  refine ⟨env, R, k1, p.2, rep, by simp only [Mi.test, e1, e2, e3, Option.bind_some, Option.map_some], fun R1 H1 rep1 st1 => ?_⟩
  cases k1 with
  | false =>
    rw [if_neg Bool.false_ne_true] at e4 ⊢
    cases e9
    exact ⟨p.2, R1, _, _, rep1, by simp only [Mi.test, e4, e7, e8, Option.bind_some, Option.map_some], fun R2 H2 rep2 st2 => q R2 H2 rep2 (st1.trans st2)⟩
  | true =>
    rw [if_pos rfl] at e4 ⊢
    cases e4; cases e9
    rw [e2] at e7; cases e7
    rw [e3] at e8; cases e8
    exact q R1 H1 rep1 st1
theorem td_ife (hc : PT X c (TT cf X.K cc)) (ha : PE X a (TD cf X.K ca)) (hb : PE X b (TD cf X.K cb)) : PE X (.IfExp c a b pos) (TD cf X.K (.ife cc ca cb)) := by
  refine imp_e (pe_ifExp hc ha hb) fun σ H Q h => ?_
  obtain ⟨env, R, rv, env', rep, ev, q⟩ := h
  simp only [Mi.eval, Option.bind_eq_some_iff] at ev
  obtain ⟨p, e1, x, e2, k, e3, e4⟩ := ev
  refine ⟨env, R, k, p.2, rep, by simp only [Mi.test, e1, e2, e3, Option.bind_some, Option.map_some], fun R1 H1 rep1 st1 => ?_⟩
  cases k with
  | true =>
    rw [if_pos rfl] at e4 ⊢
    exact ⟨p.2, R1, rv, env', rep1, e4, fun v2 R2 H2 rep2 st2 at2 => q v2 R2 H2 rep2 (st1.trans st2) (at2.since st1.fr.dom)⟩
  | false =>
    rw [if_neg Bool.false_ne_true] at e4 ⊢
    exact ⟨p.2, R1, rv, env', rep1, e4, fun v2 R2 H2 rep2 st2 at2 => q v2 R2 H2 rep2 (st1.trans st2) (at2.since st1.fr.dom)⟩
theorem tt_ife (hc : PT X c (TT cf X.K cc)) (ha : PT X a (TT cf X.K ca)) (hb : PT X b (TT cf X.K cb)) : PT X (.IfExp c a b pos) (TT cf X.K (.ife cc ca cb)) := by
  refine ⟨fun pins s σ H Q I h => isTrue_IfExp (thn (hc.run pins s σ H (fun k H1 => if k = true then TT cf X.K ca σ H1 Q else TT cf X.K cb σ H1 Q) I ?_) fun k s1 ⟨H1, I1, q1⟩ => ?_)⟩
  · obtain ⟨env, R, k, env', rep, ev, q⟩ := h
    simp only [Mi.test, Mi.eval, Option.bind_eq_some_iff, Option.map_eq_some_iff] at ev
    obtain ⟨p0, ⟨p, e1, x, e2, k1, e3, e4⟩, z, e7, k', e8, e9⟩ := ev
    cases e9
    refine ⟨env, R, k1, p.2, rep, by simp only [Mi.test, e1, e2, e3, Option.bind_some, Option.map_some], fun R1 H1 rep1 st1 => ?_⟩
    cases k1 with
    | true =>
      rw [if_pos rfl] at e4 ⊢
      exact ⟨p.2, R1, _, _, rep1, by simp only [Mi.test, e4, e7, e8, Option.bind_some, Option.map_some], fun R2 H2 rep2 st2 => q R2 H2 rep2 (st1.trans st2)⟩
    | false =>
      rw [if_neg Bool.false_ne_true] at e4 ⊢
      exact ⟨p.2, R1, _, _, rep1, by simp only [Mi.test, e4, e7, e8, Option.bind_some, Option.map_some], fun R2 H2 rep2 st2 => q R2 H2 rep2 (st1.trans st2)⟩
  · cases k with
    | true => rw [if_pos rfl] at q1; exact ha.run pins s1 σ H1 Q I1 q1
    | false => rw [if_neg Bool.false_ne_true] at q1; exact hb.run pins s1 σ H1 Q I1 q1
end
end Mi

end

section
set_option linter.all false
set_option maxRecDepth 100000
set_option maxHeartbeats 1000000
/-! Mi8: lists of expressions, displays, calls -/
namespace Mi
open PySem PySem.Spec PyProof.Rows L2

section
variable {X : Cx} {T : Tab} {cf : Cf} {N : List Str} {sc : Scope}
variable {a b c e : Expr} {ca cb cc ce : Xp} {pos : Pos} {es : List Expr} {ces : Xs}
theorem star_pln (h : pln e = true) (es : List Expr) (env : PySem.Env) : starEach (e :: es) env = (false, PySem.eval e env) :: starEach es env := by
  cases e <;> first | rfl | (simp [pln] at h)
theorem star_any (env : PySem.Env) (pos : Pos) : ∀ {es : List Expr}, plnAll es = true → (backTo pos (starEach es env)).any (·.1) = false
  | [], _ => rfl
  | e :: es, h => by
    unfold plnAll at h
    simp only [List.all_cons, Bool.and_eq_true] at h
    rw [star_pln h.1]
    show (false || (backTo pos (starEach es env)).any (·.1)) = false
    rw [star_any env pos (show plnAll es = true from h.2)]; rfl
theorem pln_cons {e : Expr} {es : List Expr} (h : plnAll (e :: es) = true) : pln e = true ∧ plnAll es = true := by
  unfold plnAll at h ⊢
  simpa only [List.all_cons, Bool.and_eq_true] using h

theorem tl_nil : PA X [] (TL cf X.K .nil) := by
  refine imp_a pa_nil fun σ H Q h => ?_
  obtain ⟨env, R, rs, env', rep, ev, q⟩ := h
  simp only [Mi.evals] at ev; cases ev
  exact q [] R H rep (.refl _ _ _ _) rfl
theorem RvL.later {K : PySem.W.Frag} {env env' : Env} {σ : L2.St} {R H R' H' H0 : Hp} (st : ESt env σ R H env' R' H') : ∀ {rs : List Rv} {vs : List V}, RvL K env σ R H H0 rs vs → RvL K env' σ R' H' H0 rs vs
  | [], _, h => h
  | _ :: _, _, ⟨v, t, h1, h2, h3, h4⟩ => ⟨v, t, h1, h2.later st, RvL.later st h3, h4⟩
theorem RvL.since {K : PySem.W.Frag} {env : Env} {σ : L2.St} {R H H0 H1 : Hp} (dom : ∀ a, H0 a ≠ none → H1 a ≠ none) : ∀ {rs : List Rv} {vs : List V}, RvL K env σ R H H1 rs vs → RvL K env σ R H H0 rs vs
  | [], _, h => h
  | _ :: _, _, ⟨v, t, h1, h2, h3, h4⟩ => ⟨v, t, h1, h2.since dom, RvL.since dom h3, h4⟩
theorem RvL.get {K : PySem.W.Frag} {env : Env} {σ : L2.St} {R H H0 : Hp} : ∀ {rs : List Rv} {vs : List V} {k : Nat} {r : Rv}, RvL K env σ R H H0 rs vs → rs[k]? = some r → ∃ v, vs[k]? = some v ∧ RvAt K env σ R H H0 v r
  | [], _, _, _, _, e => by simp at e
  | _ :: _, _, 0, _, ⟨v, t, h1, h2, _, _⟩, e => by subst h1; rw [List.getElem?_cons_zero] at e; cases e; exact ⟨v, rfl, h2⟩
  | _ :: _, _, k + 1, _, ⟨v, t, h1, _, h3, _⟩, e => by subst h1; rw [List.getElem?_cons_succ] at e; simp only [List.getElem?_cons_succ]; exact RvL.get h3 e
theorem RvL.pks {K : PySem.W.Frag} {env : Env} {σ : L2.St} {R H H0 : Hp} (rep : Rep K env σ R H) : ∀ {rs : List Rv} {vs : List V} {ds : List D}, RvL K env σ R H H0 rs vs → Mi.pks env rs = some ds → PkL K R H ds vs
  | [], _, _, h, e => by simp only [Mi.pks] at e; cases e; exact h
  | _ :: _, _, _, ⟨v, t, h1, h2, h3, _⟩, e => by
    simp only [Mi.pks, Option.bind_eq_some_iff, Option.map_eq_some_iff] at e
    obtain ⟨d, e1, ds, e2, rfl⟩ := e
    exact ⟨v, t, h1, h2.pk rep e1, RvL.pks rep h3 e2⟩
theorem tl_cons (he : PE X e (TD cf X.K ce)) (hr : PA X es (TL cf X.K ces)) (hp : pln e = true) : PA X (e :: es) (TL cf X.K (.cons ce ces)) := by
  refine imp_a (pa_cons he hr (star_pln hp es X.env)) fun σ H Q h => ?_
  obtain ⟨env, R, rs, env', rep, ev, q⟩ := h
  simp only [Mi.evals, Option.bind_eq_some_iff, Option.map_eq_some_iff] at ev
  obtain ⟨p, e1, t, e2, e3⟩ := ev
  cases e3
  exact ⟨env, R, p.1, p.2, rep, e1, fun v R1 H1 rep1 st1 at1 => ⟨p.2, R1, _, _, rep1, e2, fun vs R2 H2 rep2 st2 at2 => q (v :: vs) R2 H2 rep2 (st1.trans st2) ⟨v, vs, rfl, at1.later st2, at2.since st1.fr.dom, fun d hd k d' hk hv => by
    rw [hd] at at1
    obtain ⟨a, rfl, _, _, ow, _⟩ := at1
    obtain ⟨w, h1, h2⟩ := at2.get hk
    rw [hv] at h1; cases h1
    obtain ⟨a', e', h3, _⟩ := h2
    cases e'
    exact ow.ne h3⟩⟩⟩
theorem tlt_nil : PA X [] (TLT cf X.K .nil) := by
  refine imp_a pa_nil fun σ H Q h => ?_
  obtain ⟨env, R, rs, env', rep, ev, q⟩ := h
  simp only [Mi.evalsT] at ev; cases ev
  exact q [] R H rep (.refl _ _ _ _) AtL.nil
theorem tlt_cons (he : PE X e (TD cf X.K ce)) (hr : PA X es (TLT cf X.K ces)) (hp : pln e = true) : PA X (e :: es) (TLT cf X.K (.cons ce ces)) := by
  refine imp_a (pa_cons he hr (star_pln hp es X.env)) fun σ H Q h => ?_
  obtain ⟨env, R, rs, env', rep, ev, q⟩ := h
  simp only [Mi.evalsT, Option.bind_eq_some_iff, Option.map_eq_some_iff] at ev
  obtain ⟨p, e1, t, e2, u, e3, e4⟩ := ev
  cases e4
  refine ⟨env, R, p.1, p.2, rep, e1, fun v R1 H1 rep1 st1 at1 => ?_⟩
  obtain ⟨R1', rep1', st1', at1'⟩ := at1.take rep1 st1 e2
  exact ⟨t.2, R1', _, _, rep1', e3, fun vs R2 H2 rep2 st2 at2 => q (v :: vs) R2 H2 rep2 (st1'.trans st2) (.cons (at1'.mono st2.fr.ex.le) at2)⟩
theorem AgL.mono {K : PySem.W.Frag} {env env' : Env} {σ : L2.St} {R R' : Hp} (le : Le R R') : ∀ {as : List Ag} {vs : List V}, AgL K env σ R as vs → AgL K env' σ R' as vs
  | [], _, h => h
  | .d _ :: _, _, ⟨v, t, h1, h2, h3⟩ => ⟨v, t, h1, h2.mono le, AgL.mono le h3⟩
  | .s _ :: _, _, ⟨v, t, h1, h2, h3⟩ => ⟨v, t, h1, h2, AgL.mono le h3⟩
theorem tla_nil {io : Option Nat} : PA X [] (TLA cf X.K io .nil) := by
  refine imp_a pa_nil fun σ H Q h => ?_
  obtain ⟨env, R, rs, env', rep, ev, q⟩ := h
  simp only [Mi.evalsA] at ev; cases ev
  exact q [] R H rep (.refl _ _ _ _) rfl
theorem tla_cons {io : Option Nat} (he : PE X e (TD cf X.K ce)) (hr : ∀ io, PA X es (TLA cf X.K io ces)) (hp : pln e = true) : PA X (e :: es) (TLA cf X.K io (.cons ce ces)) := by
  match io with
  | none =>
    refine imp_a (pa_cons he (hr none) (star_pln hp es X.env)) fun σ H Q h => ?_
    obtain ⟨env, R, rs, env', rep, ev, q⟩ := h
    simp only [Mi.evalsA, Option.bind_eq_some_iff, Option.map_eq_some_iff] at ev
    obtain ⟨p, e1, t, e2, u, e3, e4⟩ := ev
    cases e4
    refine ⟨env, R, p.1, p.2, rep, e1, fun v R1 H1 rep1 st1 at1 => ?_⟩
    obtain ⟨R1', rep1', st1', at1'⟩ := at1.take rep1 st1 e2
    exact ⟨t.2, R1', _, _, rep1', e3, fun vs R2 H2 rep2 st2 at2 => q (v :: vs) R2 H2 rep2 (st1'.trans st2) ⟨v, vs, rfl, at1'.mono st2.fr.ex.le, at2⟩⟩
  | some 0 =>
    refine imp_a (pa_cons he (hr none) (star_pln hp es X.env)) fun σ H Q h => ?_
    obtain ⟨env, R, rs, env', rep, ev, q⟩ := h
    simp only [Mi.evalsA, Option.bind_eq_some_iff] at ev
    obtain ⟨p, e1, e2⟩ := ev
    split at e2
    · rename_i i ei
      simp only [Option.map_eq_some_iff] at e2
      obtain ⟨u, e3, e4⟩ := e2
      cases e4
      refine ⟨env, R, p.1, p.2, rep, e1, fun v R1 H1 rep1 st1 at1 => ?_⟩
      rw [ei] at at1
      exact ⟨p.2, R1, _, _, rep1, e3, fun vs R2 H2 rep2 st2 at2 => q (v :: vs) R2 H2 rep2 (st1.trans st2) ⟨v, vs, rfl, at1.1, at2⟩⟩
    · cases e2
  | some (j + 1) =>
    refine imp_a (pa_cons he (hr (some j)) (star_pln hp es X.env)) fun σ H Q h => ?_
    obtain ⟨env, R, rs, env', rep, ev, q⟩ := h
    simp only [Mi.evalsA, Option.bind_eq_some_iff, Option.map_eq_some_iff] at ev
    obtain ⟨p, e1, t, e2, u, e3, e4⟩ := ev
    cases e4
    refine ⟨env, R, p.1, p.2, rep, e1, fun v R1 H1 rep1 st1 at1 => ?_⟩
    obtain ⟨R1', rep1', st1', at1'⟩ := at1.take rep1 st1 e2
    exact ⟨t.2, R1', _, _, rep1', e3, fun vs R2 H2 rep2 st2 at2 => q (v :: vs) R2 H2 rep2 (st1'.trans st2) ⟨v, vs, rfl, at1'.mono st2.fr.ex.le, at2⟩⟩

theorem td_tup {k : Nat} (h : PA X es (TLT cf X.K ces)) : PE X (.Tuple es k pos) (TD cf X.K (.tup ces)) := by
  refine imp_e (pe_tup h) fun σ H Q h => ?_
  obtain ⟨env, R, rv, env', rep, ev, q⟩ := h
  simp only [Mi.eval, Option.bind_eq_some_iff] at ev
  obtain ⟨p, e1, e2⟩ := ev
  split at e2
  · rename_i hz
    cases e2
    refine ⟨env, R, p.1, p.2, rep, e1, fun vs R1 H1 rep1 st1 at1 => ⟨by rw [← at1.length]; exact hz, fun t ht => ?_⟩⟩
    have al := Al.sh (o := .tup vs) rep1.ex ht
    exact q _ _ _ (al.rep rep1) (st1.trans al.st) ⟨t, vs, rfl, .inl (.inl upd_same), at1.mono al.ex.le⟩
  · cases e2
theorem td_lst (h : PA X es (TLT cf X.K ces)) : PE X (.List es pos) (TD cf X.K (.lst ces)) := by
  refine imp_e (pe_lst h) fun σ H Q h => ?_
  obtain ⟨env, R, rv, env', rep, ev, q⟩ := h
  simp only [Mi.eval, Option.bind_eq_some_iff] at ev
  obtain ⟨p, e1, e2⟩ := ev
  split at e2
  · rename_i hz
    cases e2
    refine ⟨env, R, p.1, p.2, rep, e1, fun vs R1 H1 rep1 st1 at1 => ⟨by rw [← at1.length]; exact hz, fun t ht => ?_⟩⟩
    have fin : Fin X.K R1 H1 (.f (.lst p.1)) Q := fun v R2 H2 al ro => q v R2 H2 (al.rep rep1) (st1.trans al.st) ((ro.at rep1).since st1.fr.dom)
    exact fin.lst rep1.ex at1 t ht
  · cases e2
theorem td_idx (hu : X.A.units + 65 < cLine) (ha : PE X a (TD cf X.K ca)) (hb : PE X b (TD cf X.K cb)) (hs : pln b = true) : PE X (.Subscript a b pos) (TD cf X.K (.idx ca cb)) := by
  have hx : PlainIx b := fun o i => by cases b <;> first | rfl | (simp [pln] at hs)
  refine imp_e (pe_ix (oix hu) ha hb hx) fun σ H Q h => ?_
  obtain ⟨env, R, rv, env', rep, ev, q⟩ := h
  simp only [Mi.eval, Option.bind_eq_some_iff, Option.map_eq_some_iff] at ev
  obtain ⟨p, e1, p2, e2, x, e3, y, e4, r, e5, e6⟩ := ev
  cases e6
  refine ⟨env, R, p.1, p.2, rep, e1, fun v1 R1 H1 rep1 st1 at1 => ⟨p.2, R1, p2.1, p2.2, rep1, e2, fun v2 R2 H2 rep2 st2 at2 => ?_⟩⟩
  exact ⟨R2, x, y, _, rep2.ex, (at1.later st2).pk rep2 e3, at2.pk rep2 e4, e5, fun v R3 H3 al ro => q v R3 H3 (al.rep rep2) ((st1.trans st2).trans al.st) ((ro.at rep2).since fun b hb => st2.fr.dom b (st1.fr.dom b hb))⟩
theorem td_dnw {pos : Pos} : PE X (.Dict [] [] pos) (TD cf X.K .dnw) := by
  refine imp_e pe_dnewK fun σ H Q h => ?_
  obtain ⟨env, R, rv, env', rep, ev, q⟩ := h
  simp only [Mi.eval] at ev
  cases ev
  intro p hp
  have hr : R p = none := by
    cases h' : R p with
    | none => rfl
    | some u => rw [rep.ex p u h'] at hp; cases hp
  have fin : Fin X.K R H (.f (.dct [] [])) Q := fun v R' H' al ro => q v R' H' (al.rep rep) al.st (ro.at rep)
  exact fin _ R _ (.fr rep.ex hp) ⟨p, rfl, hp, hr, [], upd_same, rfl, rfl⟩
theorem to_no : PO X none (TO' cf X.K .no) := by
  refine imp_o po_none fun σ H Q h => ?_
  obtain ⟨env, R, k, env', rep, ev, q⟩ := h
  simp only [Mi.evalO] at ev; cases ev
  exact q R H rep (.refl _ _ _ _)
theorem to_so (h : PE X e (TD cf X.K ce)) : PO X (some e) (TO' cf X.K (.so ce)) := by
  refine imp_o (po_some h) fun σ H Q h => ?_
  obtain ⟨env, R, k, env', rep, ev, q⟩ := h
  simp only [Mi.evalO, Option.bind_eq_some_iff] at ev
  obtain ⟨p, e1, e2⟩ := ev
  split at e2
  · rename_i i e3
    cases e2
    exact ⟨env, R, p.1, p.2, rep, e1, fun v1 R1 H1 rep1 st1 at1 => ⟨i, (at1.pk rep1 e3).int, q R1 H1 rep1 st1⟩⟩
  · cases e2
theorem td_sli {lo hi : Option Expr} {clo chi : Xo} {p2 : Pos} (ha : PE X a (TD cf X.K ca)) (hl : PO X lo (TO' cf X.K clo)) (hh : PO X hi (TO' cf X.K chi)) : PE X (.Subscript a (.Slice lo hi none p2) pos) (TD cf X.K (.sli ca clo chi)) := by
  refine imp_e (pe_slice osl ha hl hh) fun σ H Q h => ?_
  obtain ⟨env, R, rv, env', rep, ev, q⟩ := h
  simp only [Mi.eval, Option.bind_eq_some_iff, Option.map_eq_some_iff] at ev
  obtain ⟨p, e1, p2, e2, p3, e3, x, e4, r, e5, e6⟩ := ev
  cases e6
  refine ⟨env, R, p.1, p.2, rep, e1, fun v1 R1 H1 rep1 st1 at1 => ⟨p.2, R1, p2.1, p2.2, rep1, e2, fun R2 H2 rep2 st2 => ⟨p2.2, R2, p3.1, p3.2, rep2, e3, fun R3 H3 rep3 st3 => ?_⟩⟩⟩
  exact ⟨R3, x, _, rep3.ex, ((at1.later st2).later st3).pk rep3 e4, e5, fun v R4 H4 al ro => q v R4 H4 (al.rep rep3) (((st1.trans st2).trans st3).trans al.st) ((ro.at rep3).since fun b hb => st3.fr.dom b (st2.fr.dom b (st1.fr.dom b hb)))⟩
/-- xs[::-1] of a list -/
theorem td_rev {k : Nat} {p1 p2 p3 : Pos} (ha : PE X a (TD cf X.K ca)) : PE X (.Subscript a (.Slice none none (some (.UnaryOp .USub (.Constant (.int 1) k p1) p2)) p3) pos) (TD cf X.K (.rev ca)) := by
  refine imp_e (pe_revL ha) fun σ H Q h => ?_
  obtain ⟨env, R, rv, env', rep, ev, q⟩ := h
  simp only [Mi.eval, Option.bind_eq_some_iff, Option.map_eq_some_iff] at ev
  obtain ⟨p, e1, x, e2, r, e3, e4⟩ := ev
  cases e4
  unfold revOf at e3
  split at e3
  · rename_i ds
    cases e3
    refine ⟨env, R, p.1, p.2, rep, e1, fun v1 R1 H1 rep1 st1 at1 => ?_⟩
    obtain ⟨a, vs, rfl, h2, h3⟩ := (at1.pk rep1 e2).lst rep1.ex
    refine ⟨a, vs, rfl, .inl (.inl h2), ?_⟩
    have fin : Fin X.K R1 H1 (.f (.lst ds.reverse)) Q := fun v R2 H2 al ro => q v R2 H2 (al.rep rep1) (st1.trans al.st) ((ro.at rep1).since st1.fr.dom)
    exact fin.lst rep1.ex h3.reverse
  · cases e3
/-- a built-in function of values -/
theorem blt_imp {b : Blt} {σ : L2.St} {H : Hp} {Q : VK} (h : TD cf X.K (.blt b ces) σ H Q) : tCB (rBl X.K b) (TL cf X.K ces) σ H Q := by
  obtain ⟨env, R, rv, env', rep, ev, q⟩ := h
  simp only [Mi.eval, Option.bind_eq_some_iff, Option.map_eq_some_iff] at ev
  obtain ⟨p, e1, ds, e2, r, e3, e4⟩ := ev
  cases e4
  exact ⟨env, R, p.1, p.2, rep, e1, fun vs R1 H1 rep1 st1 at1 => ⟨R1, ds, _, rep1.ex, RvL.pks rep1 at1 e2, e3, fun v R2 H2 al ro => q v R2 H2 (al.rep rep1) (st1.trans al.st) ((ro.at rep1).since st1.fr.dom)⟩⟩
theorem star_all (env : PySem.Env) (pos : Pos) {l : List Expr} (hq : plnAll l = true) : (backTo pos (starEach l env)).all (fun x => !x.1) = true := by
  have := star_any env pos hq
  revert this
  generalize backTo pos (starEach l env) = zs
  intro this
  induction zs with
  | nil => rfl
  | cons z zs ih =>
    simp only [List.any_cons, Bool.or_eq_false_iff] at this
    simp only [List.all_cons, this.1, Bool.not_false, Bool.true_and]
    exact ih this.2
theorem recv_base {name : Str} {env : PySem.Env} (hr : recv a = true) : attributeBase a name env (PySem.eval a env) = PySem.eval a env := by
  cases a <;> first | rfl | (simp [recv] at hr)
/-- the receiver of a list's method, at its evaluation -/
theorem own_lst {env : Env} {σ : L2.St} {R H : Hp} {i : Nat} {v : V} (rep : Rep X.K env σ R H) (hv : σ[i]? = some (some v)) (h : lstAt env i = true) : ∃ a vs, v = .ref a ∧ H a = some (.lst vs) := by
  unfold lstAt at h
  cases q : env[i]? with
  | none => simp [ownOf, q] at h
  | some s =>
    cases s with
    | un => simp [ownOf, q] at h
    | sh d => simp [ownOf, q] at h
    | ow d =>
      simp only [ownOf, q] at h
      obtain ⟨a, e1, _, e3⟩ := rep.ow i d (.inl q)
      rw [hv] at e1; cases e1
      cases d with
      | lst ds => obtain ⟨vs, h1, _⟩ := e3; exact ⟨a, vs, rfl, h1⟩
      | _ => simp at h
    | bw d =>
      simp only [ownOf, q] at h
      obtain ⟨a, e1, _, e3⟩ := rep.ow i d (.inr q)
      rw [hv] at e1; cases e1
      cases d with
      | lst ds => obtain ⟨vs, h1, _⟩ := e3; exact ⟨a, vs, rfl, h1⟩
      | _ => simp at h
theorem own_at {K : PySem.W.Frag} {env : Env} {σ : L2.St} {R H : Hp} {i : Nat} {v : V} {d : D} (rep : Rep K env σ R H) (hv : σ[i]? = some (some v)) (h : ownOf env i = some d) : ∃ a, v = .ref a ∧ R a = none ∧ Own K R H a d := by
  unfold ownOf at h
  cases q : env[i]? with
  | none => simp only [q] at h; cases h
  | some s =>
    cases s with
    | un => simp only [q] at h; cases h
    | sh c => simp only [q] at h; cases h
    | ow c =>
      simp only [q] at h; cases h
      obtain ⟨a, e1, e2, e3⟩ := rep.ow i d (.inl q)
      rw [hv] at e1; cases e1
      exact ⟨a, rfl, e2, e3⟩
    | bw c =>
      simp only [q] at h; cases h
      obtain ⟨a, e1, e2, e3⟩ := rep.ow i d (.inr q)
      rw [hv] at e1; cases e1
      exact ⟨a, rfl, e2, e3⟩
/-- a list's method that changes it: the end -/
theorem mut_end {m : Mth} {σ : L2.St} {H H1 H2 : Hp} {env env1 env2 env3 : Env} {R R1 R2 : Hp} {i : Nat} {v : V} {vs : List V} {ds : List D} {d d' : D} {r : Rv} {Q : VK} (rep2 : Rep X.K env2 σ R2 H2) (st2 : ESt env σ R H env2 R2 H2) (hv : σ[i]? = some (some v)) (al : AtL X.K R2 ds vs)
    (e4 : ownOf env2 i = some d) (e5 : mutF m d ds = some (d', r)) (e6 : setOwn env2 i d' = some env3)
    (q : ∀ v R' H', Rep X.K env3 σ R' H' → ESt env σ R H env3 R' H' → RvAt X.K env3 σ R' H' H v r → Q v H') : rMu X.K m v vs H2 Q := by
  obtain ⟨a, rfl, h1, h2⟩ := own_at rep2 hv e4
  refine ⟨a, R2, d, ds, d', r, rfl, rep2.ex, h1, h2, al, e5, fun w o how hmo hr => ?_⟩
  obtain ⟨rep3, st3⟩ := rep2.change hv e4 e6 how
  obtain ⟨dv, rfl, hat⟩ := hr
  exact q w R2 _ rep3 (st2.trans st3) hat
theorem td_mut {m : Mth} {name : Str} {apos cpos : Pos} {id : String} (hm : MtR X id (rMu X.K m)) (slot : Slot "list" name id) (hty : typeOf (.builtin id) = pure (.type "method_descriptor")) (ho : PE X a (TD cf X.K ca)) (ha : PA X (e :: es) (TLT cf X.K ces))
    (hp : plnAll (e :: es) = true) (hr : recv a = true) (hl : (apos.endLine == cpos.line) = true) (hfew : (e :: es).length < 20) : PE X (.Call (.Attribute a name apos) (e :: es) [] cpos) (TD cf X.K (.mut m ca ces)) := by
  have hx : ((backTo cpos (starEach (e :: es) X.env)).all (fun x => !x.1) && (backToKw cpos (keywordEach [] X.env)).all (fun x => x.1.isSome) && decide ((e :: es).length + ([] : List Keyword).length + (if ([] : List Keyword).isEmpty then 0 else 1) < 30)) = true := by
    rw [star_all X.env cpos hp]
    have : (e :: es).length < 30 := by omega
    simp only [keywordEach, backToKw, List.map_nil, List.all_nil, Bool.true_and, List.length_nil, Nat.add_zero, List.isEmpty_nil, if_true, decide_eq_true_eq]
    exact this
  refine imp_e (pe_bm PySem.F.plainAttrs_list slot hty hm ho ha (recv_base hr) hx hl (star_pln (pln_cons hp).1 es X.env) (star_any X.env cpos (pln_cons hp).2)) fun σ H Q h => ?_
  obtain ⟨env, R, rv, env', rep, ev, q⟩ := h
  simp only [Mi.eval, Option.bind_eq_some_iff] at ev
  obtain ⟨p, e1, e3⟩ := ev
  split at e3
  · rename_i i ei
    split at e3
    · rename_i hla
      simp only [Option.bind_eq_some_iff, Option.map_eq_some_iff] at e3
      obtain ⟨t, e2, d, e4, r, e5, env2, e6, e7⟩ := e3
      cases e7
      refine ⟨env, R, p.1, p.2, rep, e1, fun v1 R1 H1 rep1 st1 at1 => ?_⟩
      rw [ei] at at1
      obtain ⟨a1, vs1, rfl, hl1⟩ := own_lst rep1 at1.1 hla
      exact ⟨.inl ⟨rfl, vs1, .inl (.inl hl1)⟩, p.2, R1, _, _, rep1, e2, fun vs R2 H2 rep2 st2 al => mut_end (env1 := p.2) (H1 := H1) (R1 := R1) rep2 (st1.trans st2) at1.1 al e4 e5 e6 q⟩
    · cases e3
  · cases e3
theorem td_mut0 {m : Mth} {name : Str} {apos cpos : Pos} {id : String} (hm : MtR X id (rMu X.K m)) (slot : Slot "list" name id) (hty : typeOf (.builtin id) = pure (.type "method_descriptor")) (ho : PE X a (TD cf X.K ca))
    (hr : recv a = true) (hl : (apos.endLine == cpos.line) = true) : PE X (.Call (.Attribute a name apos) [] [] cpos) (TD cf X.K (.mut m ca .nil)) := by
  refine imp_e (pe_bm0 PySem.F.plainAttrs_list slot hty hm ho (recv_base hr) hl) fun σ H Q h => ?_
  obtain ⟨env, R, rv, env', rep, ev, q⟩ := h
  simp only [Mi.eval, Option.bind_eq_some_iff] at ev
  obtain ⟨p, e1, e3⟩ := ev
  split at e3
  · rename_i i ei
    split at e3
    · rename_i hla
      simp only [Option.bind_eq_some_iff, Option.map_eq_some_iff] at e3
      obtain ⟨t, e2, d, e4, r, e5, env2, e6, e7⟩ := e3
      simp only [Mi.evalsT] at e2
      cases e2
      cases e7
      refine ⟨env, R, p.1, p.2, rep, e1, fun v1 R1 H1 rep1 st1 at1 => ?_⟩
      rw [ei] at at1
      obtain ⟨a1, vs1, rfl, hl1⟩ := own_lst rep1 at1.1 hla
      exact ⟨.inl ⟨rfl, vs1, .inl (.inl hl1)⟩, mut_end (env1 := p.2) (H1 := H1) (R1 := R1) rep1 st1 at1.1 AtL.nil e4 e5 e6 q⟩
    · cases e3
  · cases e3
end
end Mi

end

section
set_option linter.all false
set_option maxRecDepth 100000
set_option maxHeartbeats 1000000
/-! Mi9: calls of the program's own defs -/
namespace Mi
open PySem PySem.Spec PyProof.Rows L2

def Once (as : List Ag) : Prop := ∀ (i k : Nat) (j l : Nat), as[i]? = some (Ag.s j) → as[k]? = some (Ag.s l) → i = k
theorem evalsA_none (cf : Cf) : ∀ {es : Xs} {env env' : Env} {as : List Ag}, evalsA cf none es env = some (as, env') → ∀ (i j : Nat), as[i]? ≠ some (Ag.s j)
  | .nil, env, env', as, h, i, j => by simp only [evalsA] at h; cases h; simp
  | .cons e es, env, env', as, h, i, j => by
    simp only [evalsA, Option.bind_eq_some_iff, Option.map_eq_some_iff] at h
    obtain ⟨p, e1, t, e2, u, e3, e4⟩ := h
    cases e4
    cases i with
    | zero => simp
    | succ i => rw [List.getElem?_cons_succ]; exact evalsA_none cf e3 i j
theorem evalsA_once (cf : Cf) : ∀ {io : Option Nat} {es : Xs} {env env' : Env} {as : List Ag}, evalsA cf io es env = some (as, env') → Once as
  | none, es, env, env', as, h => fun i k j l h1 _ => absurd h1 (evalsA_none cf h i j)
  | some _, .nil, env, env', as, h => by simp only [evalsA] at h; cases h; intro i k j l h1; simp at h1
  | some 0, .cons e es, env, env', as, h => by
    simp only [evalsA, Option.bind_eq_some_iff] at h
    obtain ⟨p, e1, e2⟩ := h
    split at e2
    · simp only [Option.map_eq_some_iff] at e2
      obtain ⟨u, e3, e4⟩ := e2
      cases e4
      intro i k j l h1 h2
      cases i with
      | succ i => rw [List.getElem?_cons_succ] at h1; exact absurd h1 (evalsA_none cf e3 i j)
      | zero =>
        cases k with
        | succ k => rw [List.getElem?_cons_succ] at h2; exact absurd h2 (evalsA_none cf e3 k l)
        | zero => rfl
    · cases e2
  | some (n + 1), .cons e es, env, env', as, h => by
    simp only [evalsA, Option.bind_eq_some_iff, Option.map_eq_some_iff] at h
    obtain ⟨p, e1, t, e2, u, e3, e4⟩ := h
    cases e4
    have ih := evalsA_once cf e3
    intro i k j l h1 h2
    cases i with
    | zero => simp at h1
    | succ i =>
      cases k with
      | zero => simp at h2
      | succ k =>
        rw [List.getElem?_cons_succ] at h1 h2
        rw [ih i k j l h1 h2]
theorem lent_none : ∀ {as : List Ag}, lent as = none → ∀ (i j : Nat), as[i]? ≠ some (Ag.s j)
  | [], _, i, j => by simp
  | .d d :: as, h, i, j => by
    cases i with
    | zero => simp
    | succ i => rw [List.getElem?_cons_succ]; exact lent_none (as := as) h i j
  | .s k :: as, h, _, _ => by simp [lent] at h
theorem lent_some : ∀ {as : List Ag} {k : Nat}, lent as = some k → ∃ i : Nat, as[i]? = some (Ag.s k)
  | [], _, h => by simp [lent] at h
  | .d d :: as, k, h => by
    obtain ⟨i, e⟩ := lent_some (as := as) h
    exact ⟨i + 1, by rw [List.getElem?_cons_succ]; exact e⟩
  | .s j :: as, k, h => by simp only [lent] at h; cases h; exact ⟨0, rfl⟩
section
variable {K : PySem.W.Frag} {env : Env} {σ : L2.St} {R H : Hp}
theorem bindA_get : ∀ {as : List Ag} {vs : List V} {q : List Sl}, AgL K env σ R as vs → bindA env as = some q → q.length = vs.length ∧ ∀ (i : Nat) (s : Sl), q[i]? = some s →
    (∃ d v, as[i]? = some (Ag.d d) ∧ s = .sh d ∧ vs[i]? = some v ∧ At K R d v) ∨ ∃ j d v, as[i]? = some (Ag.s j) ∧ s = .bw d ∧ ownOf env j = some d ∧ vs[i]? = some v ∧ σ[j]? = some (some v)
  | [], vs, q, h, e => by
    simp only [bindA] at e; cases e
    cases (show vs = [] from h)
    exact ⟨rfl, fun i s h => by simp at h⟩
  | .d d :: as, vs, q, ⟨v, t, h1, h2, h3⟩, e => by
    subst h1
    simp only [bindA, Option.map_eq_some_iff] at e
    obtain ⟨q', e1, rfl⟩ := e
    obtain ⟨l, g⟩ := bindA_get h3 e1
    refine ⟨by rw [List.length_cons, List.length_cons, l], fun i s hs => ?_⟩
    cases i with
    | zero => rw [List.getElem?_cons_zero] at hs; cases hs; exact .inl ⟨d, v, rfl, rfl, rfl, h2⟩
    | succ i => rw [List.getElem?_cons_succ] at hs; simp only [List.getElem?_cons_succ]; exact g i s hs
  | .s j :: as, vs, q, ⟨v, t, h1, h2, h3⟩, e => by
    subst h1
    simp only [bindA, Option.bind_eq_some_iff, Option.map_eq_some_iff] at e
    obtain ⟨d, e0, q', e1, rfl⟩ := e
    obtain ⟨l, g⟩ := bindA_get h3 e1
    refine ⟨by rw [List.length_cons, List.length_cons, l], fun i s hs => ?_⟩
    cases i with
    | zero => rw [List.getElem?_cons_zero] at hs; cases hs; exact .inr ⟨j, d, v, rfl, rfl, e0, rfl, h2⟩
    | succ i => rw [List.getElem?_cons_succ] at hs; simp only [List.getElem?_cons_succ]; exact g i s hs
theorem bindA_at : ∀ {as : List Ag} {vs : List V} {q : List Sl}, AgL K env σ R as vs → bindA env as = some q → ∀ (i j : Nat), as[i]? = some (Ag.s j) → ∃ d v, q[i]? = some (Sl.bw d) ∧ ownOf env j = some d ∧ vs[i]? = some v ∧ σ[j]? = some (some v)
  | [], vs, q, h, e, i, j, hi => by simp at hi
  | .d d :: as, vs, q, ⟨v, t, h1, h2, h3⟩, e, i, j, hi => by
    subst h1
    simp only [bindA, Option.map_eq_some_iff] at e
    obtain ⟨q', e1, rfl⟩ := e
    cases i with
    | zero => simp at hi
    | succ i => rw [List.getElem?_cons_succ] at hi; simp only [List.getElem?_cons_succ]; exact bindA_at h3 e1 i j hi
  | .s k :: as, vs, q, ⟨v, t, h1, h2, h3⟩, e, i, j, hi => by
    subst h1
    simp only [bindA, Option.bind_eq_some_iff, Option.map_eq_some_iff] at e
    obtain ⟨d, e0, q', e1, rfl⟩ := e
    cases i with
    | zero => rw [List.getElem?_cons_zero] at hi; cases hi; exact ⟨d, v, rfl, e0, rfl, h2⟩
    | succ i => rw [List.getElem?_cons_succ] at hi; simp only [List.getElem?_cons_succ]; exact bindA_at h3 e1 i j hi
theorem Rep.callee (rep : Rep K env σ R H) {as : List Ag} {vs : List V} {q : List Sl} (h : AgL K env σ R as vs) (e : bindA env as = some q) (o : Once as) : Rep K q (vs.map some) R H := by
  obtain ⟨l, g⟩ := bindA_get h e
  refine ⟨by rw [l, List.length_map], rep.ex, fun i d hi => ?_, fun i d hi => ?_, fun i k a hi hk => ?_⟩
  · rcases g i _ hi with ⟨d', v, _, e2, e3, e4⟩ | ⟨j, d', v, _, e2, _⟩
    · cases e2; exact ⟨v, by rw [List.getElem?_map, e3]; rfl, e4⟩
    · cases e2
  · rcases hi with hi | hi
    · rcases g i _ hi with ⟨d', v, _, e2, _⟩ | ⟨j, d', v, _, e2, _⟩ <;> cases e2
    · rcases g i _ hi with ⟨d', v, _, e2, _⟩ | ⟨j, d', v, e1, e2, e3, e4, e5⟩
      · cases e2
      · cases e2
        obtain ⟨a, rfl, h1, h2⟩ := own_at rep e5 e3
        exact ⟨a, by rw [List.getElem?_map, e4]; rfl, h1, h2⟩
  · have aux : ∀ i, Hold q (vs.map some) i a → ∃ j, as[i]? = some (Ag.s j) := fun i hi => by
      rcases hi.1 with ⟨d, hd⟩ | ⟨d, hd⟩
      · rcases g i _ hd with ⟨_, _, _, e2, _⟩ | ⟨_, _, _, _, e2, _⟩ <;> cases e2
      · rcases g i _ hd with ⟨_, _, _, e2, _⟩ | ⟨j, _, _, e1, _⟩
        · cases e2
        · exact ⟨j, e1⟩
    obtain ⟨j, e1⟩ := aux i hi
    obtain ⟨l', e2⟩ := aux k hk
    exact o i k j l' e1 e2
/-- behind a call -/
theorem Rep.called (rep : Rep K env σ R H) {as : List Ag} {vs : List V} {q : List Sl} {r : Rv} {o : Option D} {env' : Env} {v : V} {R' H' : Hp} (h : AgL K env σ R as vs) (e : bindA env as = some q) (on : Once as) (hb : back env as o = some env')
    (ce : CallEnd K q vs R H r o v R' H') : Rep K env' σ R' H' ∧ ESt env σ R H env' R' H' ∧ RvAt K env' σ R' H' H v r := by
  obtain ⟨fr, sub, ro, hn, hs⟩ := ce
  obtain ⟨l, g⟩ := bindA_get h e
  have owns : ∀ a, Owns q (vs.map some) a → ∃ i j d, as[i]? = some (Ag.s j) ∧ ownOf env j = some d ∧ σ[j]? = some (some (V.ref a)) ∧ Owns env σ a := fun a ⟨i, h1, h2⟩ => by
    have : ∃ j d, as[i]? = some (Ag.s j) ∧ ownOf env j = some d ∧ σ[j]? = some (some (V.ref a)) := by
      rcases h1 with ⟨d, hd⟩ | ⟨d, hd⟩
      · rcases g i _ hd with ⟨_, _, _, e2, _⟩ | ⟨_, _, _, _, e2, _⟩ <;> cases e2
      · rcases g i _ hd with ⟨_, _, _, e2, _⟩ | ⟨j, d', v', e1, e2, e3, e4, e5⟩
        · cases e2
        · rw [List.getElem?_map, e4] at h2
          cases h2
          exact ⟨j, d', e1, e3, e5⟩
    obtain ⟨j, d, e1, e2, e3⟩ := this
    refine ⟨i, j, d, e1, e2, e3, j, ?_, e3⟩
    unfold ownOf at e2
    cases qq : env[j]? with
    | none => simp only [qq] at e2; cases e2
    | some s =>
      cases s with
      | un => simp only [qq] at e2; cases e2
      | sh c => simp only [qq] at e2; cases e2
      | ow c => exact .inl ⟨c, rfl⟩
      | bw c => exact .inr ⟨c, rfl⟩
  have fr' : Fr (Owns env σ) (OwnsO env σ) R H R' H' := fr.mono (fun a z => let ⟨_, _, _, _, _, _, w⟩ := owns a z; w) (fun _ z => z.elim)
  have roAt : ∀ {env'' : Env}, EnvLe env env'' → RvAt K env'' σ R' H' H v r := fun {env''} le => by
    have := ro.at rep
    cases r with
    | v d => exact this
    | f d => obtain ⟨a, k1, k2, k3, k4, k5⟩ := this; exact ⟨a, k1, k2, k3, k4, fun z => k5 (le.owns z)⟩
    | s i => exact ro.elim
  unfold back at hb
  cases hl : lent as with
  | none =>
    rw [hl] at hb
    cases o with
    | some d => simp at hb
    | none =>
      simp only [Option.some.injEq] at hb
      subst hb
      have noOwn : ∀ a, ¬ Owns q (vs.map some) a := fun a z => by
        obtain ⟨i, j, _, e1, _⟩ := owns a z
        exact lent_none hl i j e1
      refine ⟨⟨rep.len, sub, fun i d hi => ?_, fun i d hi => ?_, rep.ne⟩, ⟨fr', .refl _⟩, roAt (.refl _)⟩
      · obtain ⟨w, k1, k2⟩ := rep.sh i d hi
        exact ⟨w, k1, k2.mono fr.ex.le⟩
      · obtain ⟨a, k1, k2, k3⟩ := rep.ow i d hi
        obtain ⟨u, hu, _⟩ := k3.some
        exact ⟨a, k1, fr.keepR a k2 k3.ne (fun z => z), k3.mono fr.ex.le (by rw [hu, fr.frame a u hu (noOwn a)])⟩
  | some j =>
    rw [hl] at hb
    cases o with
    | none => simp at hb
    | some d' =>
      simp only at hb
      obtain ⟨i, hi⟩ := lent_some hl
      obtain ⟨d, w, k1, k2, k3, k4⟩ := bindA_at h e i j hi
      obtain ⟨a, m1, m2, m3⟩ := hs d' rfl i d k1
      rw [k3] at m1; cases m1
      obtain ⟨a', ea, n1, n2⟩ := own_at rep k4 k2
      cases ea
      -- as if the object were changed, then the rest
      obtain ⟨u, hu, hmu⟩ := m3.some
      have hj : j < env.length := by
        unfold ownOf at k2
        cases qq : env[j]? with
        | none => simp only [qq] at k2; cases k2
        | some s => exact (List.getElem?_eq_some_iff.mp qq).1
      have holdj : Hold env σ j a := by
        refine ⟨?_, k4⟩
        unfold ownOf at k2
        cases qq : env[j]? with
        | none => simp only [qq] at k2; cases k2
        | some s =>
          cases s with
          | un => simp only [qq] at k2; cases k2
          | sh c => simp only [qq] at k2; cases k2
          | ow c => exact .inl ⟨c, rfl⟩
          | bw c => exact .inr ⟨c, rfl⟩
      have onlyA : ∀ b, Owns q (vs.map some) b → b = a := fun b z => by
        obtain ⟨i', j', _, e1, _, e3, _⟩ := owns b z
        have := on i i' j j' hi e1
        subst this
        rw [hi] at e1; cases e1
        rw [k4] at e3; cases e3
        rfl
      have hset : (env' = env.set j (.ow d') ∧ ∃ c, env[j]? = some (Sl.ow c)) ∨ (env' = env.set j (.bw d') ∧ ∃ c, env[j]? = some (Sl.bw c)) := by
        unfold setOwn at hb
        cases qq : env[j]? with
        | none => simp only [qq] at hb; cases hb
        | some s =>
          cases s with
          | un => simp only [qq] at hb; cases hb
          | sh c => simp only [qq] at hb; cases hb
          | ow c => simp only [qq] at hb; cases hb; exact .inl ⟨rfl, c, rfl⟩
          | bw c => simp only [qq] at hb; cases hb; exact .inr ⟨rfl, c, rfl⟩
      have get : ∀ k, k ≠ j → env'[k]? = env[k]? := fun k hk => by
        rcases hset with ⟨rfl, _⟩ | ⟨rfl, _⟩ <;> rw [List.getElem?_set_ne (Ne.symm hk)]
      have at_j : env'[j]? = some (Sl.ow d') ∨ env'[j]? = some (Sl.bw d') := by
        rcases hset with ⟨rfl, _⟩ | ⟨rfl, _⟩
        · exact .inl (List.getElem?_set_self hj)
        · exact .inr (List.getElem?_set_self hj)
      have le : EnvLe env env' := by
        refine ⟨by rcases hset with ⟨rfl, _⟩ | ⟨rfl, _⟩ <;> rw [List.length_set], fun k s ek => ?_⟩
        by_cases hk : k = j
        · subst hk
          rcases hset with ⟨rfl, c, ec⟩ | ⟨rfl, c, ec⟩
          · rw [ec] at ek; cases ek
            exact ⟨_, List.getElem?_set_self hj, .inl ⟨_, rfl⟩⟩
          · rw [ec] at ek; cases ek
            exact ⟨_, List.getElem?_set_self hj, ⟨_, rfl⟩⟩
        · exact ⟨s, by rw [get k hk]; exact ek, .refl s⟩
      refine ⟨⟨le.1.trans rep.len, sub, fun k c ek => ?_, fun k c ek => ?_, fun k k' b hk hk' => rep.ne k k' b (le.hold hk) (le.hold hk')⟩, ⟨fr', le⟩, roAt le⟩
      · have hk : k ≠ j := by
          rintro rfl
          rcases at_j with z | z <;> rw [z] at ek <;> cases ek
        rw [get k hk] at ek
        obtain ⟨w', p1, p2⟩ := rep.sh k c ek
        exact ⟨w', p1, p2.mono fr.ex.le⟩
      · by_cases hk : k = j
        · subst hk
          have : c = d' := by
            rcases at_j with z | z <;> rw [z] at ek <;> rcases ek with ek | ek <;> cases ek <;> rfl
          subst this
          exact ⟨a, k4, m2, m3⟩
        · rw [get k hk] at ek
          obtain ⟨b, p1, p2, p3⟩ := rep.ow k c ek
          have hba : b ≠ a := by
            rintro rfl
            refine hk (rep.ne k j b ⟨?_, p1⟩ holdj)
            rcases ek with ek | ek
            · exact .inl ⟨c, ek⟩
            · exact .inr ⟨c, ek⟩
          obtain ⟨u', hu', _⟩ := p3.some
          exact ⟨b, p1, fr.keepR b p2 p3.ne (fun z => z), p3.mono fr.ex.le (by rw [hu', fr.frame b u' hu' fun z => hba (onlyA b z)])⟩
end
section
variable {X : Cx} {T : Tab} {cf : Cf} {N : List Str} {sc : Scope}
variable {e : Expr} {es : List Expr} {ces : Xs} {x : Str} {p pos : Pos}
theorem call_imp {f : Nat} {σ : L2.St} {H : Hp} {Q : VK} (h : TD cf X.K (.cal f ces) σ H Q) : tCall (spD cf X.K f) [] E0 (TLA cf X.K (cf.io f) ces) σ H Q := by
  obtain ⟨env, R, rv, env', rep, ev, q⟩ := h
  simp only [Mi.eval, Option.bind_eq_some_iff, Option.map_eq_some_iff] at ev
  obtain ⟨p, e1, as, e2, r, e3, env2, e4, e5⟩ := ev
  cases e5
  refine ⟨env, R, p.1, p.2, rep, e1, fun vs R1 H1 rep1 st1 al => ?_⟩
  show spD cf X.K f (vs ++ []) H1 Q E0
  rw [List.append_nil]
  have on := evalsA_once cf e1
  refine ⟨as, R1, r.1, r.2, rep1.callee al e2 on, e3, fun v R2 H2 ce => ?_⟩
  obtain ⟨rep2, st2, at2⟩ := rep1.called al e2 on e4 ce
  exact q v R2 H2 rep2 (st1.trans st2) (at2.since st1.fr.dom)
theorem td_call (G : Gd T cf X N sc) (hx : T.fns.contains x = true) (hg : glob sc x = true) (hp : plnAll (e :: es) = true) (ha : PA X (e :: es) (TLA cf X.K (cf.io (T.fns.idxOf x)) ces)) : PE X (.Call (.Name x p) (e :: es) [] pos) (TD cf X.K (.cal (T.fns.idxOf x) ces)) := by
  obtain ⟨k, a, fd, ps, F, hr, hm, hk, hb⟩ := G.call x hx
  unfold glob at hg
  simp only [Bool.and_eq_true, decide_eq_true_eq, beq_iff_eq] at hg
  exact imp_e (pe_call F hr (show X.env.scope.names.lookup x = _ by rw [G.hsc]; exact hg.1.1) hm hk hb .nil pass0 ha hg.1.2 (star_pln (pln_cons hp).1 es X.env) (star_any X.env pos (pln_cons hp).2)) fun σ H Q h => call_imp h
theorem td_call0 (G : Gd T cf X N sc) (hx : T.fns.contains x = true) (hg : glob sc x = true) : PE X (.Call (.Name x p) [] [] pos) (TD cf X.K (.cal (T.fns.idxOf x) .nil)) := by
  obtain ⟨k, a, fd, ps, F, hr, hm, hk, hb⟩ := G.call x hx
  unfold glob at hg
  simp only [Bool.and_eq_true, decide_eq_true_eq, beq_iff_eq] at hg
  refine imp_e (pe_call0 F hr (show X.env.scope.names.lookup x = _ by rw [G.hsc]; exact hg.1.1) hm hk hb .nil pass0 hg.1.2) fun σ H Q h => ?_
  obtain ⟨env, R, as, env', rep, ev, q⟩ := call_imp h
  simp only [Mi.evalsA] at ev
  cases ev
  exact q [] R H rep (.refl _ _ _ _) rfl
end
end Mi

end

section
set_option linter.all false
set_option maxRecDepth 100000
set_option maxHeartbeats 1000000
/-! Mi10: targets, what is walked, comprehensions -/
namespace Mi
open PySem PySem.Spec PyProof.Rows L2

def Gx.slots : Gx → List Nat
  | .nm i => [i]
  | .tp is => is
/-- σ' is σ but at some slots -/
def But (is : List Nat) (σ σ' : L2.St) : Prop := σ'.length = σ.length ∧ ∀ j : Nat, j ∉ is → σ'[j]? = σ[j]?
section
variable {K : PySem.W.Frag} {env env' : Env} {σ : L2.St} {R H : Hp} {i : Nat} {d : D} {v : V}
theorem put_inv (h : put env i d = some env') : i < env.length ∧ (∀ c, env[i]? ≠ some (Sl.bw c)) ∧ env' = env.set i (.sh d) := by
  unfold put at h
  split at h
  · rename_i hc
    cases h
    refine ⟨hc.1, fun c e => ?_, rfl⟩
    have := hc.2
    simp [isBw, e] at this
  · cases h
/-- shared data stored at a slot -/
theorem Rep.put (rep : Rep K env σ R H) (h : put env i d = some env') (hd : At K R d v) : Rep K env' (σ.set i (some v)) R H := by
  obtain ⟨hi, hb, rfl⟩ := put_inv h
  have hiσ : i < σ.length := by rw [← rep.len]; exact hi
  have hold : ∀ j a, Hold (env.set i (.sh d)) (σ.set i (some v)) j a → j ≠ i ∧ Hold env σ j a := fun j a ⟨h1, h2⟩ => by
    have hj : j ≠ i := by
      rintro rfl
      rw [List.getElem?_set_self hi] at h1
      rcases h1 with ⟨_, z⟩ | ⟨_, z⟩ <;> cases z
    rw [List.getElem?_set_ne (Ne.symm hj)] at h1 h2
    exact ⟨hj, h1, h2⟩
  refine ⟨by rw [List.length_set, List.length_set]; exact rep.len, rep.ex, fun j c e => ?_, fun j c e => ?_, fun j k a hj hk => rep.ne j k a (hold j a hj).2 (hold k a hk).2⟩
  · by_cases hj : j = i
    · subst hj
      rw [List.getElem?_set_self hi] at e; cases e
      exact ⟨v, List.getElem?_set_self hiσ, hd⟩
    · rw [List.getElem?_set_ne (Ne.symm hj)] at e ⊢
      exact rep.sh j c e
  · have hj : j ≠ i := by
      rintro rfl
      rw [List.getElem?_set_self hi] at e
      rcases e with e | e <;> cases e
    rw [List.getElem?_set_ne (Ne.symm hj)] at e ⊢
    exact rep.ow j c e
theorem put_owns (h : put env i d = some env') {a : Addr} (o : Owns env' (σ.set i (some v)) a) (rl : env.length = σ.length) : Owns env σ a := by
  obtain ⟨hi, hb, rfl⟩ := put_inv h
  obtain ⟨j, h1, h2⟩ := o
  have hj : j ≠ i := by
    rintro rfl
    rw [List.getElem?_set_self hi] at h1
    rcases h1 with ⟨_, z⟩ | ⟨_, z⟩ <;> cases z
  rw [List.getElem?_set_ne (Ne.symm hj)] at h1 h2
  exact ⟨j, h1, h2⟩
theorem put_ownsO (h : put env i d = some env') {a : Addr} (o : OwnsO env' (σ.set i (some v)) a) (rl : env.length = σ.length) : OwnsO env σ a := by
  obtain ⟨hi, hb, rfl⟩ := put_inv h
  obtain ⟨j, h1, h2⟩ := o
  have hj : j ≠ i := by
    rintro rfl
    rw [List.getElem?_set_self hi] at h1
    rcases h1 with ⟨_, z⟩
    cases z
  rw [List.getElem?_set_ne (Ne.symm hj)] at h1 h2
  exact ⟨j, h1, h2⟩
end
/-- what a store of targets does -/
structure PutTo (K : PySem.W.Frag) (is : List Nat) (env : Env) (σ : L2.St) (R H : Hp) (env' : Env) (σ' : L2.St) : Prop where
  rep : Rep K env' σ' R H
  but : But is σ σ'
  butE : env'.length = env.length ∧ ∀ j : Nat, j ∉ is → env'[j]? = env[j]?
  at_ : ∀ j : Nat, j ∈ is → ∃ d, env'[j]? = some (Sl.sh d)
  nobw : ∀ j c, j ∈ is → env[j]? ≠ some (Sl.bw c)
  owns : ∀ a, Owns env' σ' a → Owns env σ a
  ownsO : ∀ a, OwnsO env' σ' a → OwnsO env σ a
theorem PutTo.nil {K : PySem.W.Frag} {env : Env} {σ : L2.St} {R H : Hp} (rep : Rep K env σ R H) : PutTo K [] env σ R H env σ :=
  ⟨rep, ⟨rfl, fun _ _ => rfl⟩, ⟨rfl, fun _ _ => rfl⟩, (fun _ h => nomatch h), (fun _ _ h => nomatch h), fun _ z => z, fun _ z => z⟩
theorem PutTo.one {K : PySem.W.Frag} {env env' : Env} {σ : L2.St} {R H : Hp} {i : Nat} {d : D} {v : V} (rep : Rep K env σ R H) (h : put env i d = some env') (hd : At K R d v) : PutTo K [i] env σ R H env' (σ.set i (some v)) := by
  have h' := h
  obtain ⟨hi, hb, rfl⟩ := put_inv h
  refine ⟨rep.put h' hd, ⟨List.length_set, fun j hj => List.getElem?_set_ne (fun e => hj (by simp [e]))⟩, ⟨List.length_set, fun j hj => List.getElem?_set_ne (fun e => hj (by simp [e]))⟩, fun j hj => ?_, fun j c hj => ?_, fun a z => put_owns h' z rep.len, fun a z => put_ownsO h' z rep.len⟩
  · have : j = i := by simpa using hj
    subst this
    exact ⟨d, List.getElem?_set_self hi⟩
  · have : j = i := by simpa using hj
    subst this
    exact hb c
theorem PutTo.cons {K : PySem.W.Frag} {env env1 env2 : Env} {σ σ1 σ2 : L2.St} {R H : Hp} {i : Nat} {is : List Nat} (a : PutTo K [i] env σ R H env1 σ1) (b : PutTo K is env1 σ1 R H env2 σ2) : PutTo K (i :: is) env σ R H env2 σ2 := by
  refine ⟨b.rep, ⟨b.but.1.trans a.but.1, fun j hj => ?_⟩, ⟨b.butE.1.trans a.butE.1, fun j hj => ?_⟩, fun j hj => ?_, fun j c hj => ?_, fun x z => a.owns x (b.owns x z), fun x z => a.ownsO x (b.ownsO x z)⟩
  · simp only [List.mem_cons, not_or] at hj
    exact (b.but.2 j hj.2).trans (a.but.2 j (by simpa using hj.1))
  · simp only [List.mem_cons, not_or] at hj
    exact (b.butE.2 j hj.2).trans (a.butE.2 j (by simpa using hj.1))
  · by_cases hm : j ∈ is
    · exact b.at_ j hm
    · have : j = i := by simpa [hm] using hj
      subst this
      obtain ⟨d, e⟩ := a.at_ j (by simp)
      exact ⟨d, by rw [b.butE.2 j hm]; exact e⟩
  · by_cases hij : j = i
    · exact a.nobw j c (by simp [hij])
    · have hm : j ∈ is := by simpa [hij] using hj
      have := b.nobw j c hm
      rwa [a.butE.2 j (by simpa using hij)] at this
/-- a target's reading -/
def TGx (K : PySem.W.Frag) (g : Gx) : TG := fun v σ H Q => ∃ env R d env', Rep K env σ R H ∧ At K R d v ∧ putG env g d = some env' ∧ ∀ σ', PutTo K g.slots env σ R H env' σ' → Q σ' H
def TGs (K : PySem.W.Frag) (is : List Nat) : L2.TGs := fun vs σ H Q => ∃ env R ds env', Rep K env σ R H ∧ AtL K R ds vs ∧ puts env is ds = some env' ∧ ∀ σ', PutTo K is env σ R H env' σ' → Q σ' H
section
variable {X : Cx}
/-- the i-th slot may be stored -/
def Stor (X : Cx) (x : Str) (i : Nat) : Prop := X.N[i]? = some x ∧ Loc X.env.scope x ∧ (X.fn x = true ∨ X.env.scope.names.lookup x = some .local)
theorem tg_nm {x : Str} {i : Nat} {pos : Pos} (nd : X.N.Nodup) (s : Stor X x i) : PG X (.Name x pos) (TGx X.K (.nm i)) := by
  refine ⟨fun pins st σ H v u Q I r h => (pg_name nd s.1 s.2.1 s.2.2).run pins st σ H v u Q I r ?_⟩
  obtain ⟨env, R, d, env', rep, hd, hp, q⟩ := h
  exact q _ (.one rep hp hd)
theorem tgs_nil : PGs X [] (TGs X.K []) := by
  refine ⟨fun pins st σ H vs us Q I r h => pgs_nil.run pins st σ H vs us Q I r ?_⟩
  obtain ⟨env, R, ds, env', rep, hd, hp, q⟩ := h
  cases ds with
  | nil =>
    simp only [puts] at hp; cases hp
    exact ⟨hd, q σ (.nil rep)⟩
  | cons d ds => simp [puts] at hp
theorem tgs_cons {x : Str} {i : Nat} {pos : Pos} {es : List Expr} {is : List Nat} (nd : X.N.Nodup) (s : Stor X x i) (h : PGs X es (TGs X.K is)) : PGs X (.Name x pos :: es) (TGs X.K (i :: is)) := by
  refine ⟨fun pins st σ H vs us Q I r hh => (pgs_cons (pg_name nd s.1 s.2.1 s.2.2) h).run pins st σ H vs us Q I r ?_⟩
  obtain ⟨env, R, ds, env', rep, hd, hp, q⟩ := hh
  cases ds with
  | nil => simp [puts] at hp
  | cons d ds =>
    simp only [puts, Option.bind_eq_some_iff] at hp
    obtain ⟨e1, h1, h2⟩ := hp
    obtain ⟨v, r', rfl, h3, h4⟩ := hd
    have P1 := PutTo.one rep h1 h3
    exact ⟨v, r', rfl, e1, R, ds, env', P1.rep, h4, h2, fun σ' P2 => q σ' (P1.cons P2)⟩
/-- the names of a target's tuple -/
inductive NamesAt (X : Cx) : List Expr → List Nat → Prop
  | nil : NamesAt X [] []
  | cons {x : Str} {i : Nat} {pos : Pos} {es : List Expr} {is : List Nat} : Stor X x i → NamesAt X es is → NamesAt X (.Name x pos :: es) (i :: is)
theorem NamesAt.pgs (nd : X.N.Nodup) : ∀ {es : List Expr} {is : List Nat}, NamesAt X es is → PGs X es (TGs X.K is)
  | _, _, .nil => tgs_nil
  | _, _, .cons s t => tgs_cons nd s (NamesAt.pgs nd t)
theorem NamesAt.each {env : PySem.Env} : ∀ {es : List Expr} {is : List Nat}, NamesAt X es is → (assignEach es env).length = es.length ∧ (assignEach es env).findIdx? (·.1) = none ∧ es.length = is.length
  | _, _, .nil => ⟨rfl, rfl, rfl⟩
  | _, _, .cons (x := x) (pos := pos) (es := es) s t => by
    obtain ⟨h1, h2, h3⟩ := NamesAt.each (env := env) t
    have e : assignEach (.Name x pos :: es) env = (false, assign (.Name x pos) env) :: assignEach es env := rfl
    refine ⟨by rw [e, List.length_cons, List.length_cons, h1], ?_, by rw [List.length_cons, List.length_cons, h3]⟩
    rw [e, List.findIdx?_cons, h2]; rfl
theorem puts_length : ∀ {is : List Nat} {ds : List D} {env env' : Env}, puts env is ds = some env' → is.length = ds.length
  | [], [], _, _, _ => rfl
  | [], _ :: _, _, _, h => by simp [puts] at h
  | _ :: _, [], _, _, h => by simp [puts] at h
  | i :: is, d :: ds, env, env', h => by
    simp only [puts, Option.bind_eq_some_iff] at h
    obtain ⟨e1, h1, h2⟩ := h
    rw [List.length_cons, List.length_cons, puts_length h2]
theorem tg_tp {es : List Expr} {is : List Nat} {k : Nat} {pos : Pos} (hc : X.calm = true) (nd : X.N.Nodup) (n : NamesAt X es is) : PG X (.Tuple es k pos) (TGx X.K (.tp is)) := by
  obtain ⟨h1, h2, h3⟩ := n.each (env := X.env)
  refine ⟨fun pins st σ H v u Q I r hh => (pg_tup hc (n.pgs nd) h1 h2).run pins st σ H v u Q I r ?_⟩
  obtain ⟨env, R, d, env', rep, hd, hp, q⟩ := hh
  cases d with
  | tup ds =>
    simp only [putG] at hp
    obtain ⟨a, vs, rfl, h4, h5⟩ := hd
    exact ⟨a, vs, rfl, le_st rep.ex.le h4, by rw [← h5.length, ← puts_length hp, h3], env, R, ds, env', rep, h5, hp, q⟩
  | _ => simp [putG] at hp

/-! ### what is walked -/
/-- the iterator gives the items, from any heap behind R0 -/
def Walk (K : PySem.W.Frag) (J : It) (ds : List D) (R0 : Hp) : Prop := ∀ R H, Ex R0 R → Ex R H → ∀ k : Nat,
  (k < ds.length → J.go k H ∧ ∀ x H2, J.yld k H x H2 → ∃ R2 d, ds[k]? = some d ∧ Al R H R2 H2 ∧ At K R2 d x) ∧ (ds.length = k → J.stop k H)
def TIx (cf : Cf) (K : PySem.W.Frag) (ix : Ix) : TI := fun σ H Rk => ∃ env R ds env', Rep K env σ R H ∧ Mi.evalI cf ix env = some (ds, env') ∧
  ∀ J R' H', Rep K env' σ R' H' → ESt env σ R H env' R' H' → Walk K J ds R' → Rk J H'
theorem walk_list {K : PySem.W.Frag} {a : Addr} {vs : List V} {ds : List D} {R0 : Hp} (h : SqL K R0 a vs) (al : AtL K R0 ds vs) : Walk K (Itl K a) ds R0 := fun R H e1 e2 k => by
  have hs : SqL K H a vs := le_sl (e1.trans e2).le h
  refine ⟨fun hk => ?_, fun hk => ⟨vs, hs, by rw [← al.length]; exact Nat.le_of_eq hk⟩⟩
  obtain ⟨v, h1, h2⟩ := al.get (List.getElem?_eq_getElem hk)
  exact ⟨⟨vs, v, hs, h1⟩, fun x H2 ⟨hH, hx⟩ => by
    subst hH
    have := hx vs hs
    rw [h1] at this; cases this
    exact ⟨R, _, List.getElem?_eq_getElem hk, .refl e2, h2.mono e1.le⟩⟩
theorem walk_tup {K : PySem.W.Frag} {a : Addr} {vs : List V} {ds : List D} {R0 : Hp} (h : SqT K R0 a vs) (al : AtL K R0 ds vs) : Walk K (Itt K a) ds R0 := fun R H e1 e2 k => by
  have hs : SqT K H a vs := le_st (e1.trans e2).le h
  refine ⟨fun hk => ?_, fun hk => ⟨vs, hs, by rw [← al.length]; exact Nat.le_of_eq hk⟩⟩
  obtain ⟨v, h1, h2⟩ := al.get (List.getElem?_eq_getElem hk)
  exact ⟨⟨vs, v, hs, h1⟩, fun x H2 ⟨hH, hx⟩ => by
    subst hH
    have := hx vs hs
    rw [h1] at this; cases this
    exact ⟨R, _, List.getElem?_eq_getElem hk, .refl e2, h2.mono e1.le⟩⟩
theorem walk_range {K : PySem.W.Frag} {lo : Int} {n : Nat} {R0 : Hp} : Walk K (Itr lo n) ((List.range n).map fun (k : Nat) => D.int (lo + k)) R0 := fun R H e1 e2 k => by
  rw [List.length_map, List.length_range]
  refine ⟨fun hk => ⟨hk, fun x H2 ⟨hH, hx⟩ => ?_⟩, fun hk => Nat.le_of_eq hk⟩
  subst hH
  exact ⟨R, .int (lo + k), by rw [List.getElem?_map, List.getElem?_range hk]; rfl, .refl e2, hx⟩
/-- a list, a tuple, whichever it is -/
def iSeq (K : PySem.W.Frag) (tl : TE) : TI := fun σ H R => tl σ H fun x H1 => ∃ a, x = .ref a ∧ (((∃ xs, SqL K H1 a xs) ∧ R (Itl K a) H1) ∨ ((∃ xs, SqT K H1 a xs) ∧ R (Itt K a) H1))
theorem pi_seq {tg l : Expr} {tl : TE} (hl : PE X l tl) : PI X tg l (iSeq X.K tl) := by
  refine ⟨fun pins s σ H R I h => ?_⟩
  refine thn (hl.run pins s σ H _ I h) fun v s1 ⟨x, H1, I1, r1, q1⟩ => ?_
  obtain ⟨a, rfl, q1 | q1⟩ := q1
  · obtain ⟨⟨xs, hq⟩, q⟩ := q1
    cases r1
    obtain ⟨its, rv, p, hz⟩ := I1.list hq
    refine wpAny_pyIter_list p.isList ?_
    refine ⟨s1.heap.objs.size, [s1.heap.objs.size], _, _, H1, rfl, I1.kept (t' := s1.toks) fun b o e => Heap.get?_push_of_some _ e, turn_list a _, ⟨_, Heap.get?_push_size _ rfl, rfl, rfl⟩, fun b hb => ?_, q⟩
    have e : b = s1.heap.objs.size := by simpa using hb
    subst e
    exact I1.fpOk (Nat.le_refl _) (I1.hok.fresh (Nat.le_refl _))
  · obtain ⟨⟨xs, hq⟩, q⟩ := q1
    cases r1
    obtain ⟨its, rv, p, hz⟩ := I1.tuple hq
    refine wpAny_pyIter_tuple (show s1.heap.IsTuple a its.toArray from p) ?_
    refine ⟨s1.heap.objs.size, [s1.heap.objs.size], _, _, H1, rfl, I1.kept (t' := s1.toks) fun b o e => Heap.get?_push_of_some _ e, turn_tuple a _, ⟨_, Heap.get?_push_size _ rfl, rfl, rfl⟩, fun b hb => ?_, q⟩
    have e : b = s1.heap.objs.size := by simpa using hb
    subst e
    exact I1.fpOk (Nat.le_refl _) (I1.hok.fresh (Nat.le_refl _))
theorem imp_i {tg e : Expr} {t t' : TI} (h : PI X tg e t) (i : ∀ σ H Q, t' σ H Q → t σ H Q) : PI X tg e t' := ⟨fun pins s σ H Q I w => h.run pins s σ H Q I (i σ H Q w)⟩
theorem AtL.ofScr {K : PySem.W.Frag} {R : Hp} (ns : List Int) : AtL K R (ns.map D.int) (ns.map V.int) := AtL.toInts ns
theorem ti_e {cf : Cf} {tg a : Expr} {ca : Xp} (ha : PE X a (TD cf X.K ca)) : PI X tg a (TIx cf X.K (.e ca)) := by
  refine imp_i (pi_seq ha) fun σ H Q h => ?_
  obtain ⟨env, R, ds, env', rep, ev, q⟩ := h
  simp only [Mi.evalI, Option.bind_eq_some_iff, Option.map_eq_some_iff] at ev
  obtain ⟨p, e1, t, e2, xs, e3, e4⟩ := ev
  cases e4
  refine ⟨env, R, p.1, p.2, rep, e1, fun v1 R1 H1 rep1 st1 at1 => ?_⟩
  obtain ⟨R2, rep2, st2, at2⟩ := at1.take rep1 st1 e2
  obtain ⟨d, env2⟩ := t
  cases d with
  | lst ds =>
    cases e3
    obtain ⟨a, vs, rfl, h1, h2⟩ := at2
    exact ⟨a, rfl, .inl ⟨⟨vs, .inl (.inl (rep2.ex _ _ h1))⟩, q _ R2 H1 rep2 st2 (walk_list (.inl (.inl h1)) h2)⟩⟩
  | tup ds =>
    cases e3
    obtain ⟨a, vs, rfl, h1, h2⟩ := at2
    exact ⟨a, rfl, .inr ⟨⟨vs, le_st rep2.ex.le h1⟩, q _ R2 H1 rep2 st2 (walk_tup h1 h2)⟩⟩
  | scr ns =>
    cases e3
    obtain ⟨a, rfl, h1⟩ := at2
    exact ⟨a, rfl, .inl ⟨⟨_, le_sl rep2.ex.le h1⟩, q _ R2 H1 rep2 st2 (walk_list h1 (.ofScr ns))⟩⟩
  | _ => simp [itemsOf] at e3
theorem ti_dk {cf : Cf} {tg a : Expr} {ca : Xp} (ha : PE X a (TD cf X.K ca)) : PI X tg a (TIx cf X.K (.dk ca)) := by
  refine imp_i (pi_seq ha) fun σ H Q h => ?_
  obtain ⟨env, R, ds, env', rep, ev, q⟩ := h
  simp only [Mi.evalI, Option.bind_eq_some_iff, Option.map_eq_some_iff] at ev
  obtain ⟨p, e1, t, e2, xs, e3, e4⟩ := ev
  cases e4
  refine ⟨env, R, p.1, p.2, rep, e1, fun v1 R1 H1 rep1 st1 at1 => ?_⟩
  obtain ⟨R2, rep2, st2, at2⟩ := at1.take rep1 st1 e2
  obtain ⟨d, env2⟩ := t
  cases d with
  | lst ds =>
    cases e3
    obtain ⟨a, vs, rfl, h1, h2⟩ := at2
    exact ⟨a, rfl, .inl ⟨⟨vs, .inl (.inl (rep2.ex _ _ h1))⟩, q _ R2 H1 rep2 st2 (walk_list (.inl (.inl h1)) h2)⟩⟩
  | tup ds =>
    cases e3
    obtain ⟨a, vs, rfl, h1, h2⟩ := at2
    exact ⟨a, rfl, .inr ⟨⟨vs, le_st rep2.ex.le h1⟩, q _ R2 H1 rep2 st2 (walk_tup h1 h2)⟩⟩
  | scr ns =>
    cases e3
    obtain ⟨a, rfl, h1⟩ := at2
    exact ⟨a, rfl, .inl ⟨⟨_, le_sl rep2.ex.le h1⟩, q _ R2 H1 rep2 st2 (walk_list h1 (.ofScr ns))⟩⟩
  | _ => simp [itemsOf] at e3
theorem big_iff {i : Int} (h : big i = true) : -(2 ^ 62) ≤ i ∧ i < 2 ^ 62 := by
  unfold big at h
  simpa only [Bool.and_eq_true, decide_eq_true_eq] using h
theorem PkL.length {K : PySem.W.Frag} {R H : Hp} : ∀ {ds : List D} {vs : List V}, PkL K R H ds vs → ds.length = vs.length
  | [], _, h => by cases (show _ = ([] : List V) from h); rfl
  | _ :: _, _, ⟨v, r, h1, _, h3⟩ => by subst h1; rw [List.length_cons, List.length_cons, PkL.length h3]
theorem TL.length {cf : Cf} : ∀ {es : Xs} {env env' : Env} {rs : List Rv}, evals cf es env = some (rs, env') → ∃ n, rs.length = n := fun _ => ⟨_, rfl⟩
theorem rng_imp1 {cf : Cf} {ces : Xs} {σ : L2.St} {H : Hp} {Q : It → Hp → Prop} (h : TIx cf X.K (.rng ces) σ H Q) (h1 : ∃ c, ces = .cons c .nil) : iRng1 (TL cf X.K ces) σ H Q := by
  obtain ⟨env, R, ds, env', rep, ev, q⟩ := h
  obtain ⟨c, rfl⟩ := h1
  simp only [Mi.evalI, Option.bind_eq_some_iff, Option.map_eq_some_iff] at ev
  obtain ⟨p, e1, ds', e2, xs, e3, e4⟩ := ev
  cases e4
  refine ⟨env, R, p.1, p.2, rep, e1, fun vs R1 H1 rep1 st1 at1 => ?_⟩
  have pk := RvL.pks rep1 at1 e2
  simp only [Mi.evals, Option.bind_eq_some_iff, Option.map_eq_some_iff] at e1
  obtain ⟨p1, _, p2, e5, e6⟩ := e1
  cases e5; cases e6
  unfold rangeOf at e3
  split at e3
  · rename_i j
    split at e3
    · rename_i hj
      cases e3
      obtain ⟨v, rfl, hv⟩ := pk.one
      obtain ⟨b1, b2⟩ := big_iff hj
      refine ⟨j, by rw [hv.int], b1, b2, q _ R1 H1 rep1 st1 ?_⟩
      have := walk_range (K := X.K) (lo := 0) (n := j.toNat) (R0 := R1)
      simpa only [Int.zero_add] using this
    · cases e3
  · rename_i i j
    simp only [Mi.pks, Option.bind_eq_some_iff, Option.map_eq_some_iff] at e2
    obtain ⟨_, _, _, e7, e8⟩ := e2
    cases e7; cases e8
  · cases e3
theorem rng_imp2 {cf : Cf} {ces : Xs} {σ : L2.St} {H : Hp} {Q : It → Hp → Prop} (h : TIx cf X.K (.rng ces) σ H Q) (h1 : ∃ c c', ces = .cons c (.cons c' .nil)) : iRng2 (TL cf X.K ces) σ H Q := by
  obtain ⟨env, R, ds, env', rep, ev, q⟩ := h
  obtain ⟨c, c', rfl⟩ := h1
  simp only [Mi.evalI, Option.bind_eq_some_iff, Option.map_eq_some_iff] at ev
  obtain ⟨p, e1, ds', e2, xs, e3, e4⟩ := ev
  cases e4
  refine ⟨env, R, p.1, p.2, rep, e1, fun vs R1 H1 rep1 st1 at1 => ?_⟩
  have pk := RvL.pks rep1 at1 e2
  simp only [Mi.evals, Option.bind_eq_some_iff, Option.map_eq_some_iff] at e1
  obtain ⟨p1, _, p2, ⟨p3, _, p4, e5, e6⟩, e7⟩ := e1
  cases e5; cases e6; cases e7
  unfold rangeOf at e3
  split at e3
  · simp only [Mi.pks, Option.bind_eq_some_iff, Option.map_eq_some_iff] at e2
    obtain ⟨_, _, _, ⟨_, _, _, e7, e8⟩, e9⟩ := e2
    cases e7; cases e8; cases e9
  · rename_i i j
    split at e3
    · rename_i hj
      cases e3
      simp only [Bool.and_eq_true] at hj
      obtain ⟨v, w, rfl, hv, hw⟩ := pk.two
      obtain ⟨b1, b2⟩ := big_iff hj.1
      obtain ⟨b3, b4⟩ := big_iff hj.2
      exact ⟨i, j, by rw [hv.int, hw.int], ⟨b1, b2, b3, b4⟩, q _ R1 H1 rep1 st1 walk_range⟩
    · cases e3
  · cases e3
end
end Mi

end

section
set_option linter.all false
set_option maxRecDepth 100000
set_option maxHeartbeats 4000000
/-! MiL: a dict that is walked is locked -/
namespace Mi
open PySem PySem.Spec PyProof.Rows L2
section
variable {X : Cx}
theorem pe_or {e : Expr} {t1 t2 : TE} (h1 : PE X e t1) (h2 : PE X e t2) : PE X e (fun σ H Q => t1 σ H Q ∨ t2 σ H Q) := ⟨fun pins s σ H Q I w => w.elim (h1.run pins s σ H Q I) (h2.run pins s σ H Q I)⟩
theorem ps_or {st : Stmt} {t1 t2 : TS} (h1 : PS X st t1) (h2 : PS X st t2) : PS X st (fun D σ H => t1 D σ H ∨ t2 D σ H) := ⟨fun pins s σ H D I w => w.elim (h1.run pins s σ H D I) (h2.run pins s σ H D I)⟩
end
theorem keysAt {K : PySem.W.Frag} {R : Hp} (k : Key) : At K R (kD k) (kV k) := by
  rcases k with k | k
  · exact (rfl : V.int k = .int k)
  · exact (rfl : V.str k = .str k)
theorem walk_keys {K : PySem.W.Frag} {d : Addr} {o : Obj} {kl : List (Key × V)} {R0 : Hp} (h : R0 d = some (.frz o (.dK kl))) : Walk K (Itk d o kl) (kl.map fun p => kD p.1) R0 := fun R H e1 e2 k => by
  have hH : H d = some (.frz o (.dK kl)) := e2 _ _ (e1 _ _ h)
  rw [List.length_map]
  refine ⟨fun hk => ⟨⟨hH, hk⟩, fun x H2 ⟨eH, key, v, hv, hx⟩ => ?_⟩, fun hk => ⟨hH, Nat.le_of_eq hk⟩⟩
  subst eH; subst hx
  exact ⟨R, kD key, by rw [List.getElem?_map, hv]; rfl, .refl e2, keysAt key⟩
/-- which dict is walked -/
def DictAt (env : Env) (i : Nat) (ks : List D) (env1 : Env) : Prop := ∃ ws, (env[i]? = some (.ow (.dct ks ws)) ∧ env1 = env.set i (.sh (.dct ks ws))) ∨ (env[i]? = some (.sh (.dct ks ws)) ∧ env1 = env)
theorem dictI_some {it : Ix} {env : Env} {p : List D × Env} (h : dictI it env = some p) : ∃ i, it = .dk (.var i) ∧ DictAt env i p.1 p.2 := by
  unfold dictI at h
  split at h
  · rename_i i
    refine ⟨i, rfl, ?_⟩
    split at h
    · rename_i ks ws e
      cases h
      exact ⟨ws, .inl ⟨e, rfl⟩⟩
    · rename_i ks ws e
      cases h
      exact ⟨ws, .inr ⟨e, rfl⟩⟩
    · cases h
  · cases h
section
variable {K : PySem.W.Frag} {env env1 env' : Env} {σ σ' : L2.St} {R H R' H' : Hp} {i : Nat} {d : Addr} {u : HO} {od : Obj}
theorem DictAt.le {ks : List D} (h : DictAt env i ks env1) : EnvLe env env1 := by
  obtain ⟨ws, ⟨e, rfl⟩ | ⟨e, rfl⟩⟩ := h
  · have hi : i < env.length := (List.getElem?_eq_some_iff.mp e).1
    refine ⟨List.length_set, fun j s ej => ?_⟩
    by_cases hj : j = i
    · subst hj
      rw [e] at ej; cases ej
      exact ⟨_, List.getElem?_set_self hi, .inr ⟨_, rfl⟩⟩
    · exact ⟨s, by rw [List.getElem?_set_ne (Ne.symm hj)]; exact ej, .refl s⟩
  · exact .refl _
theorem DictAt.bw {ks : List D} (h : DictAt env i ks env1) {j : Nat} {d : D} (e : env[j]? = some (.bw d)) : env1[j]? = some (.bw d) := by
  obtain ⟨ws, ⟨e0, rfl⟩ | ⟨e0, rfl⟩⟩ := h
  · have hj : j ≠ i := by rintro rfl; rw [e0] at e; cases e
    rw [List.getElem?_set_ne (Ne.symm hj)]; exact e
  · exact e
/-- the dict's place, and whether it is locked already -/
theorem DictAt.place {ks : List D} (rep : Rep K env σ R H) (h : DictAt env i ks env1) : ∃ (d : Addr) (kl : List (Key × V)), σ[i]? = some (some (.ref d)) ∧ kl.map (fun p => kD p.1) = ks ∧
    ((∃ o, R d = some (.frz o (.dK kl)) ∧ env1 = env) ∨ (H d = some (.dK kl) ∧ ((R d = none ∧ OwnsO env σ d) ∨ R d = some (.dK kl)))) := by
  obtain ⟨ws, ⟨e, rfl⟩ | ⟨e, rfl⟩⟩ := h
  · obtain ⟨a, h1, h2, kl, h3, h4, h5⟩ := rep.ow i _ (.inl e)
    exact ⟨a, kl, h1, h4, .inr ⟨h3, .inl ⟨h2, i, ⟨_, e⟩, h1⟩⟩⟩
  · obtain ⟨v, h1, a, rfl, kl, h2, h3, h4⟩ := rep.sh i _ e
    refine ⟨a, kl, h1, h3, ?_⟩
    rcases h2 with h2 | ⟨o, h2⟩
    · exact .inr ⟨rep.ex _ _ h2, .inr h2⟩
    · exact .inl ⟨o, h2, rfl⟩
/-- locked, it is shared -/
theorem Rep.lock {ks : List D} {kl : List (Key × V)} (rep : Rep K env σ R H) (h : DictAt env i ks env1) (hσ : σ[i]? = some (some (.ref d))) (hk : kl.map (fun p => kD p.1) = ks)
    (hH : H d = some (.dK kl)) (hR : (R d = none ∧ OwnsO env σ d) ∨ R d = some (.dK kl)) : Rep K env1 σ (upd R d (.frz od (.dK kl))) (upd H d (.frz od (.dK kl))) := by
  have le : Le R (upd R d (.frz od (.dK kl))) := by
    refine ⟨fun a u hu e => ?_, fun a xs e => ?_⟩
    · by_cases ha : a = d
      · subst ha
        rcases hR with ⟨hR, _⟩ | hR
        · rcases e with e | ⟨o, e⟩ <;> (rw [hR] at e; cases e)
        · rcases e with e | ⟨o, e⟩
          · rw [hR] at e; cases e
            exact .inr ⟨od, upd_same⟩
          · rw [hR] at e; cases e
      · unfold Rd
        rw [upd_ne ha]; exact e
    · have ha : a ≠ d := by
        rintro rfl
        rcases hR with ⟨hR, _⟩ | hR <;> (rw [hR] at e; cases e)
      rw [upd_ne ha]; exact e
  have hl := h.le
  -- what holds d
  have noh : ∀ j, ¬ Hold env1 σ j d := fun j hj => by
    obtain ⟨ws, ⟨e, rfl⟩ | ⟨e, rfl⟩⟩ := h
    · have : j = i := rep.ne j i d (hl.hold hj) ⟨.inl ⟨_, e⟩, hσ⟩
      subst this
      obtain ⟨hj, _⟩ := hj
      rw [List.getElem?_set_self (List.getElem?_eq_some_iff.mp e).1] at hj
      rcases hj with ⟨_, z⟩ | ⟨_, z⟩ <;> cases z
    · obtain ⟨hj, hj2⟩ := hj
      have hn : R d = none := by
        rcases hj with ⟨c, z⟩ | ⟨c, z⟩
        · obtain ⟨b, q1, q2, _⟩ := rep.ow j c (.inl z)
          rw [hj2] at q1; cases q1; exact q2
        · obtain ⟨b, q1, q2, _⟩ := rep.ow j c (.inr z)
          rw [hj2] at q1; cases q1; exact q2
      obtain ⟨v, h1, a, rfl, kl', h2, h3, h4⟩ := rep.sh i _ e
      rw [hσ] at h1; cases h1
      rcases h2 with h2 | ⟨o, h2⟩ <;> (rw [hn] at h2; cases h2)
  refine ⟨by rw [hl.1]; exact rep.len, fun b u e => ?_, fun j c e => ?_, fun j c e => ?_, fun j k a hj hk => rep.ne j k a (hl.hold hj) (hl.hold hk)⟩
  · by_cases hb : b = d
    · subst hb; rw [upd_same] at e ⊢; exact e
    · rw [upd_ne hb] at e ⊢; exact rep.ex b u e
  · by_cases hj : j = i
    · subst hj
      obtain ⟨ws, ⟨e0, rfl⟩ | ⟨e0, rfl⟩⟩ := h
      · rw [List.getElem?_set_self (List.getElem?_eq_some_iff.mp e0).1] at e; cases e
        obtain ⟨a, h1, h2, kl', h3, h4, h5⟩ := rep.ow j _ (.inl e0)
        rw [hσ] at h1; cases h1
        rw [hH] at h3; cases h3
        exact ⟨_, hσ, d, rfl, kl, .inr ⟨od, upd_same⟩, h4, h5.mono le⟩
      · obtain ⟨v, h1, h2⟩ := rep.sh j c e
        exact ⟨v, h1, h2.mono le⟩
    · have e' : env[j]? = some (.sh c) := by
        obtain ⟨ws, ⟨e0, rfl⟩ | ⟨e0, rfl⟩⟩ := h
        · rwa [List.getElem?_set_ne (Ne.symm hj)] at e
        · exact e
      obtain ⟨v, h1, h2⟩ := rep.sh j c e'
      exact ⟨v, h1, h2.mono le⟩
  · have e' : env[j]? = some (.ow c) ∨ env[j]? = some (.bw c) := by
      obtain ⟨ws, ⟨e0, rfl⟩ | ⟨e0, rfl⟩⟩ := h
      · have hj : j ≠ i := by
          rintro rfl
          rw [List.getElem?_set_self (List.getElem?_eq_some_iff.mp e0).1] at e
          rcases e with e | e <;> cases e
        rwa [List.getElem?_set_ne (Ne.symm hj)] at e
      · exact e
    obtain ⟨a, h1, h2, h3⟩ := rep.ow j c e'
    have ha : a ≠ d := by
      rintro rfl
      refine noh j ⟨?_, h1⟩
      rcases e with e | e
      · exact .inl ⟨c, e⟩
      · exact .inr ⟨c, e⟩
    exact ⟨a, h1, by rw [upd_ne ha]; exact h2, h3.mono le (upd_ne ha)⟩
theorem le_unlock {kl : List (Key × V)} (hR : R' d = some (.frz od (.dK kl))) : Le R' (upd R' d (.dK kl)) := by
  refine ⟨fun a u hu e => ?_, fun a xs e => ?_⟩
  · by_cases ha : a = d
    · subst ha
      rcases e with e | ⟨o, e⟩
      · rw [hR] at e; cases e; exact absurd rfl (hu od _)
      · rw [hR] at e; cases e; exact .inl upd_same
    · unfold Rd
      rw [upd_ne ha]; exact e
  · have ha : a ≠ d := by rintro rfl; rw [hR] at e; cases e
    rw [upd_ne ha]; exact e
theorem Rep.unlock {kl : List (Key × V)} (rep : Rep K env' σ' R' H') (hR : R' d = some (.frz od (.dK kl))) : Rep K env' σ' (upd R' d (.dK kl)) (upd H' d (.dK kl)) := by
  have le := le_unlock hR
  refine ⟨rep.len, fun b u e => ?_, fun j c e => ?_, fun j c e => ?_, rep.ne⟩
  · by_cases hb : b = d
    · subst hb; rw [upd_same] at e ⊢; exact e
    · rw [upd_ne hb] at e ⊢; exact rep.ex b u e
  · obtain ⟨v, h1, h2⟩ := rep.sh j c e
    exact ⟨v, h1, h2.mono le⟩
  · obtain ⟨a, h1, h2, h3⟩ := rep.ow j c e
    have ha : a ≠ d := by rintro rfl; rw [hR] at h2; cases h2
    exact ⟨a, h1, by rw [upd_ne ha]; exact h2, h3.mono le (upd_ne ha)⟩
theorem RvAt.unlock {kl : List (Key × V)} {v : V} {rv : Rv} (h : RvAt K env' σ' R' H' (upd H d (.frz od (.dK kl))) v rv) (hR : R' d = some (.frz od (.dK kl))) : RvAt K env' σ' (upd R' d (.dK kl)) (upd H' d (.dK kl)) H v rv := by
  have le := le_unlock hR
  cases rv with
  | v c => exact h.mono le
  | f c =>
    obtain ⟨a, h1, h2, h3, h4, h5⟩ := h
    have ha : a ≠ d := by rintro rfl; rw [hR] at h3; cases h3
    rw [upd_ne ha] at h2
    exact ⟨a, h1, h2, by rw [upd_ne ha]; exact h3, h4.mono le (upd_ne ha), h5⟩
  | s j => exact h
theorem Fr.unlock {kl : List (Key × V)} (hl : EnvLe env env1) (hH : H d = some (.dK kl)) (hR : (R d = none ∧ OwnsO env σ d) ∨ R d = some (.dK kl))
    (fr : Fr (Owns env1 σ) (OwnsO env1 σ) (upd R d (.frz od (.dK kl))) (upd H d (.frz od (.dK kl))) R' H') : Fr (Owns env σ) (OwnsO env σ) R H (upd R' d (.dK kl)) (upd H' d (.dK kl)) := by
  refine ⟨fun a o e => ?_, fun a e => ?_, fun a o e n => ?_, fun a e1 e2 n => ?_⟩
  · by_cases ha : a = d
    · subst ha
      rcases hR with ⟨hR, _⟩ | hR
      · rw [hR] at e; cases e
      · rw [hR] at e; rw [upd_same]; exact e
    · rw [upd_ne ha]
      exact fr.ex a o (by rw [upd_ne ha]; exact e)
  · by_cases ha : a = d
    · subst ha; rw [upd_same]; exact fun z => nomatch z
    · rw [upd_ne ha]
      exact fr.dom a (by rw [upd_ne ha]; exact e)
  · by_cases ha : a = d
    · subst ha; rw [upd_same]; rw [hH] at e; exact e
    · rw [upd_ne ha]
      exact fr.frame a o (by rw [upd_ne ha]; exact e) fun z => n (hl.owns z)
  · by_cases ha : a = d
    · subst ha
      rcases hR with ⟨_, hR⟩ | hR
      · exact absurd hR n
      · rw [hR] at e1; cases e1
    · rw [upd_ne ha]
      exact fr.keepR a (by rw [upd_ne ha]; exact e1) (by rw [upd_ne ha]; exact e2) fun z => n (hl.ownsO z)
theorem ESt.unlock {kl : List (Key × V)} (hl : EnvLe env env1) (hH : H d = some (.dK kl)) (hR : (R d = none ∧ OwnsO env σ d) ∨ R d = some (.dK kl))
    (st : ESt env1 σ (upd R d (.frz od (.dK kl))) (upd H d (.frz od (.dK kl))) env' R' H') : ESt env σ R H env' (upd R' d (.dK kl)) (upd H' d (.dK kl)) :=
  ⟨st.fr.unlock hl hH hR, hl.trans st.le⟩
end
end Mi

end

section
set_option linter.all false
set_option maxRecDepth 100000
set_option maxHeartbeats 2000000
/-! Mi11: comprehensions -/
namespace Mi
open PySem PySem.Spec PyProof.Rows L2

theorem wipe_len (own : List Nat) : ∀ (env : Env), (Mi.wipe env own).length = env.length := by
  induction own with
  | nil => intro env; rfl
  | cons i is ih => intro env; show (Mi.wipe (env.set i .un) is).length = _; rw [ih, List.length_set]
theorem wipe_notin (own : List Nat) : ∀ (env : Env) (j : Nat), j ∉ own → (Mi.wipe env own)[j]? = env[j]? := by
  induction own with
  | nil => intro env j _; rfl
  | cons i is ih =>
    intro env j hj
    simp only [List.mem_cons, not_or] at hj
    show (Mi.wipe (env.set i .un) is)[j]? = _
    rw [ih _ _ hj.2, List.getElem?_set_ne (Ne.symm hj.1)]
theorem wipe_in (own : List Nat) : ∀ (env : Env) (j : Nat), j ∈ own → j < env.length → (Mi.wipe env own)[j]? = some Sl.un := by
  induction own with
  | nil => intro env j h; cases h
  | cons i is ih =>
    intro env j hj hl
    show (Mi.wipe (env.set i .un) is)[j]? = _
    by_cases hm : j ∈ is
    · exact ih _ _ hm (by rw [List.length_set]; exact hl)
    · have : j = i := by simpa [hm] using hj
      subst this
      rw [wipe_notin is _ _ hm, List.getElem?_set_self hl]
theorem wipeV_notin {vs : List Nat} {σ : L2.St} {j : Nat} (h : j ∉ vs) : (L2.wipe σ vs)[j]? = σ[j]? := wipe_out h
theorem wipeV_len (σ : L2.St) (vs : List Nat) : (L2.wipe σ vs).length = σ.length := wipe_length σ vs
/-- slots that hold nothing may be forgotten -/
theorem Rep.wipe {K : PySem.W.Frag} {env : Env} {σ σ' : L2.St} {R H : Hp} {own : List Nat} (rep : Rep K env σ R H) (hl : σ'.length = σ.length) (hs : ∀ j, j ∉ own → σ'[j]? = σ[j]?) : Rep K (Mi.wipe env own) σ' R H := by
  have out : ∀ {j : Nat} {s : Sl}, (Mi.wipe env own)[j]? = some s → s ≠ .un → j ∉ own := fun {j s} h n hj => by
    have hlt : j < env.length := by rw [← wipe_len own env]; exact (List.getElem?_eq_some_iff.mp h).1
    rw [wipe_in own env j hj hlt] at h
    exact n (Option.some.inj h).symm
  have hold : ∀ j a, Hold (Mi.wipe env own) σ' j a → Hold env σ j a := fun j a ⟨h1, h2⟩ => by
    have hj : j ∉ own := by
      rcases h1 with ⟨d, e⟩ | ⟨d, e⟩
      · exact out e (fun z => nomatch z)
      · exact out e (fun z => nomatch z)
    rw [wipe_notin own env j hj] at h1
    rw [hs j hj] at h2
    exact ⟨h1, h2⟩
  refine ⟨by rw [wipe_len, hl]; exact rep.len, rep.ex, fun j d e => ?_, fun j d e => ?_, fun j k a hj hk => rep.ne j k a (hold j a hj) (hold k a hk)⟩
  · have hj := out e (fun z => nomatch z)
    rw [wipe_notin own env j hj] at e
    rw [hs j hj]
    exact rep.sh j d e
  · have hj : j ∉ own := by
      rcases e with e | e
      · exact out e (fun z => nomatch z)
      · exact out e (fun z => nomatch z)
    rw [wipe_notin own env j hj] at e
    rw [hs j hj]
    exact rep.ow j d e
theorem restore_len (own : List Nat) (old : Env) : ∀ (new : Env), (restore old new own).length = new.length := by
  induction own with
  | nil => intro env; rfl
  | cons i is ih => intro env; show (restore old (env.set i _) is).length = _; rw [ih, List.length_set]
theorem restore_notin (own : List Nat) (old : Env) : ∀ (new : Env) (j : Nat), j ∉ own → (restore old new own)[j]? = new[j]? := by
  induction own with
  | nil => intro env j _; rfl
  | cons i is ih =>
    intro env j hj
    simp only [List.mem_cons, not_or] at hj
    show (restore old (env.set i _) is)[j]? = _
    rw [ih _ _ hj.2, List.getElem?_set_ne (Ne.symm hj.1)]
theorem restore_in (own : List Nat) (old : Env) : ∀ (new : Env) (j : Nat), j ∈ own → j < new.length → new.length = old.length → (restore old new own)[j]? = old[j]? := by
  induction own with
  | nil => intro env j h; cases h
  | cons i is ih =>
    intro env j hj hl ho
    show (restore old (env.set i _) is)[j]? = _
    by_cases hm : j ∈ is
    · exact ih _ _ hm (by rw [List.length_set]; exact hl) (by rw [List.length_set]; exact ho)
    · have : j = i := by simpa [hm] using hj
      subst this
      rw [restore_notin is old _ _ hm, List.getElem?_set_self hl, List.getD_eq_getElem?_getD, List.getElem?_eq_getElem (by omega)]
      rfl
/-- behind a comprehension -/
theorem Rep.restore {K : PySem.W.Frag} {env env2 : Env} {σ σw : L2.St} {R H R2 H2 : Hp} {own : List Nat} (rep : Rep K env σ R H) (hw : ∀ j, j ∉ own → σw[j]? = σ[j]?) (rep2 : Rep K env2 σw R2 H2) (st : ESt (Mi.wipe env own) σw R H env2 R2 H2) :
    Rep K (Mi.restore env env2 own) σ R2 H2 ∧ ESt env σ R H (Mi.restore env env2 own) R2 H2 := by
  have l2 : env2.length = env.length := st.le.1.trans (wipe_len own env)
  have lr : (Mi.restore env env2 own).length = env.length := (restore_len own env env2).trans l2
  have geti : ∀ j : Nat, j ∈ own → (Mi.restore env env2 own)[j]? = env[j]? := fun j hj => by
    by_cases hl : j < env2.length
    · exact restore_in own env env2 j hj hl l2
    · rw [List.getElem?_eq_none (by rw [lr, ← l2]; omega), List.getElem?_eq_none (by rw [← l2]; omega)]
  have geto : ∀ j : Nat, j ∉ own → (Mi.restore env env2 own)[j]? = env2[j]? := fun j hj => restore_notin own env env2 j hj
  have oW : ∀ a, Owns (Mi.wipe env own) σw a → Owns env σ a := fun a ⟨j, h1, h2⟩ => by
    have hj : j ∉ own := fun hj => by
      have : ∀ s, (Mi.wipe env own)[j]? = some s → s = .un := fun s hs => by
        have hlt : j < env.length := by rw [← wipe_len own env]; exact (List.getElem?_eq_some_iff.mp hs).1
        rw [wipe_in own env j hj hlt] at hs
        exact (Option.some.inj hs).symm
      rcases h1 with ⟨d, e⟩ | ⟨d, e⟩
      · exact nomatch this _ e
      · exact nomatch this _ e
    rw [wipe_notin own env j hj] at h1
    rw [hw j hj] at h2
    exact ⟨j, h1, h2⟩
  have oWO : ∀ a, OwnsO (Mi.wipe env own) σw a → OwnsO env σ a := fun a ⟨j, h1, h2⟩ => by
    have hj : j ∉ own := fun hj => by
      obtain ⟨d, e⟩ := h1
      have hlt : j < env.length := by rw [← wipe_len own env]; exact (List.getElem?_eq_some_iff.mp e).1
      rw [wipe_in own env j hj hlt] at e
      cases e
    rw [wipe_notin own env j hj] at h1
    rw [hw j hj] at h2
    exact ⟨j, h1, h2⟩
  -- an object held by a forgotten slot is not held within
  have notin : ∀ j a, j ∈ own → Hold env σ j a → ¬ Owns (Mi.wipe env own) σw a := fun j a hj hold ⟨k, h1, h2⟩ => by
    have hk : k ∉ own := fun hk => by
      rcases h1 with ⟨d, e⟩ | ⟨d, e⟩
      · have hlt : k < env.length := by rw [← wipe_len own env]; exact (List.getElem?_eq_some_iff.mp e).1
        rw [wipe_in own env k hk hlt] at e; cases e
      · have hlt : k < env.length := by rw [← wipe_len own env]; exact (List.getElem?_eq_some_iff.mp e).1
        rw [wipe_in own env k hk hlt] at e; cases e
    rw [wipe_notin own env k hk] at h1
    rw [hw k hk] at h2
    have := rep.ne j k a hold ⟨h1, h2⟩
    subst this
    exact hk hj
  have le : EnvLe env (Mi.restore env env2 own) := ⟨lr, fun j s e => by
    by_cases hj : j ∈ own
    · exact ⟨s, by rw [geti j hj]; exact e, .refl s⟩
    · rw [geto j hj]
      exact st.le.2 j s (by rw [wipe_notin own env j hj]; exact e)⟩
  refine ⟨⟨lr.trans rep.len, rep2.ex, fun j d e => ?_, fun j d e => ?_, fun j k a hj hk => rep.ne j k a (le.hold hj) (le.hold hk)⟩, ⟨st.fr.mono oW oWO, le⟩⟩
  · by_cases hj : j ∈ own
    · rw [geti j hj] at e
      obtain ⟨v, h1, h2⟩ := rep.sh j d e
      exact ⟨v, h1, h2.mono st.fr.ex.le⟩
    · rw [geto j hj] at e
      obtain ⟨v, h1, h2⟩ := rep2.sh j d e
      exact ⟨v, by rw [← hw j hj]; exact h1, h2⟩
  · by_cases hj : j ∈ own
    · rw [geti j hj] at e
      obtain ⟨a, h1, h2, h3⟩ := rep.ow j d e
      have hold : Hold env σ j a := ⟨by rcases e with e | e; exact .inl ⟨d, e⟩; exact .inr ⟨d, e⟩, h1⟩
      have no := notin j a hj hold
      obtain ⟨u, hu, _⟩ := h3.some
      exact ⟨a, h1, st.fr.keepR a h2 h3.ne (fun z => no z.owns), h3.mono st.fr.ex.le (by rw [hu, st.fr.frame a u hu no])⟩
    · rw [geto j hj] at e
      obtain ⟨a, h1, h2, h3⟩ := rep2.ow j d e
      exact ⟨a, by rw [← hw j hj]; exact h1, h2, h3⟩
/-- one turn: the own names stored, steps, the own names forgotten -/
theorem turn_st {K : PySem.W.Frag} {E e1 e2 : Env} {σw σ2 : L2.St} {R H R2 H2 : Hp} {own is : List Nat} (rep : Rep K E σw R H) (hun : ∀ j, j ∈ own → ∀ s, E[j]? = some s → s = .un) (sub : ∀ j, j ∈ is → j ∈ own) (P : PutTo K is E σw R H e1 σ2) (rep2 : Rep K e2 σ2 R2 H2) (st : ESt e1 σ2 R H e2 R2 H2) (hlen : σw.length = σ2.length) :
    Rep K (Mi.wipe e2 own) σw R2 H2 ∧ ESt E σw R H (Mi.wipe e2 own) R2 H2 := by
  refine ⟨rep2.wipe hlen (fun j hj => (P.but.2 j fun z => hj (sub j z)).symm), ⟨st.fr.mono P.owns P.ownsO, ?_⟩⟩
  refine ⟨by rw [wipe_len, st.le.1, P.butE.1], fun j s e => ?_⟩
  by_cases hj : j ∈ own
  · have := hun j hj s e
    subst this
    have hlt : j < e2.length := by rw [st.le.1, P.butE.1]; exact (List.getElem?_eq_some_iff.mp e).1
    exact ⟨.un, wipe_in own e2 j hj hlt, rfl⟩
  · rw [wipe_notin own e2 j hj]
    exact st.le.2 j s (by rw [P.butE.2 j fun z => hj (sub j z)]; exact e)
/-- a new list beside the frame grows -/
theorem Rep.side {K : PySem.W.Frag} {env : Env} {σ : L2.St} {R H : Hp} {p : Addr} {o : HO} (rep : Rep K env σ R H) (hr : R p = none) (hn : ¬ Owns env σ p) : Rep K env σ R (upd H p o) := by
  refine ⟨rep.len, fun b u e => ?_, rep.sh, fun j d e => ?_, rep.ne⟩
  · have : b ≠ p := by rintro rfl; rw [hr] at e; cases e
    rw [upd_ne this]; exact rep.ex b u e
  · obtain ⟨a, h1, h2, h3⟩ := rep.ow j d e
    have : a ≠ p := by
      rintro rfl
      exact hn ⟨j, by rcases e with e | e; exact .inl ⟨d, e⟩; exact .inr ⟨d, e⟩, h1⟩
    exact ⟨a, h1, h2, h3.mono (Ex.refl R).le (upd_ne this)⟩
theorem lc_length {own : List Nat} {turn : D → Env → Option (Option D × Env)} : ∀ {ds : List D} {env env' : Env} {r : List D}, lcLoop own turn ds env = some (r, env') → True := fun _ => trivial
section
variable {X : Cx} {cf : Cf}
def TTs (cf : Cf) (K : PySem.W.Frag) (c : Xo) : L2.TT := fun σ H Q => ∃ env R k env', Rep K env σ R H ∧ Mi.evalC cf c env = some (k, env') ∧ ∀ R' H', Rep K env' σ R' H' → ESt env σ R H env' R' H' → Q k H'
theorem tts_no : PTs X [] (TTs cf X.K .no) := by
  refine ⟨fun pins s σ H Q I h => pts_nil.run pins s σ H Q I ?_⟩
  obtain ⟨env, R, k, env', rep, ev, q⟩ := h
  simp only [Mi.evalC] at ev; cases ev
  exact q R H rep (.refl _ _ _ _)
theorem tts_so {c : Expr} {cc : Xp} (h : PT X c (TT cf X.K cc)) : PTs X [c] (TTs cf X.K (.so cc)) := by
  refine ⟨fun pins s σ H Q I w => (pts_one h).run pins s σ H Q I ?_⟩
  obtain ⟨env, R, k, env', rep, ev, q⟩ := w
  exact ⟨env, R, k, env', rep, by simpa only [Mi.evalC, Mi.test] using ev, q⟩
/-- the reading of a list comprehension -/
theorem lc_coreX {ti : TI} {ce : Xp} {g : Gx} {c : Xo} {own : List Nat} {σ : L2.St} {H : Hp} {Q : VK} (hsub : ∀ j, j ∈ g.slots → j ∈ own) {env : Env} {R : Hp} {p r : List D × Env} (rep : Rep X.K env σ R H)
    (hti : ∀ Rk : It → Hp → Prop, (∀ J R' H', Rep X.K p.2 σ R' H' → ESt env σ R H p.2 R' H' → Walk X.K J p.1 R' → Rk J H') → ti σ H Rk)
    (e2 : lcLoop own (fun (d : D) (env : Env) => (putG env g d).bind fun e1 => (evalC cf c e1).bind fun k => if k.1 then (eval cf ce k.2).bind fun q => (take q.2 q.1).map fun t => (some t.1, t.2) else some (none, k.2)) p.1 (Mi.wipe p.2 own) = some r) (hz : r.1.length ≤ sizeLine)
    (q : ∀ v R' H', Rep X.K (Mi.restore p.2 r.2 own) σ R' H' → ESt env σ R H (Mi.restore p.2 r.2 own) R' H' → RvAt X.K (Mi.restore p.2 r.2 own) σ R' H' H v (.f (.lst r.1)) → Q v H') : tLc ti (TGx X.K g) (TTs cf X.K c) (TD cf X.K ce) own σ H Q := by
    refine hti _ fun J R1 H1 rep1 st1 wk L hL => ?_
    have hL1 : R1 L = none := by
      cases qq : R1 L with
      | none => rfl
      | some u => rw [rep1.ex L u qq] at hL; cases hL
    generalize hturn : (fun (d : D) (env : Env) => (putG env g d).bind fun e1 => (evalC cf c e1).bind fun k => if k.1 then (eval cf ce k.2).bind fun q => (take q.2 q.1).map fun t => (some t.1, t.2) else some (none, k.2)) = turn at e2
    -- the state between two turns
    let Inv : Nat → Hp → Prop := fun i H' => ∃ (E : Env) (R' : Hp) (acc : List D) (rest : List D) (vs : List V), Rep X.K E (L2.wipe σ own) R' H' ∧ ESt (Mi.wipe p.2 own) (L2.wipe σ own) R1 H1 E R' H' ∧
      H' L = some (.lst vs) ∧ R' L = none ∧ AtL X.K R' acc vs ∧ lcLoop own turn (p.1.drop i) E = some (rest, r.2) ∧ r.1 = acc ++ rest
    have hun : ∀ {E : Env} {R' H' : Hp}, ESt (Mi.wipe p.2 own) (L2.wipe σ own) R1 H1 E R' H' → ∀ j, j ∈ own → ∀ s, E[j]? = some s → s = .un := fun {E R' H'} st j hj s e => by
      obtain ⟨s0, k1, k2⟩ := st.le.back e
      have hlt : j < p.2.length := by rw [← wipe_len own p.2]; exact (List.getElem?_eq_some_iff.mp k1).1
      rw [wipe_in own p.2 j hj hlt] at k1
      cases k1
      exact k2
    have repW : Rep X.K (Mi.wipe p.2 own) (L2.wipe σ own) R1 H1 := rep1.wipe (wipeV_len σ own) fun j hj => wipeV_notin hj
    refine ⟨fun i m H' => m = p.1.length - i ∧ i ≤ p.1.length ∧ Inv i H', ⟨p.1.length, rfl, Nat.zero_le _, ?_⟩, ?_⟩
    · have al := Al.fr (o := .lst []) rep1.ex hL
      exact ⟨_, R1, [], r.1, [], al.rep repW, al.st, upd_same, hL1, AtL.nil, by rw [List.drop_zero]; exact e2, rfl⟩
    rintro i m H' ⟨rfl, hi, E, R', acc, rest, vs, repE, stE, hLE, hRL, hacc, hl, heq⟩
    obtain ⟨w1, w2⟩ := wk R' H' stE.fr.ex repE.ex i
    by_cases hlt : i < p.1.length
    · obtain ⟨go, yl⟩ := w1 hlt
      refine .inr ⟨go, fun H'' => Inv (i + 1) H'', fun H'' hI => ⟨p.1.length - (i + 1), by omega, rfl, hlt, hI⟩, fun x H2 hy => ?_⟩
      obtain ⟨R2, d, hd, al2, at2⟩ := yl x H2 hy
      have repE2 := al2.rep repE
      have stE2 := stE.trans al2.st
      have dropEq : p.1.drop i = d :: p.1.drop (i + 1) := by
        rw [List.drop_eq_getElem_cons hlt]
        congr 1
        rw [List.getElem?_eq_getElem hlt] at hd
        exact Option.some.inj hd
      rw [dropEq] at hl
      simp only [lcLoop, Option.bind_eq_some_iff, Option.map_eq_some_iff] at hl
      obtain ⟨t, ht, q2, hq2, heq2⟩ := hl
      have hrest : rest = t.1.toList ++ q2.1 := (Prod.mk.inj heq2).1.symm
      have hend : q2.2 = r.2 := (Prod.mk.inj heq2).2
      rw [← hturn] at ht
      simp only [Option.bind_eq_some_iff] at ht
      obtain ⟨ee1, hp1, k, hk, hrem⟩ := ht
      have hLE2 : H2 L = some (.lst vs) := al2.exH _ _ hLE
      have hRL2 : R2 L = none := al2.keep L hRL (by rw [hLE]; exact fun z => nomatch z)
      have noL : ¬ Owns E (L2.wipe σ own) L := fun z => by
        have := stE.le.owns z
        obtain ⟨j, h1, h2⟩ := this
        have : ∃ d, (Mi.wipe p.2 own)[j]? = some (Sl.ow d) ∨ (Mi.wipe p.2 own)[j]? = some (Sl.bw d) := by
          rcases h1 with ⟨d, e⟩ | ⟨d, e⟩
          · exact ⟨d, .inl e⟩
          · exact ⟨d, .inr e⟩
        obtain ⟨d, hd⟩ := this
        obtain ⟨b, f1, f2, f3⟩ := repW.ow j d hd
        rw [h2] at f1; cases f1
        exact f3.ne hL
      refine ⟨E, R2, d, ee1, repE2, at2, hp1, fun σ2 P => ?_⟩
      have hσ2 : L2.wipe σ2 own = L2.wipe σ own := by
        apply List.ext_getElem?
        intro j
        by_cases hj : j ∈ own
        · have aux : ∀ τ : L2.St, τ.length = σ.length → (L2.wipe τ own)[j]? = if j < σ.length then some none else none := fun τ hτ => by
            by_cases hjl : j < σ.length
            · rw [if_pos hjl]
              cases q3 : (L2.wipe τ own)[j]? with
              | none => rw [List.getElem?_eq_none_iff, wipeV_len, hτ] at q3; omega
              | some z =>
                cases z with
                | none => rfl
                | some y => exact absurd hj (wipe_some q3).2
            · rw [if_neg hjl, List.getElem?_eq_none (by rw [wipeV_len, hτ]; omega)]
          rw [aux σ2 (by rw [P.but.1, wipeV_len]), aux σ rfl]
        · rw [wipeV_notin hj, P.but.2 j fun z => hj (hsub j z)]
      have hlen : (L2.wipe σ own).length = σ2.length := P.but.1.symm
      refine ⟨hσ2, ?_⟩
      refine ⟨ee1, R2, k.1, k.2, P.rep, hk, fun R3 H3 rep3 st3 => ?_⟩
      have ownE1 : ¬ Owns ee1 σ2 L := fun z => noL (P.owns L z)
      cases hk1 : k.1 with
      | false =>
        rw [hk1, if_neg Bool.false_ne_true] at hrem
        refine iteF ?_
        cases hrem
        obtain ⟨repN, stN⟩ := turn_st (own := own) repE2 (hun stE2) hsub P rep3 st3 hlen
        exact ⟨_, R3, acc, q2.1, vs, repN, stE2.trans stN, st3.fr.frame _ _ hLE2 ownE1, st3.fr.keepR L hRL2 (by rw [hLE2]; exact fun z => nomatch z) (fun z => ownE1 z.owns), hacc.mono (al2.ex.trans st3.fr.ex).le, by rw [← hend]; exact hq2, by rw [heq, hrest]; rfl⟩
      | true =>
        rw [hk1, if_pos rfl] at hrem
        refine iteT ?_
        simp only [Option.bind_eq_some_iff, Option.map_eq_some_iff] at hrem
        obtain ⟨u, hu, tt, htk, hte⟩ := hrem
        cases hte
        refine ⟨k.2, R3, u.1, u.2, rep3, hu, fun y R4 H4 rep4 st4 at4 => ?_⟩
        obtain ⟨R5, rep5, st5, at5⟩ := at4.take rep4 st4 htk
        have st35 := st3.trans st5
        have hL4 : H4 L = some (.lst vs) := st35.fr.frame _ _ hLE2 ownE1
        have hR5 : R5 L = none := st35.fr.keepR L hRL2 (by rw [hLE2]; exact fun z => nomatch z) (fun z => ownE1 z.owns)
        have lenle : acc.length + 1 ≤ sizeLine := by
          have := hz
          rw [heq, hrest] at this
          simp only [List.length_append, Option.toList_some, List.length_cons, List.length_nil] at this
          omega
        refine ⟨vs, hL4, by rw [← hacc.length]; omega, ?_⟩
        obtain ⟨repN, stN⟩ := turn_st (own := own) repE2 (hun stE2) hsub P rep5 st35 hlen
        have noN : ¬ Owns (Mi.wipe tt.2 own) (L2.wipe σ own) L := fun z => noL (stN.le.owns z)
        have stT := stE2.trans stN
        refine ⟨_, R5, acc ++ [tt.1], q2.1, vs ++ [y], repN.side hR5 noN, ⟨⟨stT.fr.ex, fun b hb => ?_, fun b o hb hn => ?_, stT.fr.keepR⟩, stT.le⟩, upd_same, hR5, (hacc.mono (al2.ex.trans st35.fr.ex).le).append (.cons at5 AtL.nil), by rw [← hend]; exact hq2, by rw [heq, hrest]; simp⟩
        · by_cases hbl : b = L
          · subst hbl; rw [upd_same]; exact fun z => nomatch z
          · rw [upd_ne hbl]; exact stT.fr.dom b hb
        · have hbl : b ≠ L := by rintro rfl; rw [hL] at hb; cases hb
          rw [upd_ne hbl]; exact stT.fr.frame b o hb hn
    · have hlen : i = p.1.length := by omega
      refine .inl ⟨w2 (by omega), ?_⟩
      have : p.1.drop i = [] := List.drop_eq_nil_of_le (by omega)
      rw [this] at hl
      simp only [lcLoop] at hl
      have hr1 : rest = [] := (Prod.mk.inj (Option.some.inj hl)).1.symm
      have hr2 : E = r.2 := (Prod.mk.inj (Option.some.inj hl)).2
      subst hr1; subst hr2
      rw [List.append_nil] at heq
      obtain ⟨repZ, stZ⟩ := rep1.restore (σw := L2.wipe σ own) (fun j hj => wipeV_notin hj) repE stE
      refine q (.ref L) R' H' repZ (st1.trans stZ) ⟨L, rfl, ?_, hRL, ⟨vs, hLE, by rw [heq]; exact hacc⟩, fun z => ?_⟩
      · cases qq : H L with
        | none => rfl
        | some u => exact absurd hL (st1.fr.dom L (by rw [qq]; exact fun z => nomatch z))
      · obtain ⟨j, h1, h2⟩ := stZ.le.owns z
        have : ∃ d, p.2[j]? = some (Sl.ow d) ∨ p.2[j]? = some (Sl.bw d) := by
          rcases h1 with ⟨d, e⟩ | ⟨d, e⟩
          · exact ⟨d, .inl e⟩
          · exact ⟨d, .inr e⟩
        obtain ⟨d, hd⟩ := this
        obtain ⟨b, f1, f2, f3⟩ := rep1.ow j d hd
        rw [h2] at f1; cases f1
        exact f3.ne hL
theorem lc_imp {ce : Xp} {g : Gx} {ix : Ix} {c : Xo} {own : List Nat} {σ : L2.St} {H : Hp} {Q : VK} (hsub : ∀ j, j ∈ g.slots → j ∈ own) (h : TD cf X.K (.lc ce g ix c own) σ H Q) :
    tLc (TIx cf X.K ix) (TGx X.K g) (TTs cf X.K c) (TD cf X.K ce) own σ H Q ∨
      ∃ i, ix = .dk (.var i) ∧ (tLockE (tLc (iKeys (tVar i)) (TGx X.K g) (TTs cf X.K c) (TD cf X.K ce) own) σ H Q ∨ tLc (iKeys (tVar i)) (TGx X.K g) (TTs cf X.K c) (TD cf X.K ce) own σ H Q) := by
  obtain ⟨env, R, rv, env', rep, ev, q⟩ := h
  simp only [Mi.eval, Option.bind_eq_some_iff] at ev
  obtain ⟨p, e1, r, e2, e3⟩ := ev
  split at e3
  · rename_i hz
    cases e3
    cases hd : dictI ix env with
    | none =>
      rw [hd] at e1
      exact .inl (lc_coreX hsub rep (fun Rk k => ⟨env, R, p.1, p.2, rep, e1, k⟩) e2 hz q)
    | some p' =>
      rw [hd] at e1
      cases e1
      obtain ⟨i, rfl, hp⟩ := dictI_some hd
      refine .inr ⟨i, rfl, ?_⟩
      obtain ⟨d, kl, h1, h2, ⟨o, h3, h4⟩ | ⟨h3, h4⟩⟩ := hp.place rep
      · refine .inr (lc_coreX (p := p) hsub rep (fun Rk k => ?_) e2 hz q)
        exact ⟨_, h1, d, o, rfl, .inl ⟨kl, rep.ex _ _ h3, k _ R H (by rw [h4]; exact rep) (by rw [h4]; exact .refl _ _ _ _) (by rw [← h2]; exact walk_keys h3)⟩⟩
      · refine .inl ⟨d, .dK kl, h3, trivial, fun od => ?_⟩
        have repL := rep.lock (od := od) hp h1 h2 h3 h4
        refine lc_coreX (p := p) (env := p.2) hsub repL (fun Rk k => ?_) e2 hz fun v R' H' rep' st' at' => ?_
        · exact ⟨_, h1, d, od, rfl, .inl ⟨kl, upd_same, k _ _ _ repL (.refl _ _ _ _) (by rw [← h2]; exact walk_keys upd_same)⟩⟩
        · have hR' := st'.fr.ex _ _ (upd_same (H := R))
          exact ⟨rep'.ex _ _ hR', q v _ _ (rep'.unlock hR') (st'.unlock hp.le h3 h4) (at'.unlock hR')⟩
  · cases e3
end
end Mi

end

section
set_option linter.all false
set_option maxRecDepth 100000
set_option maxHeartbeats 2000000
/-! MiF: comprehensions of two walks -/
namespace Mi
open PySem PySem.Spec PyProof.Rows L2
/-- the heap without one object -/
def dl (L : Addr) (H : Hp) : Hp := fun a => if a = L then none else H a
theorem dl_ne {L a : Addr} {H : Hp} (h : a ≠ L) : dl L H a = H a := if_neg h
theorem dl_self {L : Addr} {H : Hp} : dl L H L = none := if_pos rfl
theorem dl_none {L : Addr} {H : Hp} (h : H L = none) : dl L H = H := by
  funext a
  unfold dl
  split
  · rename_i e; rw [e, h]
  · rfl
theorem dl_upd {L : Addr} {H : Hp} {o : HO} : dl L (upd H L o) = dl L H := by
  funext a
  unfold dl
  split
  · rfl
  · rename_i e; rw [upd_ne e]
theorem Rep.dl {K : PySem.W.Frag} {env : Env} {σ : L2.St} {R H : Hp} {p : Addr} (rep : Rep K env σ R H) (hr : R p = none) (hn : ¬ Owns env σ p) : Rep K env σ R (Mi.dl p H) := by
  refine ⟨rep.len, fun b u e => ?_, rep.sh, fun j d e => ?_, rep.ne⟩
  · have : b ≠ p := by rintro rfl; rw [hr] at e; cases e
    rw [dl_ne this]; exact rep.ex b u e
  · obtain ⟨a, h1, h2, h3⟩ := rep.ow j d e
    have : a ≠ p := by
      rintro rfl
      exact hn ⟨j, by rcases e with e | e; exact .inl ⟨d, e⟩; exact .inr ⟨d, e⟩, h1⟩
    exact ⟨a, h1, h2, h3.mono (Ex.refl R).le (dl_ne this)⟩
theorem ESt.dl {env env' : Env} {σ : L2.St} {R H R' H' : Hp} (st : ESt env σ R H env' R' H') (L : Addr) : ESt env σ R (Mi.dl L H) env' R' (Mi.dl L H') := by
  refine ⟨⟨st.fr.ex, fun a h => ?_, fun a o e n => ?_, fun a e1 e2 n => ?_⟩, st.le⟩
  · have : a ≠ L := by rintro rfl; exact h dl_self
    rw [dl_ne this] at h ⊢
    exact st.fr.dom a h
  · have : a ≠ L := by rintro rfl; rw [dl_self] at e; cases e
    rw [dl_ne this] at e ⊢
    exact st.fr.frame a o e n
  · have : a ≠ L := by rintro rfl; exact e2 dl_self
    rw [dl_ne this] at e2
    exact st.fr.keepR a e1 e2 n
theorem owns_wipe {env : Env} {σ σw : L2.St} {own : List Nat} (hw : ∀ j, j ∉ own → σw[j]? = σ[j]?) {a : Addr} (h : Owns (Mi.wipe env own) σw a) : Owns env σ a := by
  obtain ⟨j, h1, h2⟩ := h
  have hj : j ∉ own := fun hj => by
    have : ∀ s, (Mi.wipe env own)[j]? = some s → s = .un := fun s hs => by
      have hlt : j < env.length := by rw [← wipe_len own env]; exact (List.getElem?_eq_some_iff.mp hs).1
      rw [wipe_in own env j hj hlt] at hs
      exact (Option.some.inj hs).symm
    rcases h1 with ⟨d, e⟩ | ⟨d, e⟩
    · exact nomatch this _ e
    · exact nomatch this _ e
  rw [wipe_notin own env j hj] at h1
  rw [hw j hj] at h2
  exact ⟨j, h1, h2⟩
theorem turn_es {E e1 e2 : Env} {σw σ2 : L2.St} {R H R2 H2 : Hp} {own is : List Nat} (hun : ∀ j, j ∈ own → ∀ s, E[j]? = some s → s = .un) (sub : ∀ j, j ∈ is → j ∈ own) (butE : e1.length = E.length ∧ ∀ j : Nat, j ∉ is → e1[j]? = E[j]?) (owns : ∀ a, Owns e1 σ2 a → Owns E σw a) (ownsO : ∀ a, OwnsO e1 σ2 a → OwnsO E σw a) (st : ESt e1 σ2 R H e2 R2 H2) :
    ESt E σw R H (Mi.wipe e2 own) R2 H2 := by
  refine ⟨st.fr.mono owns ownsO, ?_⟩
  refine ⟨by rw [wipe_len, st.le.1, butE.1], fun j s e => ?_⟩
  by_cases hj : j ∈ own
  · have := hun j hj s e
    subst this
    have hlt : j < e2.length := by rw [st.le.1, butE.1]; exact (List.getElem?_eq_some_iff.mp e).1
    exact ⟨.un, wipe_in own e2 j hj hlt, rfl⟩
  · rw [wipe_notin own e2 j hj]
    exact st.le.2 j s (by rw [butE.2 j fun z => hj (sub j z)]; exact e)
theorem wipe_eq {σ σ2 : L2.St} {own is : List Nat} (hsub : ∀ j, j ∈ is → j ∈ own) (hl : σ2.length = σ.length) (hb : ∀ j : Nat, j ∉ is → σ2[j]? = (L2.wipe σ own)[j]?) : L2.wipe σ2 own = L2.wipe σ own := by
  apply List.ext_getElem?
  intro j
  by_cases hj : j ∈ own
  · have aux : ∀ τ : L2.St, τ.length = σ.length → (L2.wipe τ own)[j]? = if j < σ.length then some none else none := fun τ hτ => by
      by_cases hjl : j < σ.length
      · rw [if_pos hjl]
        cases q3 : (L2.wipe τ own)[j]? with
        | none => rw [List.getElem?_eq_none_iff, wipeV_len, hτ] at q3; omega
        | some z =>
          cases z with
          | none => rfl
          | some y => exact absurd hj (wipe_some q3).2
      · rw [if_neg hjl, List.getElem?_eq_none (by rw [wipeV_len, hτ]; omega)]
    rw [aux σ2 hl, aux σ rfl]
  · rw [wipeV_notin hj, hb j fun z => hj (hsub j z)]
theorem wipe_restore {own own1 : List Nat} {old new : Env} (h : ∀ j, j ∈ own1 → j ∈ own) : Mi.wipe (Mi.restore old new own1) own = Mi.wipe new own := by
  apply List.ext_getElem?
  intro j
  have hl := restore_len own1 old new
  by_cases hj : j ∈ own
  · by_cases hlt : j < new.length
    · rw [wipe_in own _ j hj (by omega), wipe_in own _ j hj hlt]
    · rw [List.getElem?_eq_none (by rw [wipe_len]; omega), List.getElem?_eq_none (by rw [wipe_len]; omega)]
  · rw [wipe_notin own _ j hj, wipe_notin own _ j hj, restore_notin own1 old new j fun z => hj (h j z)]
section
variable {X : Cx} {cf : Cf}
theorem lc2_imp {ce : Xp} {g g1 : Gx} {ix ix1 : Ix} {c c1 : Xo} {own own1 : List Nat} {σ : L2.St} {H : Hp} {Q : VK} (hsub : ∀ j, j ∈ g.slots → j ∈ own) (hsub1 : ∀ j, j ∈ g1.slots → j ∈ own1) (hown : ∀ j, j ∈ own1 → j ∈ own) (h : TD cf X.K (.lc2 ce g ix c g1 ix1 c1 own own1) σ H Q) :
    tLc2 (TIx cf X.K ix) (TGx X.K g) (TTs cf X.K c) (TIx cf X.K ix1) (TGx X.K g1) (TTs cf X.K c1) (TD cf X.K ce) own own1 σ H Q := by
  obtain ⟨env, R, rv, env', rep, ev, q⟩ := h
  simp only [Mi.eval, Option.bind_eq_some_iff] at ev
  obtain ⟨p, e1, r, e2, e3⟩ := ev
  split at e3
  · rename_i hz
    cases e3
    refine ⟨env, R, p.1, p.2, rep, e1, fun J R1 H1 rep1 st1 wk L hL => ?_⟩
    have hL1 : R1 L = none := by
      cases qq : R1 L with
      | none => rfl
      | some u => rw [rep1.ex L u qq] at hL; cases hL
    generalize hturn1 : (fun (d : D) (env : Env) => (putG env g1 d).bind fun e1 => (evalC cf c1 e1).bind fun k => if k.1 then (eval cf ce k.2).bind fun q => (take q.2 q.1).map fun t => (some t.1, t.2) else some (none, k.2)) = turn1 at e2
    generalize hturn : (fun (d : D) (env : Env) => (putG env g d).bind fun e1 => (evalC cf c e1).bind fun k => if k.1 then (evalI cf ix1 k.2).bind fun p1 => lcLoop own1 turn1 p1.1 (Mi.wipe p1.2 own1) else some ([], k.2)) = turn at e2
    let Inv : Nat → Hp → Prop := fun i H' => ∃ (E : Env) (R' : Hp) (acc : List D) (rest : List D) (vs : List V), Rep X.K E (L2.wipe σ own) R' H' ∧ ESt (Mi.wipe p.2 own) (L2.wipe σ own) R1 H1 E R' (dl L H') ∧
      H' L = some (.lst vs) ∧ R' L = none ∧ AtL X.K R' acc vs ∧ flatLoop own turn (p.1.drop i) E = some (rest, r.2) ∧ r.1 = acc ++ rest
    have unW : ∀ {ow : List Nat} {P : Env} {τ : L2.St} {Ra Ha : Hp} {E : Env} {R' H' : Hp}, ESt (Mi.wipe P ow) τ Ra Ha E R' H' → ∀ j, j ∈ ow → ∀ s, E[j]? = some s → s = .un := fun {ow P τ Ra Ha E R' H'} st j hj s e => by
      obtain ⟨s0, k1, k2⟩ := st.le.back e
      have hlt : j < P.length := by rw [← wipe_len ow P]; exact (List.getElem?_eq_some_iff.mp k1).1
      rw [wipe_in ow P j hj hlt] at k1
      cases k1
      exact k2
    have repW : Rep X.K (Mi.wipe p.2 own) (L2.wipe σ own) R1 H1 := rep1.wipe (wipeV_len σ own) fun j hj => wipeV_notin hj
    have noB : ¬ Owns (Mi.wipe p.2 own) (L2.wipe σ own) L := fun ⟨j, h1, h2⟩ => by
      have : ∃ d, (Mi.wipe p.2 own)[j]? = some (Sl.ow d) ∨ (Mi.wipe p.2 own)[j]? = some (Sl.bw d) := by
        rcases h1 with ⟨d, e⟩ | ⟨d, e⟩
        · exact ⟨d, .inl e⟩
        · exact ⟨d, .inr e⟩
      obtain ⟨d, hd⟩ := this
      obtain ⟨b, f1, f2, f3⟩ := repW.ow j d hd
      rw [h2] at f1; cases f1
      exact f3.ne hL
    refine ⟨fun i m H' => m = p.1.length - i ∧ i ≤ p.1.length ∧ Inv i H', ⟨p.1.length, rfl, Nat.zero_le _, ?_⟩, ?_⟩
    · have al := Al.fr (o := .lst []) rep1.ex hL
      exact ⟨_, R1, [], r.1, [], al.rep repW, by rw [dl_upd, dl_none hL]; exact .refl _ _ _ _, upd_same, hL1, AtL.nil, by rw [List.drop_zero]; exact e2, rfl⟩
    rintro i m H' ⟨rfl, hi, E, R', acc, rest, vs, repE, stE, hLE, hRL, hacc, hl, heq⟩
    obtain ⟨w1, w2⟩ := wk R' H' stE.fr.ex repE.ex i
    by_cases hlt : i < p.1.length
    · obtain ⟨go, yl⟩ := w1 hlt
      refine .inr ⟨go, fun H'' => Inv (i + 1) H'', fun H'' hI => ⟨p.1.length - (i + 1), by omega, rfl, hlt, hI⟩, fun x H2 hy => ?_⟩
      obtain ⟨R2, d, hd, al2, at2⟩ := yl x H2 hy
      have repE2 := al2.rep repE
      have stE2 : ESt (Mi.wipe p.2 own) (L2.wipe σ own) R1 H1 E R2 (dl L H2) := stE.trans (al2.st.dl L)
      have dropEq : p.1.drop i = d :: p.1.drop (i + 1) := by
        rw [List.drop_eq_getElem_cons hlt]
        congr 1
        rw [List.getElem?_eq_getElem hlt] at hd
        exact Option.some.inj hd
      rw [dropEq] at hl
      simp only [flatLoop, Option.bind_eq_some_iff, Option.map_eq_some_iff] at hl
      obtain ⟨t, ht, q2, hq2, heq2⟩ := hl
      have hrest : rest = t.1 ++ q2.1 := (Prod.mk.inj heq2).1.symm
      have hend : q2.2 = r.2 := (Prod.mk.inj heq2).2
      rw [← hturn] at ht
      simp only [Option.bind_eq_some_iff] at ht
      obtain ⟨ee1, hp1, k, hk, hrem⟩ := ht
      have hLE2 : H2 L = some (.lst vs) := al2.exH _ _ hLE
      have hRL2 : R2 L = none := al2.keep L hRL (by rw [hLE]; exact fun z => nomatch z)
      have noL : ¬ Owns E (L2.wipe σ own) L := fun z => noB (stE.le.owns z)
      refine ⟨E, R2, d, ee1, repE2, at2, hp1, fun σ2 P => ?_⟩
      have hσl : σ2.length = σ.length := by rw [P.but.1, wipeV_len]
      refine ⟨wipe_eq hsub hσl P.but.2, ?_⟩
      have hlen : (L2.wipe σ own).length = σ2.length := P.but.1.symm
      refine ⟨ee1, R2, k.1, k.2, P.rep, hk, fun R3 H3 rep3 st3 => ?_⟩
      have ownE1 : ¬ Owns ee1 σ2 L := fun z => noL (P.owns L z)
      cases hk1 : k.1 with
      | false =>
        rw [hk1, if_neg Bool.false_ne_true] at hrem
        refine iteF ?_
        cases hrem
        have stN := turn_es (unW stE2) hsub P.butE P.owns P.ownsO (st3.dl L)
        exact ⟨_, R3, acc, q2.1, vs, rep3.wipe hlen (fun j hj => (P.but.2 j fun z => hj (hsub j z)).symm), stE2.trans stN, st3.fr.frame _ _ hLE2 ownE1, st3.fr.keepR L hRL2 (by rw [hLE2]; exact fun z => nomatch z) (fun z => ownE1 z.owns), hacc.mono (al2.ex.trans st3.fr.ex).le, by rw [← hend]; exact hq2, by rw [heq, hrest]; rfl⟩
      | true =>
        rw [hk1, if_pos rfl] at hrem
        refine iteT ?_
        simp only [Option.bind_eq_some_iff] at hrem
        obtain ⟨p1, hp1e, hin⟩ := hrem
        refine ⟨k.2, R3, p1.1, p1.2, rep3, hp1e, fun J1 R4 H4 rep4 st4 wk1 => ?_⟩
        have st34 := st3.trans st4
        have hL4 : H4 L = some (.lst vs) := st34.fr.frame _ _ hLE2 ownE1
        have hR4 : R4 L = none := st34.fr.keepR L hRL2 (by rw [hLE2]; exact fun z => nomatch z) (fun z => ownE1 z.owns)
        have hacc4 : AtL X.K R4 acc vs := hacc.mono (al2.ex.trans st34.fr.ex).le
        have no4 : ¬ Owns p1.2 σ2 L := fun z => ownE1 (st34.le.owns z)
        have hw1 : ∀ j, j ∉ own1 → (L2.wipe σ2 own1)[j]? = σ2[j]? := fun j hj => wipeV_notin hj
        have repW1 : Rep X.K (Mi.wipe p1.2 own1) (L2.wipe σ2 own1) R4 H4 := rep4.wipe (wipeV_len σ2 own1) hw1
        have noB1 : ¬ Owns (Mi.wipe p1.2 own1) (L2.wipe σ2 own1) L := fun z => no4 (owns_wipe hw1 z)
        let Inv1 : Nat → Hp → Prop := fun j H' => ∃ (E1 : Env) (R' : Hp) (acc1 : List D) (rest1 : List D) (ws : List V), Rep X.K E1 (L2.wipe σ2 own1) R' H' ∧ ESt (Mi.wipe p1.2 own1) (L2.wipe σ2 own1) R4 (dl L H4) E1 R' (dl L H') ∧
          H' L = some (.lst ws) ∧ R' L = none ∧ AtL X.K R' acc1 ws ∧ lcLoop own1 turn1 (p1.1.drop j) E1 = some (rest1, t.2) ∧ acc ++ t.1 = acc1 ++ rest1
        refine ⟨fun j m H' => m = p1.1.length - j ∧ j ≤ p1.1.length ∧ Inv1 j H', ⟨p1.1.length, rfl, Nat.zero_le _, _, R4, acc, t.1, vs, repW1, .refl _ _ _ _, hL4, hR4, hacc4, by rw [List.drop_zero]; exact hin, rfl⟩, ?_⟩
        rintro j m H5 ⟨rfl, hj, E1, R5, acc1, rest1, ws, repE1, stE1, hLE1, hRL1, hacc1, hl1, heq1⟩
        obtain ⟨v1, v2⟩ := wk1 R5 H5 stE1.fr.ex repE1.ex j
        have noL1 : ¬ Owns E1 (L2.wipe σ2 own1) L := fun z => noB1 (stE1.le.owns z)
        by_cases hlt1 : j < p1.1.length
        · obtain ⟨go1, yl1⟩ := v1 hlt1
          refine .inr ⟨go1, fun H'' => Inv1 (j + 1) H'', fun H'' hI => ⟨p1.1.length - (j + 1), by omega, rfl, hlt1, hI⟩, fun x1 H6 hy1 => ?_⟩
          obtain ⟨R6, d1, hd1, al6, at6⟩ := yl1 x1 H6 hy1
          have repE6 := al6.rep repE1
          have stE6 : ESt (Mi.wipe p1.2 own1) (L2.wipe σ2 own1) R4 (dl L H4) E1 R6 (dl L H6) := stE1.trans (al6.st.dl L)
          have dropEq1 : p1.1.drop j = d1 :: p1.1.drop (j + 1) := by
            rw [List.drop_eq_getElem_cons hlt1]
            congr 1
            rw [List.getElem?_eq_getElem hlt1] at hd1
            exact Option.some.inj hd1
          rw [dropEq1] at hl1
          simp only [lcLoop, Option.bind_eq_some_iff, Option.map_eq_some_iff] at hl1
          obtain ⟨t1, ht1, q3, hq3, heq3⟩ := hl1
          have hrest1 : rest1 = t1.1.toList ++ q3.1 := (Prod.mk.inj heq3).1.symm
          have hend1 : q3.2 = t.2 := (Prod.mk.inj heq3).2
          rw [← hturn1] at ht1
          simp only [Option.bind_eq_some_iff] at ht1
          obtain ⟨ee2, hp2, k2, hk2, hrem2⟩ := ht1
          have hLE6 : H6 L = some (.lst ws) := al6.exH _ _ hLE1
          have hRL6 : R6 L = none := al6.keep L hRL1 (by rw [hLE1]; exact fun z => nomatch z)
          refine ⟨E1, R6, d1, ee2, repE6, at6, hp2, fun σ3 P3 => ?_⟩
          have hσl3 : σ3.length = σ2.length := by rw [P3.but.1, wipeV_len]
          refine ⟨wipe_eq hsub1 hσl3 P3.but.2, ?_⟩
          have hlen3 : (L2.wipe σ2 own1).length = σ3.length := P3.but.1.symm
          refine ⟨ee2, R6, k2.1, k2.2, P3.rep, hk2, fun R7 H7 rep7 st7 => ?_⟩
          have ownE2 : ¬ Owns ee2 σ3 L := fun z => noL1 (P3.owns L z)
          cases hk3 : k2.1 with
          | false =>
            rw [hk3, if_neg Bool.false_ne_true] at hrem2
            refine iteF ?_
            cases hrem2
            have stN := turn_es (unW stE6) hsub1 P3.butE P3.owns P3.ownsO (st7.dl L)
            exact ⟨_, R7, acc1, q3.1, ws, rep7.wipe hlen3 (fun j hj => (P3.but.2 j fun z => hj (hsub1 j z)).symm), stE6.trans stN, st7.fr.frame _ _ hLE6 ownE2, st7.fr.keepR L hRL6 (by rw [hLE6]; exact fun z => nomatch z) (fun z => ownE2 z.owns), hacc1.mono (al6.ex.trans st7.fr.ex).le, by rw [← hend1]; exact hq3, by rw [heq1, hrest1]; rfl⟩
          | true =>
            rw [hk3, if_pos rfl] at hrem2
            refine iteT ?_
            simp only [Option.bind_eq_some_iff, Option.map_eq_some_iff] at hrem2
            obtain ⟨u, hu, tt, htk, hte⟩ := hrem2
            cases hte
            refine ⟨k2.2, R7, u.1, u.2, rep7, hu, fun y R8 H8 rep8 st8 at8 => ?_⟩
            obtain ⟨R9, rep9, st9, at9⟩ := at8.take rep8 st8 htk
            have st79 := st7.trans st9
            have hL8 : H8 L = some (.lst ws) := st79.fr.frame _ _ hLE6 ownE2
            have hR9 : R9 L = none := st79.fr.keepR L hRL6 (by rw [hLE6]; exact fun z => nomatch z) (fun z => ownE2 z.owns)
            have lenle : acc1.length + 1 ≤ sizeLine := by
              have h1 := hz
              have h2 := congrArg List.length heq1
              rw [heq, hrest] at h1
              rw [hrest1] at h2
              simp only [List.length_append, Option.toList_some, List.length_cons, List.length_nil] at h1 h2
              omega
            refine ⟨ws, hL8, by rw [← hacc1.length]; omega, ?_⟩
            have stN := turn_es (unW stE6) hsub1 P3.butE P3.owns P3.ownsO (st79.dl L)
            have repN := rep9.wipe (own := own1) hlen3 (fun j hj => (P3.but.2 j fun z => hj (hsub1 j z)).symm)
            have noN : ¬ Owns (Mi.wipe tt.2 own1) (L2.wipe σ2 own1) L := fun z => noL1 (stN.le.owns z)
            have stT := stE6.trans stN
            exact ⟨_, R9, acc1 ++ [tt.1], q3.1, ws ++ [y], repN.side hR9 noN, by rw [dl_upd]; exact stT, upd_same, hR9, (hacc1.mono (al6.ex.trans st79.fr.ex).le).append (.cons at9 AtL.nil), by rw [← hend1]; exact hq3, by rw [heq1, hrest1]; simp⟩
        · have hlen1 : j = p1.1.length := by omega
          refine .inl ⟨v2 (by omega), ?_⟩
          have hdr : p1.1.drop j = [] := List.drop_eq_nil_of_le (by omega)
          rw [hdr] at hl1
          simp only [lcLoop] at hl1
          have hr1 : rest1 = [] := (Prod.mk.inj (Option.some.inj hl1)).1.symm
          have hr2 : E1 = t.2 := (Prod.mk.inj (Option.some.inj hl1)).2
          subst hr1; subst hr2
          rw [List.append_nil] at heq1
          obtain ⟨repZ, stZ⟩ := (rep4.dl hR4 no4).restore (σw := L2.wipe σ2 own1) hw1 (repE1.dl hRL1 noL1) stE1
          have stC := (st34.dl L).trans stZ
          have stN := turn_es (unW stE2) hsub P.butE P.owns P.ownsO stC
          rw [wipe_restore hown] at stN
          have repN : Rep X.K (Mi.wipe t.2 own) (L2.wipe σ own) R5 H5 := repE1.wipe (by rw [wipeV_len, wipeV_len, hσl]) fun j hj => by
            rw [wipeV_notin (fun z => hj (hown j z)), P.but.2 j fun z => hj (hsub j z)]
          exact ⟨_, R5, acc1, q2.1, ws, repN, stE2.trans stN, hLE1, hRL1, hacc1, by rw [← hend]; exact hq2, by rw [heq, hrest, ← List.append_assoc, heq1]⟩
    · have hlen : i = p.1.length := by omega
      refine .inl ⟨w2 (by omega), ?_⟩
      have : p.1.drop i = [] := List.drop_eq_nil_of_le (by omega)
      rw [this] at hl
      simp only [flatLoop] at hl
      have hr1 : rest = [] := (Prod.mk.inj (Option.some.inj hl)).1.symm
      have hr2 : E = r.2 := (Prod.mk.inj (Option.some.inj hl)).2
      subst hr1; subst hr2
      rw [List.append_nil] at heq
      have noL : ¬ Owns r.2 (L2.wipe σ own) L := fun z => noB (stE.le.owns z)
      have stE' : ESt (Mi.wipe p.2 own) (L2.wipe σ own) R1 H1 r.2 R' H' := by
        refine ⟨⟨stE.fr.ex, fun b hb => ?_, fun b o hb hn => ?_, stE.fr.keepR⟩, stE.le⟩
        · have h1 := stE.fr.dom b hb
          have hbl : b ≠ L := by rintro rfl; exact h1 dl_self
          rwa [dl_ne hbl] at h1
        · have h1 := stE.fr.frame b o hb hn
          have hbl : b ≠ L := by rintro rfl; rw [hL] at hb; cases hb
          rwa [dl_ne hbl] at h1
      obtain ⟨repZ, stZ⟩ := rep1.restore (σw := L2.wipe σ own) (fun j hj => wipeV_notin hj) repE stE'
      refine q (.ref L) R' H' repZ (st1.trans stZ) ⟨L, rfl, ?_, hRL, ⟨vs, hLE, by rw [heq]; exact hacc⟩, fun z => ?_⟩
      · cases qq : H L with
        | none => rfl
        | some u => exact absurd hL (st1.fr.dom L (by rw [qq]; exact fun z => nomatch z))
      · obtain ⟨j, h1, h2⟩ := stZ.le.owns z
        have : ∃ d, p.2[j]? = some (Sl.ow d) ∨ p.2[j]? = some (Sl.bw d) := by
          rcases h1 with ⟨d, e⟩ | ⟨d, e⟩
          · exact ⟨d, .inl e⟩
          · exact ⟨d, .inr e⟩
        obtain ⟨d, hd⟩ := this
        obtain ⟨b, f1, f2, f3⟩ := rep1.ow j d hd
        rw [h2] at f1; cases f1
        exact f3.ne hL
  · cases e3
end
end Mi

end

section
set_option linter.all false
set_option maxRecDepth 100000
set_option maxHeartbeats 4000000
/-! enumerate of a list, of a tuple -/
namespace Mi
open PySem PySem.Spec PyProof.Rows L2
theorem meets_enum1 {v : Value} {o : Obj} {H : Heap → Prop} (B : Begins v o H) :
    Meets (Builtin.«enumerate.__new__» ⟨[.type "enumerate", v], []⟩) (fun _ R s => H s.heap ∧
      R (.ok (.ret (.ref (s.heap.push o).objs.size))) { s with heap := (s.heap.push o).push { cls := .type "enumerate", data := .fields #[.none, .bool false, .ref s.heap.objs.size, rawInt 0, .none, .none] } }) :=
  .of_wp fun prog w A R s h => by
    obtain ⟨hp, g, d, tk, os⟩ := s; obtain ⟨h1, h⟩ := h
    have hsub := sub_enumerate
    have q1 : ∀ {A' : Around} {E : Value → Shared → Prop} {Q : Value → Shared → Prop}, Q (.ref hp.objs.size) ⟨hp.push o, g, d, tk, os⟩ → wpAny (model prog w) A' (pyIter v) Q E ⟨hp, g, d, tk, os⟩ :=
      fun q => B.iter prog w _ _ ⟨hp, g, d, tk, os⟩ _ h1 q
    wp_walk using q1
    refine wpAny_stack_any fun st => wpAny_pure ?_
    split
    · rename_i c _ _ _ _ _
      cases (c == Value.type "enumerate")
      · wp_walk using q1
        exact ⟨_, rfl, h⟩
      · wp_walk using q1
        exact ⟨_, rfl, h⟩
    · wp_walk using q1
      exact ⟨_, rfl, h⟩
section
variable {prog : Program} {w : World} {A : Around} {E : Value → Shared → Prop} {s : Shared}
theorem enum1_begins {v : Value} {o : Obj} {H : Heap → Prop} {Q : Value → Shared → Prop} (B : Begins v o H) (h1 : H s.heap)
    (h : ∀ h', IsEnum h' (s.heap.objs.size + 1) s.heap.objs.size 0 .none → h'.get? s.heap.objs.size = some o → h'.objs.size = s.heap.objs.size + 2 →
      (∀ b o, s.heap.get? b = some o → h'.get? b = some o) → Q (.ref (s.heap.objs.size + 1)) { s with heap := h' }) :
    wpAny (model prog w) A (call (.type "enumerate") [v]) Q E s := by
  refine callType_new F.called_enumerate (by decide) (F.typeCall_enumerate_1 _) (F.newCall_enumerate_1 _) (fun obj => F.args_object_init_2 obj _) F.entry_enumerate_new
    (meets_enum1 B) ⟨h1, ?_⟩
  have hz : (s.heap.push o).objs.size = s.heap.objs.size + 1 := Heap.size_push ..
  show _ ∧ _
  rw [hz]
  have he : IsEnum ((s.heap.push o).push { cls := .type "enumerate", data := .fields #[.none, .bool false, .ref s.heap.objs.size, rawInt 0, .none, .none] }) (s.heap.objs.size + 1) s.heap.objs.size 0 .none := by
    have := Heap.get?_push_size (s.heap.push o) (o := { cls := .type "enumerate", data := .fields #[.none, .bool false, .ref s.heap.objs.size, rawInt 0, .none, .none] }) rfl
    rw [hz] at this; exact this
  refine ⟨⟨_, he, rfl⟩, h _ he (Heap.get?_push_of_some _ (Heap.get?_push_size _ B.free)) (by rw [Heap.size_push, hz]) fun b o x => Heap.get?_push_of_some _ (Heap.get?_push_of_some _ x)⟩
end
/-- the tuple at a, each item with its index in a new pair -/
def IteT (K : PySem.W.Frag) (a : Addr) : It :=
  ⟨fun i H => ∃ (xs : List V) (x : V), SqT K H a xs ∧ xs[i]? = some x, fun i H v H' => ∃ T x, v = .ref T ∧ H T = none ∧ H' = upd H T (.tup [.int (i : Nat), x]) ∧ ∀ xs, SqT K H a xs → xs[i]? = some x, fun i H => ∃ xs : List V, SqT K H a xs ∧ xs.length = i⟩
theorem turn_enumT {P : Program} {w : World} {K : PySem.W.Frag} {elts : List Expr} {kk : Nat} {tpos : Pos} (a e it : Addr) (hae : a ≠ e) (hai : a ≠ it) :
    Turn P w K (.Tuple elts kk tpos) (IteT K a) [e, it] e (fun i h => (∃ old, IsEnum h e it ((i : Nat) : Int) old) ∧ h.IsTupleIter it a i ∧ e ≠ it) where
  mem := by simp
  obj := fun i h st b hb => by
    obtain ⟨⟨old, he⟩, ⟨o, ho, hc, hd⟩, _⟩ := st
    have e' : b = e ∨ b = it := by simpa using hb
    rcases e' with z | z
    · rw [z]; exact ⟨_, he, fun v q => nomatch q⟩
    · rw [z]; exact ⟨o, ho, fun v q => by rw [hd] at q; cases q⟩
  keep := fun i h h' st k => let ⟨⟨old, he⟩, hi, hne⟩ := st; ⟨⟨old, k e (by simp) _ he⟩, hi.at fun o q => k it (by simp) o q, hne⟩
  item := by
    intro X hP hw hK hc i pins s σ H E I hf st hg
    subst hP hw hK
    obtain ⟨⟨old, he⟩, hit, hne⟩ := st
    obtain ⟨xs, x, hq, hx⟩ := hg
    obtain ⟨its, rv, p, hz⟩ := I.tuple hq
    obtain ⟨u, hu, ru⟩ := rv.get hx
    have hel : e < s.heap.objs.size := Heap.lt_size he
    have hil : it < s.heap.objs.size := by obtain ⟨_, q, _⟩ := hit; exact Heap.lt_size q
    have G := GoesN.enumFrom (prog := X.prog) (w := X.w) (A := X.A) (elts := elts) (x1 := kk) (pos := tpos) 0 (Draws.tuple (A := X.A.in1) (prog := X.prog) (w := X.w) (I.ok.hd hc) it a hai its.toArray) e hne (by simp [hne, Ne.symm hae]) (by simp)
    have hi : i < its.toArray.size := by
      have := (List.getElem?_eq_some_iff.mp hu).1
      simpa using this
    refine G.goes i s _ E hi ⟨⟨old, by rw [Int.zero_add]; exact he⟩, hit, p⟩ fun v h' tk ⟨T, t, x', ev, hT, hx', hT2⟩ st' kp htk => ?_
    subst ev
    have ex : x' = u := by
      have h1 : its[i]? = some x' := by simpa using hx'
      rw [hu] at h1
      exact (Option.some.inj h1).symm
    subst ex
    have new : ObjOk X.prog X.w (upd H T (.tup [.int (i : Nat), x])) h' T (.tup [.int (i : Nat), x]) :=
      ⟨by show 2 ≤ sizeLine; decide, [.int (0 + (i : Int)) t, x'], .cons ⟨t, by rw [Int.zero_add]⟩ (.cons ru .nil), hT2⟩
    have I1 : Inv X pins σ (upd H T (.tup [.int (i : Nat), x])) { s with heap := h', toks := tk } :=
      I.turnedNew (ch := [e, it]) kp hf hT new
    obtain ⟨⟨old', he'⟩, hit', _⟩ := st'
    refine ⟨.ref T, _, I1, rfl, ⟨_, x, rfl, I.hok.fresh hT, rfl, fun ys hy => by rw [I.tuple_inj hy hq]; exact hx⟩, ⟨⟨old', ?_⟩, hit', hne⟩, fun b hb => ?_⟩
    · rw [Int.zero_add] at he'; exact he'
    · have hb' : b < s.heap.objs.size := by
        have e' : b = e ∨ b = it := by simpa using hb
        rcases e' with z | z
        · rw [z]; exact hel
        · rw [z]; exact hil
      rw [upd_ne (Nat.ne_of_lt (Nat.lt_of_lt_of_le hb' hT))]
      exact (hf b hb).1
  done := by
    intro X hP hw hK hc i pins s σ H E I hf st hg
    subst hP hw hK
    obtain ⟨⟨old, he⟩, hit, hne⟩ := st
    obtain ⟨xs, hq, hx⟩ := hg
    obtain ⟨its, rv, p, hz⟩ := I.tuple hq
    have hl := rv.length
    have G := GoesN.enumFrom (prog := X.prog) (w := X.w) (A := X.A) (elts := elts) (x1 := kk) (pos := tpos) 0 (Draws.tuple (A := X.A.in1) (prog := X.prog) (w := X.w) (I.ok.hd hc) it a hai its.toArray) e hne (by simp [hne, Ne.symm hae]) (by simp)
    have hi : i = its.toArray.size := by simp; omega
    subst hi
    exact G.stops s (fun s' => Inv X pins σ H s') E ⟨⟨old, by rw [Int.zero_add]; exact he⟩, hit, p⟩ fun h' tk kp htk => I.turnedL (t' := tk) (ch := [e, it]) kp hf
  self := fun A i s Q E st h => let ⟨⟨_, he⟩, _⟩ := st; wpAny_pyIter_enum he h
def iEnumA (K : PySem.W.Frag) (ta : TA) : TI := fun σ H R => ta σ H fun vs H1 => ∃ a, vs = [.ref a] ∧ (((∃ xs, SqL K H1 a xs) ∧ R (Ite K a) H1) ∨ ((∃ xs, SqT K H1 a xs) ∧ R (IteT K a) H1))
theorem pi_enumA {X : Cx} {e : Expr} {ta : TA} {p pos tpos : Pos} {elts : List Expr} {kk : Nat} (hg : Gl X "enumerate") (hm : X.mg "enumerate" = none) (ha : PA X [e] ta) (hs : starEach [e] X.env = [(false, PySem.eval e X.env)] := by rfl) :
    PI X (.Tuple elts kk tpos) (.Call (.Name "enumerate" p) [e] [] pos) (iEnumA X.K ta) := by
  refine ⟨fun pins s σ H R I h => ?_⟩
  refine Call_ (ld_blt I hg hm boot_enumerate (PyProof.Rows.callWith_type1 (thn (ha.run pos pins s σ H _ I h) fun us s1 ⟨vs, H1, I1, r1, q1⟩ => ?_) hs rfl))
  obtain ⟨a, ex, q⟩ := q1
  subst ex
  cases r1 with
  | cons r rr =>
    cases rr
    cases r
    have fr : ∀ b, b ∈ [s1.heap.objs.size + 1, s1.heap.objs.size] → FpOk X pins H1 b := fun b hb => by
      have e' : b = s1.heap.objs.size + 1 ∨ b = s1.heap.objs.size := by simpa using hb
      have hle : s1.heap.objs.size ≤ b := by
        rcases e' with z | z
        · rw [z]; exact Nat.le_add_right _ _
        · rw [z]; exact Nat.le_refl _
      exact I1.fpOk hle (I1.hok.fresh hle)
    rcases q with ⟨⟨xs, hq⟩, q⟩ | ⟨⟨xs, hq⟩, q⟩
    · obtain ⟨its, rv, p', hz⟩ := I1.list hq
      refine call_enumerate_list p'.isList fun h' he hit hsz hk => wpAny_pyIter_enum he ?_
      have I2 : Inv X pins σ H1 { s1 with heap := h' } := I1.kept (t' := s1.toks) hk
      exact ⟨s1.heap.objs.size + 1, [s1.heap.objs.size + 1, s1.heap.objs.size], _, _, H1, rfl, I2, turn_enum a (s1.heap.objs.size + 1) s1.heap.objs.size, ⟨⟨.none, he⟩, hit, Nat.succ_ne_self _⟩, fr, q⟩
    · obtain ⟨its, rv, p', hz⟩ := I1.tuple hq
      have hlt : a < s1.heap.objs.size := by obtain ⟨o, ho, _⟩ := id p'; exact Heap.lt_size ho
      refine enum1_begins (begins_tuple a its.toArray) p' fun h' he hit hsz hk => wpAny_pyIter_enum he ?_
      have I2 : Inv X pins σ H1 { s1 with heap := h' } := I1.kept (t' := s1.toks) hk
      exact ⟨s1.heap.objs.size + 1, [s1.heap.objs.size + 1, s1.heap.objs.size], _, _, H1, rfl, I2, turn_enumT a (s1.heap.objs.size + 1) s1.heap.objs.size (Nat.ne_of_lt (Nat.lt_succ_of_lt hlt)) (Nat.ne_of_lt hlt), ⟨⟨.none, he⟩, ⟨_, hit, rfl, rfl⟩, Nat.succ_ne_self _⟩, fr, q⟩
theorem walk_enum {K : PySem.W.Frag} {a : Addr} {vs : List V} {ds : List D} {R0 : Hp} (h : SqL K R0 a vs) (al : AtL K R0 ds vs) : Walk K (Ite K a) (ds.zipIdx.map fun p => D.tup [.int (p.2 : Nat), p.1]) R0 := fun R H e1 e2 k => by
  have hs : SqL K H a vs := le_sl (e1.trans e2).le h
  rw [List.length_map, List.length_zipIdx]
  refine ⟨fun hk => ?_, fun hk => ⟨vs, hs, by rw [← al.length]; exact Nat.le_of_eq hk⟩⟩
  obtain ⟨v, h1, h2⟩ := al.get (List.getElem?_eq_getElem hk)
  exact ⟨⟨vs, v, hs, h1⟩, fun x H2 ⟨T, y, ex, hT, hH, hx⟩ => by
    subst ex hH
    have := hx vs hs
    rw [h1] at this; cases this
    have A := Al.sh (o := .tup [.int (k : Nat), v]) e2 hT
    refine ⟨_, .tup [.int (k : Nat), ds[k]], by rw [List.getElem?_map, List.getElem?_zipIdx, List.getElem?_eq_getElem hk]; simp, A, ⟨T, _, rfl, .inl (.inl upd_same), .cons rfl (.cons ((h2.mono e1.le).mono A.ex.le) .nil)⟩⟩⟩
theorem walk_enumT {K : PySem.W.Frag} {a : Addr} {vs : List V} {ds : List D} {R0 : Hp} (h : SqT K R0 a vs) (al : AtL K R0 ds vs) : Walk K (IteT K a) (ds.zipIdx.map fun p => D.tup [.int (p.2 : Nat), p.1]) R0 := fun R H e1 e2 k => by
  have hs : SqT K H a vs := le_st (e1.trans e2).le h
  rw [List.length_map, List.length_zipIdx]
  refine ⟨fun hk => ?_, fun hk => ⟨vs, hs, by rw [← al.length]; exact hk⟩⟩
  obtain ⟨v, h1, h2⟩ := al.get (List.getElem?_eq_getElem hk)
  exact ⟨⟨vs, v, hs, h1⟩, fun x H2 ⟨T, y, ex, hT, hH, hx⟩ => by
    subst ex hH
    have := hx vs hs
    rw [h1] at this; cases this
    have A := Al.sh (o := .tup [.int (k : Nat), v]) e2 hT
    refine ⟨_, .tup [.int (k : Nat), ds[k]], by rw [List.getElem?_map, List.getElem?_zipIdx, List.getElem?_eq_getElem hk]; simp, A, ⟨T, _, rfl, .inl (.inl upd_same), .cons rfl (.cons ((h2.mono e1.le).mono A.ex.le) .nil)⟩⟩⟩
end Mi

end

section
set_option linter.all false
set_option maxRecDepth 100000
set_option maxHeartbeats 4000000
/-! zip of two lists or tuples, strict -/
namespace Mi
open PySem PySem.Spec PyProof.Rows L2
abbrev IsZipS (h : Heap) (z TI TO : Addr) (f0 : Value) : Prop :=
  h.get? z = some { cls := .type "zip", dict := none, data := .fields #[f0, .bool false, .bool true, .ref TI, .ref TO], slots := #[] }
section
variable {prog : Program} {w : World} {A : Around} {E : Value → Shared → Prop} {s : Shared} {z TI TO i1 i2 : Addr} {fp1 fp2 : List Addr} {n1 n2 i : Nat} {P1 P2 : Nat → Value → Prop} {St1 St2 : Nat → Heap → Prop} {a1 a2 : Value}
theorem orEnd_item {it : Addr} {Q : Option Value → Shared → Prop} (h : wpAny (model prog w) A (Builtin.SmallTypes.nextOf (.ref it)) (fun v s' => Q (some v) s') (fun _ _ => False) s) : wpAny (model prog w) A (Builtin.SmallTypes.nextOrEnd (.ref it)) Q E s := by
  unfold Builtin.SmallTypes.nextOrEnd
  refine wpAny_bind (wpAny_attempt (wpAny_mono h (fun v s' q => ?_) fun _ _ q => q.elim))
  exact wpAny_pure q
theorem orEnd_end {it : Addr} {Q : Option Value → Shared → Prop} {P : Value → Shared → Prop} (h : wpAny (model prog w) A (Builtin.SmallTypes.nextOf (.ref it)) (fun _ _ => False) P s) (hP : ∀ e s', P e s' → (∃ a o, e = .ref a ∧ s'.heap.get? a = some o ∧ o.cls = .type "StopIteration") ∧ Q none s') :
    wpAny (model prog w) A (Builtin.SmallTypes.nextOrEnd (.ref it)) Q E s := by
  unfold Builtin.SmallTypes.nextOrEnd
  refine wpAny_bind (wpAny_attempt (wpAny_mono h (fun v s' q => q.elim) fun e s' q => ?_))
  obtain ⟨⟨a, o, rfl, ho, hc⟩, q2⟩ := hP e s' q
  refine wpAny_bind (wpAny_isInstance (T := "StopIteration") (b := true) ⟨o, ho, hc⟩ isSubtype_stop ?_)
  exact wpAny_pure q2
theorem zipS_item {Q : Value → Shared → Prop} (S : ZipSep2 z TI TO i1 i2 fp1 fp2) (D1 : Draws prog w A i1 fp1 n1 P1 St1) (D2 : Draws prog w A i2 fp2 n2 P2 St2)
    (hz : IsZipS s.heap z TI TO .none) (hTI : IsTupOf2 s.heap TI (.ref i1) (.ref i2)) (hTO : IsTupOf2 s.heap TO a1 a2) (st1 : St1 i s.heap) (st2 : St2 i s.heap) (hlt1 : i < n1) (hlt2 : i < n2)
    (hQ : ∀ x1 x2 h' tk, P1 i x1 → P2 i x2 → IsZipS h' z TI TO (rawInt s.heap.objs.size) → IsTupOf2 h' TO x1 x2 → St1 (i + 1) h' → St2 (i + 1) h' → IsTupOf2 h' s.heap.objs.size x1 x2 → h'.objs.size = s.heap.objs.size + 1 →
      (∀ c o, c ≠ z → c ≠ TO → c ≠ i1 → c ≠ i2 → s.heap.get? c = some o → h'.get? c = some o) → Q (.ref s.heap.objs.size) { s with heap := h', toks := tk }) :
    wpAny (model prog w) A (Builtin.«zip.__next__» ⟨[.ref z], []⟩) (fun fin s' => ∃ v, fin = .done (.ret v) ∧ Q v s') E s := by
  obtain ⟨hp, g, d, tk0, os⟩ := s
  show wpAny _ _ (field (.ref z) 2 >>= _) _ _ _
  refine wpAny_bind (wpAny_field hz rfl (x := .bool true) rfl ?_)
  show wpAny _ _ (field (.ref z) 3 >>= _) _ _ _
  refine wpAny_bind (wpAny_field hz rfl (x := .ref TI) rfl ?_)
  refine wpAny_bind (wpAny_seqItems hTI rfl ?_)
  show wpAny _ _ (Builtin.SmallTypes.ownedTupleIsFree (.ref z) >>= _) _ _ _
  refine wpAny_bind ?_
  unfold Builtin.SmallTypes.ownedTupleIsFree
  refine wpAny_bind (wpAny_field hz rfl (x := .none) rfl (wpAny_pure ?_))
  simp only [if_true]
  refine wpAny_bind (wpAny_rule ?_)
  refine wpAny_bind (wpAny_field hz rfl (x := .ref TO) rfl ?_)
  refine wpAny_bind (wpAny_setField_rec hz (by simp) fun g0 hz0 hs0 => ?_)
  replace hz0 : IsZipS g0 z TI TO .ellipsis := hz0
  replace hs0 : Heap.SameBut z hp g0 := hs0
  refine wpAny_bind ?_
  simp only [List.zipIdx_cons, List.zipIdx_nil, List.forIn_cons, List.forIn_nil]
  refine wpAny_bind (wpAny_bind (wpAny_onRaise ?_))
  show wpAny _ _ (Builtin.SmallTypes.nextOrEnd (.ref i1)) _ _ ⟨g0, g, d, tk0, os⟩
  refine orEnd_item (D1.item i _ _ _ hlt1 (D1.over st1 hs0 S.zf1) fun x1 p1 tk1 hx1 sn1 hp1 => ?_)
  replace hp1 : Heap.SameBut i1 g0 p1 := hp1
  have hU1 : IsTupOf2 p1 TO a1 a2 := hp1.extBut _ _ S.Ti1 (hs0.extBut _ _ S.TOz hTO)
  refine wpAny_bind (wpAny_seqItems (s := ⟨p1, g, d, tk1, os⟩) hU1 rfl ?_)
  refine wpAny_bind (updateSeq_IsTupOf2 (s := ⟨p1, g, d, tk1, os⟩) hU1 fun g1 hT1 hs1 => ?_)
  replace hT1 : IsTupOf2 g1 TO x1 a2 := hT1
  replace hs1 : Heap.SameBut TO p1 g1 := hs1
  refine wpAny_bind (wpAny_letGo (wpAny_pure ?_))
  refine wpAny_bind (wpAny_bind (wpAny_onRaise ?_))
  show wpAny _ _ (Builtin.SmallTypes.nextOrEnd (.ref i2)) _ _ ⟨g1, g, d, tk1, os⟩
  refine orEnd_item (D2.item i _ _ _ hlt2 (D2.over (D2.over (D2.over st2 hs0 S.zf2) hp1 S.sep1_2) hs1 S.Tf2) fun x2 p2 tk2 hx2 sn2 hp2 => ?_)
  replace hp2 : Heap.SameBut i2 g1 p2 := hp2
  have hU2 : IsTupOf2 p2 TO x1 a2 := hp2.extBut _ _ S.Ti2 hT1
  refine wpAny_bind (wpAny_seqItems (s := ⟨p2, g, d, tk2, os⟩) hU2 rfl ?_)
  refine wpAny_bind (updateSeq_IsTupOf2 (s := ⟨p2, g, d, tk2, os⟩) hU2 fun g2 hT2 hs2 => ?_)
  replace hT2 : IsTupOf2 g2 TO x1 x2 := hT2
  replace hs2 : Heap.SameBut TO p2 g2 := hs2
  refine wpAny_bind (wpAny_letGo (wpAny_pure (wpAny_pure ?_)))
  refine wpAny_bind (wpAny_seqItems (s := ⟨g2, g, d, tk2, os⟩) hT2 rfl ?_)
  refine wpAny_bind (wpAny_newTuple ?_)
  have hsz : g2.objs.size = hp.objs.size := by rw [hs2.1, hp2.1, hs1.1, hp1.1, hs0.1]
  have hzz : IsZipS g2 z TI TO .ellipsis := (hs2.extBut _ _ S.TOz.symm (hp2.extBut _ _ S.zi2 (hs1.extBut _ _ S.TOz.symm (hp1.extBut _ _ S.zi1 hz0))))
  have hkk : ∀ c o, c ≠ z → c ≠ TO → c ≠ i1 → c ≠ i2 → hp.get? c = some o → g2.get? c = some o := fun c o cz cT c1 c2 e =>
    (hs2.extBut _ _ cT (hp2.extBut _ _ c2 (hs1.extBut _ _ cT (hp1.extBut _ _ c1 (hs0.extBut _ _ cz e)))))
  have hj1 : St1 (i + 1) g2 := (D1.over (D1.over (D1.over sn1 hs1 S.Tf1) hp2 S.sep2_1) hs2 S.Tf1)
  have hj2 : St2 (i + 1) g2 := (D2.over sn2 hs2 S.Tf2)
  have hzlt : z < g2.objs.size := Heap.lt_size hzz
  show wpAny _ _ (Builtin.SmallTypes.ownedTupleHandOut (.ref z) (.ref g2.objs.size) >>= _) _ _ ⟨g2.push { cls := .type "tuple", data := .seq #[x1, x2] }, g, d, tk2, os⟩
  refine wpAny_bind ?_
  unfold Builtin.SmallTypes.ownedTupleHandOut
  have hz₆ : IsZipS (g2.push { cls := .type "tuple", data := .seq #[x1, x2] }) z TI TO .ellipsis := Heap.get?_push_of_some _ hzz
  refine wpAny_bind (wpAny_setField_rec hz₆ (by simp) fun h₇ hz₇ hs₇ => ?_)
  replace hz₇ : IsZipS h₇ z TI TO (rawInt g2.objs.size) := hz₇
  refine wpAny_setField_rec hz₇ (by simp) fun h₈ hz₈ hs₈ => ?_
  replace hz₈ : IsZipS h₈ z TI TO (rawInt g2.objs.size) := hz₈
  replace hs₇ : Heap.SameBut z (g2.push { cls := .type "tuple", data := .seq #[x1, x2] }) h₇ := hs₇
  replace hs₈ : Heap.SameBut z h₇ h₈ := hs₈
  have up : ∀ c o, c ≠ z → g2.get? c = some o → h₈.get? c = some o := fun c o c1 e => hs₈.extBut _ _ c1 (hs₇.extBut _ _ c1 (Heap.get?_push_of_some _ e))
  have hT₈ : IsTupOf2 h₈ g2.objs.size x1 x2 := hs₈.extBut _ _ (Nat.ne_of_gt hzlt) (hs₇.extBut _ _ (Nat.ne_of_gt hzlt) (Heap.get?_push_size _ rfl))
  have hz8 : h₈.objs.size = g2.objs.size + 1 := by rw [hs₈.1, hs₇.1, Heap.size_push]
  rw [hsz] at hz₈ hT₈ hz8
  refine wpAny_pure ⟨_, rfl, ?_⟩
  show Q (.ref g2.objs.size) ⟨h₈, g, d, tk2, os⟩
  rw [hsz]
  exact hQ x1 x2 h₈ tk2 hx1 hx2 hz₈ (up _ _ S.TOz hT2) (D1.frame _ _ _ hj1 fun b hb o e => up b o (fun q => S.zf1 (q ▸ hb)) e) (D2.frame _ _ _ hj2 fun b hb o e => up b o (fun q => S.zf2 (q ▸ hb)) e) hT₈ hz8 fun c o cz cT c1 c2 e => up c o cz (hkk c o cz cT c1 c2 e)
/-- both have come to their end -/
theorem zipS_end {Q : PySem.Fin → Shared → Prop} (hh : A.handled = none) (S : ZipSep2 z TI TO i1 i2 fp1 fp2) (D1 : Draws prog w A i1 fp1 n1 P1 St1) (D2 : Draws prog w A i2 fp2 n2 P2 St2)
    (hz : IsZipS s.heap z TI TO .none) (hTI : IsTupOf2 s.heap TI (.ref i1) (.ref i2)) (hTO : IsTupOf2 s.heap TO a1 a2) (st1 : St1 n1 s.heap) (st2 : St2 n2 s.heap)
    (hE : ∀ h' e, (∀ c o, c ≠ z → c ≠ TO → c ≠ i1 → c ≠ i2 → s.heap.get? c = some o → h'.get? c = some o) → (∃ o, h'.get? e = some o ∧ o.cls = .type "StopIteration") → E (.ref e) { s with heap := h' }) :
    wpAny (model prog w) A (Builtin.«zip.__next__» ⟨[.ref z], []⟩) Q E s := by
  obtain ⟨hp, g, d, tk0, os⟩ := s
  show wpAny _ _ (field (.ref z) 2 >>= _) _ _ _
  refine wpAny_bind (wpAny_field hz rfl (x := .bool true) rfl ?_)
  show wpAny _ _ (field (.ref z) 3 >>= _) _ _ _
  refine wpAny_bind (wpAny_field hz rfl (x := .ref TI) rfl ?_)
  refine wpAny_bind (wpAny_seqItems hTI rfl ?_)
  show wpAny _ _ (Builtin.SmallTypes.ownedTupleIsFree (.ref z) >>= _) _ _ _
  refine wpAny_bind ?_
  unfold Builtin.SmallTypes.ownedTupleIsFree
  refine wpAny_bind (wpAny_field hz rfl (x := .none) rfl (wpAny_pure ?_))
  simp only [if_true]
  refine wpAny_bind (wpAny_rule ?_)
  refine wpAny_bind (wpAny_field hz rfl (x := .ref TO) rfl ?_)
  refine wpAny_bind (wpAny_setField_rec hz (by simp) fun g0 hz0 hs0 => ?_)
  replace hz0 : IsZipS g0 z TI TO .ellipsis := hz0
  replace hs0 : Heap.SameBut z hp g0 := hs0
  refine wpAny_bind ?_
  simp only [List.zipIdx_cons, List.zipIdx_nil, List.forIn_cons, List.forIn_nil]
  refine wpAny_bind (wpAny_bind (wpAny_onRaise ?_))
  show wpAny _ _ (Builtin.SmallTypes.nextOrEnd (.ref i1)) _ _ ⟨g0, g, d, tk0, os⟩
  refine orEnd_end (P := fun e s' => ∃ q a, Heap.ExtBut i1 g0 q ∧ e = .ref a ∧ (∃ o, q.get? a = some o ∧ o.cls = .type "StopIteration") ∧ s' = ⟨q, g, d, tk0, os⟩) (D1.done ⟨g0, g, d, tk0, os⟩ _ _ (D1.over st1 hs0 S.zf1) fun q e hq he => ⟨q, e, hq, rfl, he, rfl⟩) ?_
  rintro _ _ ⟨q1, e1, hq1, rfl, ⟨oe1, hoe1, hce1⟩, rfl⟩
  refine ⟨⟨e1, oe1, rfl, hoe1, hce1⟩, ?_⟩
  have hz1 : IsZipS q1 z TI TO .ellipsis := hq1 _ _ S.zi1 hz0
  refine wpAny_bind (wpAny_setField_rec (s := ⟨q1, g, d, tk0, os⟩) hz1 (by simp) fun g1 hz2 hs1 => ?_)
  replace hs1 : Heap.SameBut z q1 g1 := hs1
  refine wpAny_bind ?_
  show wpAny _ _ (forIn [((.ref i2 : Value), 1)] PUnit.unit _ >>= _) _ _ _
  simp only [List.forIn_cons, List.forIn_nil]
  refine wpAny_bind (wpAny_bind (wpAny_bind ?_))
  have st2' : St2 n2 g1 := D2.frame _ _ _ (D2.over st2 hs0 S.zf2) fun b hb o e => hs1.extBut _ _ (fun q => S.zf2 (q ▸ hb)) (hq1 _ _ (fun q => S.sep1_2 (q ▸ hb)) e)
  refine orEnd_end (P := fun e s' => ∃ q a, Heap.ExtBut i2 g1 q ∧ e = .ref a ∧ (∃ o, q.get? a = some o ∧ o.cls = .type "StopIteration") ∧ s' = ⟨q, g, d, tk0, os⟩) (D2.done ⟨g1, g, d, tk0, os⟩ _ _ st2' fun q e hq he => ⟨q, e, hq, rfl, he, rfl⟩) ?_
  rintro _ _ ⟨q2, e2, hq2, rfl, ⟨oe2, hoe2, hce2⟩, rfl⟩
  refine ⟨⟨e2, oe2, rfl, hoe2, hce2⟩, ?_⟩
  simp only [Option.isSome_none, Bool.false_eq_true, if_false]
  refine wpAny_pure (wpAny_pure ?_)
  refine wpAny_bind (wpAny_rule ?_)
  unfold Builtin.SmallTypes.stopIteration
  refine wpAny_bind ?_
  simp only [newExc, newTuple]
  refine wpAny_bind (wpAny_newObj_type ?_ (by size_fits))
  refine wpAny_bind (m := firstArgMember _ _) (wpAny_of_eq (a := Value.none) (by first | rfl | (simp only [firstArgMember]; rfl)) ?_)
  refine wpAny_newObj_type ?_ (by size_fits)
  simp only [raiseNew]
  refine wpAny_bind (wpAny_handled ?_)
  first | rw [show A.in1.handled = none from hh] | rw [hh]
  refine wpAny_bind (wpAny_pure (wpAny_throw ?_))
  exact hE _ _ (fun c o cz cT c1 c2 x => Heap.get?_push_of_some _ (Heap.get?_push_of_some _ (hq2 _ _ c2 (hs1.extBut _ _ cz (hq1 _ _ c1 (hs0.extBut _ _ cz x)))))) ⟨_, Heap.get?_push_size _ rfl, rfl⟩
theorem pyNext_zipS {Q : Option Value → Shared → Prop} (S : ZipSep2 z TI TO i1 i2 fp1 fp2) (D1 : Draws prog w A.in1 i1 fp1 n1 P1 St1) (D2 : Draws prog w A.in1 i2 fp2 n2 P2 St2)
    (hz : IsZipS s.heap z TI TO .none) (hTI : IsTupOf2 s.heap TI (.ref i1) (.ref i2)) (hTO : IsTupOf2 s.heap TO a1 a2) (st1 : St1 i s.heap) (st2 : St2 i s.heap) (hlt1 : i < n1) (hlt2 : i < n2)
    (hQ : ∀ x1 x2 h' tk, P1 i x1 → P2 i x2 → IsZipS h' z TI TO (rawInt s.heap.objs.size) → IsTupOf2 h' TO x1 x2 → St1 (i + 1) h' → St2 (i + 1) h' → IsTupOf2 h' s.heap.objs.size x1 x2 → h'.objs.size = s.heap.objs.size + 1 →
      (∀ c o, c ≠ z → c ≠ TO → c ≠ i1 → c ≠ i2 → s.heap.get? c = some o → h'.get? c = some o) → Q (some (.ref s.heap.objs.size)) { s with heap := h', toks := tk }) :
    wpAny (model prog w) A (pyNext (.ref z)) Q E s := by
  have hT : s.TypeIs (.ref z) "zip" := ⟨_, hz, rfl⟩
  unfold pyNext
  exact wpAny_bind (wpAny_attempt (wpAny_callSpecial?_slot (name := Str.ofString "__next__") hT F.slot_zip_next
    (wpAny_call_entry F.slot_zip_next hT F.entry_zip_next
      (zipS_item S D1 D2 hz hTI hTO st1 st2 hlt1 hlt2 fun x1 x2 h' tk y1 y2 b1 b2 d1 d2 b5 b6 b7 => wpAny_pure (hQ x1 x2 h' tk y1 y2 b1 b2 d1 d2 b5 b6 b7)) (F.args_zip_next_1 _))))
theorem pyNext_zipS_end {Q : Option Value → Shared → Prop} (hh : A.handled = none) (S : ZipSep2 z TI TO i1 i2 fp1 fp2) (D1 : Draws prog w A.in1 i1 fp1 n1 P1 St1) (D2 : Draws prog w A.in1 i2 fp2 n2 P2 St2)
    (hz : IsZipS s.heap z TI TO .none) (hTI : IsTupOf2 s.heap TI (.ref i1) (.ref i2)) (hTO : IsTupOf2 s.heap TO a1 a2) (st1 : St1 n1 s.heap) (st2 : St2 n2 s.heap)
    (hQ : ∀ h', (∀ c o, c ≠ z → c ≠ TO → c ≠ i1 → c ≠ i2 → s.heap.get? c = some o → h'.get? c = some o) → Q none { s with heap := h' }) : wpAny (model prog w) A (pyNext (.ref z)) Q E s := by
  have hT : s.TypeIs (.ref z) "zip" := ⟨_, hz, rfl⟩
  unfold pyNext
  refine wpAny_bind (wpAny_attempt (wpAny_callSpecial?_slot (name := Str.ofString "__next__") hT F.slot_zip_next
    (wpAny_call_entry F.slot_zip_next hT F.entry_zip_next (zipS_end (A := A.in1) hh S D1 D2 hz hTI hTO st1 st2 fun h' e hk he => ?_) (F.args_zip_next_1 _))))
  obtain ⟨o, ho, hc⟩ := he
  refine wpAny_bind (wpAny_isInstance (T := "StopIteration") (b := true) ⟨o, ho, hc⟩ isSubtype_stop ?_)
  exact wpAny_pure (hQ _ hk)
theorem letGo_zipS {elts : List Expr} {x1} {pos : Pos} {T : Addr} {Q : Unit → Shared → Prop} (hz : IsZipS s.heap z TI TO (rawInt T))
    (hQ : ∀ h', IsZipS h' z TI TO .none → Heap.SameBut z s.heap h' → Q () { s with heap := h' }) :
    wpAny (model prog w) A (letOwnedTupleGo (.Tuple elts x1 pos) (.ref z) (.ref T)) Q E s := by
  unfold letOwnedTupleGo
  refine wpAny_bind (wpAny_load hz ?_)
  show wpAny _ _ (if (["enumerate", "zip", "dict_itemiterator", "dict_reverseitemiterator", "odict_iterator", "itertools.zip_longest", "itertools.pairwise"].contains "zip" &&
      (#[rawInt T, .bool false, .bool true, .ref TI, .ref TO] : Array Value)[0]? == some (rawInt T)) = true then _ else _) Q E s
  rw [if_pos (by simp)]
  refine wpAny_bind (wpAny_rule ?_)
  show wpAny _ _ (setField (.ref z) 0 .none) Q E s
  exact wpAny_setField_rec hz (by simp) fun h' hz' hs' => hQ h' hz' hs'
theorem pyIter_zipS {f0 : Value} {Q : Value → Shared → Prop} (hz : IsZipS s.heap z TI TO f0) (h : Q (.ref z) s) : wpAny (model prog w) A (pyIter (.ref z)) Q E s := by
  have hT : s.TypeIs (.ref z) "zip" := ⟨_, hz, rfl⟩
  refine wpAny_pyIter_slot hT F.slot_zip_iter (wpAny_call_entry F.slot_zip_iter hT F.entry_zip_iter ?_ (F.args_zip_iter_1 _))
  show wpAny _ _ (ret (.ref z)) _ _ s
  exact wpAny_pure ⟨_, rfl, "zip", _, hT, F.slot_zip_next.lookup, h⟩
abbrev gzZS (h : Heap) (o1 o2 : Obj) : Heap := (gzO2 h o1 o2).push { cls := .type "zip", data := .fields #[.none, .bool false, .bool true, .ref ((h.push o1).push o2).objs.size, .ref (gzT2 h o1 o2).objs.size] }
theorem typeCall_zipS (a b c : Value) : checkTypeCall "zip" ⟨[a, b], [(Str.ofString "strict", c)]⟩ = pure () := by kernel_rfl
theorem newCall_zipS (a b c : Value) : checkBuiltinCall "zip.__new__" ⟨[.type "zip", a, b], [(Str.ofString "strict", c)]⟩ = pure () := by kernel_rfl
theorem objInit_zipS (obj a b c : Value) : argsOk "object.__init__" ⟨[obj, a, b], [(Str.ofString "strict", c)]⟩ := by unfold argsOk; kernel_rfl
theorem meets_zipS {v1 v2 : Value} {o1 o2 : Obj} {H1 H2 : Heap → Prop} (B1 : Begins v1 o1 H1) (B2 : Begins v2 o2 H2) :
    Meets (Builtin.«zip.__new__» ⟨[.type "zip", v1, v2], [(Str.ofString "strict", .bool true)]⟩) (fun _ R s => (H1 s.heap ∧ H2 s.heap) ∧
      R (.ok (.ret (.ref (gzO2 s.heap o1 o2).objs.size))) { s with heap := gzZS s.heap o1 o2 }) :=
  .of_wp fun prog w A R s h => by
    obtain ⟨hp, g, d, tk, os⟩ := s; obtain ⟨⟨h1, h2⟩, h⟩ := h
    have hsub := sub_zip
    have q1 : ∀ {A' : Around} {E : Value → Shared → Prop} {Q : Value → Shared → Prop}, Q (.ref hp.objs.size) ⟨(hp.push o1), g, d, tk, os⟩ → wpAny (model prog w) A' (pyIter v1) Q E ⟨hp, g, d, tk, os⟩ :=
      fun q => B1.iter prog w _ _ ⟨hp, g, d, tk, os⟩ _ (B1.keeps _ _ h1 fun b o' e => e) q
    have q2 : ∀ {A' : Around} {E : Value → Shared → Prop} {Q : Value → Shared → Prop}, Q (.ref (hp.push o1).objs.size) ⟨((hp.push o1).push o2), g, d, tk, os⟩ → wpAny (model prog w) A' (pyIter v2) Q E ⟨(hp.push o1), g, d, tk, os⟩ :=
      fun q => B2.iter prog w _ _ ⟨(hp.push o1), g, d, tk, os⟩ _ (B2.keeps _ _ h2 fun b o' e => (Heap.get?_push_of_some _ e)) q
    have e1 : (Str.ofString "strict" != ("strict" : Str)) = false := by decide +kernel
    wp_walk using q1, q2
    exact ⟨_, rfl, h⟩
end
/-! the sources: a list (true), a tuple (false) -/
def SqX (b : Bool) (K : PySem.W.Frag) (H : Hp) (a : Addr) (xs : List V) : Prop := match b with
  | true => SqL K H a xs
  | false => SqT K H a xs
def isX (b : Bool) (h : Heap) (a : Addr) (its : Array Value) : Prop := match b with
  | true => h.IsList a its
  | false => h.IsTuple a its
def iterX (b : Bool) (h : Heap) (it a : Addr) (i : Nat) : Prop := match b with
  | true => h.IsListIter it a i
  | false => h.IsTupleIter it a i
def iterO (b : Bool) (a : Addr) : Obj := match b with
  | true => { cls := .type "list_iterator", data := .fields #[.ref a, .int 0 0] }
  | false => { cls := .type "tuple_iterator", data := .fields #[.ref a, .int 0 0] }
theorem isX_of {b : Bool} {X : Cx} {pins : List (Addr × Obj)} {σ : L2.St} {H : Hp} {s : Shared} {a : Addr} {xs : List V} (I : Inv X pins σ H s) (h : SqX b X.K H a xs) : ∃ its, Vals xs its ∧ isX b s.heap a its.toArray ∧ a < s.heap.objs.size := by
  cases b with
  | true => obtain ⟨its, rv, p, _⟩ := I.list h; exact ⟨its, rv, p.isList, p.lt⟩
  | false => obtain ⟨its, rv, p, _⟩ := I.tuple h; exact ⟨its, rv, p, by obtain ⟨o, ho, _⟩ := id p; exact Heap.lt_size ho⟩
theorem sqX_inj {b : Bool} {X : Cx} {pins : List (Addr × Obj)} {σ : L2.St} {H : Hp} {s : Shared} {a : Addr} {xs ys : List V} (I : Inv X pins σ H s) (h : SqX b X.K H a xs) (h' : SqX b X.K H a ys) : xs = ys := by
  cases b with
  | true => exact I.list_inj h h'
  | false => exact I.tuple_inj h h'
theorem drawsX {prog : Program} {w : World} {A : Around} (b : Bool) (hh : A.handled = none) (it a : Addr) (hne : a ≠ it) (items : Array Value) :
    Draws prog w A it [it, a] items.size (fun i v => items[i]? = some v) (fun i h => iterX b h it a i ∧ isX b h a items) := by
  cases b with
  | true => exact Draws.list hh it a hne items
  | false => exact Draws.tuple hh it a hne items
theorem beginsX (b : Bool) (a : Addr) (items : Array Value) : Begins (.ref a) (iterO b a) fun h => isX b h a items := by
  cases b with
  | true => exact begins_list a items
  | false => exact begins_tuple a items
theorem iterX_at {b : Bool} {h h' : Heap} {it a : Addr} {i : Nat} (x : iterX b h it a i) (k : ∀ o, h.get? it = some o → h'.get? it = some o) : iterX b h' it a i := by
  cases b with
  | true => exact Heap.IsListIter.at x k
  | false => exact Heap.IsTupleIter.at x k
theorem iterX_obj {b : Bool} {h : Heap} {it a : Addr} {i : Nat} (x : iterX b h it a i) : ∃ o, h.get? it = some o ∧ ∀ v, o.data ≠ .cell v := by
  cases b with
  | true => obtain ⟨o, ho, _, hd⟩ := x; exact ⟨o, ho, fun v q => by rw [hd] at q; cases q⟩
  | false => obtain ⟨o, ho, _, hd⟩ := x; exact ⟨o, ho, fun v q => by rw [hd] at q; cases q⟩
theorem iterX_new {b : Bool} {h : Heap} {it a : Addr} (e : h.get? it = some (iterO b a)) : iterX b h it a 0 := by
  cases b with
  | true => exact ⟨_, e, rfl, rfl⟩
  | false => exact ⟨_, e, rfl, rfl⟩
theorem sqX_le {b : Bool} {K : PySem.W.Frag} {R H : Hp} {a : Addr} {xs : List V} (e : Le R H) (h : SqX b K R a xs) : SqX b K H a xs := by
  cases b with
  | true => exact le_sl e h
  | false => exact le_st e h
/-- the two at a and b, the items in new pairs, both of one length -/
def ItzS (b1 b2 : Bool) (K : PySem.W.Frag) (a b : Addr) : It :=
  ⟨fun i H => ∃ (xs ys : List V) (x y : V), SqX b1 K H a xs ∧ SqX b2 K H b ys ∧ xs[i]? = some x ∧ ys[i]? = some y,
    fun i H v H' => ∃ T x y, v = .ref T ∧ H T = none ∧ H' = upd H T (.tup [x, y]) ∧ (∀ xs, SqX b1 K H a xs → xs[i]? = some x) ∧ ∀ ys, SqX b2 K H b ys → ys[i]? = some y,
    fun i H => ∃ xs ys : List V, SqX b1 K H a xs ∧ SqX b2 K H b ys ∧ xs.length = i ∧ ys.length = i⟩
theorem turn_zipS {P : Program} {w : World} {K : PySem.W.Frag} {elts : List Expr} {kk : Nat} {tpos : Pos} {b1 b2 : Bool} {a b z TI TO i1 i2 : Addr} (D : ZipSep2 z TI TO i1 i2 [i1, a] [i2, b]) (ha : a ≠ i1) (hb : b ≠ i2) :
    Turn P w K (.Tuple elts kk tpos) (ItzS b1 b2 K a b) [z, TI, TO, i1, i2] z (fun i h => IsZipS h z TI TO .none ∧ IsTupOf2 h TI (.ref i1) (.ref i2) ∧ (∃ x y, IsTupOf2 h TO x y) ∧ iterX b1 h i1 a i ∧ iterX b2 h i2 b i) where
  mem := by simp
  obj := fun i h st c hc => by
    obtain ⟨hz, hTI, ⟨x, y, hTO⟩, h1, h2⟩ := st
    have e' : c = z ∨ c = TI ∨ c = TO ∨ c = i1 ∨ c = i2 := by simpa using hc
    rcases e' with q | q | q | q | q
    · rw [q]; exact ⟨_, hz, fun v q => nomatch q⟩
    · rw [q]; exact ⟨_, hTI, fun v q => nomatch q⟩
    · rw [q]; exact ⟨_, hTO, fun v q => nomatch q⟩
    · rw [q]; exact iterX_obj h1
    · rw [q]; exact iterX_obj h2
  keep := fun i h h' st k => by
    obtain ⟨hz, hTI, ⟨x, y, hTO⟩, h1, h2⟩ := st
    exact ⟨k z (by simp) _ hz, k TI (by simp) _ hTI, ⟨x, y, k TO (by simp) _ hTO⟩, iterX_at h1 fun o q => k i1 (by simp) o q, iterX_at h2 fun o q => k i2 (by simp) o q⟩
  item := by
    intro X hP hw hK hc i pins s σ H E I hf st hg
    subst hP hw hK
    obtain ⟨hz, hTI, ⟨x0, y0, hTO⟩, h1, h2⟩ := st
    obtain ⟨xs, ys, x, y, hqx, hqy, hx, hy⟩ := hg
    obtain ⟨its, rv, p, _⟩ := isX_of I hqx
    obtain ⟨its2, rv2, p2, _⟩ := isX_of I hqy
    obtain ⟨u, hu, ru⟩ := rv.get hx
    obtain ⟨u2, hu2, ru2⟩ := rv2.get hy
    have hzl : z < s.heap.objs.size := Heap.lt_size hz
    have l1 : i < its.toArray.size := by simpa using (List.getElem?_eq_some_iff.mp hu).1
    have l2 : i < its2.toArray.size := by simpa using (List.getElem?_eq_some_iff.mp hu2).1
    have D1 := drawsX (prog := X.prog) (w := X.w) (A := X.A.in1) b1 (I.ok.hd hc) i1 a ha its.toArray
    have D2 := drawsX (prog := X.prog) (w := X.w) (A := X.A.in1) b2 (I.ok.hd hc) i2 b hb its2.toArray
    refine pyNext_zipS D D1 D2 hz hTI hTO ⟨h1, p⟩ ⟨h2, p2⟩ l1 l2 fun v1 v2 h' tk e1 e2 z' TO' h1' h2' hT hsz hk => ?_
    have ev1 : v1 = u := by
      have q : its[i]? = some v1 := by simpa using e1
      rw [hu] at q; exact (Option.some.inj q).symm
    have ev2 : v2 = u2 := by
      have q : its2[i]? = some v2 := by simpa using e2
      rw [hu2] at q; exact (Option.some.inj q).symm
    subst ev1 ev2
    refine ⟨_, rfl, letGo_zipS (s := { s with heap := h', toks := tk }) z' fun h'' z'' sb => ?_⟩
    have hT2 : h''.get? s.heap.objs.size = some { cls := .type "tuple", data := .seq #[v1, v2] } := (sb.2 _ (Nat.ne_of_gt hzl)).trans hT
    have new : ObjOk X.prog X.w (upd H s.heap.objs.size (.tup [x, y])) h'' s.heap.objs.size (.tup [x, y]) :=
      ⟨by show 2 ≤ sizeLine; decide, [v1, v2], .cons ru (.cons ru2 .nil), ⟨_, hT2, rfl, _, rfl⟩⟩
    have I1 : Inv X pins σ (upd H s.heap.objs.size (.tup [x, y])) { s with heap := h'', toks := tk } :=
      I.turnedNew (t' := tk) (ch := [z, TI, TO, i1, i2]) (fun c o hb q => (sb.2 c (fun q' => hb (by simp [q']))).trans (hk c o (fun q' => hb (by simp [q'])) (fun q' => hb (by simp [q'])) (fun q' => hb (by simp [q'])) (fun q' => hb (by simp [q'])) q)) hf (Nat.le_refl _) new
    refine ⟨.ref s.heap.objs.size, _, I1, rfl, ⟨_, x, y, rfl, I.hok.fresh (Nat.le_refl _), rfl, fun l hl => by rw [sqX_inj I hl hqx]; exact hx, fun l hl => by rw [sqX_inj I hl hqy]; exact hy⟩, ⟨z'', ?_, ⟨v1, v2, ?_⟩, ?_, ?_⟩, fun c hcm => ?_⟩
    · exact (sb.2 _ D.TIz).trans (hk _ _ D.TIz D.TITO D.TIi1 D.TIi2 hTI)
    · exact (sb.2 _ D.TOz).trans TO'
    · exact iterX_at h1'.1 fun o q => (sb.2 _ D.zi1.symm).trans q
    · exact iterX_at h2'.1 fun o q => (sb.2 _ D.zi2.symm).trans q
    · have hlt : c < s.heap.objs.size := by
        have e' : c = z ∨ c = TI ∨ c = TO ∨ c = i1 ∨ c = i2 := by simpa using hcm
        rcases e' with q | q | q | q | q
        · rw [q]; exact hzl
        · rw [q]; exact Heap.lt_size hTI
        · rw [q]; exact Heap.lt_size hTO
        · rw [q]; obtain ⟨_, e1, _⟩ := iterX_obj h1; exact Heap.lt_size e1
        · rw [q]; obtain ⟨_, e2, _⟩ := iterX_obj h2; exact Heap.lt_size e2
      rw [upd_ne (Nat.ne_of_lt hlt)]
      exact (hf c hcm).1
  done := by
    intro X hP hw hK hc i pins s σ H E I hf st hg
    subst hP hw hK
    obtain ⟨hz, hTI, ⟨x0, y0, hTO⟩, h1, h2⟩ := st
    obtain ⟨xs, ys, hqx, hqy, e1, e2⟩ := hg
    obtain ⟨its, rv, p, _⟩ := isX_of I hqx
    obtain ⟨its2, rv2, p2, _⟩ := isX_of I hqy
    have D1 := drawsX (prog := X.prog) (w := X.w) (A := X.A.in1) b1 (I.ok.hd hc) i1 a ha its.toArray
    have D2 := drawsX (prog := X.prog) (w := X.w) (A := X.A.in1) b2 (I.ok.hd hc) i2 b hb its2.toArray
    have z1 : its.toArray.size = i := by rw [List.size_toArray, ← rv.length]; exact e1
    have z2 : its2.toArray.size = i := by rw [List.size_toArray, ← rv2.length]; exact e2
    exact pyNext_zipS_end (I.ok.hd hc) D D1 D2 hz hTI hTO (by rw [z1]; exact ⟨h1, p⟩) (by rw [z2]; exact ⟨h2, p2⟩) fun h' hk => ⟨rfl, I.turnedL (t' := s.toks) (ch := [z, TI, TO, i1, i2]) (fun c o hb q =>
      hk c o (fun q' => hb (by simp [q'])) (fun q' => hb (by simp [q'])) (fun q' => hb (by simp [q'])) (fun q' => hb (by simp [q'])) q) hf⟩
  self := fun A i s Q E st h => pyIter_zipS st.1 h
theorem zipS_begins {prog : Program} {w : World} {A : Around} {E : Value → Shared → Prop} {s : Shared} {v1 v2 : Value} {o1 o2 : Obj} {H1 H2 : Heap → Prop} {Q : Value → Shared → Prop} (B1 : Begins v1 o1 H1) (B2 : Begins v2 o2 H2) (h1 : H1 s.heap) (h2 : H2 s.heap)
    (h : ∀ h', IsZipS h' (s.heap.objs.size + 4) (s.heap.objs.size + 2) (s.heap.objs.size + 3) .none → IsTupOf2 h' (s.heap.objs.size + 2) (.ref s.heap.objs.size) (.ref (s.heap.objs.size + 1)) →
      IsTupOf2 h' (s.heap.objs.size + 3) .none .none → h'.get? s.heap.objs.size = some o1 → h'.get? (s.heap.objs.size + 1) = some o2 →
      (∀ c o, s.heap.get? c = some o → h'.get? c = some o) → Q (.ref (s.heap.objs.size + 4)) { s with heap := h' }) :
    wpAny (model prog w) A (call (.type "zip") [v1, v2] [(Str.ofString "strict", .bool true)]) Q E s := by
  refine callType_newKw F.called_zip (by decide) (typeCall_zipS _ _ _) (newCall_zipS _ _ _) (fun obj => objInit_zipS obj _ _ _) F.entry_zip_new (meets_zipS B1 B2) ⟨⟨h1, h2⟩, ?_⟩
  have z1 : (s.heap.push o1).objs.size = s.heap.objs.size + 1 := by rw [Heap.size_push]
  have z2 : ((s.heap.push o1).push o2).objs.size = s.heap.objs.size + 2 := by rw [Heap.size_push, z1]
  have zT : (gzT2 s.heap o1 o2).objs.size = s.heap.objs.size + 3 := by rw [Heap.size_push, z2]
  have zO : (gzO2 s.heap o1 o2).objs.size = s.heap.objs.size + 4 := by rw [Heap.size_push, zT]
  have gZ : (gzZS s.heap o1 o2).get? (gzO2 s.heap o1 o2).objs.size = some { cls := .type "zip", data := .fields #[.none, .bool false, .bool true, .ref ((s.heap.push o1).push o2).objs.size, .ref (gzT2 s.heap o1 o2).objs.size] } := Heap.get?_push_size _ rfl
  have gO : (gzZS s.heap o1 o2).get? (gzT2 s.heap o1 o2).objs.size = some { cls := .type "tuple", data := .seq #[.none, .none] } := Heap.get?_push_of_some _ (Heap.get?_push_size _ rfl)
  have gT : (gzZS s.heap o1 o2).get? ((s.heap.push o1).push o2).objs.size = some { cls := .type "tuple", data := .seq #[.ref s.heap.objs.size, .ref (s.heap.push o1).objs.size] } := Heap.get?_push_of_some _ (Heap.get?_push_of_some _ (Heap.get?_push_size _ rfl))
  have g1 : (gzZS s.heap o1 o2).get? s.heap.objs.size = some o1 := Heap.get?_push_of_some _ (Heap.get?_push_of_some _ (Heap.get?_push_of_some _ (Heap.get?_push_of_some _ (Heap.get?_push_size _ B1.free))))
  have g2 : (gzZS s.heap o1 o2).get? (s.heap.push o1).objs.size = some o2 := Heap.get?_push_of_some _ (Heap.get?_push_of_some _ (Heap.get?_push_of_some _ (Heap.get?_push_size _ B2.free)))
  rw [zO, zT, z2] at gZ
  rw [zT] at gO
  rw [z2, z1] at gT
  rw [z1] at g2
  show _ ∧ _
  rw [zO]
  exact ⟨⟨_, gZ, rfl⟩, h _ gZ gT gO g1 g2 fun c o e => Heap.get?_push_of_some _ (Heap.get?_push_of_some _ (Heap.get?_push_of_some _ (Heap.get?_push_of_some _ (Heap.get?_push_of_some _ e))))⟩
def iZipS (K : PySem.W.Frag) (ta : TA) : TI := fun σ H R => ta σ H fun vs H1 => ∃ (b1 b2 : Bool) (a b : Addr), vs = [.ref a, .ref b] ∧ (∃ xs, SqX b1 K H1 a xs) ∧ (∃ ys, SqX b2 K H1 b ys) ∧ R (ItzS b1 b2 K a b) H1
theorem no2 {x y z : Nat} (h1 : x ≠ y) (h2 : x ≠ z) : x ∉ [y, z] := by simp [h1, h2]
theorem sep_new {n a b : Nat} (la : a < n) (lb : b < n) : ZipSep2 (n + 4) (n + 2) (n + 3) n (n + 1) [n, a] [n + 1, b] := by
  have e : ∀ {x y : Nat}, (x < y ∨ y < x) → x ≠ y := fun h => by omega
  exact ⟨e (x := n + 2) (y := n + 4) (by omega), e (x := n + 3) (y := n + 4) (by omega), e (x := n + 2) (y := n + 3) (by omega), e (x := n + 2) (y := n) (by omega), List.mem_cons_self .., no2 (e (by omega)) (e (by omega)), no2 (e (by omega)) (e (by omega)),
    e (x := n + 2) (y := n + 1) (by omega), List.mem_cons_self .., no2 (e (by omega)) (e (by omega)), no2 (e (by omega)) (e (by omega)), no2 (e (by omega)) (e (by omega)), no2 (e (by omega)) (e (by omega))⟩
theorem cw_type_kw {M : Model} {A : Around} {E : Value → Shared → Prop} {s : Shared} {env : PySem.Env} {pos : Pos} {T : String} {e : Expr} {rest : List Expr} {kws : List Keyword} {Q : Value → Shared → Prop}
    (h : wpAny M A (spliced (backTo pos (starEach (e :: rest) env))) (fun vs s₁ => wpAny M A (evalAll ((backToKw pos (keywordEach kws env)).map (·.2)))
      (fun ks s₂ => wpAny M A (call (.type T) vs (((backToKw pos (keywordEach kws env)).filterMap (·.1)).zip ks)) Q E s₂) E s₁) E s)
    (he : starEach (e :: rest) env = (false, PySem.eval e env) :: starEach rest env) (hp1 : (backTo pos (starEach (e :: rest) env)).any (·.1) = false)
    (hall : (backToKw pos (keywordEach kws env)).all (·.1.isSome) = true) (hnone : (backToKw pos (keywordEach kws env)).any (·.1.isNone) = false) :
    wpAny M A (callWith pos (.type T) [] (backTo pos (starEach (e :: rest) env)) (backToKw pos (keywordEach kws env))) Q E s := by
  unfold callWith
  refine wpAny_bind (wpAny_holding (wpAny_mono (PyProof.Rows.evalArgs_kw2 (Q := fun a s₁ => wpAny M A (call (.type T) ([] ++ a.pos) a.kw) Q E s₁) hall h he) (fun a s₁ h₁ => wpAny_bind (wpAny_standAt ?_)) fun _ _ x => x))
  simp only [hp1, hnone, Bool.or_false]
  refine wpAny_bind (wpAny_pure ?_)
  exact wpAny_bind (wpAny_mono h₁ (fun r s₂ hr => wpAny_bind (wpAny_holding (wpAny_point (wpAny_pure hr)))) fun _ _ x => x)
theorem pi_zipS {X : Cx} {e e2 : Expr} {ta : TA} {p pos tpos kp cp : Pos} {elts : List Expr} {kk ck : Nat} (hg : Gl X "zip") (hm : X.mg "zip" = none) (ha : PA X [e, e2] ta)
    (hs : starEach [e, e2] X.env = (false, PySem.eval e X.env) :: starEach [e2] X.env := by rfl) (hpl : (backTo pos (starEach [e, e2] X.env)).any (·.1) = false := by rfl) :
    PI X (.Tuple elts kk tpos) (.Call (.Name "zip" p) [e, e2] [⟨some "strict", .Constant (.bool true) ck cp, kp⟩] pos) (iZipS X.K ta) := by
  refine ⟨fun pins s σ H R I h => ?_⟩
  refine wpAny_Call_Name_kw (ld_blt I hg hm PyProof.Rows.boot_zip ?_)
  have hk : PK X [⟨some "strict", .Constant (.bool true) ck cp, kp⟩] (tCons (tC (.bl true)) tNil) := pk_cons pe_bl pk_nil
  refine cw_type_kw (thn (ha.run pos pins s σ H _ I h) fun us s1 ⟨vs, H1, I1, r1, q1⟩ => ?_) hs hpl rfl rfl
  obtain ⟨b1, b2, a, b, ex, ⟨xs, hqx⟩, ⟨ys, hqy⟩, q⟩ := q1
  subst ex
  refine thn (hk.run pos pins s1 σ H1 (fun zs H2 => zs = [.bl true] ∧ H2 = H1) I1 ⟨rfl, rfl⟩) fun ws s2 ⟨zs, H2, I2, rz, e1, e2⟩ => ?_
  subst e1 e2
  cases r1 with
  | cons r rr =>
    cases rr with
    | cons r' rr =>
      cases rr
      cases r
      cases r'
      cases rz with
      | cons rb rr =>
        cases rr
        cases rb
        obtain ⟨its, rv, p1, la⟩ := isX_of I2 hqx
        obtain ⟨its2, rv2, p2, lb⟩ := isX_of I2 hqy
        show wpAny (model X.prog X.w) X.A (call (.type "zip") [.ref a, .ref b] [(Str.ofString "strict", .bool true)]) _ _ _
        refine zipS_begins (beginsX b1 a its.toArray) (beginsX b2 b its2.toArray) p1 p2 fun h' hz hTI hTO h1 h2 hk => pyIter_zipS hz ?_
        have I3 : Inv X pins σ H2 { s2 with heap := h' } := I2.kept (t' := s2.toks) hk
        refine ⟨s2.heap.objs.size + 4, [s2.heap.objs.size + 4, s2.heap.objs.size + 2, s2.heap.objs.size + 3, s2.heap.objs.size, s2.heap.objs.size + 1], _, _, H2, rfl, I3, turn_zipS (sep_new la lb) (Nat.ne_of_lt la) (Nat.ne_of_lt (Nat.lt_succ_of_lt lb)), ⟨hz, hTI, ⟨_, _, hTO⟩, iterX_new h1, iterX_new h2⟩, fun c hcm => ?_, q⟩
        have e' : c = s2.heap.objs.size + 4 ∨ c = s2.heap.objs.size + 2 ∨ c = s2.heap.objs.size + 3 ∨ c = s2.heap.objs.size ∨ c = s2.heap.objs.size + 1 := by simpa using hcm
        have hle : s2.heap.objs.size ≤ c := by
          rcases e' with z | z | z | z | z
          · rw [z]; exact Nat.le_add_right _ _
          · rw [z]; exact Nat.le_add_right _ _
          · rw [z]; exact Nat.le_add_right _ _
          · rw [z]; exact Nat.le_refl _
          · rw [z]; exact Nat.le_add_right _ _
        exact I2.fpOk hle (I2.hok.fresh hle)
theorem walk_zipS {K : PySem.W.Frag} {b1 b2 : Bool} {a b : Addr} {vs ws : List V} {ds es : List D} {R0 : Hp} (h : SqX b1 K R0 a vs) (al : AtL K R0 ds vs) (h' : SqX b2 K R0 b ws) (al' : AtL K R0 es ws) (hl : ds.length = es.length) :
    Walk K (ItzS b1 b2 K a b) ((ds.zip es).map fun p => D.tup [p.1, p.2]) R0 := fun R H e1 e2 k => by
  have hs : SqX b1 K H a vs := sqX_le (e1.trans e2).le h
  have hs' : SqX b2 K H b ws := sqX_le (e1.trans e2).le h'
  rw [List.length_map, List.length_zip, ← hl, Nat.min_self]
  refine ⟨fun hk => ?_, fun hk => ⟨vs, ws, hs, hs', by rw [← al.length]; exact hk, by rw [← al'.length, ← hl]; exact hk⟩⟩
  obtain ⟨v, h1, h2⟩ := al.get (List.getElem?_eq_getElem hk)
  have hk' : k < es.length := by omega
  obtain ⟨w, h3, h4⟩ := al'.get (List.getElem?_eq_getElem hk')
  exact ⟨⟨vs, ws, v, w, hs, hs', h1, h3⟩, fun x H2 ⟨T, y, z, ex, hT, hH, hx, hy⟩ => by
    subst ex hH
    have q1 := hx vs hs
    rw [h1] at q1; cases q1
    have q2 := hy ws hs'
    rw [h3] at q2; cases q2
    have A := Al.sh (o := .tup [v, w]) e2 hT
    refine ⟨_, .tup [ds[k], es[k]], by rw [List.getElem?_map, (List.getElem?_zip_eq_some (z := (ds[k], es[k]))).mpr ⟨List.getElem?_eq_getElem hk, List.getElem?_eq_getElem hk'⟩]; rfl, A, ⟨T, _, rfl, .inl (.inl upd_same), .cons ((h2.mono e1.le).mono A.ex.le) (.cons ((h4.mono e1.le).mono A.ex.le) .nil)⟩⟩⟩
theorem At.seqX {K : PySem.W.Frag} {R : Hp} {d : D} {v : V} {ds : List D} (h : At K R d v) (e : itemsOf d = some ds) : ∃ b a vs, v = .ref a ∧ SqX b K R a vs ∧ AtL K R ds vs := by
  cases d with
  | lst xs => cases e; obtain ⟨a, vs, h0, h1, h2⟩ := h; exact ⟨true, a, vs, h0, .inl (.inl h1), h2⟩
  | tup xs => cases e; obtain ⟨a, vs, h0, h1, h2⟩ := h; exact ⟨false, a, vs, h0, h1, h2⟩
  | scr ns => cases e; obtain ⟨a, h0, h1⟩ := h; exact ⟨true, a, _, h0, h1, .ofScr ns⟩
  | _ => simp [itemsOf] at e
theorem zps_imp {X : Cx} {cf : Cf} {ces : Xs} {σ : L2.St} {H : Hp} {Q : It → Hp → Prop} (h : TIx cf X.K (.zps ces) σ H Q) : iZipS X.K (TLT cf X.K ces) σ H Q := by
  obtain ⟨env, R, ds, env', rep, ev, q⟩ := h
  simp only [Mi.evalI, Option.bind_eq_some_iff, Option.map_eq_some_iff] at ev
  obtain ⟨t, e1, xs, e2, e3⟩ := ev
  cases e3
  refine ⟨env, R, t.1, t.2, rep, e1, fun vs R1 H1 rep1 st1 at1 => ?_⟩
  unfold zipOf at e2
  split at e2
  · rename_i x y ex
    rw [ex] at at1
    simp only [Option.bind_eq_some_iff] at e2
    obtain ⟨xs', e4, ys', e5, e6⟩ := e2
    split at e6
    · rename_i hl
      cases e6
      obtain ⟨v, r, rfl, h1, w, r', rfl, h2, h3⟩ := at1
      cases (show r' = ([] : List V) from h3)
      obtain ⟨b1, a, vs, rfl, s1, l1⟩ := h1.seqX e4
      obtain ⟨b2, b, ws, rfl, s2, l2⟩ := h2.seqX e5
      exact ⟨b1, b2, a, b, rfl, ⟨vs, sqX_le rep1.ex.le s1⟩, ⟨ws, sqX_le rep1.ex.le s2⟩, q _ R1 H1 rep1 st1 (walk_zipS s1 l1 s2 l2 hl)⟩
    · cases e6
  · cases e2
end Mi

end

section
set_option linter.all false
set_option maxRecDepth 100000
set_option maxHeartbeats 4000000
/-! zip of two lists or of two tuples, not strict -/
namespace Mi
open PySem PySem.Spec PyProof.Rows L2 RZ
section
variable {prog : Program} {w : World} {A : Around} {E : Value → Shared → Prop} {s : Shared}
theorem meets_zipN {v1 v2 : Value} {o1 o2 : Obj} {H1 H2 : Heap → Prop} (B1 : Begins v1 o1 H1) (B2 : Begins v2 o2 H2) :
    Meets (Builtin.«zip.__new__» ⟨[.type "zip", v1, v2], [(Str.ofString "strict", .bool false)]⟩) (fun _ R s => (H1 s.heap ∧ H2 s.heap) ∧
      R (.ok (.ret (.ref (gzO2 s.heap o1 o2).objs.size))) { s with heap := gzZ2 s.heap o1 o2 }) :=
  .of_wp fun prog w A R s h => by
    obtain ⟨hp, g, d, tk, os⟩ := s; obtain ⟨⟨h1, h2⟩, h⟩ := h
    have hsub := sub_zip
    have q1 : ∀ {A' : Around} {E : Value → Shared → Prop} {Q : Value → Shared → Prop}, Q (.ref hp.objs.size) ⟨(hp.push o1), g, d, tk, os⟩ → wpAny (model prog w) A' (pyIter v1) Q E ⟨hp, g, d, tk, os⟩ :=
      fun q => B1.iter prog w _ _ ⟨hp, g, d, tk, os⟩ _ (B1.keeps _ _ h1 fun b o' e => e) q
    have q2 : ∀ {A' : Around} {E : Value → Shared → Prop} {Q : Value → Shared → Prop}, Q (.ref (hp.push o1).objs.size) ⟨((hp.push o1).push o2), g, d, tk, os⟩ → wpAny (model prog w) A' (pyIter v2) Q E ⟨(hp.push o1), g, d, tk, os⟩ :=
      fun q => B2.iter prog w _ _ ⟨(hp.push o1), g, d, tk, os⟩ _ (B2.keeps _ _ h2 fun b o' e => (Heap.get?_push_of_some _ e)) q
    have e1 : (Str.ofString "strict" != ("strict" : Str)) = false := by decide +kernel
    wp_walk using q1, q2
    exact ⟨_, rfl, h⟩
end
theorem zipN_begins {prog : Program} {w : World} {A : Around} {E : Value → Shared → Prop} {s : Shared} {v1 v2 : Value} {o1 o2 : Obj} {H1 H2 : Heap → Prop} {Q : Value → Shared → Prop} (B1 : Begins v1 o1 H1) (B2 : Begins v2 o2 H2) (h1 : H1 s.heap) (h2 : H2 s.heap)
    (h : ∀ h', IsZip h' (s.heap.objs.size + 4) (s.heap.objs.size + 2) (s.heap.objs.size + 3) .none → IsPair h' (s.heap.objs.size + 2) (.ref s.heap.objs.size) (.ref (s.heap.objs.size + 1)) →
      IsPair h' (s.heap.objs.size + 3) .none .none → h'.get? s.heap.objs.size = some o1 → h'.get? (s.heap.objs.size + 1) = some o2 →
      (∀ c o, s.heap.get? c = some o → h'.get? c = some o) → Q (.ref (s.heap.objs.size + 4)) { s with heap := h' }) :
    wpAny (model prog w) A (call (.type "zip") [v1, v2] [(Str.ofString "strict", .bool false)]) Q E s := by
  refine callType_newKw F.called_zip (by decide) (typeCall_zipS _ _ _) (newCall_zipS _ _ _) (fun obj => objInit_zipS obj _ _ _) F.entry_zip_new (meets_zipN B1 B2) ⟨⟨h1, h2⟩, ?_⟩
  have z1 : (s.heap.push o1).objs.size = s.heap.objs.size + 1 := by rw [Heap.size_push]
  have z2 : ((s.heap.push o1).push o2).objs.size = s.heap.objs.size + 2 := by rw [Heap.size_push, z1]
  have zT : (gzT2 s.heap o1 o2).objs.size = s.heap.objs.size + 3 := by rw [Heap.size_push, z2]
  have zO : (gzO2 s.heap o1 o2).objs.size = s.heap.objs.size + 4 := by rw [Heap.size_push, zT]
  have gZ : (gzZ2 s.heap o1 o2).get? (gzO2 s.heap o1 o2).objs.size = some { cls := .type "zip", data := .fields #[.none, .bool false, .bool false, .ref ((s.heap.push o1).push o2).objs.size, .ref (gzT2 s.heap o1 o2).objs.size] } := Heap.get?_push_size _ rfl
  have gO : (gzZ2 s.heap o1 o2).get? (gzT2 s.heap o1 o2).objs.size = some { cls := .type "tuple", data := .seq #[.none, .none] } := Heap.get?_push_of_some _ (Heap.get?_push_size _ rfl)
  have gT : (gzZ2 s.heap o1 o2).get? ((s.heap.push o1).push o2).objs.size = some { cls := .type "tuple", data := .seq #[.ref s.heap.objs.size, .ref (s.heap.push o1).objs.size] } := Heap.get?_push_of_some _ (Heap.get?_push_of_some _ (Heap.get?_push_size _ rfl))
  have g1 : (gzZ2 s.heap o1 o2).get? s.heap.objs.size = some o1 := Heap.get?_push_of_some _ (Heap.get?_push_of_some _ (Heap.get?_push_of_some _ (Heap.get?_push_of_some _ (Heap.get?_push_size _ B1.free))))
  have g2 : (gzZ2 s.heap o1 o2).get? (s.heap.push o1).objs.size = some o2 := Heap.get?_push_of_some _ (Heap.get?_push_of_some _ (Heap.get?_push_of_some _ (Heap.get?_push_size _ B2.free)))
  rw [zO, zT, z2] at gZ
  rw [zT] at gO
  rw [z2, z1] at gT
  rw [z1] at g2
  show _ ∧ _
  rw [zO]
  exact ⟨⟨_, gZ, rfl⟩, h _ gZ gT gO g1 g2 fun c o e => Heap.get?_push_of_some _ (Heap.get?_push_of_some _ (Heap.get?_push_of_some _ (Heap.get?_push_of_some _ (Heap.get?_push_of_some _ e))))⟩

theorem pi_zipN {X : Cx} {e e2 : Expr} {ta : TA} {p pos tpos kp cp : Pos} {elts : List Expr} {kk ck : Nat} (hg : Gl X "zip") (hm : X.mg "zip" = none) (ha : PA X [e, e2] ta)
    (hs : starEach [e, e2] X.env = (false, PySem.eval e X.env) :: starEach [e2] X.env := by rfl) (hpl : (backTo pos (starEach [e, e2] X.env)).any (·.1) = false := by rfl) :
    PI X (.Tuple elts kk tpos) (.Call (.Name "zip" p) [e, e2] [⟨some "strict", .Constant (.bool false) ck cp, kp⟩] pos) (iZipA X.K ta) := by
  refine ⟨fun pins s σ H R I h => ?_⟩
  refine wpAny_Call_Name_kw (ld_blt I hg hm PyProof.Rows.boot_zip ?_)
  have hk : PK X [⟨some "strict", .Constant (.bool false) ck cp, kp⟩] (tCons (tC (.bl false)) tNil) := pk_cons pe_bl pk_nil
  refine cw_type_kw (thn (ha.run pos pins s σ H _ I h) fun us s1 ⟨vs, H1, I1, r1, q1⟩ => ?_) hs hpl rfl rfl
  obtain ⟨a, b, xs, ys, ex, q1⟩ := q1
  subst ex
  refine thn (hk.run pos pins s1 σ H1 (fun zs H2 => zs = [.bl false] ∧ H2 = H1) I1 ⟨rfl, rfl⟩) fun ws s2 ⟨zs, H2, I2, rz, e1, e2⟩ => ?_
  subst e1 e2
  cases r1 with
  | cons r rr =>
    cases rr with
    | cons r' rr =>
      cases rr
      cases r
      cases r'
      cases rz with
      | cons rb rr =>
        cases rr
        cases rb
        have fresh5 : ∀ c, c ∈ [s2.heap.objs.size + 4, s2.heap.objs.size + 2, s2.heap.objs.size + 3, s2.heap.objs.size, s2.heap.objs.size + 1] → FpOk X pins H2 c := fun c hcm => by
          have e' : c = s2.heap.objs.size + 4 ∨ c = s2.heap.objs.size + 2 ∨ c = s2.heap.objs.size + 3 ∨ c = s2.heap.objs.size ∨ c = s2.heap.objs.size + 1 := by simpa using hcm
          have hle : s2.heap.objs.size ≤ c := by
            rcases e' with z | z | z | z | z
            · rw [z]; exact Nat.le_add_right _ _
            · rw [z]; exact Nat.le_add_right _ _
            · rw [z]; exact Nat.le_add_right _ _
            · rw [z]; exact Nat.le_refl _
            · rw [z]; exact Nat.le_add_right _ _
          exact I2.fpOk hle (I2.hok.fresh hle)
        show wpAny (model X.prog X.w) X.A (call (.type "zip") [.ref a, .ref b] [(Str.ofString "strict", .bool false)]) _ _ _
        rcases q1 with ⟨hqx, hqy, q⟩ | ⟨hqx, hqy, q⟩
        · obtain ⟨its, rv, p1, _⟩ := I2.list hqx
          obtain ⟨its2, rv2, p2, _⟩ := I2.list hqy
          refine zipN_begins (begins_list a its.toArray) (begins_list b its2.toArray) p1.isList p2.isList fun h' hz hTI hTO h1 h2 hk => wpAny_pyIter_zip hz ?_
          have I3 : Inv X pins σ H2 { s2 with heap := h' } := I2.kept (t' := s2.toks) hk
          exact ⟨s2.heap.objs.size + 4, [s2.heap.objs.size + 4, s2.heap.objs.size + 2, s2.heap.objs.size + 3, s2.heap.objs.size, s2.heap.objs.size + 1], _, _, H2, rfl, I3, turn_zip (PySem.W.ktu_apart s2.heap.objs.size a b p1.lt p2.lt), ⟨hz, hTI, ⟨_, _, hTO⟩, ⟨_, h1, rfl, rfl⟩, ⟨_, h2, rfl, rfl⟩⟩, fresh5, q⟩
        · obtain ⟨its, rv, p1, _⟩ := I2.tuple hqx
          obtain ⟨its2, rv2, p2, _⟩ := I2.tuple hqy
          obtain ⟨o1, ho1, _⟩ := id p1
          obtain ⟨o2, ho2, _⟩ := id p2
          refine zipN_begins (begins_tuple a its.toArray) (begins_tuple b its2.toArray) p1 p2 fun h' hz hTI hTO h1 h2 hk => wpAny_pyIter_zip hz ?_
          have I3 : Inv X pins σ H2 { s2 with heap := h' } := I2.kept (t' := s2.toks) hk
          exact ⟨s2.heap.objs.size + 4, [s2.heap.objs.size + 4, s2.heap.objs.size + 2, s2.heap.objs.size + 3, s2.heap.objs.size, s2.heap.objs.size + 1], _, _, H2, rfl, I3, turn_zipT (PySem.W.ktu_apart s2.heap.objs.size a b (Heap.lt_size ho1) (Heap.lt_size ho2)), ⟨hz, hTI, ⟨_, _, hTO⟩, ⟨_, h1, rfl, rfl⟩, ⟨_, h2, rfl, rfl⟩⟩, fresh5, q⟩
theorem walk_zipL {K : PySem.W.Frag} {a b : Addr} {vs ws : List V} {ds es : List D} {R0 : Hp} (h : SqL K R0 a vs) (al : AtL K R0 ds vs) (h' : SqL K R0 b ws) (al' : AtL K R0 es ws) :
    Walk K (Itz K a b) ((ds.zip es).map fun p => D.tup [p.1, p.2]) R0 := fun R H e1 e2 k => by
  have hs : SqL K H a vs := le_sl (e1.trans e2).le h
  have hs' : SqL K H b ws := le_sl (e1.trans e2).le h'
  rw [List.length_map, List.length_zip]
  refine ⟨fun hk => ?_, fun hk => ⟨vs, ws, hs, hs', by rw [← al.length, ← al'.length]; omega⟩⟩
  have hk1 : k < ds.length := by omega
  have hk' : k < es.length := by omega
  obtain ⟨v, h1, h2⟩ := al.get (List.getElem?_eq_getElem hk1)
  obtain ⟨w, h3, h4⟩ := al'.get (List.getElem?_eq_getElem hk')
  exact ⟨⟨vs, ws, v, w, hs, hs', h1, h3⟩, fun x H2 ⟨T, y, z, ex, hT, hH, hx, hy⟩ => by
    subst ex hH
    have q1 := hx vs hs
    rw [h1] at q1; cases q1
    have q2 := hy ws hs'
    rw [h3] at q2; cases q2
    have A := Al.sh (o := .tup [v, w]) e2 hT
    refine ⟨_, .tup [ds[k], es[k]], by rw [List.getElem?_map, (List.getElem?_zip_eq_some (z := (ds[k], es[k]))).mpr ⟨List.getElem?_eq_getElem hk1, List.getElem?_eq_getElem hk'⟩]; rfl, A, ⟨T, _, rfl, .inl (.inl upd_same), .cons ((h2.mono e1.le).mono A.ex.le) (.cons ((h4.mono e1.le).mono A.ex.le) .nil)⟩⟩⟩
theorem walk_zipT {K : PySem.W.Frag} {a b : Addr} {vs ws : List V} {ds es : List D} {R0 : Hp} (h : SqT K R0 a vs) (al : AtL K R0 ds vs) (h' : SqT K R0 b ws) (al' : AtL K R0 es ws) :
    Walk K (ItzT K a b) ((ds.zip es).map fun p => D.tup [p.1, p.2]) R0 := fun R H e1 e2 k => by
  have hs : SqT K H a vs := le_st (e1.trans e2).le h
  have hs' : SqT K H b ws := le_st (e1.trans e2).le h'
  rw [List.length_map, List.length_zip]
  refine ⟨fun hk => ?_, fun hk => ⟨vs, ws, hs, hs', by rw [← al.length, ← al'.length]; omega⟩⟩
  have hk1 : k < ds.length := by omega
  have hk' : k < es.length := by omega
  obtain ⟨v, h1, h2⟩ := al.get (List.getElem?_eq_getElem hk1)
  obtain ⟨w, h3, h4⟩ := al'.get (List.getElem?_eq_getElem hk')
  exact ⟨⟨vs, ws, v, w, hs, hs', h1, h3⟩, fun x H2 ⟨T, y, z, ex, hT, hH, hx, hy⟩ => by
    subst ex hH
    have q1 := hx vs hs
    rw [h1] at q1; cases q1
    have q2 := hy ws hs'
    rw [h3] at q2; cases q2
    have A := Al.sh (o := .tup [v, w]) e2 hT
    refine ⟨_, .tup [ds[k], es[k]], by rw [List.getElem?_map, (List.getElem?_zip_eq_some (z := (ds[k], es[k]))).mpr ⟨List.getElem?_eq_getElem hk1, List.getElem?_eq_getElem hk'⟩]; rfl, A, ⟨T, _, rfl, .inl (.inl upd_same), .cons ((h2.mono e1.le).mono A.ex.le) (.cons ((h4.mono e1.le).mono A.ex.le) .nil)⟩⟩⟩
theorem zpn_imp {X : Cx} {cf : Cf} {ces : Xs} {σ : L2.St} {H : Hp} {Q : It → Hp → Prop} (h : TIx cf X.K (.zpn ces) σ H Q) : iZipA X.K (TLT cf X.K ces) σ H Q := by
  obtain ⟨env, R, ds, env', rep, ev, q⟩ := h
  simp only [Mi.evalI, Option.bind_eq_some_iff, Option.map_eq_some_iff] at ev
  obtain ⟨t, e1, xs, e2, e3⟩ := ev
  cases e3
  refine ⟨env, R, t.1, t.2, rep, e1, fun vs R1 H1 rep1 st1 at1 => ?_⟩
  unfold zpnOf at e2
  split at e2
  · rename_i x y ex
    rw [ex] at at1
    cases e2
    obtain ⟨v, r, rfl, h1, w, r', rfl, h2, h3⟩ := at1
    cases (show r' = ([] : List V) from h3)
    obtain ⟨a, vs, rfl, s1, l1⟩ := h1
    obtain ⟨b, ws, rfl, s2, l2⟩ := h2
    have s1' : SqL X.K R1 a vs := .inl (.inl s1)
    have s2' : SqL X.K R1 b ws := .inl (.inl s2)
    exact ⟨a, b, vs, ws, rfl, .inl ⟨le_sl rep1.ex.le s1', le_sl rep1.ex.le s2', q _ R1 H1 rep1 st1 (walk_zipL s1' l1 s2' l2)⟩⟩
  · rename_i x y ex
    rw [ex] at at1
    cases e2
    obtain ⟨v, r, rfl, h1, w, r', rfl, h2, h3⟩ := at1
    cases (show r' = ([] : List V) from h3)
    obtain ⟨a, vs, rfl, s1, l1⟩ := h1
    obtain ⟨b, ws, rfl, s2, l2⟩ := h2
    exact ⟨a, b, vs, ws, rfl, .inr ⟨le_st rep1.ex.le s1, le_st rep1.ex.le s2, q _ R1 H1 rep1 st1 (walk_zipT s1 l1 s2 l2)⟩⟩
  · cases e2
end Mi

end

section
set_option linter.all false
set_option maxRecDepth 100000
set_option maxHeartbeats 4000000
/-! MiH: more methods of lists: extend, insert, remove; index -/
namespace Mi
open PySem PySem.Spec PyProof.Rows L2
section
variable {X : Cx}
theorem om_extend : MtR X "list.extend" (rMu X.K .extend) := by
  intro pins s σ H x xs v us Q I rx rv h
  obtain ⟨a, R, d, ds, d', r, rfl, e, hn, ho, al, hf, q⟩ := h
  simp only [mutF] at hf
  unfold extendF at hf
  split at hf
  · split at hf
    · rename_i hz
      cases hf
      obtain ⟨vs, h1, h2⟩ := ho
      obtain ⟨y, r', rfl, h3, h4⟩ := al
      cases (show r' = [] from h4)
      obtain ⟨b, ws, rfl, h5, h6⟩ := h3
      exact mt_extend pins s σ H _ _ v us Q I rx rv ⟨a, b, vs, ws, rfl, rfl, h1, e _ _ h5, by rw [← h2.length, ← h6.length]; exact hz, q _ _ ⟨_, upd_same, h2.append h6⟩ trivial ⟨_, rfl, rfl⟩⟩
    · cases hf
  · cases hf
theorem om_insert : MtR X "list.insert" (rMu X.K .insert) := by
  intro pins s σ H x xs v us Q I rx rv h
  obtain ⟨a, R, d, ds, d', r, rfl, e, hn, ho, al, hf, q⟩ := h
  simp only [mutF] at hf
  unfold insertF at hf
  split at hf
  · rename_i ds i d
    split at hf
    · rename_i hz
      cases hf
      obtain ⟨vs, h1, h2⟩ := ho
      obtain ⟨y, r', rfl, h3, h4⟩ := al
      obtain ⟨z, r'', rfl, h5, h6⟩ := h4
      cases (show r'' = [] from h6)
      cases (show y = .int i from h3)
      exact mt_insert pins s σ H _ _ v us Q I rx rv ⟨a, vs, i, z, rfl, rfl, h1, by rw [← h2.length]; exact hz.2.2, hz.1, hz.2.1, q _ _ ⟨_, upd_same, ((h2.take _).append (.cons h5 AtL.nil)).append (h2.drop _)⟩ trivial ⟨_, rfl, rfl⟩⟩
    · cases hf
  · cases hf
theorem AtL.ofI {K : PySem.W.Frag} {R : Hp} : ∀ ns : List Int, AtL K R (ns.map D.int) (ns.map V.int)
  | [] => AtL.nil
  | n :: ns => .cons (show At K R (.int n) (.int n) from rfl) (AtL.ofI ns)
theorem om_remove : MtR X "list.remove" (rMu X.K .remove) := by
  intro pins s σ H x xs v us Q I rx rv h
  obtain ⟨a, R, d, ds, d', r, rfl, e, hn, ho, al, hf, q⟩ := h
  simp only [mutF] at hf
  unfold removeF at hf
  split at hf
  · rename_i ds k
    simp only [Option.bind_eq_some_iff] at hf
    obtain ⟨ns, hns, hf⟩ := hf
    split at hf
    · rename_i hk
      cases hf
      have e1 := dInts_eq hns
      subst e1
      obtain ⟨vs, h1, h2⟩ := ho
      rw [h2.ofInts] at h1
      obtain ⟨y, r', rfl, h3, h4⟩ := al
      cases (show r' = [] from h4)
      cases (show y = .int k from h3)
      have hlt := List.idxOf_lt_length_of_mem hk
      refine mt_remove pins s σ H _ _ v us Q I rx rv ⟨a, ns, k, ns.idxOf k, rfl, rfl, h1, ?_, ?_, q _ _ ⟨_, upd_same, AtL.ofI _⟩ trivial ⟨_, rfl, rfl⟩⟩
      · rw [List.getElem?_eq_getElem hlt, List.getElem_idxOf hlt]
      · intro m hm he
        obtain ⟨hm2, he2⟩ := List.getElem?_eq_some_iff.mp he
        have := List.not_of_lt_findIdx hm
        simp [he2] at this
    · cases hf
  · cases hf
def rLo (K : PySem.W.Frag) (m : Lok) : V → List V → Hp → VK → Prop := fun x vs H Q => ∃ R d ds r, Ex R H ∧ Pk K R H d x ∧ PkL K R H ds vs ∧ lokF m d ds = some r ∧ Fin K R H r Q
theorem toPyL_get : ∀ (ds : List D) (j : Nat), (toPyL ds)[j]? = (ds[j]?).map toPy
  | [], j => by simp [toPyL]
  | d :: ds, 0 => by simp [toPyL]
  | d :: ds, j + 1 => by simp [toPyL, toPyL_get ds j]
theorem ol_index (hu : X.A.units + 65 < cLine) : MtR X "list.index" (rLo X.K .index) := by
  intro pins s σ H x xs v us Q I rx rv h
  obtain ⟨R, d, ds, r, e, hp, hps, hf, q⟩ := h
  simp only [lokF] at hf
  unfold indexF at hf
  split at hf
  · rename_i es y
    split at hf
    · rename_i hs
      simp only [Bool.and_eq_true] at hs
      obtain ⟨s1, s2⟩ := hs
      simp only [Option.map_eq_some_iff] at hf
      obtain ⟨j, hj, rfl⟩ := hf
      obtain ⟨z, rfl, hz⟩ := hps.one
      have t1 : shp (.lst es) = true := shp_of s1
      have t2 : shp y = true := shp_of s2
      have t3 : shpL es = true := by simpa only [shp] using t1
      obtain ⟨a, vs, rfl, h1, h2⟩ := hp.lst e
      obtain ⟨hj1, hj2, hj3⟩ := List.findIdx?_eq_some_iff_getElem.mp hj
      refine mt_indexD hu pins s σ H _ _ v us Q I rx rv ⟨a, z, toPy y, toPyL es, j, toPy es[j], rfl, rfl, ?_, hz.dp e t2, ?_, toPy_shaped s2, ?_, ?_, ?_, q.sc e rfl⟩
      · exact hp.dp e t1
      · exact toPy_shaped s1
      · rw [toPyL_get, List.getElem?_eq_getElem hj1]; rfl
      · rw [toPy_eqv _ _ (shpL_mem t3 _ (List.getElem_mem hj1)) t2]; exact hj2
      · intro m z' hm hz'
        rw [toPyL_get, List.getElem?_eq_getElem (by omega)] at hz'
        cases hz'
        rw [toPy_eqv _ _ (shpL_mem t3 _ (List.getElem_mem (by omega))) t2]
        have := hj3 m hm
        simpa using this
    · cases hf
  · cases hf
variable {cf : Cf} {a e : Expr} {es : List Expr} {ca : Xp} {ces : Xs}
theorem td_lok {m : Lok} {name : Str} {apos cpos : Pos} {id : String} (hm : MtR X id (rLo X.K m)) (slot : Slot "list" name id) (hty : typeOf (.builtin id) = pure (.type "method_descriptor")) (ho : PE X a (TD cf X.K ca)) (ha : PA X (e :: es) (TL cf X.K ces))
    (hp : plnAll (e :: es) = true) (hr : recv a = true) (hl : (apos.endLine == cpos.line) = true) (hfew : (e :: es).length < 20) : PE X (.Call (.Attribute a name apos) (e :: es) [] cpos) (TD cf X.K (.lok m ca ces)) := by
  have hx : ((backTo cpos (starEach (e :: es) X.env)).all (fun x => !x.1) && (backToKw cpos (keywordEach [] X.env)).all (fun x => x.1.isSome) && decide ((e :: es).length + ([] : List Keyword).length + (if ([] : List Keyword).isEmpty then 0 else 1) < 30)) = true := by
    rw [star_all X.env cpos hp]
    have : (e :: es).length < 30 := by omega
    simp only [keywordEach, backToKw, List.map_nil, List.all_nil, Bool.true_and, List.length_nil, Nat.add_zero, List.isEmpty_nil, if_true, decide_eq_true_eq]
    exact this
  refine imp_e (pe_bm PySem.F.plainAttrs_list slot hty hm ho ha (recv_base hr) hx hl (star_pln (pln_cons hp).1 es X.env) (star_any X.env cpos (pln_cons hp).2)) fun σ H Q h => ?_
  obtain ⟨env, R, rv, env', rep, ev, q⟩ := h
  simp only [Mi.eval, Option.bind_eq_some_iff] at ev
  obtain ⟨p, e1, y, e2, e3⟩ := ev
  split at e3
  · rename_i hy
    simp only [Option.bind_eq_some_iff, Option.map_eq_some_iff] at e3
    obtain ⟨t, e4, x, e5, ds, e6, r, e7, e8⟩ := e3
    cases e8
    refine ⟨env, R, p.1, p.2, rep, e1, fun v1 R1 H1 rep1 st1 at1 => ?_⟩
    have hpk := at1.pk rep1 e2
    cases y with
    | lst ys =>
      obtain ⟨a1, vs1, rfl, hl1, _⟩ := hpk.lst rep1.ex
      refine ⟨.inl ⟨rfl, vs1, .inl (.inl hl1)⟩, p.2, R1, _, _, rep1, e4, fun vs R2 H2 rep2 st2 al => ?_⟩
      exact ⟨R2, x, ds, _, rep2.ex, (at1.later st2).pk rep2 e5, al.pks rep2 e6, e7, fun v R3 H3 al3 ro => q v R3 H3 (al3.rep rep2) ((st1.trans st2).trans al3.st) ((ro.at rep2).since fun b hb => st2.fr.dom b (st1.fr.dom b hb))⟩
    | _ => simp [isLst] at hy
  · cases e3
/-- extend, its argument looked at -/
def rMx (K : PySem.W.Frag) : V → List V → Hp → VK → Prop := fun x vs H Q => ∃ a R d ds d' r, x = .ref a ∧ Ex R H ∧ R a = none ∧ Own K R H a d ∧ PkL K R H ds vs ∧ extendF d ds = some (d', r) ∧
  ∀ v o, Own K R (upd H a o) a d' → Mut (some o) → (∃ dv, r = .v dv ∧ At K R dv v) → Q v (upd H a o)
theorem om_extendX : MtR X "list.extend" (rMx X.K) := by
  intro pins s σ H x xs v us Q I rx rv h
  obtain ⟨a, R, d, ds, d', r, rfl, e, hn, ho, al, hf, q⟩ := h
  unfold extendF at hf
  split at hf
  · split at hf
    · rename_i hz
      cases hf
      obtain ⟨vs, h1, h2⟩ := ho
      obtain ⟨y, rfl, hy⟩ := al.one
      obtain ⟨b, ws, rfl, h5, h6⟩ := hy.lst e
      exact mt_extend pins s σ H _ _ v us Q I rx rv ⟨a, b, vs, ws, rfl, rfl, h1, h5, by rw [← h2.length, ← h6.length]; exact hz, q _ _ ⟨_, upd_same, h2.append h6⟩ trivial ⟨_, rfl, rfl⟩⟩
    · cases hf
  · cases hf
theorem mux_end {σ : L2.St} {H H2 : Hp} {env env2 env3 : Env} {R R2 : Hp} {i : Nat} {v : V} {vs : List V} {ds : List D} {d d' : D} {r : Rv} {Q : VK} (rep2 : Rep X.K env2 σ R2 H2) (st2 : ESt env σ R H env2 R2 H2) (hv : σ[i]? = some (some v)) (al : PkL X.K R2 H2 ds vs)
    (e4 : ownOf env2 i = some d) (e5 : extendF d ds = some (d', r)) (e6 : setOwn env2 i d' = some env3)
    (q : ∀ v R' H', Rep X.K env3 σ R' H' → ESt env σ R H env3 R' H' → RvAt X.K env3 σ R' H' H v r → Q v H') : rMx X.K v vs H2 Q := by
  obtain ⟨a, rfl, h1, h2⟩ := own_at rep2 hv e4
  refine ⟨a, R2, d, ds, d', r, rfl, rep2.ex, h1, h2, al, e5, fun w o how hmo hr => ?_⟩
  obtain ⟨rep3, st3⟩ := rep2.change hv e4 e6 how
  obtain ⟨dv, rfl, hat⟩ := hr
  exact q w R2 _ rep3 (st2.trans st3) hat
theorem td_mux {name : Str} {apos cpos : Pos} {id : String} (hm : MtR X id (rMx X.K)) (slot : Slot "list" name id) (hty : typeOf (.builtin id) = pure (.type "method_descriptor")) (ho : PE X a (TD cf X.K ca)) (ha : PA X (e :: es) (TL cf X.K ces))
    (hp : plnAll (e :: es) = true) (hr : recv a = true) (hl : (apos.endLine == cpos.line) = true) (hfew : (e :: es).length < 20) : PE X (.Call (.Attribute a name apos) (e :: es) [] cpos) (TD cf X.K (.mux ca ces)) := by
  have hx : ((backTo cpos (starEach (e :: es) X.env)).all (fun x => !x.1) && (backToKw cpos (keywordEach [] X.env)).all (fun x => x.1.isSome) && decide ((e :: es).length + ([] : List Keyword).length + (if ([] : List Keyword).isEmpty then 0 else 1) < 30)) = true := by
    rw [star_all X.env cpos hp]
    have : (e :: es).length < 30 := by omega
    simp only [keywordEach, backToKw, List.map_nil, List.all_nil, Bool.true_and, List.length_nil, Nat.add_zero, List.isEmpty_nil, if_true, decide_eq_true_eq]
    exact this
  refine imp_e (pe_bm PySem.F.plainAttrs_list slot hty hm ho ha (recv_base hr) hx hl (star_pln (pln_cons hp).1 es X.env) (star_any X.env cpos (pln_cons hp).2)) fun σ H Q h => ?_
  obtain ⟨env, R, rv, env', rep, ev, q⟩ := h
  simp only [Mi.eval, Option.bind_eq_some_iff] at ev
  obtain ⟨p, e1, e3⟩ := ev
  split at e3
  · rename_i i ei
    split at e3
    · rename_i hla
      simp only [Option.bind_eq_some_iff, Option.map_eq_some_iff] at e3
      obtain ⟨t, e2, ds, e2', d, e4, r, e5, env2, e6, e7⟩ := e3
      cases e7
      refine ⟨env, R, p.1, p.2, rep, e1, fun v1 R1 H1 rep1 st1 at1 => ?_⟩
      rw [ei] at at1
      obtain ⟨a1, vs1, rfl, hl1⟩ := own_lst rep1 at1.1 hla
      exact ⟨.inl ⟨rfl, vs1, .inl (.inl hl1)⟩, p.2, R1, _, _, rep1, e2, fun vs R2 H2 rep2 st2 al => mux_end rep2 (st1.trans st2) at1.1 (al.pks rep2 e2') e4 e5 e6 q⟩
    · cases e3
  · cases e3
theorem walk_rangeD {K : PySem.W.Frag} {lo : Int} {n : Nat} {R0 : Hp} : Walk K (Itc lo (-1) n) ((List.range n).map fun (k : Nat) => D.int (lo - k)) R0 := fun R H e1 e2 k => by
  rw [List.length_map, List.length_range]
  refine ⟨fun hk => ⟨hk, fun x H2 ⟨hH, hx⟩ => ?_⟩, fun hk => Nat.le_of_eq hk⟩
  subst hH
  exact ⟨R, .int (lo - k), by rw [List.getElem?_map, List.getElem?_range hk]; rfl, .refl e2, by rw [hx]; show V.int _ = V.int _; congr 1; omega⟩
theorem rn3_imp {c1 c2 c3 : Xp} {σ : L2.St} {H : Hp} {Q : It → Hp → Prop} (h : TIx cf X.K (.rn3 (.cons c1 (.cons c2 (.cons c3 .nil)))) σ H Q) : iRng3 (TL cf X.K (.cons c1 (.cons c2 (.cons c3 .nil)))) σ H Q := by
  obtain ⟨env, R, ds, env', rep, ev, q⟩ := h
  simp only [Mi.evalI, Option.bind_eq_some_iff, Option.map_eq_some_iff] at ev
  obtain ⟨p, e1, ds', e2, xs, e3, e4⟩ := ev
  cases e4
  refine ⟨env, R, p.1, p.2, rep, e1, fun vs R1 H1 rep1 st1 at1 => ?_⟩
  have pk := RvL.pks rep1 at1 e2
  unfold range3Of at e3
  split at e3
  · rename_i i j c
    split at e3
    · rename_i hj
      cases e3
      obtain ⟨hc, h1, h2⟩ := hj
      subst hc
      obtain ⟨v, r, rfl, hv, w, r', rfl, hw, z, r'', rfl, hz, h3⟩ := pk
      cases (show r'' = [] from h3)
      obtain ⟨b1, b2⟩ := big_iff h1
      obtain ⟨b3, b4⟩ := big_iff h2
      exact ⟨i, j, -1, _, by rw [hv.int, hw.int, hz.int], RgC.neg b1 b2 b3 b4, q _ R1 H1 rep1 st1 walk_rangeD⟩
    · cases e3
  · cases e3
end
end Mi

end

section
set_option Elab.async false
set_option linter.all false
set_option maxRecDepth 100000
namespace Mi
open PySem PySem.Spec PyProof.Rows L2

section
variable {X : Cx}
def rg3V (c : Int) (n : Nat) : List V := (List.range n).map fun i => V.int ((i : Nat) * c)
def tLstRg3 (ta : TA) : TE := fun σ H Q => ta σ H fun vs H1 => ∃ j c : Int, vs = [.int 0, .int j, .int c] ∧ 0 ≤ j ∧ j < 1048576 ∧ 1 ≤ c ∧ c < 1048576 ∧ ∀ q, H1 q = none → Q (.ref q) (upd H1 q (.lst (rg3V c ((j + c - 1) / c).toNat)))
theorem small_3 {j c : Int} (h0 : 0 ≤ j) (h1 : j < 1048576) (h2 : 1 ≤ c) (h3 : c < 1048576) : Builtin.Range.small 0 j c = true := by
  have e := PyProof.Rows.rangeSize_pos h2 h0
  have hn : 0 ≤ (j + c - 1) / c := Int.ediv_nonneg (by omega) (by omega)
  have hm : (j + c - 1) / c * c ≤ j + c - 1 := Int.ediv_mul_le _ (by omega)
  have hl : (j + c - 1) / c ≤ j + c - 1 := by
    rcases Int.lt_or_le ((j + c - 1) / c) 0 with h | h
    · omega
    · have : (j + c - 1) / c * 1 ≤ (j + c - 1) / c * c := Int.mul_le_mul_of_nonneg_left h2 h
      omega
  unfold Builtin.Range.small
  rw [e]
  simp only [Builtin.Range.rangeFitsLong, Bool.and_eq_true, Bool.or_eq_true, decide_eq_true_eq, beq_iff_eq]
  rw [if_pos (by omega : c > 0)]
  simp only [Bool.and_eq_true, decide_eq_true_eq]
  omega
theorem pe_listRg3 {a b c : Expr} {ta : TA} {p p2 p3 pos : Pos} (hc : X.calm = true) (hg : Gl X "list") (hm : X.mg "list" = none) (hg2 : Gl X "range") (hm2 : X.mg "range" = none) (ha : PA X [a, b, c] ta)
    (hs : starEach [a, b, c] X.env = (false, PySem.eval a X.env) :: starEach [b, c] X.env) (hpl : (backTo p3 (starEach [b, c] X.env)).any (·.1) = false)
    (na : starEach [.Call (.Name "range" p2) [a, b, c] [] p3] X.env = (false, PySem.eval (.Call (.Name "range" p2) [a, b, c] [] p3) X.env) :: starEach [] X.env) :
    PE X (.Call (.Name "list" p) [.Call (.Name "range" p2) [a, b, c] [] p3] [] pos) (tLstRg3 ta) := by
  refine ⟨fun pins s σ H Q I h => ?_⟩
  refine Call_ (ld_blt I hg hm boot_list (PyProof.Rows.callWith_type1 (args_cons (Call_ (ld_blt I hg2 hm2 boot_range (PyProof.Rows.callWith_type1 (thn (ha.run p3 pins s σ H _ I h) fun us s1 ⟨vs, H1, I1, r1, q1⟩ => ?_) hs hpl))) na) na))
  obtain ⟨j, k, e, c0, c1, c2, c3, q⟩ := q1
  subst e
  cases r1 with
  | cons r rr =>
    cases rr with
    | cons r' rr =>
      cases rr with
      | cons r'' rr =>
        cases rr
        obtain ⟨t, rfl⟩ := r
        obtain ⟨t', rfl⟩ := r'
        obtain ⟨t'', rfl⟩ := r''
        refine call_range_3 (by omega) ?_ (.inl (PyProof.noPylong_small (by omega)))
        refine args_nil ?_
        have I2 : Inv X pins σ H1 { s1 with heap := s1.heap.push { cls := .type "range", data := .fields #[.int 0 t, .int j t', .int k t''] } } := I1.kept (t' := s1.toks) fun b o e => Heap.get?_push_of_some _ e
        have hsz : Builtin.Range.rangeSize 0 j k = (((j + k - 1) / k).toNat : Int) := by rw [PyProof.Rows.rangeSize_pos c2 c0]; have := Int.ediv_nonneg (show 0 ≤ j + k - 1 by omega) (show 0 ≤ k by omega); omega
        have hle : ((j + k - 1) / k).toNat ≤ 2 ^ 22 := by
          have hn : 0 ≤ (j + k - 1) / k := Int.ediv_nonneg (by omega) (by omega)
          have hm : (j + k - 1) / k * k ≤ j + k - 1 := Int.ediv_mul_le _ (by omega)
          have : (j + k - 1) / k * 1 ≤ (j + k - 1) / k * k := Int.mul_le_mul_of_nonneg_left c2 hn
          omega
        refine call_list_range (I2.ok.hd hc) (IsRange.new _ _ _ _ _ _ _) (small_3 c0 c1 c2 c3) hsz (by omega) fun h' tk acc c' hk e' hi => ?_
        refine ⟨.ref _, upd H1 _ (.lst (rg3V k ((j + k - 1) / k).toNat)), I2.laid hk (Nat.le_refl _) (show ObjOk X.prog X.w _ _ _ (.lst (rg3V k ((j + k - 1) / k).toNat)) from ⟨?_, acc.toList, c', ?_, ?_⟩), rfl, q _ (I2.hok.fresh (Nat.le_refl _))⟩
        · unfold rg3V; rw [List.length_map, List.length_range, sizeLine_eq]; omega
        · have e : acc.toList.length = ((j + k - 1) / k).toNat := by rw [Array.length_toList]; exact hi.1
          unfold rg3V
          rw [← e]
          refine vals_of_get acc.toList _ fun m u hj => ?_
          obtain ⟨t, rfl⟩ := hi.2 m u (by rw [← hj, Array.getElem?_toList])
          exact ⟨t, by rw [Int.zero_add]⟩
        · rw [Array.toArray_toList]; exact e'
end
end Mi

end

section
set_option linter.all false
set_option maxRecDepth 100000
set_option maxHeartbeats 4000000
/-! Mi12: every compiled expression is sound -/
namespace Mi
open PySem PySem.Spec PyProof.Rows L2

section
variable {X : Cx} {T : Tab} {cf : Cf} {N : List Str} {sc : Scope}
theorem Gd.blk (G : Gd T cf X N sc) (s : Shared) (H : Hp) (scope : Scope) (C : Addr) (cl : List (Str × Addr)) (fp : List Addr) : Gd T cf (X.blk s H scope (compEnvC scope cl C X.env) fp) N (relS scope sc) :=
  ⟨G.hN, G.nd, by rw [← G.hsc]; rfl, G.calm, rfl, G.con, G.free, G.gcd, G.hu, G.call⟩
theorem pi_dict {tg : Expr} {x : Str} {i : Nat} {pos : Pos} (G : Gd T cf X N sc) (h : slotOf N sc x = some i) : PI X tg (.Name x pos) (iKeys (tVar i)) := by
  unfold slotOf at h
  split at h
  · rename_i hc
    obtain ⟨h1, h2, h3, h4⟩ := hc
    cases h
    exact pi_keys (pe_var (i := N.idxOf x) (by rw [G.hN]; exact h2) (by rw [G.hsc]; exact h1) h3 h4)
  · cases h
theorem slotOf_ok {x : Str} {i : Nat} {pos : Pos} (G : Gd T cf X N sc) (h : slotOf N sc x = some i) : PE X (.Name x pos) (TD cf X.K (.var i)) := by
  unfold slotOf at h
  split at h
  · rename_i hc
    obtain ⟨h1, h2, h3, h4⟩ := hc
    cases h
    refine imp_e (pe_var (i := N.idxOf x) (by rw [G.hN]; exact h2) (by rw [G.hsc]; exact h1) h3 h4) fun σ H Q w => ?_
    obtain ⟨env, R, rv, env', rep, ev, q⟩ := w
    simp only [Mi.eval] at ev
    cases qq : env[N.idxOf x]? with
    | none => simp only [qq] at ev; cases ev
    | some t =>
      cases t with
      | un => simp only [qq] at ev; cases ev
      | sh d =>
        simp only [qq] at ev; cases ev
        obtain ⟨v, e1, e2⟩ := rep.sh _ _ qq
        exact ⟨v, e1, q v R H rep (.refl _ _ _ _) e2⟩
      | ow d =>
        simp only [qq] at ev; cases ev
        obtain ⟨a, e1, _, _⟩ := rep.ow _ _ (.inl qq)
        exact ⟨_, e1, q _ R H rep (.refl _ _ _ _) ⟨e1, d, .inl qq⟩⟩
      | bw d =>
        simp only [qq] at ev; cases ev
        obtain ⟨a, e1, _, _⟩ := rep.ow _ _ (.inr qq)
        exact ⟨_, e1, q _ R H rep (.refl _ _ _ _) ⟨e1, d, .inr (.inl qq)⟩⟩
  · cases h
theorem glob_gl {x : Str} (G : Gd T cf X N sc) (h : glob sc x = true) : Gl X x ∧ (x == ("__debug__" : Str)) = false ∧ x ≠ ("__name__" : Str) := by
  unfold glob at h
  simp only [Bool.and_eq_true, decide_eq_true_eq, beq_iff_eq, bne_iff_ne, ne_eq] at h
  exact ⟨show X.env.scope.names.lookup x = _ by rw [G.hsc]; exact h.1.1, h.1.2, h.2⟩
theorem td_con {e : Expr} {d : D} {v : V} (h : PE X e (tC v)) (hd : ∀ R, At X.K R d v) : PE X e (TD cf X.K (.con d)) := by
  refine imp_e h fun σ H Q w => ?_
  obtain ⟨env, R, rv, env', rep, ev, q⟩ := w
  simp only [Mi.eval] at ev
  cases ev
  exact q v R H rep (.refl _ _ _ _) (hd R)
theorem con_ok {x : Str} {d : D} {pos : Pos} (G : Gd T cf X N sc) (hg : glob sc x = true) (h : T.con.lookup x = some d) : PE X (.Name x pos) (TD cf X.K (.con d)) := by
  obtain ⟨u, v, h1, h2, h3⟩ := G.con x d h
  obtain ⟨g1, g2, g3⟩ := glob_gl G hg
  exact td_con (pe_glob g1 h1 h2 g2) h3
theorem bltB_ok {x : Str} {n : Nat} {b : Blt} {id : String} (hc : X.calm = true) (hu : X.A.units + 65 < cLine) (h : bltB x n = some (b, id)) : CallR X (.builtin id) (rBl X.K b) ∧ bootBuiltins x = some (.builtin id) ∧ 1 ≤ n := by
  unfold bltB at h
  repeat' split at h
  · rename_i e; cases h; rw [e.1]; exact ⟨obl_len, by decide +kernel, by omega⟩
  · rename_i e; cases h; rw [e.1]; exact ⟨obl_abs, by decide +kernel, by omega⟩
  · rename_i e; cases h; rw [e.1]; exact ⟨obl_sum hc, by decide +kernel, by omega⟩
  · rename_i e; cases h; rw [e.1]; exact ⟨obl_all hc, by decide +kernel, by omega⟩
  · rename_i e; cases h; rw [e.1]; exact ⟨obl_any hc, by decide +kernel, by omega⟩
  · rename_i e; cases h; rw [e.1]; exact ⟨obl_min2 hc, by decide +kernel, by omega⟩
  · rename_i e; cases h; rw [e.1]; exact ⟨obl_max2 hc, by decide +kernel, by omega⟩
  · rename_i e; cases h; rw [e.1]; exact ⟨obl_sorted hc hu, by decide +kernel, by omega⟩
  · rename_i e; cases h; rw [e.1]; exact ⟨obl_min1 hc hu, by decide +kernel, by omega⟩
  · rename_i e; cases h; rw [e.1]; exact ⟨obl_max1 hc hu, by decide +kernel, by omega⟩
  · cases h
theorem bltT_ok {x : Str} {n : Nat} {b : Blt} {id : String} (hc : X.calm = true) (h : bltT x n = some (b, id)) : CallR X (.type id) (rBl X.K b) ∧ bootBuiltins x = some (.type id) ∧ 1 ≤ n := by
  unfold bltT at h
  split at h
  · rename_i e; cases h; rw [e.1]; exact ⟨obl_int, by decide +kernel, by omega⟩
  · split at h
    · rename_i e; cases h; rw [e.1]; exact ⟨obl_list hc, by decide +kernel, by omega⟩
    · split at h
      · rename_i e; cases h; rw [e.1]; exact ⟨obl_tuple, by decide +kernel, by omega⟩
      · split at h
        · rename_i e; cases h; rw [e.1]; exact ⟨obl_str, by decide +kernel, by omega⟩
        · split at h
          · rename_i e; cases h; rw [e.1]; exact ⟨obl_dict, by decide +kernel, by omega⟩
          · cases h
theorem tyName_ok {x : Str} {t : Ty} (h : tyName x = some t) : bootBuiltins x = some (.type t.nm) := by
  unfold tyName at h
  split at h
  · rename_i e; cases h; rw [e]; decide +kernel
  · split at h
    · rename_i e; cases h; rw [e]; decide +kernel
    · split at h
      · rename_i e; cases h; rw [e]; decide +kernel
      · split at h
        · rename_i e; cases h; rw [e]; decide +kernel
        · split at h
          · rename_i e; cases h; rw [e]; decide +kernel
          · split at h
            · rename_i e; cases h; rw [e]; decide +kernel
            · cases h
theorem td_isi {a : Expr} {ca : Xp} {x ty : Str} {t : Ty} {p p2 pos : Pos} (G : Gd T cf X N sc) (hx : x = ("isinstance" : Str)) (hg : glob sc x = true) (hf : T.free.contains x = true) (hg2 : glob sc ty = true) (hf2 : T.free.contains ty = true) (ht : tyName ty = some t)
    (hp : pln a = true) (ha : PE X a (TD cf X.K ca)) : PE X (.Call (.Name x p) [a, .Name ty p2] [] pos) (TD cf X.K (.blt (.isi t) (.cons ca .nil))) := by
  obtain ⟨g1, g2, g3⟩ := glob_gl G hg
  obtain ⟨k1, k2, k3⟩ := glob_gl G hg2
  have b1 : bootBuiltins x = some (.builtin "isinstance") := by rw [hx]; decide +kernel
  have pb : PE X (.Name ty p2) (tC (.ty t.nm)) := pe_bltn k1 (G.free ty hf2) (tyName_ok ht) rfl k3 k2
  refine imp_e (pe_callB (call_isT (t := t)) g1 (G.free x hf) b1 (pa_cons ha (pa_cons pb pa_nil (star_pln rfl [] X.env)) (star_pln hp _ X.env)) g3 g2 (star_pln hp _ X.env) (star_any X.env pos (es := [.Name ty p2]) rfl)) fun σ H Q h => ?_
  obtain ⟨env, R, rv, env', rep, ev, q⟩ := h
  simp only [Mi.eval, Mi.evals, Option.bind_eq_some_iff, Option.map_eq_some_iff] at ev
  obtain ⟨p, ⟨p1, e1, p2, e2, e3⟩, ds, e4, r, e5, e6⟩ := ev
  cases e2; cases e3; cases e6
  simp only [Mi.pks, Option.bind_eq_some_iff, Option.map_eq_some_iff] at e4
  obtain ⟨d, e7, ds', e8, rfl⟩ := e4
  cases e8
  refine ⟨env, R, p1.1, p1.2, rep, e1, fun v R1 H1 rep1 st1 at1 => ?_⟩
  simp only [bltF] at e5
  unfold isiF at e5
  split at e5
  · cases e5
  · rename_i d' hn heq
    cases heq
    cases e5
    refine ⟨R1, d, v, rep1.ex, rfl, at1.pk rep1 e7, ?_, q _ R1 H1 rep1 st1 rfl⟩
    cases d with
    | set ds => exact absurd rfl (hn ds)
    | _ => exact fun z => nomatch z
  · cases e5
theorem td_bltB {x : Str} {b : Blt} {id : String} {e : Expr} {es : List Expr} {ces : Xs} {p pos : Pos} (G : Gd T cf X N sc) (hg : glob sc x = true) (hf : T.free.contains x = true) (hc : CallR X (.builtin id) (rBl X.K b)) (hb : bootBuiltins x = some (.builtin id)) (hp : plnAll (e :: es) = true)
    (ha : PA X (e :: es) (TL cf X.K ces)) : PE X (.Call (.Name x p) (e :: es) [] pos) (TD cf X.K (.blt b ces)) := by
  obtain ⟨g1, g2, g3⟩ := glob_gl G hg
  exact imp_e (pe_callB hc g1 (G.free x hf) hb ha g3 g2 (star_pln (pln_cons hp).1 es X.env) (star_any X.env pos (pln_cons hp).2)) fun σ H Q h => blt_imp h
theorem td_bltT {x : Str} {b : Blt} {id : String} {e : Expr} {es : List Expr} {ces : Xs} {p pos : Pos} (G : Gd T cf X N sc) (hg : glob sc x = true) (hf : T.free.contains x = true) (hc : CallR X (.type id) (rBl X.K b)) (hb : bootBuiltins x = some (.type id)) (hp : plnAll (e :: es) = true)
    (ha : PA X (e :: es) (TL cf X.K ces)) : PE X (.Call (.Name x p) (e :: es) [] pos) (TD cf X.K (.blt b ces)) := by
  obtain ⟨g1, g2, g3⟩ := glob_gl G hg
  exact imp_e (pe_callTy hc g1 (G.free x hf) hb ha g3 g2 (star_pln (pln_cons hp).1 es X.env) (star_any X.env pos (pln_cons hp).2)) fun σ H Q h => blt_imp h
theorem td_gcd {x : Str} {e : Expr} {es : List Expr} {ces : Xs} {p pos : Pos} (G : Gd T cf X N sc) (hx : x = ("gcd" : Str)) (hg : glob sc x = true) (hf : T.gcd = true) (hp : plnAll (e :: es) = true)
    (ha : PA X (e :: es) (TL cf X.K ces)) : PE X (.Call (.Name x p) (e :: es) [] pos) (TD cf X.K (.blt .gcd ces)) := by
  obtain ⟨g1, g2, g3⟩ := glob_gl G hg
  exact imp_e (pe_callBfun obl_gcd g1 (by rw [hx]; exact G.gcd hf) ha g2 (star_pln (pln_cons hp).1 es X.env) (star_any X.env pos (pln_cons hp).2)) fun σ H Q h => blt_imp h
theorem ti_enm {a : Expr} {ca : Xp} {elts : List Expr} {kk : Nat} {tpos p pos : Pos} (G : Gd T cf X N sc) (hg : glob sc "enumerate" = true) (hf : T.free.contains "enumerate" = true) (hp : pln a = true) (ha : PE X a (TD cf X.K ca)) :
    PI X (.Tuple elts kk tpos) (.Call (.Name "enumerate" p) [a] [] pos) (TIx cf X.K (.enm ca)) := by
  obtain ⟨g1, g2, g3⟩ := glob_gl G hg
  refine imp_i (pi_enumA g1 (G.free _ hf) (pa_cons ha pa_nil (star_pln hp [] X.env)) (star_pln hp [] X.env)) fun σ H Q h => ?_
  obtain ⟨env, R, ds, env', rep, ev, q⟩ := h
  simp only [Mi.evalI, Option.bind_eq_some_iff, Option.map_eq_some_iff] at ev
  obtain ⟨p, e1, t, e2, xs, e3, e4⟩ := ev
  cases e4
  refine ⟨env, R, p.1, p.2, rep, e1, fun v1 R1 H1 rep1 st1 at1 => ?_⟩
  obtain ⟨R2, rep2, st2, at2⟩ := at1.take rep1 st1 e2
  obtain ⟨d, env2⟩ := t
  cases d with
  | lst ds =>
    cases e3
    obtain ⟨a, vs, rfl, h1, h2⟩ := at2
    exact ⟨a, rfl, .inl ⟨⟨vs, .inl (.inl (rep2.ex _ _ h1))⟩, q _ R2 H1 rep2 st2 (walk_enum (.inl (.inl h1)) h2)⟩⟩
  | tup ds =>
    cases e3
    obtain ⟨a, vs, rfl, h1, h2⟩ := at2
    exact ⟨a, rfl, .inr ⟨⟨vs, le_st rep2.ex.le h1⟩, q _ R2 H1 rep2 st2 (walk_enumT h1 h2)⟩⟩
  | scr ns =>
    cases e3
    obtain ⟨a, rfl, h1⟩ := at2
    exact ⟨a, rfl, .inl ⟨⟨_, le_sl rep2.ex.le h1⟩, q _ R2 H1 rep2 st2 (walk_enum h1 (.ofScr ns))⟩⟩
  | _ => simp [itemsOf] at e3
theorem pa_l {f : Expr → Xp} (h : ∀ e, PE X e (TD cf X.K (f e))) : ∀ {es : List Expr}, plnAll es = true → PA X es (TL cf X.K (xs f es))
  | [], _ => tl_nil
  | e :: es, hp => tl_cons (h e) (pa_l h (pln_cons hp).2) (pln_cons hp).1
theorem pa_lt {f : Expr → Xp} (h : ∀ e, PE X e (TD cf X.K (f e))) : ∀ {es : List Expr}, plnAll es = true → PA X es (TLT cf X.K (xs f es))
  | [], _ => tlt_nil
  | e :: es, hp => tlt_cons (h e) (pa_lt h (pln_cons hp).2) (pln_cons hp).1
theorem pa_la {f : Expr → Xp} (h : ∀ e, PE X e (TD cf X.K (f e))) : ∀ {es : List Expr} (io : Option Nat), plnAll es = true → PA X es (TLA cf X.K io (xs f es))
  | [], _, _ => tla_nil
  | e :: es, io, hp => tla_cons (h e) (fun io => pa_la h io (pln_cons hp).2) (pln_cons hp).1
theorem fold_and {f : Expr → Xp} {pos : Pos} (h : ∀ e, PE X e (TD cf X.K (f e)) ∧ PT X e (TT cf X.K (f e))) : ∀ (es : List Expr) (a : Expr), PE X (.BoolOp .And (a :: es) pos) (TD cf X.K (fold2 .and (f a) (es.map f))) ∧ PW X (.BoolOp .And (a :: es) pos) (TT cf X.K (fold2 .and (f a) (es.map f)))
  | [], a => ⟨pe_one (h a).1, pw_and1 (h a).2⟩
  | b :: es, a => ⟨td_and (h a).1 (fold_and h es b).1, tw_and (h a).2 (fold_and h es b).2⟩
theorem fold_or {f : Expr → Xp} {pos : Pos} (h : ∀ e, PE X e (TD cf X.K (f e)) ∧ PT X e (TT cf X.K (f e))) : ∀ (es : List Expr) (a : Expr), PE X (.BoolOp .Or (a :: es) pos) (TD cf X.K (fold2 .or (f a) (es.map f))) ∧ PW X (.BoolOp .Or (a :: es) pos) (TT cf X.K (fold2 .or (f a) (es.map f)))
  | [], a => ⟨pe_one (h a).1, pw_or1 (h a).2⟩
  | b :: es, a => ⟨td_or (h a).1 (fold_or h es b).1, tw_or (h a).2 (fold_or h es b).2⟩
theorem nomark_pln {op : CmpOp} {b : Expr} (h : pln b = true) : behindInMarks op b = false := by
  cases b <;> first | rfl | (simp [pln] at h)
theorem folded_pln {it : Expr} {env : PySem.Env} (h : pln it = true) : ∀ x, foldedSetIterable it env x = pure x := by
  intro x
  cases it <;> first | rfl | (simp [pln] at h)
variable {a b c e : Expr} {ca cb cc : Xp} {pos : Pos}
theorem chn_ev {op op' : CmpOp} {env env' : Env} {k : Bool} {rv : Rv} (h : Mi.eval cf (.chn op op' ca cb cc) env = some (rv, env')) : ∃ p q x y r, Mi.eval cf ca env = some p ∧ Mi.eval cf cb p.2 = some q ∧ Mi.pk q.2 p.1 = some x ∧ Mi.pk q.2 q.1 = some y ∧ cmpop op x y = some r ∧
    if r = true then ∃ s y' z r', Mi.eval cf cc q.2 = some s ∧ Mi.pk s.2 q.1 = some y' ∧ Mi.pk s.2 s.1 = some z ∧ cmpop op' y' z = some r' ∧ rv = .v (.bl r') ∧ env' = s.2 else rv = .v (.bl false) ∧ env' = q.2 := by
  simp only [Mi.eval, Option.bind_eq_some_iff] at h
  obtain ⟨p, e1, q, e2, x, e3, y, e4, r, e5, e6⟩ := h
  refine ⟨p, q, x, y, r, e1, e2, e3, e4, e5, ?_⟩
  cases r with
  | true =>
    rw [if_pos rfl] at e6 ⊢
    simp only [Option.bind_eq_some_iff, Option.map_eq_some_iff] at e6
    obtain ⟨s, e7, y', e8, z, e9, r', e10, e11⟩ := e6
    cases e11
    exact ⟨s, y', z, r', e7, e8, e9, e10, rfl, rfl⟩
  | false =>
    rw [if_neg Bool.false_ne_true] at e6 ⊢
    cases e6
    exact ⟨rfl, rfl⟩
theorem marks_pln {op op' : CmpOp} (hc : pln c = true) : lastMarks [op, op'] [b, c] = false := by
  show behindInMarks op' c = false
  exact nomark_pln hc
theorem td_chn {op op' : CmpOp} (G : Gd T cf X N sc) (ha : PE X a (TD cf X.K ca)) (hb : PE X b (TD cf X.K cb)) (hc : PE X c (TD cf X.K cc)) (hpc : pln c = true) : PE X (.Compare a [op, op'] [b, c] pos) (TD cf X.K (.chn op op' ca cb cc)) := by
  refine imp_e (pe_chain (oc (op := op) G.hu) (oc (op := op') G.hu) ha hb hc (marks_pln hpc)) fun σ H Q h => ?_
  obtain ⟨env, R, rv, env', rep, ev, q⟩ := h
  obtain ⟨p, p2, x, y, r, e1, e2, e3, e4, e5, e6⟩ := chn_ev (k := true) ev
  refine ⟨env, R, p.1, p.2, rep, e1, fun v1 R1 H1 rep1 st1 at1 => ⟨p.2, R1, p2.1, p2.2, rep1, e2, fun v2 R2 H2 rep2 st2 at2 => ?_⟩⟩
  refine ⟨R2, x, y, r, rep2.ex, (at1.later st2).pk rep2 e3, at2.pk rep2 e4, e5, r, rfl, ?_⟩
  cases r with
  | true =>
    rw [if_pos rfl] at e6 ⊢
    obtain ⟨s, y', z, r', e7, e8, e9, e10, rfl, rfl⟩ := e6
    refine ⟨p2.2, R2, s.1, s.2, rep2, e7, fun v3 R3 H3 rep3 st3 at3 => ?_⟩
    exact ⟨R3, y', z, r', rep3.ex, (at2.later st3).pk rep3 e8, at3.pk rep3 e9, e10, q _ R3 H3 rep3 ((st1.trans st2).trans st3) rfl⟩
  | false =>
    rw [if_neg Bool.false_ne_true] at e6 ⊢
    obtain ⟨rfl, rfl⟩ := e6
    exact q _ R2 H2 rep2 (st1.trans st2) rfl
theorem tt_chn {op op' : CmpOp} (G : Gd T cf X N sc) (ha : PE X a (TD cf X.K ca)) (hb : PE X b (TD cf X.K cb)) (hc : PE X c (TD cf X.K cc)) (hpc : pln c = true) : PT X (.Compare a [op, op'] [b, c] pos) (TT cf X.K (.chn op op' ca cb cc)) := by
  refine imp_t (pt_chain (oc (op := op) G.hu) (oc (op := op') G.hu) ha hb hc (marks_pln hpc)) fun σ H Q h => ?_
  obtain ⟨env, R, k, env', rep, ev, q⟩ := h
  simp only [Mi.test, Option.bind_eq_some_iff, Option.map_eq_some_iff] at ev
  obtain ⟨p0, ev, x0, ex0, k0, ek0, ek⟩ := ev
  obtain ⟨p, p2, x, y, r, e1, e2, e3, e4, e5, e6⟩ := chn_ev (k := true) (rv := p0.1) (env' := p0.2) ev
  refine ⟨env, R, p.1, p.2, rep, e1, fun v1 R1 H1 rep1 st1 at1 => ⟨p.2, R1, p2.1, p2.2, rep1, e2, fun v2 R2 H2 rep2 st2 at2 => ?_⟩⟩
  refine ⟨R2, x, y, r, rep2.ex, (at1.later st2).pk rep2 e3, at2.pk rep2 e4, e5, r, rfl, ?_⟩
  cases ek
  cases r with
  | true =>
    rw [if_pos rfl] at e6 ⊢
    obtain ⟨s, y', z, r', e7, e8, e9, e10, e11, e12⟩ := e6
    rw [e11] at ex0; cases ex0; cases ek0
    refine ⟨p2.2, R2, s.1, s.2, rep2, e7, fun v3 R3 H3 rep3 st3 at3 => ?_⟩
    exact ⟨R3, y', z, _, rep3.ex, (at2.later st3).pk rep3 e8, at3.pk rep3 e9, e10, _, rfl, q R3 H3 (by rw [e12]; exact rep3) (by rw [e12]; exact (st1.trans st2).trans st3)⟩
  | false =>
    rw [if_neg Bool.false_ne_true] at e6 ⊢
    obtain ⟨e11, e12⟩ := e6
    rw [e11] at ex0; cases ex0; cases ek0
    exact ⟨false, rfl, q R2 H2 (by rw [e12]; exact rep2) (by rw [e12]; exact st1.trans st2)⟩
end
end Mi

end

section
set_option linter.all false
set_option maxRecDepth 100000
set_option maxHeartbeats 4000000
/-! Mi13: comp is sound on expressions -/
namespace Mi
open PySem PySem.Spec PyProof.Rows L2

structure Snd (T : Tab) (cf : Cf) (n : Nat) : Prop where
  e : ∀ {X : Cx} {N : List Str} {sc : Scope}, Gd T cf X N sc → ∀ e, PE X e (TD cf X.K (comp T n N sc e)) ∧ PT X e (TT cf X.K (comp T n N sc e))
  o : ∀ {X : Cx} {N : List Str} {sc : Scope}, Gd T cf X N sc → ∀ o, PO X o (TO' cf X.K (compO T n N sc o))
  i : ∀ {X : Cx} {N : List Str} {sc : Scope}, Gd T cf X N sc → ∀ tg e, PI X tg e (TIx cf X.K (compI T n N sc tg e))
section
variable {X : Cx} {T : Tab} {cf : Cf} {N : List Str} {sc : Scope}
theorem val2 {e : Expr} {c : Xp} (h : PE X e (TD cf X.K c)) (he : ∀ whole, isTrue e X.env whole = (do let v ← whole; standAt e.pos; holding [v] (truthy v))) : PE X e (TD cf X.K c) ∧ PT X e (TT cf X.K c) := ⟨h, tt_val h he⟩
theorem bad2 {e : Expr} : PE X e (TD cf X.K .bad) ∧ PT X e (TT cf X.K .bad) := ⟨td_bad, tt_bad⟩
theorem len2 {α : Type} {l : List α} (h : l.length = 2) : ∃ a b, l = [a, b] := by
  match l, h with
  | [a, b], _ => exact ⟨a, b, rfl⟩
theorem own_ok {scope : Scope} (hb : blkC N sc scope (ownOfScope N scope) = true) {x : Str} {i : Nat} (h : (ownOfScope N scope).lookup x = some i) : N[i]? = some x := by
  have ok := blkOk_by hb
  exact ok.ix (x, i) (PySem.mem_of_lookup h)
theorem tgt_ok {X' : Cx} {f : Str → Option Nat} {tg : Expr} {g : Gx} (hc : X'.calm = true) (nd : X'.N.Nodup) (hf : ∀ x i, f x = some i → Stor X' x i) (h : tgt f tg = some g) : PG X' tg (TGx X'.K g) ∧ ∀ j, j ∈ g.slots → ∃ x, f x = some j := by
  unfold tgt at h
  split at h
  · rename_i x p
    simp only [Option.map_eq_some_iff] at h
    obtain ⟨i, h1, rfl⟩ := h
    exact ⟨tg_nm nd (hf x i h1), fun j hj => ⟨x, by simp [Gx.slots] at hj; subst hj; exact h1⟩⟩
  · rename_i es k p
    simp only [Option.map_eq_some_iff] at h
    obtain ⟨is, h1, rfl⟩ := h
    have : NamesAt X' es is ∧ ∀ j ∈ is, ∃ x, f x = some j := by
      clear hc
      induction es generalizing is with
      | nil => simp only [List.mapM_nil] at h1; cases h1; exact ⟨.nil, fun _ h => nomatch h⟩
      | cons e es ih =>
        simp only [List.mapM_cons] at h1
        cases e with
        | Name x p =>
          simp only [Option.bind_eq_bind, Option.bind_eq_some_iff] at h1
          obtain ⟨i, h2, is', h3, h4⟩ := h1
          cases h4
          obtain ⟨h5, h6⟩ := ih is' h3
          refine ⟨.cons (hf x i h2) h5, fun j hj => ?_⟩
          rcases List.mem_cons.mp hj with rfl | hj
          · exact ⟨x, h2⟩
          · exact h6 j hj
        | _ => simp at h1
    exact ⟨tg_tp hc nd this.1, this.2⟩
  · cases h
/-- the names that a comprehension's block may store -/
theorem blk_stor (G : Gd T cf X N sc) {scope : Scope} (hb : blkC N sc scope (ownOfScope N scope) = true) (s : Shared) (H : Hp) (C : Addr) (cl : List (Str × Addr)) (fp : List Addr) {x : Str} {i : Nat}
    (h : (if (scope.names.lookup x = some .local ∨ scope.names.lookup x = some .cell) ∧ ((ownOfScope N scope).lookup x).isSome = true then (ownOfScope N scope).lookup x else none) = some i) : Stor (X.blk s H scope (compEnvC scope cl C X.env) fp) x i := by
  split at h
  · rename_i hc
    refine ⟨by rw [G.hN]; exact own_ok hb h, ?_, ?_⟩
    · rcases hc.1 with k | k
      · exact .inl (lookup_relS_keep (sc := X.env.scope) (fun z => nomatch z) k)
      · exact .inr (lookup_relS_keep (sc := X.env.scope) (fun z => nomatch z) k)
    · rcases hc.1 with k | k
      · exact .inr (lookup_relS_keep (sc := X.env.scope) (fun z => nomatch z) k)
      · exact .inl (by show (scope.names.lookup x == some .cell) = true; rw [k]; rfl)
  · cases h
theorem own_mem {own : List (Str × Nat)} {x : Str} {j : Nat} (h : own.lookup x = some j) : j ∈ own.map (·.2) := List.mem_map.mpr ⟨(x, j), PySem.mem_of_lookup h, rfl⟩
theorem compI_dk {m : Nat} {tg e : Expr} {i : Nat} (h : compI T m N sc tg e = .dk (.var i)) : ∃ x p, e = .Name x p ∧ slotOf N sc x = some i := by
  cases m with
  | zero => simp only [compI] at h; cases h
  | succ m =>
    unfold compI at h
    repeat' (split at h)
    all_goals first | (cases h; done) | skip
    rename_i x p hx
    injection h with h
    refine ⟨x, p, rfl, ?_⟩
    cases m with
    | zero => simp only [comp] at h; cases h
    | succ m =>
      simp only [comp] at h
      split at h
      · rename_i j hj
        cases h; exact hj
      · repeat' (split at h)
        all_goals cases h
theorem lc_ok {n : Nat} (S : Snd T cf n) (G : Gd T cf X N sc) {elt tg it : Expr} {ifs : List Expr} {scope : Scope} {pos : Pos} {g : Gx} {c : Xo} (hb : blkC N sc scope (ownOfScope N scope) = true) (hp : pln it = true)
    (hg : tgt (fun x => if (scope.names.lookup x = some .local ∨ scope.names.lookup x = some .cell) ∧ ((ownOfScope N scope).lookup x).isSome = true then (ownOfScope N scope).lookup x else none) tg = some g)
    (hc : (ifs = [] ∧ c = .no) ∨ ∃ e, ifs = [e] ∧ c = .so (comp T n N (relS scope sc) e)) :
    PE X (.ListComp elt [⟨tg, it, ifs, 0⟩] scope pos) (TD cf X.K (.lc (comp T n N (relS scope sc) elt) g (compI T n N sc tg it) c ((ownOfScope N scope).map (·.2)))) := by
  have hb' := blkOk_by hb
  have ok : BlkOk X.N X.env.scope scope (ownOfScope N scope) := by rw [G.hN, G.hsc]; exact hb'
  have slots : ∀ j, j ∈ g.slots → j ∈ (ownOfScope N scope).map (·.2) := by
    intro j hj
    obtain ⟨x, hx⟩ := (tgt_ok (X' := X.blk { os := default } (fun _ => none) scope (compEnvC scope [] 0 X.env) []) G.calm (by rw [show (X.blk _ _ _ _ _).N = X.N from rfl, G.hN]; exact G.nd) (fun x i h => blk_stor G hb _ _ _ _ _ h) hg).2 j hj
    split at hx
    · exact own_mem hx
    · cases hx
  have base : ∀ {ti : TI}, PI X tg it ti → PE X (.ListComp elt [⟨tg, it, ifs, 0⟩] scope pos) (tLc ti (TGx X.K g) (TTs cf X.K c) (TD cf X.K (comp T n N (relS scope sc) elt)) ((ownOfScope N scope).map (·.2))) := fun hi => by
    refine pe_lc G.calm (by rw [G.hN]; exact G.nd) hi ok (fun s H C cl fp => ?_) (fun s H C cl fp => ?_) (fun s H C cl fp => ?_) (folded_pln hp)
    · exact (tgt_ok (X' := X.blk s H scope (compEnvC scope cl C X.env) fp) G.calm (by rw [show (X.blk s H scope (compEnvC scope cl C X.env) fp).N = X.N from rfl, G.hN]; exact G.nd) (fun x i h => blk_stor G hb s H C cl fp h) hg).1
    · rcases hc with ⟨rfl, rfl⟩ | ⟨e, rfl, rfl⟩
      · exact tts_no
      · exact tts_so (S.e (G.blk s H scope C cl fp) e).2
    · exact (S.e (G.blk s H scope C cl fp) elt).1
  by_cases hk : ∃ i, compI T n N sc tg it = .dk (.var i)
  · obtain ⟨i, hi⟩ := hk
    obtain ⟨x, p, rfl, hx⟩ := compI_dk hi
    refine imp_e (pe_or (base (S.i G tg _)) (pe_or (pe_lock (base (pi_dict G hx))) (base (pi_dict G hx)))) fun σ H Q h => ?_
    rcases lc_imp (c := c) slots h with h | ⟨j, hj, h⟩
    · exact .inl h
    · rw [hi] at hj; cases hj
      exact .inr h
  · exact imp_e (base (S.i G tg it)) fun σ H Q h => (lc_imp (c := c) slots h).resolve_right fun ⟨i, hi, _⟩ => hk ⟨i, hi⟩
end
theorem ifsX_ok {X' : Cx} {ifs : List Expr} {c : Xo} {f : Expr → Xp} (hf : ∀ e, PT X' e (TT cf X'.K (f e))) (h : ifsX f ifs = some c) : PTs X' ifs (TTs cf X'.K c) := by
  match ifs, h with
  | [], h => cases h; exact tts_no
  | [e], h => cases h; exact tts_so (hf e)
  | _ :: _ :: _, h => cases h
theorem sl_slots (g : Gx) : g.sl = g.slots := by cases g <;> rfl
theorem lc2_ok {n : Nat} (S : Snd T cf n) (G : Gd T cf X N sc) {elt tg it tg1 it1 : Expr} {ifs ifs1 : List Expr} {scope : Scope} {pos : Pos} {g g1 : Gx} {c c1 : Xo} (hb : blkC N sc scope (ownOfScope N scope) = true) (hp : pln it = true) (hp1 : pln it1 = true)
    (hg : tgt (fun x => if (scope.names.lookup x = some .local ∨ scope.names.lookup x = some .cell) ∧ ((ownOfScope N scope).lookup x).isSome = true then (ownOfScope N scope).lookup x else none) tg = some g)
    (hg1 : tgt (fun x => if (scope.names.lookup x = some .local ∨ scope.names.lookup x = some .cell) ∧ ((ownOfScope N scope).lookup x).isSome = true then (ownOfScope N scope).lookup x else none) tg1 = some g1)
    (hc : ifsX (comp T n N (relS scope sc)) ifs = some c) (hc1 : ifsX (comp T n N (relS scope sc)) ifs1 = some c1) :
    PE X (.ListComp elt [⟨tg, it, ifs, 0⟩, ⟨tg1, it1, ifs1, 0⟩] scope pos) (TD cf X.K (.lc2 (comp T n N (relS scope sc) elt) g (compI T n N sc tg it) c g1 (compI T n N (relS scope sc) tg1 it1) c1 ((ownOfScope N scope).map (·.2)) g1.sl)) := by
  have hb' := blkOk_by hb
  have ok : BlkOk X.N X.env.scope scope (ownOfScope N scope) := by rw [G.hN, G.hsc]; exact hb'
  have ndB : ∀ (s : Shared) (H : Hp) (C : Addr) (cl : List (Str × Addr)) (fp : List Addr), (X.blk s H scope (compEnvC scope cl C X.env) fp).N.Nodup := fun s H C cl fp => by rw [show (X.blk s H scope (compEnvC scope cl C X.env) fp).N = X.N from rfl, G.hN]; exact G.nd
  have slots : ∀ {tg : Expr} {g : Gx}, tgt (fun x => if (scope.names.lookup x = some .local ∨ scope.names.lookup x = some .cell) ∧ ((ownOfScope N scope).lookup x).isSome = true then (ownOfScope N scope).lookup x else none) tg = some g → ∀ j, j ∈ g.slots → j ∈ (ownOfScope N scope).map (·.2) := by
    intro tg g hg j hj
    obtain ⟨x, hx⟩ := (tgt_ok (X' := X.blk { os := default } (fun _ => none) scope (compEnvC scope [] 0 X.env) []) G.calm (ndB _ _ _ _ _) (fun x i h => blk_stor G hb _ _ _ _ _ h) hg).2 j hj
    split at hx
    · exact own_mem hx
    · cases hx
  rw [sl_slots]
  refine imp_e (pe_lc2 (g := TGx X.K g) (g1 := TGx X.K g1) (tt := TTs cf X.K c) (tt1 := TTs cf X.K c1) (te := TD cf X.K (comp T n N (relS scope sc) elt)) (wi1 := TIx cf X.K (compI T n N (relS scope sc) tg1 it1)) G.calm (by rw [G.hN]; exact G.nd) (S.i G tg it) ok (slots hg1) (fun s H C cl fp => ?_) (fun s H C cl fp => ?_) (fun s H C cl fp => ?_) (fun s H C cl fp => ?_) (fun s H C cl fp => ?_) (fun s H C cl fp => ?_) (folded_pln hp) (fun env => folded_pln hp1)) fun σ H Q h => lc2_imp (slots hg) (fun j hj => hj) (slots hg1) h
  · exact (tgt_ok (X' := X.blk s H scope (compEnvC scope cl C X.env) fp) G.calm (ndB _ _ _ _ _) (fun x i h => blk_stor G hb s H C cl fp h) hg).1
  · exact ifsX_ok (X' := X.blk s H scope (compEnvC scope cl C X.env) fp) (fun e => (S.e (G.blk s H scope C cl fp) e).2) hc
  · exact S.i (G.blk s H scope C cl fp) tg1 it1
  · exact (tgt_ok (X' := X.blk s H scope (compEnvC scope cl C X.env) fp) G.calm (ndB _ _ _ _ _) (fun x i h => blk_stor G hb s H C cl fp h) hg1).1
  · exact ifsX_ok (X' := X.blk s H scope (compEnvC scope cl C X.env) fp) (fun e => (S.e (G.blk s H scope C cl fp) e).2) hc1
  · exact (S.e (G.blk s H scope C cl fp) elt).1
theorem rg_at {K : PySem.W.Frag} {R : Hp} (a : Int) (n : Nat) {b : Int} (h : (b - a).toNat = n) : AtL K R ((List.range n).map fun (k : Nat) => D.int (a + k)) (rgV a b) := by
  have e1 : ((List.range n).map fun (k : Nat) => D.int (a + k)) = ((List.range n).map fun (k : Nat) => a + (k : Int)).map D.int := by rw [List.map_map]; rfl
  have e2 : rgV a b = ((List.range n).map fun (k : Nat) => a + (k : Int)).map V.int := by unfold rgV; rw [h, List.map_map]; rfl
  rw [e1, e2]
  exact AtL.toInts _
theorem lrg_ok {n : Nat} (ih : ∀ e, PE X e (TD cf X.K (comp T n N sc e))) (G : Gd T cf X N sc) {x : Str} {args ras : List Expr} {p pos : Pos} (hg : glob sc x = true) (hf : T.free.contains x = true) (h : lrgB T sc x args = some ras) :
    PE X (.Call (.Name x p) args [] pos) (TD cf X.K (.lrg (xs (comp T n N sc) ras))) := by
  unfold lrgB at h
  split at h
  · rename_i hx
    subst hx
    split at h
    · rename_i r p2 ras' p3
      split at h
      · rename_i hc
        cases h
        simp only [Bool.and_eq_true, Bool.or_eq_true, beq_iff_eq] at hc
        obtain ⟨⟨⟨⟨h1, h2⟩, h4⟩, h5⟩, h6⟩ := hc
        subst h5
        obtain ⟨g1, _, _⟩ := glob_gl G h1
        obtain ⟨g2, _, _⟩ := glob_gl G hg
        have hst : ∀ {q q2 : Pos} {l : List Expr}, starEach [.Call (.Name ("range" : Str) q) l [] q2] X.env = (false, PySem.eval (.Call (.Name ("range" : Str) q) l [] q2) X.env) :: starEach [] X.env := fun {q q2 l} => star_pln (e := .Call (.Name ("range" : Str) q) l [] q2) rfl [] X.env
        rcases h6 with h6 | h6
        · obtain ⟨a, rfl⟩ := List.length_eq_one_iff.mp h6
          refine imp_e (pe_listRg G.calm g2 (G.free _ hf) (prg_1 g1 (G.free _ h2) (ih a) (star_pln (pln_cons h4).1 [] X.env)) hst) fun σ H Q h => ?_
          obtain ⟨env, R, rv, env', rep, ev, q⟩ := h
          simp only [xs, Mi.eval, Mi.evals, Option.bind_eq_some_iff, Option.map_eq_some_iff] at ev
          obtain ⟨p, ⟨pa, e1, pn, e2, e3⟩, ds, e4, is, e5, e6⟩ := ev
          cases e2; cases e3
          simp only [Mi.pks, Option.bind_eq_some_iff, Option.map_eq_some_iff] at e4
          obtain ⟨d, e7, ds', e8, e9⟩ := e4
          cases e8; cases e9
          split at e6
          · rename_i hz
            cases e6
            unfold rangeOf at e5
            split at e5
            · rename_i j heq
              cases heq
              split at e5
              · rename_i hj
                cases e5
                obtain ⟨b1, b2⟩ := big_iff hj
                rw [List.length_map, List.length_range, sizeLine_eq] at hz
                refine ⟨env, R, pa.1, pa.2, rep, e1, fun v1 R1 H1 rep1 st1 at1 => ⟨j, (at1.pk rep1 e7).int, ⟨by decide, by decide, b1, b2, by rw [Int.sub_zero]; omega⟩, fun t ht => ?_⟩⟩
                have fin : Fin X.K R1 H1 (.f (.lst ((List.range j.toNat).map fun (k : Nat) => D.int k))) Q := fun v R2 H2 al ro => q v R2 H2 (al.rep rep1) (st1.trans al.st) ((ro.at rep1).since st1.fr.dom)
                refine fin.lst rep1.ex ?_ t ht
                have := rg_at (K := X.K) (R := R1) 0 j.toNat (b := j) (by rw [Int.sub_zero])
                simpa only [Int.zero_add] using this
              · cases e5
            · rename_i heq; cases heq
            · cases e5
          · cases e6
        · obtain ⟨a, b, rfl⟩ := len2 h6
          refine imp_e (pe_listRg G.calm g2 (G.free _ hf) (prg_2 g1 (G.free _ h2) (ih a) (ih b) (by rw [star_pln (pln_cons h4).1]) (star_pln (pln_cons (pln_cons h4).2).1 [] X.env) (star_any X.env p3 (pln_cons h4).2)) hst) fun σ H Q h => ?_
          obtain ⟨env, R, rv, env', rep, ev, q⟩ := h
          simp only [xs, Mi.eval, Mi.evals, Option.bind_eq_some_iff, Option.map_eq_some_iff] at ev
          obtain ⟨p, ⟨pa, e1, pn, ⟨pb, e2, pm, e3, e10⟩, e11⟩, ds, e4, is, e5, e6⟩ := ev
          cases e3; cases e10; cases e11
          simp only [Mi.pks, Option.bind_eq_some_iff, Option.map_eq_some_iff] at e4
          obtain ⟨d, e7, ds', ⟨d2, e8, ds2, e9, e12⟩, e13⟩ := e4
          cases e9; cases e12; cases e13
          split at e6
          · rename_i hz
            cases e6
            unfold rangeOf at e5
            split at e5
            · rename_i heq; cases heq
            · rename_i i j heq
              cases heq
              split at e5
              · rename_i hj
                cases e5
                simp only [Bool.and_eq_true] at hj
                obtain ⟨b1, b2⟩ := big_iff hj.1
                obtain ⟨b3, b4⟩ := big_iff hj.2
                rw [List.length_map, List.length_range, sizeLine_eq] at hz
                refine ⟨env, R, pa.1, pa.2, rep, e1, fun v1 R1 H1 rep1 st1 at1 => ⟨pa.2, R1, pb.1, pb.2, rep1, e2, fun v2 R2 H2 rep2 st2 at2 => ⟨i, j, ((at1.later st2).pk rep2 e7).int, (at2.pk rep2 e8).int, ⟨b1, b2, b3, b4, by omega⟩, fun t ht => ?_⟩⟩⟩
                have fin : Fin X.K R2 H2 (.f (.lst ((List.range (j - i).toNat).map fun (k : Nat) => D.int (i + k)))) Q := fun v R3 H3 al ro => q v R3 H3 (al.rep rep2) ((st1.trans st2).trans al.st) ((ro.at rep2).since fun b hb => st2.fr.dom b (st1.fr.dom b hb))
                exact fin.lst rep2.ex (rg_at i _ rfl) t ht
              · cases e5
            · cases e5
          · cases e6
      · cases h
    · cases h
  · cases h
theorem rg3_at {K : PySem.W.Frag} {R : Hp} (c : Int) (n : Nat) : AtL K R ((List.range n).map fun (k : Nat) => D.int (k * c)) (rg3V c n) := by
  have e1 : ((List.range n).map fun (k : Nat) => D.int (k * c)) = ((List.range n).map fun (k : Nat) => (k : Int) * c).map D.int := by rw [List.map_map]; rfl
  have e2 : rg3V c n = ((List.range n).map fun (k : Nat) => (k : Int) * c).map V.int := by unfold rg3V; rw [List.map_map]; rfl
  rw [e1, e2]
  exact AtL.toInts _
theorem lr3_ok {n : Nat} (ih : ∀ e, PE X e (TD cf X.K (comp T n N sc e))) (G : Gd T cf X N sc) {x : Str} {args ras : List Expr} {p pos : Pos} (hg : glob sc x = true) (hf : T.free.contains x = true) (h : lr3B T sc x args = some ras) :
    PE X (.Call (.Name x p) args [] pos) (TD cf X.K (.lr3 (xs (comp T n N sc) ras))) := by
  unfold lr3B at h
  split at h
  · rename_i hx
    subst hx
    split at h
    · rename_i r p2 a b c p3
      split at h
      · rename_i hc
        cases h
        simp only [Bool.and_eq_true, beq_iff_eq] at hc
        obtain ⟨⟨⟨h1, h2⟩, h4⟩, h5⟩ := hc
        subst h5
        obtain ⟨g1, _, _⟩ := glob_gl G h1
        obtain ⟨g2, _, _⟩ := glob_gl G hg
        refine imp_e (pe_listRg3 G.calm g2 (G.free _ hf) g1 (G.free _ h2) (pa_l ih h4) (star_pln (pln_cons h4).1 [b, c] X.env) (star_any X.env p3 (pln_cons h4).2) (star_pln (e := .Call (.Name ("range" : Str) p2) [a, b, c] [] p3) rfl [] X.env)) fun σ H Q h => ?_
        obtain ⟨env, R, rv, env', rep, ev, q⟩ := h
        simp only [Mi.eval, Option.bind_eq_some_iff, Option.map_eq_some_iff] at ev
        obtain ⟨p, e1, ds, e4, is, e5, e6⟩ := ev
        cases e6
        refine ⟨env, R, p.1, p.2, rep, e1, fun vs R1 H1 rep1 st1 at1 => ?_⟩
        have pk := RvL.pks rep1 at1 e4
        unfold lr3Of at e5
        split at e5
        · rename_i i j k
          split at e5
          · rename_i hj
            cases e5
            obtain ⟨hi, c0, c1, c2, c3⟩ := hj
            subst hi
            obtain ⟨v, r, rfl, hv, w, r', rfl, hw, z, r'', rfl, hz, h3⟩ := pk
            cases (show r'' = [] from h3)
            refine ⟨j, k, by rw [hv.int, hw.int, hz.int], c0, c1, c2, c3, fun t ht => ?_⟩
            have fin : Fin X.K R1 H1 (.f (.lst ((List.range ((j + k - 1) / k).toNat).map fun (m : Nat) => D.int (m * k)))) Q := fun v R3 H3 al ro => q v R3 H3 (al.rep rep1) (st1.trans al.st) ((ro.at rep1).since st1.fr.dom)
            exact fin.lst rep1.ex (rg3_at k _) t ht
          · cases e5
        · cases e5
      · cases h
    · cases h
  · cases h
theorem isM1_eq {e : Expr} (h : isM1 e = true) : ∃ k p q, e = .UnaryOp .USub (.Constant (.int 1) k p) q := by
  unfold isM1 at h
  split at h
  · rename_i i k p q
    have : i = 1 := by simpa using h
    subst this
    exact ⟨_, _, _, rfl⟩
  · cases h
theorem ti_bad {X : Cx} {cf : Cf} {tg e : Expr} : PI X tg e (TIx cf X.K (.e .bad)) := ⟨fun pins s σ H Q I ⟨_, _, _, _, _, h, _⟩ => by simp [Mi.evalI, Mi.eval] at h⟩
theorem comp_ok (T : Tab) (cf : Cf) : ∀ n, Snd T cf n
  | 0 => ⟨fun _ e => by simp only [comp]; exact bad2, fun _ o => by
      simp only [compO]
      exact ⟨fun pins s σ H Q I ⟨_, _, _, _, _, h, _⟩ => by simp [Mi.evalO, Mi.eval] at h⟩, fun _ tg e => by
      simp only [compI]
      exact ⟨fun pins s σ H Q I ⟨_, _, _, _, _, h, _⟩ => by simp [Mi.evalI, Mi.eval] at h⟩⟩
  | n + 1 => by
    have S := comp_ok T cf n
    refine ⟨fun {X N sc} G e => ?_, fun {X N sc} G o => ?_, fun {X N sc} G tg e => ?_⟩
    · have ih := S.e G
      cases e with
      | Name x p =>
        simp only [comp]
        split
        · exact val2 (slotOf_ok G (by assumption)) fun _ => rfl
        · split
          · split
            · exact val2 (con_ok G (by assumption) (by assumption)) fun _ => rfl
            · exact bad2
          · exact bad2
      | Constant c k p =>
        simp only [comp]
        split
        · exact val2 (td_con pe_non fun _ => rfl) fun _ => rfl
        · exact val2 (td_con pe_bl fun _ => rfl) fun _ => rfl
        · exact val2 (td_con pe_int fun _ => rfl) fun _ => rfl
        · exact val2 (td_con pe_str fun _ => rfl) fun _ => rfl
        · exact bad2
      | BinOp a op b p => simp only [comp]; exact val2 (td_bin (ih a).1 (ih b).1) fun _ => rfl
      | UnaryOp op a p =>
        cases op with
        | USub => simp only [comp]; exact val2 (td_neg (ih a).1) fun _ => rfl
        | Not => simp only [comp]; exact ⟨td_not (ih a).1, tt_not (ih a).2⟩
        | _ => simp only [comp]; exact bad2
      | BoolOp op es p =>
        cases es with
        | nil => simp only [comp]; exact bad2
        | cons a es =>
          cases op with
          | And => simp only [comp]; exact ⟨(fold_and ih es a).1, (fold_and ih es a).2.pt⟩
          | Or => simp only [comp]; exact ⟨(fold_or ih es a).1, (fold_or ih es a).2.pt⟩
      | IfExp t a b p => simp only [comp]; exact ⟨td_ife (ih t).2 (ih a).1 (ih b).1, tt_ife (ih t).2 (ih a).2 (ih b).2⟩
      | Compare a ops cs p =>
        match ops, cs with
        | [op], [b] =>
          simp only [comp]
          split
          · rename_i hp
            exact ⟨td_cmp G (ih a).1 (ih b).1 (nomark_pln hp), tt_cmp G (ih a).1 (ih b).1 (nomark_pln hp)⟩
          · exact bad2
        | [op, op'], [b, c] =>
          simp only [comp]
          split
          · rename_i hp
            simp only [Bool.and_eq_true] at hp
            exact ⟨td_chn G (ih a).1 (ih b).1 (ih c).1 hp.2, tt_chn G (ih a).1 (ih b).1 (ih c).1 hp.2⟩
          · exact bad2
        | [], _ => simp only [comp]; exact bad2
        | [_], [] => simp only [comp]; exact bad2
        | [_], _ :: _ :: _ => simp only [comp]; exact bad2
        | [_, _], [] => simp only [comp]; exact bad2
        | [_, _], [_] => simp only [comp]; exact bad2
        | [_, _], _ :: _ :: _ :: _ => simp only [comp]; exact bad2
        | _ :: _ :: _ :: _, _ => simp only [comp]; exact bad2
      | Call f args kws p =>
        cases kws with
        | cons k ks => cases f <;> (simp only [comp]; exact bad2)
        | nil =>
          cases f with
          | Name x p1 =>
            cases args with
            | nil =>
              simp only [comp]
              split
              · rename_i hc
                simp only [Bool.and_eq_true] at hc
                exact val2 (td_call0 G hc.2 hc.1) fun _ => rfl
              · exact bad2
            | cons a as =>
              unfold comp
              simp only
              split
              · rename_i hc
                simp only [Bool.and_eq_true] at hc
                split
                · rename_i hf
                  exact val2 (td_call G hf hc.1 hc.2 (pa_la (fun e => (ih e).1) _ hc.2)) fun _ => rfl
                · split
                  · rename_i hfree
                    split
                    · rename_i ras hl
                      exact val2 (lrg_ok (fun e => (ih e).1) G hc.1 hfree hl) fun _ => rfl
                    split
                    · rename_i ras hl
                      exact val2 (lr3_ok (fun e => (ih e).1) G hc.1 hfree hl) fun _ => rfl
                    · split
                      · rename_i b id hb
                        obtain ⟨h1, h2, _⟩ := bltB_ok G.calm G.hu hb
                        exact val2 (td_bltB G hc.1 hfree h1 h2 hc.2 (pa_l (fun e => (ih e).1) hc.2)) fun _ => rfl
                      · split
                        · rename_i b id hb
                          obtain ⟨h1, h2, _⟩ := bltT_ok G.calm hb
                          exact val2 (td_bltT G hc.1 hfree h1 h2 hc.2 (pa_l (fun e => (ih e).1) hc.2)) fun _ => rfl
                        · split
                          · rename_i heq
                            cases heq
                            split
                            · rename_i hi
                              split
                              · rename_i t ht
                                exact val2 (td_isi G hi.1 hc.1 hfree hi.2.1 hi.2.2 ht (pln_cons hc.2).1 (ih _).1) fun _ => rfl
                              · exact bad2
                            · exact bad2
                          · exact bad2
                  · split
                    · rename_i hg
                      exact val2 (td_gcd G hg.1 hc.1 hg.2.1 hc.2 (pa_l (fun e => (ih e).1) hc.2)) fun _ => rfl
                    · exact bad2
              · exact bad2
          | Attribute o m ap =>
            simp only [comp]
            split
            · rename_i hc
              simp only [Bool.and_eq_true] at hc
              split
              · rename_i k hk
                unfold mthOf at hk
                split at hk
                · rename_i hm
                  cases hk
                  obtain ⟨rfl, hl⟩ := hm
                  obtain ⟨a, rfl⟩ := List.length_eq_one_iff.mp hl
                  exact val2 (td_mut om_append PySem.F.slot_list_append PySem.F.type_list_append (ih o).1 (pa_lt (fun e => (ih e).1) hc.2) hc.2 hc.1.1 hc.1.2 (by simp)) fun _ => rfl
                · split at hk
                  · rename_i hm
                    cases hk
                    obtain ⟨rfl, hl⟩ := hm
                    have := List.length_eq_zero_iff.mp hl
                    subst this
                    exact val2 (td_mut0 om_pop0 PySem.F.slot_list_pop PySem.F.type_list_pop (ih o).1 hc.1.1 hc.1.2) fun _ => rfl
                  · split at hk
                    · rename_i hm
                      cases hk
                      obtain ⟨rfl, hl⟩ := hm
                      obtain ⟨a, rfl⟩ := List.length_eq_one_iff.mp hl
                      exact val2 (td_mut om_pop1 PySem.F.slot_list_pop PySem.F.type_list_pop (ih o).1 (pa_lt (fun e => (ih e).1) hc.2) hc.2 hc.1.1 hc.1.2 (by simp)) fun _ => rfl
                    · split at hk
                      · rename_i hm
                        cases hk
                        obtain ⟨rfl, hl⟩ := hm
                        obtain ⟨a, a2, rfl⟩ := len2 hl
                        exact val2 (td_mut om_insert PySem.F.slot_list_insert PySem.F.type_list_insert (ih o).1 (pa_lt (fun e => (ih e).1) hc.2) hc.2 hc.1.1 hc.1.2 (by simp)) fun _ => rfl
                      · split at hk
                        · rename_i hm
                          cases hk
                          obtain ⟨rfl, hl⟩ := hm
                          obtain ⟨a, rfl⟩ := List.length_eq_one_iff.mp hl
                          exact val2 (td_mut om_remove PySem.F.slot_list_remove PySem.F.type_list_remove (ih o).1 (pa_lt (fun e => (ih e).1) hc.2) hc.2 hc.1.1 hc.1.2 (by simp)) fun _ => rfl
                        · cases hk
              · split
                · rename_i k hk
                  unfold lokOf at hk
                  split at hk
                  · rename_i hm
                    cases hk
                    obtain ⟨rfl, hl⟩ := hm
                    obtain ⟨a, rfl⟩ := List.length_eq_one_iff.mp hl
                    exact val2 (td_lok (ol_index G.hu) PySem.F.slot_list_index PySem.F.type_list_index (ih o).1 (pa_l (fun e => (ih e).1) hc.2) hc.2 hc.1.1 hc.1.2 (by simp)) fun _ => rfl
                  · cases hk
                · split
                  · rename_i hm
                    obtain ⟨rfl, hl⟩ := hm
                    obtain ⟨a, rfl⟩ := List.length_eq_one_iff.mp hl
                    exact val2 (td_mux om_extendX PySem.F.slot_list_extend PySem.F.type_list_extend (ih o).1 (pa_l (fun e => (ih e).1) hc.2) hc.2 hc.1.1 hc.1.2 (by simp)) fun _ => rfl
                  · exact bad2
            · exact bad2
          | _ => simp only [comp]; exact bad2
      | Subscript a b p =>
        cases b with
        | Slice lo hi st p2 =>
          cases st with
          | none => simp only [comp]; exact val2 (td_sli (ih a).1 (S.o G lo) (S.o G hi)) fun _ => rfl
          | some st =>
            cases lo with
            | none =>
              cases hi with
              | none =>
                simp only [comp]
                split
                · rename_i hm
                  obtain ⟨k, p1, q1, rfl⟩ := isM1_eq hm
                  exact val2 (td_rev (ih a).1) fun _ => rfl
                · exact bad2
              | some hi => simp only [comp, pln, Bool.false_eq_true, if_false]; exact bad2
            | some lo => simp only [comp, pln, Bool.false_eq_true, if_false]; exact bad2
        | _ =>
          simp only [comp]
          split
          · rename_i hp
            exact val2 (td_idx G.hu (ih a).1 (ih _).1 hp) fun _ => rfl
          · exact bad2
      | Tuple es k p =>
        simp only [comp]
        split
        · exact val2 (td_tup (pa_lt (fun e => (ih e).1) (by assumption))) fun _ => rfl
        · exact bad2
      | Dict ks vs p =>
        cases ks with
        | nil =>
          cases vs with
          | nil => simp only [comp]; exact val2 td_dnw fun _ => rfl
          | cons => simp only [comp]; exact bad2
        | cons => simp only [comp]; exact bad2
      | List es p =>
        simp only [comp]
        split
        · exact val2 (td_lst (pa_lt (fun e => (ih e).1) (by assumption))) fun _ => rfl
        · exact bad2
      | ListComp elt gs scope p =>
        unfold comp
        simp only
        split
        all_goals first | contradiction | skip
        · rename_i heq
          injection heq with h1 h2 h3 h4
          subst h1 h2 h3 h4
          split
          · rename_i hb
            simp only [Bool.and_eq_true] at hb
            split
            · rename_i g hg
              split
              · exact val2 (lc_ok S G hb.1 hb.2 hg (.inl ⟨rfl, rfl⟩)) fun _ => rfl
              · exact val2 (lc_ok S G hb.1 hb.2 hg (.inr ⟨_, rfl, rfl⟩)) fun _ => rfl
              · exact bad2
            · exact bad2
          · exact bad2
        · rename_i heq
          injection heq with h1 h2 h3 h4
          subst h1 h2 h3 h4
          split
          · rename_i hb
            simp only [Bool.and_eq_true] at hb
            split
            · rename_i g g1 c c1 hg hg1 hc hc1
              exact val2 (lc2_ok S G hb.1.1 hb.1.2 hb.2 hg hg1 hc hc1) fun _ => rfl
            · exact bad2
          · exact bad2
        · exact bad2
      | _ => simp only [comp]; exact bad2
    · cases o with
      | none => simp only [compO]; exact to_no
      | some e => simp only [compO]; exact to_so (S.e G e).1
    · unfold compI
      split
      · split
        · rename_i x p args pos hc
          simp only [Bool.and_eq_true, Bool.or_eq_true, beq_iff_eq, Bool.not_eq_true'] at hc
          obtain ⟨⟨⟨⟨⟨h1, h2⟩, h3⟩, h4⟩, h5⟩, h6⟩ := hc
          obtain ⟨g1, g2, g3⟩ := glob_gl G h1
          subst h5
          rcases h6 with h6 | h6
          · obtain ⟨a, rfl⟩ := List.length_eq_one_iff.mp h6
            exact imp_i (pi_range1 g1 (G.free _ h2) (pa_l (fun e => (S.e G e).1) h4) (star_pln (pln_cons h4).1 [] X.env)) fun σ H Q h => rng_imp1 h ⟨_, rfl⟩
          · obtain ⟨a, b, rfl⟩ := len2 h6
            exact imp_i (pi_range2 g1 (G.free _ h2) (pa_l (fun e => (S.e G e).1) h4) (by rw [star_pln (pln_cons h4).1, star_pln (pln_cons (pln_cons h4).2).1]; rfl) (star_pln (pln_cons (pln_cons h4).2).1 [] X.env)) fun σ H Q h => rng_imp2 h ⟨_, _, rfl⟩
        · rename_i x p args pos _
          split
          · rename_i hc
            simp only [Bool.and_eq_true, beq_iff_eq, Bool.not_eq_true'] at hc
            obtain ⟨⟨⟨⟨⟨h1, h2⟩, h3⟩, h4⟩, h5⟩, h6⟩ := hc
            subst h5
            split
            · rename_i a _
              cases tg with
              | Tuple elts kk tpos => exact ti_enm G h1 h2 (pln_cons h4).1 (S.e G a).1
              | _ => cases h6
            · exact ti_bad
          · split
            · rename_i hc
              simp only [Bool.and_eq_true, beq_iff_eq, Bool.not_eq_true'] at hc
              obtain ⟨⟨⟨⟨⟨h1, h2⟩, h3⟩, h4⟩, h5⟩, h6⟩ := hc
              subst h5
              split
              · rename_i a b _ _
                obtain ⟨g1, g2, g3⟩ := glob_gl G h1
                cases tg with
                | Tuple elts kk tpos =>
                  exact imp_i (RZ.pi_zipA g1 (G.free _ h2) (pa_lt (fun e => (S.e G e).1) h4) (star_pln (pln_cons h4).1 [b] X.env) (star_any X.env pos (pln_cons h4).2)) fun σ H Q h => zpn_imp h
                | _ => cases h6
              · exact ti_bad
            · split
              · rename_i hc
                simp only [Bool.and_eq_true, beq_iff_eq, Bool.not_eq_true'] at hc
                obtain ⟨⟨⟨⟨h1, h2⟩, h3⟩, h4⟩, h5⟩ := hc
                subst h5
                split
                · rename_i a b c _ _ _
                  obtain ⟨g1, g2, g3⟩ := glob_gl G h1
                  exact imp_i (pi_range3 g1 (G.free _ h2) (pa_l (fun e => (S.e G e).1) h4) (star_pln (pln_cons h4).1 [b, c] X.env) (star_any X.env pos (pln_cons h4).2)) fun σ H Q h => rn3_imp h
                · exact ti_bad
              · exact ti_e (S.e G _).1
      · rename_i x p a b kx ck cp kp pos
        split
        · rename_i hc
          simp only [Bool.and_eq_true, beq_iff_eq] at hc
          obtain ⟨⟨⟨⟨⟨h1, h2⟩, h4⟩, h5⟩, h7⟩, h6⟩ := hc
          subst h5 h7
          obtain ⟨g1, g2, g3⟩ := glob_gl G h1
          cases tg with
          | Tuple elts kk tpos =>
            exact imp_i (pi_zipS g1 (G.free _ h2) (pa_lt (fun e => (S.e G e).1) h4) (star_pln (pln_cons h4).1 [b] X.env) (star_any X.env pos h4)) fun σ H Q h => zps_imp h
          | _ => cases h6
        · exact ti_bad
      · rename_i x p a b kx ck cp kp pos
        split
        · rename_i hc
          simp only [Bool.and_eq_true, beq_iff_eq] at hc
          obtain ⟨⟨⟨⟨⟨h1, h2⟩, h4⟩, h5⟩, h7⟩, h6⟩ := hc
          subst h5 h7
          obtain ⟨g1, g2, g3⟩ := glob_gl G h1
          cases tg with
          | Tuple elts kk tpos =>
            exact imp_i (pi_zipN g1 (G.free _ h2) (pa_lt (fun e => (S.e G e).1) h4) (star_pln (pln_cons h4).1 [b] X.env) (star_any X.env pos h4)) fun σ H Q h => zpn_imp h
          | _ => cases h6
        · exact ti_bad
      · split
        · exact ti_dk (S.e G _).1
        · exact ti_e (S.e G _).1
      · exact ti_e (S.e G _).1
end Mi

end

section
set_option linter.all false
set_option maxRecDepth 100000
set_option maxHeartbeats 4000000
/-! Mi14: statements -/
namespace Mi
open PySem PySem.Spec PyProof.Rows L2

/-- a statement's step -/
structure SSt (env : Env) (σ : L2.St) (R H : Hp) (env' : Env) (σ' : L2.St) (R' H' : Hp) : Prop where
  fr : Fr (Owns env σ) (OwnsO env σ) R H R' H'
  own : ∀ a, Owns env' σ' a → Owns env σ a ∨ H a = none
  ownO : ∀ a, OwnsO env' σ' a → OwnsO env σ a ∨ H a = none
  bw : ∀ (i : Nat) (d : D), env[i]? = some (Sl.bw d) → (∃ d', env'[i]? = some (Sl.bw d')) ∧ σ'[i]? = σ[i]?
  len : env'.length = env.length
theorem SSt.refl (env : Env) (σ : L2.St) (R H : Hp) : SSt env σ R H env σ R H := ⟨.refl _ _, fun _ z => .inl z, fun _ z => .inl z, fun i d e => ⟨⟨d, e⟩, rfl⟩, rfl⟩
theorem SSt.trans {env env1 env2 : Env} {σ σ1 σ2 : L2.St} {R H R1 H1 R2 H2 : Hp} (a : SSt env σ R H env1 σ1 R1 H1) (b : SSt env1 σ1 R1 H1 env2 σ2 R2 H2) : SSt env σ R H env2 σ2 R2 H2 := by
  have dn : ∀ x, H1 x = none → H x = none := fun x e => Classical.byContradiction fun z => a.fr.dom x z e
  refine ⟨a.fr.trans b.fr a.own a.ownO, fun x z => ?_, fun x z => ?_, fun i d e => ?_, b.len.trans a.len⟩
  · rcases b.own x z with z | z
    · exact a.own x z
    · exact .inr (dn x z)
  · rcases b.ownO x z with z | z
    · exact a.ownO x z
    · exact .inr (dn x z)
  · obtain ⟨⟨d', e'⟩, h1⟩ := a.bw i d e
    obtain ⟨h2, h3⟩ := b.bw i d' e'
    exact ⟨h2, h3.trans h1⟩
theorem ESt.sst {env env' : Env} {σ : L2.St} {R H R' H' : Hp} (s : ESt env σ R H env' R' H') : SSt env σ R H env' σ R' H' :=
  ⟨s.fr, fun _ z => .inl (s.le.owns z), fun _ z => .inl (s.le.ownsO z), fun i d e => by
    obtain ⟨t, h1, d', h2⟩ := s.le.2 i _ e
    subst h2
    exact ⟨⟨d', h1⟩, rfl⟩, s.le.1⟩
theorem PutTo.sst {K : PySem.W.Frag} {is : List Nat} {env env' : Env} {σ σ' : L2.St} {R H : Hp} (P : PutTo K is env σ R H env' σ') : SSt env σ R H env' σ' R H :=
  ⟨.refl _ _, fun a z => .inl (P.owns a z), fun a z => .inl (P.ownsO a z), fun i d e => by
    have hi : i ∉ is := fun hi => P.nobw i d hi e
    exact ⟨⟨d, by rw [P.butE.2 i hi]; exact e⟩, P.but.2 i hi⟩, P.butE.1⟩
section
variable {K : PySem.W.Frag}
/-- a new object goes to a slot -/
theorem Rep.keep {env : Env} {σ : L2.St} {R H : Hp} {i : Nat} {d : D} {a : Addr} (rep : Rep K env σ R H) (hi : i < env.length) (hb : isBw env i = false) (hn : R a = none) (ho : Own K R H a d) (hf : ¬ Owns env σ a) :
    Rep K (env.set i (.ow d)) (σ.set i (some (.ref a))) R H ∧ (∀ x, Owns (env.set i (.ow d)) (σ.set i (some (.ref a))) x → Owns env σ x ∨ x = a) ∧ (∀ x, OwnsO (env.set i (.ow d)) (σ.set i (some (.ref a))) x → OwnsO env σ x ∨ x = a) := by
  have hiσ : i < σ.length := by rw [← rep.len]; exact hi
  have hold : ∀ j x, Hold (env.set i (.ow d)) (σ.set i (some (.ref a))) j x → (j = i ∧ x = a) ∨ (j ≠ i ∧ Hold env σ j x) := fun j x ⟨h1, h2⟩ => by
    by_cases hj : j = i
    · subst hj
      rw [List.getElem?_set_self hiσ] at h2
      cases h2
      exact .inl ⟨rfl, rfl⟩
    · rw [List.getElem?_set_ne (Ne.symm hj)] at h1 h2
      exact .inr ⟨hj, h1, h2⟩
  refine ⟨⟨by rw [List.length_set, List.length_set]; exact rep.len, rep.ex, fun j c e => ?_, fun j c e => ?_, fun j k x hj hk => ?_⟩, fun x ⟨j, hj⟩ => ?_, fun x ⟨j, h1, h2⟩ => ?_⟩
  · have hj : j ≠ i := by rintro rfl; rw [List.getElem?_set_self hi] at e; cases e
    rw [List.getElem?_set_ne (Ne.symm hj)] at e ⊢
    exact rep.sh j c e
  · by_cases hj : j = i
    · subst hj
      rw [List.getElem?_set_self hi] at e
      have : c = d := by rcases e with e | e <;> cases e; rfl
      subst this
      exact ⟨a, List.getElem?_set_self hiσ, hn, ho⟩
    · rw [List.getElem?_set_ne (Ne.symm hj)] at e ⊢
      exact rep.ow j c e
  · rcases hold j x hj with ⟨h1, h2⟩ | ⟨h1, h2⟩
    · rcases hold k x hk with ⟨h3, h4⟩ | ⟨h3, h4⟩
      · rw [h1, h3]
      · subst h2; exact absurd ⟨k, h4⟩ hf
    · rcases hold k x hk with ⟨h3, h4⟩ | ⟨h3, h4⟩
      · subst h4; exact absurd ⟨j, h2⟩ hf
      · exact rep.ne j k x h2 h4
  · rcases hold j x hj with ⟨_, h2⟩ | ⟨_, h2⟩
    · exact .inr h2
    · exact .inl ⟨j, h2⟩
  · by_cases hj : j = i
    · subst hj
      rw [List.getElem?_set_self hiσ] at h2
      cases h2
      exact .inr rfl
    · rw [List.getElem?_set_ne (Ne.symm hj)] at h1 h2
      exact .inl ⟨j, h1, h2⟩
theorem bw_set {env : Env} {σ : L2.St} {i : Nat} {s : Sl} {v : Option V} (hb : isBw env i = false) (j : Nat) (d : D) (e : env[j]? = some (Sl.bw d)) : (∃ d', (env.set i s)[j]? = some (Sl.bw d')) ∧ (σ.set i v)[j]? = σ[j]? := by
  have hj : j ≠ i := by rintro rfl; simp [isBw, e] at hb
  exact ⟨⟨d, by rw [List.getElem?_set_ne (Ne.symm hj)]; exact e⟩, List.getElem?_set_ne (Ne.symm hj)⟩
/-- a value is stored -/
theorem RvAt.store {env0 env env' : Env} {σ : L2.St} {R0 H0 R H : Hp} {v : V} {rv : Rv} {i : Nat} (rep : Rep K env σ R H) (st : ESt env0 σ R0 H0 env R H) (h : RvAt K env σ R H H0 v rv) (e : Mi.store env i rv = some env') :
    ∃ R', Rep K env' (σ.set i (some v)) R' H ∧ SSt env0 σ R0 H0 env' (σ.set i (some v)) R' H := by
  cases rv with
  | v d =>
    simp only [Mi.store] at e
    have P := PutTo.one rep e h
    exact ⟨R, P.rep, st.sst.trans P.sst⟩
  | f d =>
    simp only [Mi.store] at e
    split at e
    · rename_i hc
      cases e
      obtain ⟨a, rfl, h2, h3, h4, h5⟩ := h
      obtain ⟨r1, o1, o2⟩ := rep.keep hc.1 hc.2 h3 h4 h5
      refine ⟨R, r1, ⟨st.fr, fun x z => ?_, fun x z => ?_, fun j d' e => ?_, by rw [List.length_set]; exact st.le.1⟩⟩
      · rcases o1 x z with z | rfl
        · exact .inl (st.le.owns z)
        · exact .inr h2
      · rcases o2 x z with z | rfl
        · exact .inl (st.le.ownsO z)
        · exact .inr h2
      · obtain ⟨⟨d1, e1⟩, e2⟩ := st.sst.bw j d' e
        exact bw_set hc.2 j d1 e1
    · cases e
  | s j =>
    simp only [Mi.store, Option.bind_eq_some_iff] at e
    obtain ⟨p, e1, e2⟩ := e
    obtain ⟨R1, rep1, st1, at1⟩ := h.take rep st e1
    have P := PutTo.one rep1 e2 at1
    exact ⟨R1, P.rep, st1.sst.trans P.sst⟩
end
/-- what is wanted behind a statement -/
def StEnd (K : PySem.W.Frag) (D : Ends) (env : Env) (σ : L2.St) (R H : Hp) (env' : Env) : Fl → Prop
  | .nx => ∀ σ' R' H', Rep K env' σ' R' H' → SSt env σ R H env' σ' R' H' → D.nx σ' H'
  | .bk => ∀ σ' R' H', Rep K env' σ' R' H' → SSt env σ R H env' σ' R' H' → D.bk σ' H'
  | .ct => ∀ σ' R' H', Rep K env' σ' R' H' → SSt env σ R H env' σ' R' H' → D.ct σ' H'
  | .rt r => ∀ v σ' R' H', Rep K env' σ' R' H' → SSt env σ R H env' σ' R' H' → RvAt K env' σ' R' H' H v r → D.rt v H'
def TS1 (cf : Cf) (K : PySem.W.Frag) (c : Sx) : TS := fun D σ H => ∃ env R fl env', Rep K env σ R H ∧ Mi.exec cf c env = some (fl, env') ∧ StEnd K D env σ R H env' fl
def TSs (cf : Cf) (K : PySem.W.Frag) (c : Ss) : TS := fun D σ H => ∃ env R fl env', Rep K env σ R H ∧ Mi.execs cf c env = some (fl, env') ∧ StEnd K D env σ R H env' fl
section
variable {X : Cx} {T : Tab} {cf : Cf} {N : List Str} {sc : Scope}
theorem imp_s {st : Stmt} {t t' : TS} (h : PS X st t) (i : ∀ D σ H, t' D σ H → t D σ H) : PS X st t' := ⟨fun pins s σ H D I w => h.run pins s σ H D I (i D σ H w)⟩
theorem imp_ss {st : List Stmt} {t t' : TS} (h : PSs X st t) (i : ∀ D σ H, t' D σ H → t D σ H) : PSs X st t' := ⟨fun pins s σ H D I w => h.run pins s σ H D I (i D σ H w)⟩
theorem ts_bad {st : Stmt} : PS X st (TS1 cf X.K .bad) := ⟨fun _ _ _ _ _ _ ⟨_, _, _, _, _, h, _⟩ => by simp [Mi.exec] at h⟩
/-- behind an earlier step -/
theorem StEnd.after {K : PySem.W.Frag} {D : Ends} {env env1 env' : Env} {σ σ1 : L2.St} {R H R1 H1 : Hp} {fl : Fl} (st : SSt env σ R H env1 σ1 R1 H1) (h : StEnd K D env σ R H env' fl) : StEnd K D env1 σ1 R1 H1 env' fl := by
  cases fl with
  | nx => exact fun σ' R' H' r s => h σ' R' H' r (st.trans s)
  | bk => exact fun σ' R' H' r s => h σ' R' H' r (st.trans s)
  | ct => exact fun σ' R' H' r s => h σ' R' H' r (st.trans s)
  | rt r => exact fun v σ' R' H' rp s a => h v σ' R' H' rp (st.trans s) (a.since st.fr.dom)
theorem tss_nil : PSs X [] (TSs cf X.K .nil) := by
  refine imp_ss pss_nil fun D σ H h => ?_
  obtain ⟨env, R, fl, env', rep, ev, q⟩ := h
  simp only [Mi.execs] at ev; cases ev
  exact q σ R H rep (.refl _ _ _ _)
theorem tss_cons {st : Stmt} {sts : List Stmt} {c : Sx} {cs : Ss} (h1 : PS X st (TS1 cf X.K c)) (h2 : PSs X sts (TSs cf X.K cs)) : PSs X (st :: sts) (TSs cf X.K (.cons c cs)) := by
  refine imp_ss (pss_cons h1 h2) fun D σ H h => ?_
  obtain ⟨env, R, fl, env', rep, ev, q⟩ := h
  simp only [Mi.execs, Option.bind_eq_some_iff] at ev
  obtain ⟨p, e1, e2⟩ := ev
  obtain ⟨f1, env1⟩ := p
  refine ⟨env, R, f1, env1, rep, e1, ?_⟩
  cases f1 with
  | nx => exact fun σ1 R1 H1 rep1 st1 => ⟨env1, R1, fl, env', rep1, e2, q.after st1⟩
  | bk => cases e2; exact q
  | ct => cases e2; exact q
  | rt r => cases e2; exact q
variable {a b e : Expr} {ca cb ce : Xp} {pos : Pos}
theorem ts_brk : PS X (.Break pos) (TS1 cf X.K .brk) := by
  refine imp_s ps_break fun D σ H h => ?_
  obtain ⟨env, R, fl, env', rep, ev, q⟩ := h
  simp only [Mi.exec] at ev; cases ev
  exact q σ R H rep (.refl _ _ _ _)
theorem ts_cnt : PS X (.Continue pos) (TS1 cf X.K .cnt) := by
  refine imp_s ps_continue fun D σ H h => ?_
  obtain ⟨env, R, fl, env', rep, ev, q⟩ := h
  simp only [Mi.exec] at ev; cases ev
  exact q σ R H rep (.refl _ _ _ _)
theorem ts_pas : PS X (.Pass pos) (TS1 cf X.K .pas) := by
  refine imp_s ps_pass fun D σ H h => ?_
  obtain ⟨env, R, fl, env', rep, ev, q⟩ := h
  simp only [Mi.exec] at ev; cases ev
  exact q σ R H rep (.refl _ _ _ _)
theorem ts_doc {x : Str} {j : Nat} {p2 : Pos} : PS X (.Expr (.Constant (.str x) j p2) pos) (TS1 cf X.K .pas) := by
  refine imp_s ps_doc fun D σ H h => ?_
  obtain ⟨env, R, fl, env', rep, ev, q⟩ := h
  simp only [Mi.exec] at ev; cases ev
  exact q σ R H rep (.refl _ _ _ _)
theorem ts_retN : PS X (.Return none pos) (TS1 cf X.K .retN) := by
  refine imp_s ps_retN fun D σ H h => ?_
  obtain ⟨env, R, fl, env', rep, ev, q⟩ := h
  simp only [Mi.exec] at ev; cases ev
  exact q .non σ R H rep (.refl _ _ _ _) rfl
theorem ts_ret (h : PE X e (TD cf X.K ce)) : PS X (.Return (some e) pos) (TS1 cf X.K (.ret ce)) := by
  refine imp_s (ps_ret h) fun D σ H h => ?_
  obtain ⟨env, R, fl, env', rep, ev, q⟩ := h
  simp only [Mi.exec, Option.map_eq_some_iff] at ev
  obtain ⟨p, e1, e2⟩ := ev
  cases e2
  exact ⟨env, R, p.1, p.2, rep, e1, fun v R1 H1 rep1 st1 at1 => q v σ R1 H1 rep1 st1.sst at1⟩
theorem ts_exp (h : PE X e (TD cf X.K ce)) (hs : swapsWith e none pos.line X.env = pure false) : PS X (.Expr e pos) (TS1 cf X.K (.exp ce)) := by
  refine imp_s (ps_expr h hs) fun D σ H h => ?_
  obtain ⟨env, R, fl, env', rep, ev, q⟩ := h
  simp only [Mi.exec, Option.map_eq_some_iff] at ev
  obtain ⟨p, e1, e2⟩ := ev
  cases e2
  exact ⟨env, R, p.1, p.2, rep, e1, fun v R1 H1 rep1 st1 at1 => q σ R1 H1 rep1 st1.sst⟩
theorem ts_ite {t : Expr} {ct : Xp} {as bs : List Stmt} {cas cbs : Ss} (ht : PT X t (TT cf X.K ct)) (ha : PSs X as (TSs cf X.K cas)) (hb : PSs X bs (TSs cf X.K cbs)) : PS X (.If t as bs pos) (TS1 cf X.K (.ite ct cas cbs)) := by
  refine imp_s (ps_if ht ha hb) fun D σ H h => ?_
  obtain ⟨env, R, fl, env', rep, ev, q⟩ := h
  simp only [Mi.exec, Option.bind_eq_some_iff] at ev
  obtain ⟨p, e1, e2⟩ := ev
  refine ⟨env, R, p.1, p.2, rep, e1, fun R1 H1 rep1 st1 => ?_⟩
  cases hk : p.1 with
  | true =>
    rw [hk, if_pos rfl] at e2
    refine iteT ?_
    exact ⟨p.2, R1, fl, env', rep1, e2, q.after st1.sst⟩
  | false =>
    rw [hk, if_neg Bool.false_ne_true] at e2
    refine iteF ?_
    exact ⟨p.2, R1, fl, env', rep1, e2, q.after st1.sst⟩
/-- name = value -/
theorem set_imp {i : Nat} {D : Ends} {σ : L2.St} {H : Hp} (h : TS1 cf X.K (.set i ce) D σ H) : tAsg (TD cf X.K ce) (gName i) D σ H := by
  obtain ⟨env, R, fl, env', rep, ev, q⟩ := h
  simp only [Mi.exec, Option.bind_eq_some_iff, Option.map_eq_some_iff] at ev
  obtain ⟨p, e1, e2, e3, e4⟩ := ev
  cases e4
  refine ⟨env, R, p.1, p.2, rep, e1, fun v R1 H1 rep1 st1 at1 => ?_⟩
  obtain ⟨R2, rep2, st2⟩ := at1.store rep1 st1 e3
  exact q _ R2 H1 rep2 st2
theorem ts_set {i : Nat} {x : Str} {p : Pos} (nd : X.N.Nodup) (s : Stor X x i) (h : PE X e (TD cf X.K ce)) (hs : swapsWith e (some (.Name x p)) pos.line X.env = pure false) : PS X (.Assign [.Name x p] e pos) (TS1 cf X.K (.set i ce)) :=
  imp_s (ps_set nd s.1 s.2.1 h hs s.2.2) fun D σ H h => set_imp h
/-- names of a tuple = value -/
theorem unp_imp {is : List Nat} {D : Ends} {σ : L2.St} {H : Hp} (h : TS1 cf X.K (.unp is ce) D σ H) : tAsg (TD cf X.K ce) (TGx X.K (.tp is)) D σ H := by
  obtain ⟨env, R, fl, env', rep, ev, q⟩ := h
  simp only [Mi.exec, Option.bind_eq_some_iff] at ev
  obtain ⟨p, e1, x, e2, e3⟩ := ev
  split at e3
  · rename_i ds
    simp only [Option.map_eq_some_iff] at e3
    obtain ⟨env2, e4, e5⟩ := e3
    cases e5
    refine ⟨env, R, p.1, p.2, rep, e1, fun v R1 H1 rep1 st1 at1 => ?_⟩
    have hd : At X.K R1 (.tup ds) v := by
      rcases at1.pk rep1 e2 with h | ⟨_, _, h⟩
      · exact h
      · exact h.elim
    exact ⟨p.2, R1, _, env', rep1, hd, e4, fun σ' P => q σ' R1 H1 P.rep (st1.sst.trans P.sst)⟩
  · cases e3
theorem ts_unp {es : List Expr} {is : List Nat} {k : Nat} {p : Pos} (hc : X.calm = true) (nd : X.N.Nodup) (n : NamesAt X es is) (h : PE X e (TD cf X.K ce)) (hw : swappedStores [.Tuple es k p] e X.env = pure none) (hs : swapsWithSole [.Tuple es k p] e pos.line X.env = pure false) :
    PS X (.Assign [.Tuple es k p] e pos) (TS1 cf X.K (.unp is ce)) :=
  imp_s (ps_asg h (tg_tp hc nd n) hs hw) fun D σ H h => unp_imp h
/-- a list or a dict -/
theorem set_both (hu : X.A.units + 65 < cLine) : PSet X (fun o i v H Q => rSetL o i v H Q ∨ rSetD o i v H Q) := by
  intro pins s σ H o i v ov iv u Q I ro ri rv h
  rcases h with h | h
  · exact set_list pins s σ H o i v ov iv u Q I ro ri rv h
  · exact set_dict (by omega) pins s σ H o i v ov iv u Q I ro ri rv h
theorem drep_ok {K : PySem.W.Frag} {R : Hp} {k : Key} {d : D} {v : V} (hv : At K R d v) : ∀ {kl : List (Key × V)} {ws : List D}, AtL K R ws (kl.map (·.2)) →
    AtL K R (dRep (kl.map fun p => kD p.1) ws (kD k) d) ((kl.map fun kv => if kv.1 = k then (kv.1, v) else kv).map (·.2))
  | [], ws, h => by cases (show ws = [] from by cases ws with | nil => rfl | cons w ws => obtain ⟨_, _, h1, _⟩ := h; cases h1); exact h
  | p :: kl, [], h => by cases (show (_ :: _ : List V) = [] from h)
  | p :: kl, w :: ws, h => by
    obtain ⟨x, r, h1, h2, h3⟩ := h
    obtain ⟨rfl, rfl⟩ := List.cons.inj h1
    simp only [List.map_cons, dRep]
    refine .cons ?_ (drep_ok hv h3)
    by_cases q : p.1 = k
    · rw [if_pos (by rw [q]), if_pos q]; exact hv
    · rw [if_neg fun z => q (kD_inj z), if_neg q]; exact h2
theorem dput_ok {K : PySem.W.Frag} {R : Hp} {k : Key} {d : D} {v : V} {kl : List (Key × V)} {ws : List D} (hv : At K R d v) (h : AtL K R ws (kl.map (·.2))) : ∀ H a, Own K R (upd H a (.dK (putK kl k v))) a
    (if dAny (kl.map fun p => kD p.1) (kD k) = true then .dct (kl.map fun p => kD p.1) (dRep (kl.map fun p => kD p.1) ws (kD k) d) else .dct (kl.map (fun p => kD p.1) ++ [kD k]) (ws ++ [d])) := by
  intro H a
  have ha := dany_ok k kl
  rw [← valV_any] at ha
  unfold putK
  by_cases q : (kl.any fun kv => decide (kv.1 = k)) = true
  · rw [ha, if_pos q, if_pos q]
    refine ⟨_, upd_same, ?_, ?_⟩
    · rw [List.map_map]
      refine List.map_congr_left fun p _ => ?_
      show kD (if p.1 = k then (p.1, v) else p).1 = kD p.1
      split <;> rfl
    · exact drep_ok hv h
  · rw [ha, if_neg q, if_neg q]
    refine ⟨_, upd_same, ?_, ?_⟩
    · rw [List.map_append]; rfl
    · rw [List.map_append]; exact h.append (.cons hv AtL.nil)
/-- o[i] = v -/
theorem ts_sti (hu : X.A.units + 65 < cLine) {o i v : Expr} {co ci cv : Xp} {p : Pos} (ho : PE X o (TD cf X.K co)) (hi : PE X i (TD cf X.K ci)) (hv : PE X v (TD cf X.K cv)) (hs : swapsWithSole [.Subscript o i p] v pos.line X.env = pure false) (hw : swappedStores [.Subscript o i p] v X.env = pure none) (hp : pln i = true) :
    PS X (.Assign [.Subscript o i p] v pos) (TS1 cf X.K (.sti co ci cv)) := by
  refine imp_s (ps_asg hv (pg_sub ho hi (set_both hu) (fun w => by cases i <;> first | rfl | (simp [pln] at hp))) hs hw) fun D σ H h => ?_
  obtain ⟨env, R, fl, env', rep, ev, q⟩ := h
  simp only [Mi.exec, Option.bind_eq_some_iff] at ev
  obtain ⟨p1, e1, t, e2, p2, e3, p3, e4, k, e5, e6⟩ := ev
  split at e6
  · rename_i j ej
    simp only [Option.bind_eq_some_iff, Option.map_eq_some_iff] at e6
    obtain ⟨d, e7, d', e8, env2, e9, e10⟩ := e6
    cases e10
    refine ⟨env, R, p1.1, p1.2, rep, e1, fun v1 R1 H1 rep1 st1 at1 => ?_⟩
    obtain ⟨R1', rep1', st1', at1'⟩ := at1.take rep1 st1 e2
    refine ⟨t.2, R1', p2.1, p2.2, rep1', e3, fun v2 R2 H2 rep2 st2 at2 => ⟨p2.2, R2, p3.1, p3.2, rep2, e4, fun v3 R3 H3 rep3 st3 at3 => ?_⟩⟩
    have at2' := at2.later st3
    rw [ej] at at2'
    have hv' : At X.K R3 t.1 v1 := at1'.mono (st2.fr.ex.trans st3.fr.ex).le
    obtain ⟨a, rfl, h1, h2⟩ := own_at rep3 at2'.1 e7
    unfold setIx at e8
    split at e8
    · simp only [Option.map_eq_some_iff] at e8
      obtain ⟨m, h3, rfl⟩ := e8
      obtain ⟨vs, h4, h5⟩ := h2
      have hk := (at3.pk rep3 e5).int
      refine .inl ⟨a, vs, _, m, rfl, hk, h4, by rw [← h5.length]; exact h3, ?_⟩
      obtain ⟨rep4, st4⟩ := rep3.change at2'.1 e7 e9 (o := .lst (vs.set m v1)) ⟨_, upd_same, h5.set m hv'⟩
      exact q σ R3 _ rep4 ((((st1'.trans st2).trans st3).trans st4).sst)
    · split at e8
      · rename_i hkz
        cases e8
        obtain ⟨k, rfl⟩ := kD_of hkz.1
        obtain ⟨kl, h4, h5, h6⟩ := h2
        subst h5
        have hk := (at3.pk rep3 e5).key
        refine .inr ⟨a, _, rfl, .inl ⟨kl, k, h4, hk, by have := hkz.2; rwa [List.length_map] at this, rfl⟩, ?_⟩
        obtain ⟨rep4, st4⟩ := rep3.change at2'.1 e7 e9 (o := .dK (putK kl k v1)) (dput_ok hv' h6 _ _)
        exact q σ R3 _ rep4 ((((st1'.trans st2).trans st3).trans st4).sst)
      · cases e8
    · cases e8
  · cases e6
/-- while -/
theorem ts_whl {t : Expr} {ct : Xp} {bs : List Stmt} {cbs : Ss} (hx : X.xe = fun _ _ => False) (ht : PT X t (TT cf X.K ct)) (hb : PSs X bs (TSs cf X.K cbs)) : PS X (.While t bs [] pos) (TS1 cf X.K (.whl ct cbs)) := by
  refine imp_s (ps_while (by rw [hx]; exact PassesOwn.never) ht hb) fun D σ H h => ?_
  obtain ⟨env, R, fl, env', rep, ev, q⟩ := h
  simp only [Mi.exec] at ev
  refine ⟨fun m σ1 H1 => ∃ env1 R1, Rep X.K env1 σ1 R1 H1 ∧ SSt env σ R H env1 σ1 R1 H1 ∧ whileLoop (Mi.test cf ct) (fun e => Mi.execs cf cbs e) m env1 = some (fl, env'), ⟨cf.F, env, R, rep, .refl _ _ _ _, ev⟩, ?_⟩
  rintro m σ1 H1 ⟨env1, R1, rep1, st1, ev1⟩
  cases m with
  | zero => simp [whileLoop] at ev1
  | succ m =>
    simp only [whileLoop, Option.bind_eq_some_iff] at ev1
    obtain ⟨p, e1, e2⟩ := ev1
    refine ⟨env1, R1, p.1, p.2, rep1, e1, fun R2 H2 rep2 st2 => ?_⟩
    have st12 := st1.trans st2.sst
    cases hk : p.1 with
    | false =>
      rw [hk, if_neg Bool.false_ne_true] at e2
      refine iteF ?_
      cases e2
      exact q σ1 R2 H2 rep2 st12
    | true =>
      rw [hk, if_pos rfl] at e2
      refine iteT ?_
      simp only [Option.bind_eq_some_iff] at e2
      obtain ⟨p2, e3, e4⟩ := e2
      obtain ⟨f2, env2⟩ := p2
      refine ⟨fun σ3 H3 => ∃ env3 R3, Rep X.K env3 σ3 R3 H3 ∧ SSt env σ R H env3 σ3 R3 H3 ∧ whileLoop (Mi.test cf ct) (fun e => Mi.execs cf cbs e) m env3 = some (fl, env'), fun σ3 H3 h3 => ⟨m, Nat.lt_succ_self m, h3⟩, ?_⟩
      refine ⟨p.2, R2, f2, env2, rep2, e3, ?_⟩
      cases f2 with
      | nx => exact fun σ3 R3 H3 rep3 st3 => ⟨env2, R3, rep3, st12.trans st3, e4⟩
      | ct => exact fun σ3 R3 H3 rep3 st3 => ⟨env2, R3, rep3, st12.trans st3, e4⟩
      | bk => cases e4; exact fun σ3 R3 H3 rep3 st3 => q σ3 R3 H3 rep3 (st12.trans st3)
      | rt r => cases e4; exact fun v σ3 R3 H3 rep3 st3 a => q v σ3 R3 H3 rep3 (st12.trans st3) (a.since st12.fr.dom)
/-- for -/
theorem for_coreX {ti : TI} {g : Gx} {cbs : Ss} {D : Ends} {σ : L2.St} {H : Hp} {env env' : Env} {R : Hp} {p : List Mi.D × Env} {fl : Fl} (rep : Rep X.K env σ R H)
    (hti : ∀ Rk : It → Hp → Prop, (∀ J R' H', Rep X.K p.2 σ R' H' → ESt env σ R H p.2 R' H' → Walk X.K J p.1 R' → Rk J H') → ti σ H Rk)
    (e2 : forLoop (fun (d : Mi.D) (env : Env) => (putG env g d).bind fun e1 => Mi.execs cf cbs e1) p.1 p.2 = some (fl, env')) (q : StEnd X.K D env σ R H env' fl) : tFor ti (TGx X.K g) (TSs cf X.K cbs) D σ H := by
  refine hti _ fun J R1 H1 rep1 st1 wk => ?_
  generalize hturn : (fun (d : Mi.D) (env : Env) => (putG env g d).bind fun e1 => Mi.execs cf cbs e1) = turn at e2
  refine ⟨fun i m σ' H' => m = p.1.length - i ∧ i ≤ p.1.length ∧ ∃ E R', Rep X.K E σ' R' H' ∧ SSt p.2 σ R1 H1 E σ' R' H' ∧ forLoop turn (p.1.drop i) E = some (fl, env'), ⟨p.1.length, rfl, Nat.zero_le _, p.2, R1, rep1, .refl _ _ _ _, by rw [List.drop_zero]; exact e2⟩, ?_⟩
  rintro i m σ' H' ⟨rfl, hi, E, R', repE, stE, hl⟩
  obtain ⟨w1, w2⟩ := wk R' H' stE.fr.ex repE.ex i
  have stA := st1.sst.trans stE
  by_cases hlt : i < p.1.length
  · obtain ⟨go, yl⟩ := w1 hlt
    refine .inr ⟨go, fun σ3 H3 => ∃ E R', Rep X.K E σ3 R' H3 ∧ SSt p.2 σ R1 H1 E σ3 R' H3 ∧ forLoop turn (p.1.drop (i + 1)) E = some (fl, env'), fun σ3 H3 hI => ⟨p.1.length - (i + 1), by omega, rfl, hlt, hI⟩, fun x H2 hy => ?_⟩
    obtain ⟨R2, d, hd, al2, at2⟩ := yl x H2 hy
    have repE2 := al2.rep repE
    have stE2 := stE.trans al2.st.sst
    have dropEq : p.1.drop i = d :: p.1.drop (i + 1) := by
      rw [List.drop_eq_getElem_cons hlt]
      congr 1
      rw [List.getElem?_eq_getElem hlt] at hd
      exact Option.some.inj hd
    rw [dropEq] at hl
    simp only [forLoop, Option.bind_eq_some_iff] at hl
    obtain ⟨t, ht, hl⟩ := hl
    rw [← hturn] at ht
    simp only [Option.bind_eq_some_iff] at ht
    obtain ⟨ee1, hp1, hex⟩ := ht
    refine ⟨E, R2, d, ee1, repE2, at2, hp1, fun σ2 P => ?_⟩
    obtain ⟨f2, env2⟩ := t
    refine ⟨ee1, R2, f2, env2, P.rep, hex, ?_⟩
    have stP := stE2.trans P.sst
    cases f2 with
    | nx => exact fun σ3 R3 H3 rep3 st3 => ⟨env2, R3, rep3, stP.trans st3, hl⟩
    | ct => exact fun σ3 R3 H3 rep3 st3 => ⟨env2, R3, rep3, stP.trans st3, hl⟩
    | bk => cases hl; exact fun σ3 R3 H3 rep3 st3 => q σ3 R3 H3 rep3 (st1.sst.trans (stP.trans st3))
    | rt r => cases hl; exact fun v σ3 R3 H3 rep3 st3 a => q v σ3 R3 H3 rep3 (st1.sst.trans (stP.trans st3)) (a.since (st1.sst.trans stP).fr.dom)
  · refine .inl ⟨w2 (by omega), ?_⟩
    have : p.1.drop i = [] := List.drop_eq_nil_of_le (by omega)
    rw [this] at hl
    simp only [forLoop] at hl
    cases hl
    exact q σ' R' H' repE stA
theorem StEnd.lock {K : PySem.W.Frag} {D : Ends} {env env1 env' : Env} {σ : L2.St} {R H : Hp} {i : Nat} {d : Addr} {od : Obj} {ks : List Mi.D} {kl : List (Key × V)} {fl : Fl} (hp : DictAt env i ks env1)
    (hH : H d = some (.dK kl)) (hR : (R d = none ∧ OwnsO env σ d) ∨ R d = some (.dK kl)) (q : StEnd K D env σ R H env' fl) :
    StEnd K ⟨fun σ' H' => H' d = some (.frz od (.dK kl)) ∧ D.nx σ' (upd H' d (.dK kl)), fun v H' => H' d = some (.frz od (.dK kl)) ∧ D.rt v (upd H' d (.dK kl)), fun σ' H' => H' d = some (.frz od (.dK kl)) ∧ D.bk σ' (upd H' d (.dK kl)), fun σ' H' => H' d = some (.frz od (.dK kl)) ∧ D.ct σ' (upd H' d (.dK kl))⟩
      env1 σ (upd R d (.frz od (.dK kl))) (upd H d (.frz od (.dK kl))) env' fl := by
  have key : ∀ {σ' R' H'}, Rep K env' σ' R' H' → SSt env1 σ (upd R d (.frz od (.dK kl))) (upd H d (.frz od (.dK kl))) env' σ' R' H' →
      H' d = some (.frz od (.dK kl)) ∧ R' d = some (.frz od (.dK kl)) ∧ Rep K env' σ' (upd R' d (.dK kl)) (upd H' d (.dK kl)) ∧ SSt env σ R H env' σ' (upd R' d (.dK kl)) (upd H' d (.dK kl)) := fun {σ' R' H'} rep' st' => by
    have hR' := st'.fr.ex _ _ (upd_same (H := R))
    have hn : ∀ a, upd H d (.frz od (.dK kl)) a = none → H a = none := fun a z => by
      by_cases ha : a = d
      · subst ha; rw [upd_same] at z; cases z
      · rwa [upd_ne ha] at z
    refine ⟨rep'.ex _ _ hR', hR', rep'.unlock hR', ⟨st'.fr.unlock hp.le hH hR, fun a z => ?_, fun a z => ?_, fun j c e => ?_, st'.len.trans hp.le.1⟩⟩
    · rcases st'.own a z with z | z
      · exact .inl (hp.le.owns z)
      · exact .inr (hn a z)
    · rcases st'.ownO a z with z | z
      · exact .inl (hp.le.ownsO z)
      · exact .inr (hn a z)
    · exact st'.bw j c (hp.bw e)
  cases fl with
  | nx => exact fun σ' R' H' rep' st' => let ⟨h1, _, h3, h4⟩ := key rep' st'; ⟨h1, q _ _ _ h3 h4⟩
  | bk => exact fun σ' R' H' rep' st' => let ⟨h1, _, h3, h4⟩ := key rep' st'; ⟨h1, q _ _ _ h3 h4⟩
  | ct => exact fun σ' R' H' rep' st' => let ⟨h1, _, h3, h4⟩ := key rep' st'; ⟨h1, q _ _ _ h3 h4⟩
  | rt r => exact fun v σ' R' H' rep' st' at' => let ⟨h1, h2, h3, h4⟩ := key rep' st'; ⟨h1, q _ _ _ _ h3 h4 (at'.unlock h2)⟩
theorem ts_for {tg it : Expr} {g : Gx} {ix : Ix} {bs : List Stmt} {cbs : Ss} (hx : X.xe = fun _ _ => False) (hc : X.calm = true) (hi : PI X tg it (TIx cf X.K ix)) (hd : ∀ i, ix = .dk (.var i) → PI X tg it (iKeys (tVar i))) (hg : PG X tg (TGx X.K g)) (hb : PSs X bs (TSs cf X.K cbs)) (hp : pln it = true) : PS X (.For tg it bs [] pos) (TS1 cf X.K (.for g ix cbs)) := by
  have base : ∀ {ti : TI}, PI X tg it ti → PS X (.For tg it bs [] pos) (tFor ti (TGx X.K g) (TSs cf X.K cbs)) := fun hi => ps_for (by rw [hx]; exact PassesOwn.never) hc hi hg hb (folded_pln hp)
  have imp : ∀ {D : Ends} {σ : L2.St} {H : Hp}, TS1 cf X.K (.for g ix cbs) D σ H → tFor (TIx cf X.K ix) (TGx X.K g) (TSs cf X.K cbs) D σ H ∨
      ∃ i, ix = .dk (.var i) ∧ (tLock (tFor (iKeys (tVar i)) (TGx X.K g) (TSs cf X.K cbs)) D σ H ∨ tFor (iKeys (tVar i)) (TGx X.K g) (TSs cf X.K cbs) D σ H) := fun {D σ H} h => by
    obtain ⟨env, R, fl, env', rep, ev, q⟩ := h
    simp only [Mi.exec, Option.bind_eq_some_iff] at ev
    obtain ⟨p, e1, e2⟩ := ev
    cases hd : dictI ix env with
    | none =>
      rw [hd] at e1
      exact .inl (for_coreX rep (fun Rk k => ⟨env, R, p.1, p.2, rep, e1, k⟩) e2 q)
    | some p' =>
      rw [hd] at e1
      cases e1
      obtain ⟨i, rfl, hp⟩ := dictI_some hd
      refine .inr ⟨i, rfl, ?_⟩
      obtain ⟨d, kl, h1, h2, ⟨o, h3, h4⟩ | ⟨h3, h4⟩⟩ := hp.place rep
      · refine .inr (for_coreX (p := p) rep (fun Rk k => ?_) e2 q)
        exact ⟨_, h1, d, o, rfl, .inl ⟨kl, rep.ex _ _ h3, k _ R H (by rw [h4]; exact rep) (by rw [h4]; exact .refl _ _ _ _) (by rw [← h2]; exact walk_keys h3)⟩⟩
      · refine .inl ⟨d, .dK kl, h3, trivial, fun od => ?_⟩
        have repL := rep.lock (od := od) hp h1 h2 h3 h4
        refine for_coreX (p := p) (env := p.2) repL (fun Rk k => ?_) e2 (q.lock hp h3 h4)
        exact ⟨_, h1, d, od, rfl, .inl ⟨kl, upd_same, k _ _ _ repL (.refl _ _ _ _) (by rw [← h2]; exact walk_keys upd_same)⟩⟩
  by_cases hk : ∃ i, ix = .dk (.var i)
  · obtain ⟨i, rfl⟩ := hk
    refine imp_s (ps_or (base hi) (ps_or (ps_lock (base (hd i rfl))) (base (hd i rfl)))) fun D σ H h => ?_
    rcases imp h with h | ⟨j, hj, h⟩
    · exact .inl h
    · cases hj
      exact .inr h
  · exact imp_s (base hi) fun D σ H h => (imp h).resolve_right fun ⟨i, hi, _⟩ => hk ⟨i, hi⟩
end
end Mi

end

section
set_option linter.all false
set_option maxRecDepth 100000
set_option maxHeartbeats 4000000
/-! Mi15: several stores at once; the text's statements -/
namespace Mi
open PySem PySem.Spec PyProof.Rows L2

def NoS (rs : List Rv) : Prop := ∀ (k : Nat) (j : Nat), rs[k]? ≠ some (Rv.s j)
def setAll : L2.St → List Nat → List V → L2.St
  | σ, i :: is, v :: vs => setAll (σ.set i (some v)) is vs
  | σ, _, _ => σ
section
variable {K : PySem.W.Frag}
theorem settle_len : ∀ {rs rs' : List Rv} {env env' : Env}, settle rs env = some (rs', env') → rs'.length = rs.length
  | [], _, _, _, h => by simp only [settle] at h; cases h; rfl
  | .s j :: rs, _, _, _, h => by
    simp only [settle, Option.bind_eq_some_iff, Option.map_eq_some_iff] at h
    obtain ⟨p, _, q, h2, h3⟩ := h
    cases h3
    rw [List.length_cons, List.length_cons, settle_len h2]
  | .v d :: rs, _, _, _, h => by
    simp only [settle, Option.map_eq_some_iff] at h
    obtain ⟨q, h2, h3⟩ := h
    cases h3
    rw [List.length_cons, List.length_cons, settle_len h2]
  | .f d :: rs, _, _, _, h => by
    simp only [settle, Option.map_eq_some_iff] at h
    obtain ⟨q, h2, h3⟩ := h
    cases h3
    rw [List.length_cons, List.length_cons, settle_len h2]
theorem settle_f : ∀ {rs rs' : List Rv} {env env' : Env} {k : Nat} {d : D}, settle rs env = some (rs', env') → rs'[k]? = some (Rv.f d) → rs[k]? = some (Rv.f d)
  | [], _, _, _, k, d, h, e => by simp only [settle] at h; cases h; simp at e
  | .s j :: rs, _, _, _, k, d, h, e => by
    simp only [settle, Option.bind_eq_some_iff, Option.map_eq_some_iff] at h
    obtain ⟨p, _, q, h2, h3⟩ := h
    cases h3
    cases k with
    | zero => simp at e
    | succ k => rw [List.getElem?_cons_succ] at e ⊢; exact settle_f h2 e
  | .v c :: rs, _, _, _, k, d, h, e => by
    simp only [settle, Option.map_eq_some_iff] at h
    obtain ⟨q, h2, h3⟩ := h
    cases h3
    cases k with
    | zero => simp at e
    | succ k => rw [List.getElem?_cons_succ] at e ⊢; exact settle_f h2 e
  | .f c :: rs, _, _, _, k, d, h, e => by
    simp only [settle, Option.map_eq_some_iff] at h
    obtain ⟨q, h2, h3⟩ := h
    cases h3
    cases k with
    | zero => simpa using e
    | succ k => rw [List.getElem?_cons_succ] at e ⊢; exact settle_f h2 e
theorem settle_ok {σ : L2.St} {H H0 : Hp} : ∀ {rs rs' : List Rv} {vs : List V} {env env' : Env} {R : Hp}, Rep K env σ R H → RvL K env σ R H H0 rs vs → settle rs env = some (rs', env') →
    ∃ R', Rep K env' σ R' H ∧ ESt env σ R H env' R' H ∧ RvL K env' σ R' H H0 rs' vs ∧ NoS rs'
  | [], _, vs, env, env', R, rep, h, e => by
    simp only [settle] at e; cases e
    exact ⟨R, rep, .refl _ _ _ _, h, fun k j => by simp⟩
  | .s j :: rs, _, vs, env, env', R, rep, ⟨v, t, h1, h2, h3, h4⟩, e => by
    simp only [settle, Option.bind_eq_some_iff, Option.map_eq_some_iff] at e
    obtain ⟨p, e1, q, e2, e3⟩ := e
    cases e3
    have h2' : RvAt K env σ R H H v (.s j) := h2
    obtain ⟨R1, rep1, st1, at1⟩ := h2'.take rep (.refl _ _ _ _) e1
    obtain ⟨R2, rep2, st2, h5, h6⟩ := settle_ok rep1 (h3.later st1) e2
    refine ⟨R2, rep2, st1.trans st2, ⟨v, t, h1, at1.mono st2.fr.ex.le, h5, fun d hd => by cases hd⟩, fun k j' => ?_⟩
    cases k with
    | zero => simp
    | succ k => rw [List.getElem?_cons_succ]; exact h6 k j'
  | .v d :: rs, _, vs, env, env', R, rep, ⟨v, t, h1, h2, h3, h4⟩, e => by
    simp only [settle, Option.map_eq_some_iff] at e
    obtain ⟨q, e2, e3⟩ := e
    cases e3
    obtain ⟨R2, rep2, st2, h5, h6⟩ := settle_ok rep h3 e2
    refine ⟨R2, rep2, st2, ⟨v, t, h1, h2.later st2, h5, fun d hd => by cases hd⟩, fun k j' => ?_⟩
    cases k with
    | zero => simp
    | succ k => rw [List.getElem?_cons_succ]; exact h6 k j'
  | .f d :: rs, _, vs, env, env', R, rep, ⟨v, t, h1, h2, h3, h4⟩, e => by
    simp only [settle, Option.map_eq_some_iff] at e
    obtain ⟨q, e2, e3⟩ := e
    cases e3
    obtain ⟨R2, rep2, st2, h5, h6⟩ := settle_ok rep h3 e2
    refine ⟨R2, rep2, st2, ⟨v, t, h1, h2.later st2, h5, fun d' hd k d'' hk => h4 d' hd k d'' (settle_f e2 hk)⟩, fun k j' => ?_⟩
    cases k with
    | zero => simp
    | succ k => rw [List.getElem?_cons_succ]; exact h6 k j'
theorem stores_ok {env0 : Env} {σ0 : L2.St} {R0 H0 R H : Hp} : ∀ {is : List Nat} {rs : List Rv} {vs : List V} {env env' : Env} {σ : L2.St}, Rep K env σ R H → SSt env0 σ0 R0 H0 env σ R H → RvL K env σ R H H0 rs vs → NoS rs → storesR env is rs = some env' →
    Rep K env' (setAll σ is vs) R H ∧ SSt env0 σ0 R0 H0 env' (setAll σ is vs) R H
  | [], [], vs, env, env', σ, rep, st, h, n, e => by
    simp only [storesR] at e; cases e
    exact ⟨rep, st⟩
  | [], _ :: _, _, _, _, _, _, _, _, _, e => by simp [storesR] at e
  | _ :: _, [], _, _, _, _, _, _, _, _, e => by simp [storesR] at e
  | i :: is, r :: rs, vs, env, env', σ, rep, st, ⟨v, t, h1, h2, h3, h4⟩, n, e => by
    subst h1
    simp only [storesR, Option.bind_eq_some_iff] at e
    obtain ⟨env1, e1, e2⟩ := e
    have n' : NoS rs := fun k j => by have := n (k + 1) j; rwa [List.getElem?_cons_succ] at this
    show Rep K env' (setAll (σ.set i (some v)) is t) R H ∧ SSt env0 σ0 R0 H0 env' (setAll (σ.set i (some v)) is t) R H
    cases r with
    | s j => exact absurd rfl (n 0 j)
    | v d =>
      simp only [Mi.store] at e1
      have P := PutTo.one rep e1 h2
      refine stores_ok P.rep (st.trans P.sst) ?_ n' e2
      have aux : ∀ {rs : List Rv} {t : List V}, NoS rs → RvL K env σ R H H0 rs t → RvL K env1 (σ.set i (some v)) R H H0 rs t := fun {rs} => by
        induction rs with
        | nil => exact fun _ h => h
        | cons r rs ih =>
          intro t n ⟨w, t', k1, k2, k3, k4⟩
          refine ⟨w, t', k1, ?_, ih (fun k j => by have := n (k + 1) j; rwa [List.getElem?_cons_succ] at this) k3, k4⟩
          cases r with
          | s j => exact absurd rfl (n 0 j)
          | v d => exact k2
          | f d => obtain ⟨a, m1, m2, m3, m4, m5⟩ := k2; exact ⟨a, m1, m2, m3, m4, fun z => m5 (P.owns a z)⟩
      exact aux n' h3
    | f d =>
      simp only [Mi.store] at e1
      split at e1
      · rename_i hc
        cases e1
        obtain ⟨a, rfl, q2, q3, q4, q5⟩ := h2
        obtain ⟨r1, o1, o2⟩ := rep.keep hc.1 hc.2 q3 q4 q5
        have st1 : SSt env0 σ0 R0 H0 (env.set i (.ow d)) (σ.set i (some (.ref a))) R H := by
          refine ⟨st.fr, fun x z => ?_, fun x z => ?_, fun j d' e => ?_, by rw [List.length_set]; exact st.len⟩
          · rcases o1 x z with z | rfl
            · exact st.own x z
            · exact .inr q2
          · rcases o2 x z with z | rfl
            · exact st.ownO x z
            · exact .inr q2
          · obtain ⟨⟨d1, e1⟩, e2⟩ := st.bw j d' e
            obtain ⟨k1, k2⟩ := bw_set (σ := σ) (v := some (.ref a)) (s := .ow d) hc.2 j d1 e1
            exact ⟨k1, k2.trans e2⟩
        refine stores_ok r1 st1 ?_ n' e2
        have aux : ∀ {rs : List Rv} {t : List V}, NoS rs → (∀ (k : Nat) d', rs[k]? = some (Rv.f d') → t[k]? ≠ some (V.ref a)) → RvL K env σ R H H0 rs t → RvL K (env.set i (.ow d)) (σ.set i (some (.ref a))) R H H0 rs t := fun {rs} => by
          induction rs with
          | nil => exact fun _ _ h => h
          | cons r rs ih =>
            intro t n ap ⟨w, t', k1, k2, k3, k4⟩
            subst k1
            refine ⟨w, t', rfl, ?_, ih (fun k j => by have := n (k + 1) j; rwa [List.getElem?_cons_succ] at this) (fun k d' hk => by have := ap (k + 1) d' (by rw [List.getElem?_cons_succ]; exact hk); rwa [List.getElem?_cons_succ] at this) k3, k4⟩
            cases r with
            | s j => exact absurd rfl (n 0 j)
            | v d => exact k2
            | f d' =>
              obtain ⟨b, m1, m2, m3, m4, m5⟩ := k2
              refine ⟨b, m1, m2, m3, m4, fun z => ?_⟩
              rcases o1 b z with z | rfl
              · exact m5 z
              · exact ap 0 d' rfl (by rw [m1]; rfl)
        exact aux n' (fun k d' hk => h4 d rfl k d' hk) h3
      · cases e1
end
section
variable {X : Cx} {T : Tab} {cf : Cf} {N : List Str} {sc : Scope}
theorem par_imp {is : List Nat} {ces : Xs} {D : Ends} {σ : L2.St} {H : Hp} (h : TS1 cf X.K (.par is ces) D σ H) : ∃ n, TL cf X.K ces σ H fun vs H1 => vs.length = n ∧ is.length = n ∧ D.nx (setAll σ is vs) H1 := by
  obtain ⟨env, R, fl, env', rep, ev, q⟩ := h
  simp only [Mi.exec, Option.bind_eq_some_iff, Option.map_eq_some_iff] at ev
  obtain ⟨p, e1, t, e2, e3, e4, e5⟩ := ev
  cases e5
  refine ⟨p.1.length, env, R, p.1, p.2, rep, e1, fun vs R1 H1 rep1 st1 at1 => ?_⟩
  obtain ⟨R2, rep2, st2, at2, ns⟩ := settle_ok rep1 at1 e2
  obtain ⟨rep3, st3⟩ := stores_ok rep2 (st1.trans st2).sst at2 ns e4
  have l1 : vs.length = p.1.length := by
    have : ∀ {rs : List Rv} {vs : List V} {R : Hp} {env : Env} {H1 H : Hp}, RvL X.K env σ R H1 H rs vs → vs.length = rs.length := fun {rs} => by
      induction rs with
      | nil => intro vs R env H1 H h; cases (show vs = [] from h); rfl
      | cons r rs ih => intro vs R env H1 H ⟨v, t, k1, _, k3, _⟩; subst k1; rw [List.length_cons, List.length_cons, ih k3]
    exact this at1
  have l2 : is.length = p.1.length := by
    have : ∀ {is : List Nat} {rs : List Rv} {env env' : Env}, storesR env is rs = some env' → is.length = rs.length := fun {is} => by
      induction is with
      | nil => intro rs env env' h; cases rs with
        | nil => rfl
        | cons _ _ => simp [storesR] at h
      | cons i is ih => intro rs env env' h; cases rs with
        | nil => simp [storesR] at h
        | cons r rs =>
          simp only [storesR, Option.bind_eq_some_iff] at h
          obtain ⟨e, _, h2⟩ := h
          rw [List.length_cons, List.length_cons, ih h2]
    rw [this e4, settle_len e2]
  exact ⟨l1, l2, q _ R2 H1 rep3 st3⟩
/-- the swapped stores' own condition -/
def swp (sc : Scope) (ts vs : List Expr) : Option (List Str) :=
  if sc.kind = .function ∧ (ts.length == 2 || ts.length == 3) = true ∧ vs.length = ts.length ∧ plnAll vs = true ∧ plnAll ts = true then
    let line := (ts.head?.map (·.pos.line)).getD 0
    let names := ts.filterMap fun
      | .Name id pos => if sc.names.lookup id == some .local && pos.line == line then some id else none
      | _ => none
    if names.length = ts.length ∧ names.eraseDups.length = names.length ∧ vs.all (foldedForSure 8) = false ∧ vs.all (constantsAlone 8) = false then some names else none
  else none
theorem swp_ok {ts vs : List Expr} {names : List Str} {k k2 : Nat} {p p2 : Pos} (G : Gd T cf X N sc) (h : swp sc ts vs = some names) : swappedStores [.Tuple ts k p] (.Tuple vs k2 p2) X.env = pure (some names) := by
  unfold swp at h
  split at h
  · rename_i hc
    obtain ⟨c1, c2, c3, c4, c5⟩ := hc
    dsimp only at h
    split at h
    · rename_i hd
      obtain ⟨d1, d2, d3, d4⟩ := hd
      cases h
      have hb : X.env.blockKind = .function := by unfold Env.blockKind; rw [G.hsc, c1]; rfl
      have hst : vs.any (fun | .Starred .. => true | _ => false) = false := by
        clear d3 d4 c3
        induction vs with
        | nil => rfl
        | cons v vs ih =>
          have := pln_cons c4
          rw [List.any_cons, ih this.2]
          cases v <;> first | rfl | (have h1 := this.1; simp [pln] at h1)
      unfold swappedStores
      have hn : X.env.kindOf = fun id => sc.names.lookup id := by funext id; show X.env.scope.names.lookup id = _; rw [G.hsc]
      simp only [hn]
      have e1 : (!(ts.length == 2 || ts.length == 3) || vs.length != ts.length || X.env.blockKind != ScopeKind.function) = false := by
        rw [c2, c3, hb]; simp
      simp only [e1, Bool.false_eq_true, if_false]
      have e2 : ((ts.filterMap fun
          | .Name id pos => if sc.names.lookup id == some .local && pos.line == (ts.head?.map (·.pos.line)).getD 0 then some id else none
          | _ => none).length != ts.length || (ts.filterMap fun
          | .Name id pos => if sc.names.lookup id == some .local && pos.line == (ts.head?.map (·.pos.line)).getD 0 then some id else none
          | _ => none).eraseDups.length != (ts.filterMap fun
          | .Name id pos => if sc.names.lookup id == some .local && pos.line == (ts.head?.map (·.pos.line)).getD 0 then some id else none
          | _ => none).length) = false := by
        rw [Bool.or_eq_false_iff]
        exact ⟨by simpa using d1, by simpa using d2⟩
      simp only [d3, d4, Bool.false_eq_true, if_false]
      refine (if_neg (fun z => ?_)).trans ((if_neg (fun z => ?_)).trans rfl)
      · have z' : vs.any (fun | .Starred .. => true | _ => false) = true := z
        rw [hst] at z'; cases z'
      · have z' := e2.symm.trans z
        cases z'
    · cases h
  · cases h
end
end Mi

end

section
set_option linter.all false
set_option maxRecDepth 100000
set_option maxHeartbeats 4000000
/-! Mi16: comp on statements, its soundness -/
namespace Mi
open PySem PySem.Spec PyProof.Rows L2

def slotL (N : List Str) (sc : Scope) (x : Str) : Option Nat :=
  if (sc.names.lookup x = some .local ∨ sc.names.lookup x = some .cell) ∧ N[N.idxOf x]? = some x then some (N.idxOf x) else none
def isComp : Expr → Bool
  | .ListComp .. | .SetComp .. | .DictComp .. => true
  | _ => false
/-- no swapped stores -/
def swpN (sc : Scope) (ts vs : List Expr) : Bool :=
  if sc.kind = .function ∧ (ts.length == 2 || ts.length == 3) = true ∧ vs.length = ts.length ∧ plnAll vs = true then
    let line := (ts.head?.map (·.pos.line)).getD 0
    let names := ts.filterMap fun
      | .Name id pos => if sc.names.lookup id == some .local && pos.line == line then some id else none
      | _ => none
    names.length != ts.length || names.eraseDups.length != names.length || vs.all (foldedForSure 8)
  else !((ts.length == 2 || ts.length == 3) && vs.length == ts.length)
section
variable {X : Cx} {T : Tab} {cf : Cf} {N : List Str} {sc : Scope}
theorem ite_cases {c : Prop} [Decidable c] {α : Type} {a b r : α} (h1 : c → a = r) (h2 : ¬ c → b = r) : (if c then a else b) = r := by
  split
  · exact h1 (by assumption)
  · exact h2 (by assumption)
theorem nostar : ∀ {vs : List Expr}, plnAll vs = true → vs.any (fun | .Starred .. => true | _ => false) = false
  | [], _ => rfl
  | v :: vs, h => by
    have := pln_cons h
    rw [List.any_cons, nostar this.2]
    cases v <;> first | rfl | (have h1 := this.1; simp [pln] at h1)
theorem swpN_ok {ts vs : List Expr} {k k2 : Nat} {p p2 : Pos} (G : Gd T cf X N sc) (h : swpN sc ts vs = true) : swappedStores [.Tuple ts k p] (.Tuple vs k2 p2) X.env = pure none := by
  have hn : X.env.kindOf = fun id => sc.names.lookup id := by funext id; show X.env.scope.names.lookup id = _; rw [G.hsc]
  unfold swpN at h
  split at h
  · rename_i hc
    obtain ⟨c1, c2, c3, c4⟩ := hc
    have hb : X.env.blockKind = .function := by unfold Env.blockKind; rw [G.hsc, c1]; rfl
    have hst := nostar c4
    have e1 : (!(ts.length == 2 || ts.length == 3) || vs.length != ts.length || X.env.blockKind != ScopeKind.function) = false := by
      rw [c2, c3, hb]; simp
    unfold swappedStores
    simp only [hn, e1, Bool.false_eq_true, if_false]
    dsimp only at h
    rw [Bool.or_eq_true] at h
    refine (if_neg (fun z => ?_)).trans ?_
    · have z' : vs.any (fun | .Starred .. => true | _ => false) = true := z
      rw [hst] at z'; cases z'
    rcases h with h | h
    · exact (if_pos h).trans rfl
    · refine ite_cases ?_ ?_
      · intro _; rfl
      · intro _; simp only [h, if_true]
  · rename_i hc
    unfold swappedStores
    have e1 : (!(ts.length == 2 || ts.length == 3) || vs.length != ts.length || X.env.blockKind != ScopeKind.function) = true := by
      simp only [Bool.not_eq_true', Bool.and_eq_false_iff] at h
      rcases h with h | h
      · rw [h]; rfl
      · rw [show (vs.length != ts.length) = true by rw [bne, h]; rfl]; simp
    simp only [e1, if_true]
end

mutual
def compS (T : Tab) : Nat → List Str → Scope → Stmt → Sx
  | 0, _, _, _ => .bad
  | n + 1, N, sc, st => match st with
    | .Assign [.Name x _] e _ => match slotL N sc x with
      | some i => .set i (comp T n N sc e)
      | none => .bad
    | .Assign [.Tuple ts k p] e _ => match e with
      | .Tuple vs k2 p2 =>
        if swpN sc ts vs then (match tgt (slotL N sc) (.Tuple ts k p) with
          | some (.tp is) => .unp is (comp T n N sc (.Tuple vs k2 p2))
          | _ => .bad)
        else match ts, vs with
          | [.Name x _, .Name y _], [a, b] => if swp sc ts vs = some [x, y] ∧ sc.names.lookup x = some .local ∧ sc.names.lookup y = some .local then (match slotL N sc x, slotL N sc y with
              | some i, some j => if i ≠ j then .par [i, j] (xs (comp T n N sc) [a, b]) else .bad
              | _, _ => .bad) else .bad
          | [.Name x _, .Name y _, .Name z _], [a, b, c] => if swp sc ts vs = some [x, y, z] ∧ sc.names.lookup x = some .local ∧ sc.names.lookup y = some .local ∧ sc.names.lookup z = some .local then (match slotL N sc x, slotL N sc y, slotL N sc z with
              | some i, some j, some l => if i ≠ j ∧ i ≠ l ∧ j ≠ l then .par [i, j, l] (xs (comp T n N sc) [a, b, c]) else .bad
              | _, _, _ => .bad) else .bad
          | _, _ => .bad
      | e => match tgt (slotL N sc) (.Tuple ts k p) with
        | some (.tp is) => .unp is (comp T n N sc e)
        | _ => .bad
    | .Assign [.Subscript o i _] v _ => if pln i then .sti (comp T n N sc o) (comp T n N sc i) (comp T n N sc v) else .bad
    | .Expr (.Constant (.str _) _ _) _ => .pas
    | .Expr e _ => if isComp e then .bad else .exp (comp T n N sc e)
    | .If t a b _ => .ite (comp T n N sc t) (compSs T n N sc a) (compSs T n N sc b)
    | .While t b [] _ => .whl (comp T n N sc t) (compSs T n N sc b)
    | .For tg it b [] _ => if pln it then (match tgt (slotL N sc) tg with
      | some g => .for g (compI T n N sc tg it) (compSs T n N sc b)
      | none => .bad) else .bad
    | .Return none _ => .retN
    | .Return (some e) _ => .ret (comp T n N sc e)
    | .Pass _ => .pas
    | .Break _ => .brk
    | .Continue _ => .cnt
    | _ => .bad
def compSs (T : Tab) : Nat → List Str → Scope → List Stmt → Ss
  | 0, _, _, _ => .cons .bad .nil
  | n + 1, N, sc, sts => match sts with
    | [] => .nil
    | s :: r => .cons (compS T n N sc s) (compSs T n N sc r)
end
section
variable {X : Cx} {T : Tab} {cf : Cf} {N : List Str} {sc : Scope}
theorem slotL_ok (G : Gd T cf X N sc) (hfn : ∀ x, X.fn x = true) {x : Str} {i : Nat} (h : slotL N sc x = some i) : Stor X x i := by
  unfold slotL at h
  split at h
  · rename_i hc
    cases h
    exact ⟨by rw [G.hN]; exact hc.2, by rw [show Loc X.env.scope x = Loc sc x by rw [G.hsc]]; exact hc.1, .inl (hfn x)⟩
  · cases h
theorem ts_bad' {st : Stmt} {c : Sx} (h : ∀ env r, Mi.exec cf c env ≠ some r) : PS X st (TS1 cf X.K c) := ⟨fun _ _ _ _ _ _ ⟨_, _, _, _, _, e, _⟩ => absurd e (h _ _)⟩
theorem swaps_name {e : Expr} {t : Str} {p : Pos} {l : Nat} {env : PySem.Env} (h : isComp e = false) : swapsWith e (some (.Name t p)) l env = pure false := by
  cases e <;> first | rfl | (simp [isComp] at h)
theorem swaps_none {e : Expr} {l : Nat} {env : PySem.Env} (h : isComp e = false) : swapsWith e none l env = pure false := by
  cases e <;> first | rfl | (simp [isComp] at h)
theorem sole_tup {e : Expr} {ts : List Expr} {k : Nat} {p : Pos} {l : Nat} {env : PySem.Env} : swapsWithSole [.Tuple ts k p] e l env = pure false := by
  cases e <;> rfl
theorem sole_sub {e o i : Expr} {p : Pos} {l : Nat} {env : PySem.Env} : swapsWithSole [.Subscript o i p] e l env = pure false := by
  cases e <;> rfl
theorem swap_sub {e o i : Expr} {p : Pos} {env : PySem.Env} : swappedStores [.Subscript o i p] e env = pure none := by
  cases e <;> rfl
theorem swap_tup {e : Expr} {ts : List Expr} {k : Nat} {p : Pos} {env : PySem.Env} (h : isTup e = false) : swappedStores [.Tuple ts k p] e env = pure none := by
  cases e <;> first | rfl | (simp [isTup] at h)
/-- name = [..] -/
theorem lc_set {n : Nat} (S : Snd T cf n) (G : Gd T cf X N sc) (hfn : ∀ x, X.fn x = true) {elt : Expr} {gs : List Comprehension} {scope : Scope} {pos p spos : Pos} {x : Str} {i : Nat} (hs : slotL N sc x = some i) :
    PS X (.Assign [.Name x p] (.ListComp elt gs scope pos) spos) (TS1 cf X.K (.set i (comp T (n + 1) N sc (.ListComp elt gs scope pos)))) := by
  have st := slotL_ok G hfn hs
  have nd : X.N.Nodup := by rw [G.hN]; exact G.nd
  have S1 := comp_ok T cf (n + 1)
  -- does the model exchange the stores?
  by_cases hw : (X.env.blockKind == .function && X.env.kindOf x == some .local && p.line == pos.line && !(scope.names.any fun (n, k) => n == x && (k == .local || k == .cell))) = true
  · have hsw : ∀ gs', swapsWith (.ListComp elt gs' scope pos) (some (.Name x p)) spos.line X.env = pure true := fun gs' => by
      unfold swapsWith
      simp only [Expr.pos, hw]
      try rfl
    simp only [Bool.and_eq_true, beq_iff_eq] at hw
    have hloc : X.env.scope.names.lookup x = some .local := hw.1.1.2
    unfold comp
    simp only
    split
    all_goals first | contradiction | skip
    · rename_i tg it ifs scope' p' heq
      injection heq with h1 h2 h3 h4
      subst h1 h2 h3 h4
      split
      · rename_i hb
        simp only [Bool.and_eq_true] at hb
        split
        · rename_i g hg
          have hb' := blkOk_by hb.1
          have ok : BlkOk X.N X.env.scope scope (ownOfScope N scope) := by rw [G.hN, G.hsc]; exact hb'
          have slots : ∀ j, j ∈ g.slots → j ∈ (ownOfScope N scope).map (·.2) := by
            intro j hj
            obtain ⟨y, hy⟩ := (tgt_ok (X' := X.blk { os := default } (fun _ => none) scope (compEnvC scope [] 0 X.env) []) G.calm nd (fun x i h => blk_stor G hb.1 _ _ _ _ _ h) hg).2 j hj
            split at hy
            · exact own_mem hy
            · cases hy
          have main : ∀ (ifs : List Expr) (c : Xo), ((ifs = [] ∧ c = .no) ∨ ∃ e, ifs = [e] ∧ c = .so (comp T n N (relS scope sc) e)) →
              PS X (.Assign [.Name x p] (.ListComp elt [⟨tg, it, ifs, 0⟩] scope pos) spos) (TS1 cf X.K (.set i (.lc (comp T n N (relS scope sc) elt) g (compI T n N sc tg it) c ((ownOfScope N scope).map (·.2))))) := fun ifs c hc => by
            have base : ∀ {ti : TI}, PI X tg it ti → PS X (.Assign [.Name x p] (.ListComp elt [⟨tg, it, ifs, 0⟩] scope pos) spos) (fun D σ H => tLc ti (TGx X.K g) (TTs cf X.K c) (TD cf X.K (comp T n N (relS scope sc) elt)) ((ownOfScope N scope).map (·.2)) σ H fun v H1 => D.nx (σ.set i (some v)) H1) := fun hi => by
              refine ps_setLc (g := TGx X.K g) (tt := TTs cf X.K c) (te := TD cf X.K (comp T n N (relS scope sc) elt)) G.calm nd st.1 hloc (hsw _) hi ok (fun s H C cl fp => ?_) (fun s H C cl fp => ?_) (fun s H C cl fp => ?_) (folded_pln hb.2)
              · exact (tgt_ok (X' := X.blk s H scope (compEnvC scope cl C X.env) fp) G.calm nd (fun x i h => blk_stor G hb.1 s H C cl fp h) hg).1
              · exact (show PTs (X.blk s H scope (compEnvC scope cl C X.env) fp) ifs (TTs cf X.K c) from by
                  rcases hc with ⟨rfl, rfl⟩ | ⟨e, rfl, rfl⟩
                  · exact tts_no
                  · exact tts_so (S.e (G.blk s H scope C cl fp) e).2)
              · exact (S.e (G.blk s H scope C cl fp) elt).1
            by_cases hk : ∃ i, compI T n N sc tg it = .dk (.var i)
            · obtain ⟨j, hi⟩ := hk
              obtain ⟨y, py, rfl, hy⟩ := compI_dk hi
              refine imp_s (ps_or (base (S.i G tg _)) (ps_or (ps_lock (base (pi_dict G hy))) (base (pi_dict G hy)))) fun D σ H h => ?_
              rcases lc_imp (c := c) slots (set_imp h) with h | ⟨j', hj, h⟩
              · exact .inl h
              · rw [hi] at hj; cases hj
                exact .inr h
            · exact imp_s (base (S.i G tg it)) fun D σ H h => (lc_imp (c := c) slots (set_imp h)).resolve_right fun ⟨i, hi, _⟩ => hk ⟨i, hi⟩
          split
          · exact main [] .no (.inl ⟨rfl, rfl⟩)
          · exact main _ _ (.inr ⟨_, rfl, rfl⟩)
          · exact ts_bad' fun env r h => by simp [Mi.exec, Mi.eval] at h
        · exact ts_bad' fun env r h => by simp [Mi.exec, Mi.eval] at h
      · exact ts_bad' fun env r h => by simp [Mi.exec, Mi.eval] at h
    · rename_i tg it ifs tg1 it1 ifs1 scope' p' heq
      injection heq with h1 h2 h3 h4
      subst h1 h2 h3 h4
      split
      · rename_i hb
        simp only [Bool.and_eq_true] at hb
        split
        · rename_i g g1 c c1 hg hg1 hc hc1
          have hb' := blkOk_by hb.1.1
          have ok : BlkOk X.N X.env.scope scope (ownOfScope N scope) := by rw [G.hN, G.hsc]; exact hb'
          have slots : ∀ {tg : Expr} {g : Gx}, tgt (fun x => if (scope.names.lookup x = some .local ∨ scope.names.lookup x = some .cell) ∧ ((ownOfScope N scope).lookup x).isSome = true then (ownOfScope N scope).lookup x else none) tg = some g → ∀ j, j ∈ g.slots → j ∈ (ownOfScope N scope).map (·.2) := by
            intro tg g hg j hj
            obtain ⟨y, hy⟩ := (tgt_ok (X' := X.blk { os := default } (fun _ => none) scope (compEnvC scope [] 0 X.env) []) G.calm nd (fun x i h => blk_stor G hb.1.1 _ _ _ _ _ h) hg).2 j hj
            split at hy
            · exact own_mem hy
            · cases hy
          rw [sl_slots]
          refine imp_s (ps_setLc2 (g := TGx X.K g) (g1 := TGx X.K g1) (tt := TTs cf X.K c) (tt1 := TTs cf X.K c1) (te := TD cf X.K (comp T n N (relS scope sc) elt)) (wi1 := TIx cf X.K (compI T n N (relS scope sc) tg1 it1)) G.calm nd st.1 hloc (hsw _) (S.i G tg it) ok (slots hg1) (fun s H C cl fp => ?_) (fun s H C cl fp => ?_) (fun s H C cl fp => ?_) (fun s H C cl fp => ?_) (fun s H C cl fp => ?_) (fun s H C cl fp => ?_) (folded_pln hb.1.2) (fun env => folded_pln hb.2)) fun D σ H h => lc2_imp (slots hg) (fun j hj => hj) (slots hg1) (set_imp h)
          · exact (tgt_ok (X' := X.blk s H scope (compEnvC scope cl C X.env) fp) G.calm nd (fun x i h => blk_stor G hb.1.1 s H C cl fp h) hg).1
          · exact ifsX_ok (X' := X.blk s H scope (compEnvC scope cl C X.env) fp) (fun e => (S.e (G.blk s H scope C cl fp) e).2) hc
          · exact S.i (G.blk s H scope C cl fp) tg1 it1
          · exact (tgt_ok (X' := X.blk s H scope (compEnvC scope cl C X.env) fp) G.calm nd (fun x i h => blk_stor G hb.1.1 s H C cl fp h) hg1).1
          · exact ifsX_ok (X' := X.blk s H scope (compEnvC scope cl C X.env) fp) (fun e => (S.e (G.blk s H scope C cl fp) e).2) hc1
          · exact (S.e (G.blk s H scope C cl fp) elt).1
        · exact ts_bad' fun env r h => by simp [Mi.exec, Mi.eval] at h
      · exact ts_bad' fun env r h => by simp [Mi.exec, Mi.eval] at h
    · exact ts_bad' fun env r h => by simp [Mi.exec, Mi.eval] at h
  · have hw' : (X.env.blockKind == .function && X.env.kindOf x == some .local && p.line == pos.line && !(scope.names.any fun (n, k) => n == x && (k == .local || k == .cell))) = false := by
      exact Bool.eq_false_iff.mpr hw
    refine ts_set nd st (S1.e G _).1 ?_
    unfold swapsWith
    simp only [Expr.pos, hw']
    try rfl
end
end Mi

end

section
set_option linter.all false
set_option maxRecDepth 100000
set_option maxHeartbeats 4000000
/-! Mi17: comp is sound on statements; defs -/
namespace Mi
open PySem PySem.Spec PyProof.Rows L2

section
variable {X : Cx} {T : Tab} {cf : Cf} {N : List Str} {sc : Scope}
theorem ts_par2 {x y : Str} {i j : Nat} {a b : Expr} {p1 p2 pt pt2 pos : Pos} {k k2 : Nat} {ces : Xs} (G : Gd T cf X N sc) (hw : swp sc [.Name x p1, .Name y p2] [a, b] = some [x, y]) (hx : sc.names.lookup x = some .local) (hy : sc.names.lookup y = some .local) (hi : N[i]? = some x) (hj : N[j]? = some y) (hij : i ≠ j)
    (ha : PA X [a, b] (TL cf X.K ces)) : PS X (.Assign [.Tuple [.Name x p1, .Name y p2] k pt] (.Tuple [a, b] k2 pt2) pos) (TS1 cf X.K (.par [i, j] ces)) := by
  refine imp_s (ps_par G.calm (by rw [G.hN]; exact G.nd) (by rw [G.hN]; exact hi) (by rw [G.hN]; exact hj) hij (by rw [G.hsc]; exact hx) (by rw [G.hsc]; exact hy) ha (swp_ok G hw)) fun D σ H h => ?_
  obtain ⟨n, env, R, rs, env', rep, ev, q⟩ := par_imp h
  refine ⟨env, R, rs, env', rep, ev, fun vs R' H' r st at_ => ?_⟩
  obtain ⟨l1, l2, q⟩ := q vs R' H' r st at_
  obtain ⟨v, w, rfl⟩ := len2 (l1.trans l2.symm)
  exact ⟨v, w, rfl, q⟩
theorem len3 {α : Type} {l : List α} (h : l.length = 3) : ∃ a b c, l = [a, b, c] := by
  match l, h with
  | [a, b, c], _ => exact ⟨a, b, c, rfl⟩
theorem ts_par3 {x y z : Str} {i j l : Nat} {a b c : Expr} {p1 p2 p3 pt pt2 pos : Pos} {k k2 : Nat} {ces : Xs} (G : Gd T cf X N sc) (hw : swp sc [.Name x p1, .Name y p2, .Name z p3] [a, b, c] = some [x, y, z]) (hx : sc.names.lookup x = some .local) (hy : sc.names.lookup y = some .local) (hz : sc.names.lookup z = some .local)
    (hi : N[i]? = some x) (hj : N[j]? = some y) (hl : N[l]? = some z) (hij : i ≠ j ∧ i ≠ l ∧ j ≠ l) (ha : PA X [a, b, c] (TL cf X.K ces)) : PS X (.Assign [.Tuple [.Name x p1, .Name y p2, .Name z p3] k pt] (.Tuple [a, b, c] k2 pt2) pos) (TS1 cf X.K (.par [i, j, l] ces)) := by
  refine imp_s (ps_par3 G.calm (by rw [G.hN]; exact G.nd) (by rw [G.hN]; exact hi) (by rw [G.hN]; exact hj) (by rw [G.hN]; exact hl) hij.1 hij.2.1 hij.2.2 (by rw [G.hsc]; exact hx) (by rw [G.hsc]; exact hy) (by rw [G.hsc]; exact hz) ha (swp_ok G hw)) fun D σ H h => ?_
  obtain ⟨n, env, R, rs, env', rep, ev, q⟩ := par_imp h
  refine ⟨env, R, rs, env', rep, ev, fun vs R' H' r st at_ => ?_⟩
  obtain ⟨l1, l2, q⟩ := q vs R' H' r st at_
  obtain ⟨u, v, w, rfl⟩ := len3 (l1.trans l2.symm)
  exact ⟨u, v, w, rfl, q⟩
theorem slotL_at {x : Str} {i : Nat} (h : slotL N sc x = some i) : N[i]? = some x := by
  unfold slotL at h
  split at h
  · rename_i hc; cases h; exact hc.2
  · cases h
theorem ts_unp' {ts : List Expr} {k : Nat} {p : Pos} {e : Expr} {ce : Xp} {is : List Nat} {pos : Pos} (G : Gd T cf X N sc) (hfn : ∀ x, X.fn x = true) (ht : tgt (slotL N sc) (.Tuple ts k p) = some (.tp is)) (he : PE X e (TD cf X.K ce)) (hw : swappedStores [.Tuple ts k p] e X.env = pure none) :
    PS X (.Assign [.Tuple ts k p] e pos) (TS1 cf X.K (.unp is ce)) :=
  imp_s (ps_asg he (tgt_ok G.calm (by rw [G.hN]; exact G.nd) (fun x i h => slotL_ok G hfn h) ht).1 sole_tup hw) fun D σ H h => unp_imp h
end
structure SndS (T : Tab) (cf : Cf) (n : Nat) : Prop where
  s : ∀ {X : Cx} {N : List Str} {sc : Scope}, Gd T cf X N sc → (∀ x, X.fn x = true) → ∀ st, PS X st (TS1 cf X.K (compS T n N sc st))
  ss : ∀ {X : Cx} {N : List Str} {sc : Scope}, Gd T cf X N sc → (∀ x, X.fn x = true) → ∀ sts, PSs X sts (TSs cf X.K (compSs T n N sc sts))
theorem compS_ok (T : Tab) (cf : Cf) : ∀ n, SndS T cf n
  | 0 => ⟨fun _ _ st => by simp only [compS]; exact ts_bad, fun _ _ sts => by
      simp only [compSs]
      exact ⟨fun _ _ _ _ _ _ ⟨_, _, _, _, _, h, _⟩ => by simp [Mi.execs, Mi.exec] at h⟩⟩
  | n + 1 => by
    have S := compS_ok T cf n
    have E := comp_ok T cf n
    refine ⟨fun {X N sc} G hfn st => ?_, fun {X N sc} G hfn sts => ?_⟩
    · have ih := E.e G
      have nd : X.N.Nodup := by rw [G.hN]; exact G.nd
      unfold compS
      split
      · rename_i x p e pos
        split
        · rename_i i hi
          by_cases hc : isComp e = true
          · cases e with
            | ListComp elt gs scope p2 =>
              cases n with
              | zero => exact ts_bad' fun env r h => by simp [Mi.exec, comp, Mi.eval] at h
              | succ m => exact lc_set (comp_ok T cf m) G hfn hi
            | SetComp elt gs scope p2 => exact ts_bad' fun env r h => by cases n <;> simp [Mi.exec, comp, Mi.eval] at h
            | DictComp k v gs scope p2 => exact ts_bad' fun env r h => by cases n <;> simp [Mi.exec, comp, Mi.eval] at h
            | _ => simp [isComp] at hc
          · exact ts_set nd (slotL_ok G hfn hi) (ih e).1 (swaps_name (by simpa using hc))
        · exact ts_bad
      · rename_i ts k p e pos
        split
        · rename_i vs k2 p2
          split
          · rename_i hsw
            split
            · rename_i is ht
              exact ts_unp' G hfn ht (ih _).1 (swpN_ok G hsw)
            · exact ts_bad
          · split
            · split
              · rename_i x p1 y p3 a b hno hc
                split
                · rename_i i j hi hj
                  split
                  · rename_i hij
                    by_cases hp : plnAll [a, b] = true
                    · exact ts_par2 G hc.1 hc.2.1 hc.2.2 (slotL_at hi) (slotL_at hj) hij (pa_l (fun e => (ih e).1) hp)
                    · have h1 := hc.1
                      unfold swp at h1
                      split at h1
                      · rename_i hz; exact absurd hz.2.2.2.1 hp
                      · cases h1
                  · exact ts_bad
                · exact ts_bad
              · exact ts_bad
            · split
              · rename_i x p1 y p3 z p4 a b c hno hc
                split
                · rename_i i j l hi hj hl
                  split
                  · rename_i hij
                    by_cases hp : plnAll [a, b, c] = true
                    · exact ts_par3 G hc.1 hc.2.1 hc.2.2.1 hc.2.2.2 (slotL_at hi) (slotL_at hj) (slotL_at hl) hij (pa_l (fun e => (ih e).1) hp)
                    · have h1 := hc.1
                      unfold swp at h1
                      split at h1
                      · rename_i hz; exact absurd hz.2.2.2.1 hp
                      · cases h1
                  · exact ts_bad
                · exact ts_bad
              · exact ts_bad
            · exact ts_bad
        · rename_i hnt
          split
          · rename_i is ht
            refine ts_unp' G hfn ht (ih _).1 (swap_tup ?_)
            cases e <;> first | rfl | (exact absurd rfl (hnt _ _ _))
          · exact ts_bad
      · rename_i o i p v pos
        split
        · rename_i hc
          exact ts_sti G.hu (ih o).1 (ih i).1 (ih v).1 sole_sub swap_sub hc
        · exact ts_bad
      · exact ts_doc
      · split
        · exact ts_bad
        · rename_i hc
          exact ts_exp (ih _).1 (swaps_none (by simpa using hc))
      · exact ts_ite (ih _).2 (S.ss G hfn _) (S.ss G hfn _)
      · exact ts_whl G.xe (ih _).2 (S.ss G hfn _)
      · split
        · rename_i hp
          split
          · rename_i g hg
            exact ts_for G.xe G.calm (E.i G _ _) (fun i hi => by obtain ⟨x, p, rfl, hx⟩ := compI_dk hi; exact pi_dict G hx) (tgt_ok G.calm nd (fun x i h => slotL_ok G hfn h) hg).1 (S.ss G hfn _) hp
          · exact ts_bad
        · exact ts_bad
      · exact ts_retN
      · exact ts_ret (ih _).1
      · exact ts_pas
      · exact ts_brk
      · exact ts_cnt
      · exact ts_bad
    · cases sts with
      | nil => simp only [compSs]; exact tss_nil
      | cons s r => simp only [compSs]; exact tss_cons (S.s G hfn s) (S.ss G hfn r)
end Mi

end

section
set_option linter.all false
set_option maxRecDepth 100000
set_option maxHeartbeats 4000000
/-! Mi18: defs, the whole program -/
namespace Mi
open PySem PySem.Spec PyProof.Rows L2

structure Df where
  x : Str
  st : Stmt
  N : List Str
  ps : List Str
  io : Option Nat
def compFn (T : Tab) (n : Nat) (d : Df) : Fn := ⟨d.ps.length, d.N.length, d.io, compSs T n d.N (defScope d.st) (defBody d.st)⟩

theorem argOk_get : ∀ {io : Option Nat} {as : List Sl}, argOk io as = true → ∀ (i : Nat) (s : Sl), as[i]? = some s → (∃ d, s = .sh d) ∨ ((∃ d, s = .bw d) ∧ io = some i)
  | _, [], _, i, s, h => by simp at h
  | none, .sh d :: as, e, i, s, h => by
    cases i with
    | zero => rw [List.getElem?_cons_zero] at h; cases h; exact .inl ⟨d, rfl⟩
    | succ i =>
      rw [List.getElem?_cons_succ] at h
      rcases argOk_get (io := none) (as := as) (by simpa [argOk] using e) i s h with z | ⟨_, z⟩
      · exact .inl z
      · cases z
  | some 0, .bw d :: as, e, i, s, h => by
    cases i with
    | zero => rw [List.getElem?_cons_zero] at h; cases h; exact .inr ⟨⟨d, rfl⟩, rfl⟩
    | succ i =>
      rw [List.getElem?_cons_succ] at h
      rcases argOk_get (io := none) (as := as) (by simpa [argOk] using e) i s h with z | ⟨_, z⟩
      · exact .inl z
      · cases z
  | some (j + 1), .sh d :: as, e, i, s, h => by
    cases i with
    | zero => rw [List.getElem?_cons_zero] at h; cases h; exact .inl ⟨d, rfl⟩
    | succ i =>
      rw [List.getElem?_cons_succ] at h
      rcases argOk_get (io := some j) (as := as) (by simpa [argOk] using e) i s h with z | ⟨z, w⟩
      · exact .inl z
      · cases w; exact .inr ⟨z, rfl⟩
  | none, .un :: _, e, _, _, _ | none, .ow _ :: _, e, _, _, _ | none, .bw _ :: _, e, _, _, _ => by simp [argOk] at e
  | some 0, .un :: _, e, _, _, _ | some 0, .ow _ :: _, e, _, _, _ | some 0, .sh _ :: _, e, _, _, _ => by simp [argOk] at e
  | some (_ + 1), .un :: _, e, _, _, _ | some (_ + 1), .ow _ :: _, e, _, _, _ | some (_ + 1), .bw _ :: _, e, _, _, _ => by simp [argOk] at e
/-- a frame at its beginning -/
theorem Rep.start {K : PySem.W.Frag} {as : List Sl} {vs : List V} {R H : Hp} {N : List Str} {m : Nat} (rep : Rep K as (vs.map some) R H) (hm : m = N.length - vs.length) :
    Rep K (as ++ List.replicate m .un) (L2.start N vs) R H := by
  have hl : as.length = vs.length := by have := rep.len; rwa [List.length_map] at this
  subst hm
  unfold L2.start
  have get : ∀ (i : Nat) (s : Sl), (as ++ List.replicate (N.length - vs.length) Sl.un)[i]? = some s → s ≠ .un → as[i]? = some s ∧ i < as.length := fun i s h n => by
    by_cases hi : i < as.length
    · rw [List.getElem?_append_left hi] at h; exact ⟨h, hi⟩
    · rw [List.getElem?_append_right (by omega), List.getElem?_replicate] at h
      split at h
      · cases h; exact absurd rfl n
      · cases h
  have getσ : ∀ (i : Nat), i < as.length → (vs.map some ++ List.replicate (N.length - vs.length) none)[i]? = (vs.map some)[i]? := fun i hi => List.getElem?_append_left (by rw [List.length_map]; omega)
  have hold : ∀ i a, Hold (as ++ List.replicate (N.length - vs.length) Sl.un) (vs.map some ++ List.replicate (N.length - vs.length) none) i a → Hold as (vs.map some) i a := fun i a ⟨h1, h2⟩ => by
    rcases h1 with ⟨d, e⟩ | ⟨d, e⟩
    · obtain ⟨k1, k2⟩ := get i _ e (fun z => nomatch z)
      exact ⟨.inl ⟨d, k1⟩, by rw [getσ i k2] at h2; exact h2⟩
    · obtain ⟨k1, k2⟩ := get i _ e (fun z => nomatch z)
      exact ⟨.inr ⟨d, k1⟩, by rw [getσ i k2] at h2; exact h2⟩
  refine ⟨by simp [hl], rep.ex, fun i d e => ?_, fun i d e => ?_, fun i j a hi hj => rep.ne i j a (hold i a hi) (hold j a hj)⟩
  · obtain ⟨k1, k2⟩ := get i _ e (fun z => nomatch z)
    rw [getσ i k2]
    exact rep.sh i d k1
  · have : as[i]? = some (Sl.ow d) ∨ as[i]? = some (Sl.bw d) := by
      rcases e with e | e
      · exact .inl (get i _ e (fun z => nomatch z)).1
      · exact .inr (get i _ e (fun z => nomatch z)).1
    have hi : i < as.length := by rcases this with z | z <;> exact (List.getElem?_eq_some_iff.mp z).1
    rw [getσ i hi]
    exact rep.ow i d this
theorem start_owns {as : List Sl} {vs : List V} {N : List Str} {m : Nat} (hl : as.length = vs.length) {a : Addr} (h : Owns (as ++ List.replicate m .un) (L2.start N vs) a) : Owns as (vs.map some) a := by
  obtain ⟨i, h1, h2⟩ := h
  have hi : i < as.length := by
    have aux : ∀ s, (as ++ List.replicate m Sl.un)[i]? = some s → s ≠ .un → i < as.length := fun s h n => by
      by_cases hi : i < as.length
      · exact hi
      · rw [List.getElem?_append_right (by omega), List.getElem?_replicate] at h
        split at h
        · cases h; exact absurd rfl n
        · cases h
    rcases h1 with ⟨d, e⟩ | ⟨d, e⟩
    · exact aux _ e (fun z => nomatch z)
    · exact aux _ e (fun z => nomatch z)
  unfold L2.start at h2
  rw [List.getElem?_append_left (by rw [List.length_map]; omega)] at h2
  refine ⟨i, ?_, h2⟩
  rcases h1 with ⟨d, e⟩ | ⟨d, e⟩
  · rw [List.getElem?_append_left hi] at e; exact .inl ⟨d, e⟩
  · rw [List.getElem?_append_left hi] at e; exact .inr ⟨d, e⟩
theorem start_ownsO {as : List Sl} {vs : List V} {N : List Str} {m : Nat} {io : Option Nat} (ok : argOk io as = true) {a : Addr} (h : OwnsO (as ++ List.replicate m .un) (L2.start N vs) a) : False := by
  obtain ⟨i, ⟨d, e⟩, _⟩ := h
  by_cases hi : i < as.length
  · rw [List.getElem?_append_left hi] at e
    rcases argOk_get ok i _ e with ⟨_, z⟩ | ⟨⟨_, z⟩, _⟩ <;> cases z
  · rw [List.getElem?_append_right (by omega), List.getElem?_replicate] at e
    split at e <;> cases e
/-- behind a body: what the caller is told -/
theorem call_end {K : PySem.W.Frag} {as : List Sl} {vs : List V} {R H : Hp} {N : List Str} {m : Nat} {io : Option Nat} {env' : Env} {σ' : L2.St} {R' H' : Hp} {r r' : Rv} {o : Option D} {v : V} (hl : as.length = vs.length) (ok : argOk io as = true)
    (rep' : Rep K env' σ' R' H') (st : SSt (as ++ List.replicate m .un) (L2.start N vs) R H env' σ' R' H') (at_ : RvAt K env' σ' R' H' H v r) (hr : outR env' r = some r') (ho : outIo env' io = some o) : CallEnd K as vs R H r' o v R' H' := by
  have noO : ∀ a, ¬ OwnsO (as ++ List.replicate m .un) (L2.start N vs) a := fun a z => start_ownsO ok z
  refine ⟨st.fr.mono (fun a z => start_owns hl z) (fun a z => noO a z), rep'.ex, ?_, fun hon i d e => ?_, fun d hd i c e => ?_⟩
  · cases r with
    | v d => simp only [outR] at hr; cases hr; exact at_
    | f d =>
      simp only [outR] at hr; cases hr
      obtain ⟨a, h1, h2, h3, h4, _⟩ := at_
      exact ⟨a, h1, h2, h3, h4⟩
    | s i =>
      obtain ⟨h1, _⟩ := at_
      unfold outR at hr
      cases qq : env'[i]? with
      | none => simp only [qq] at hr; cases hr
      | some s =>
        cases s with
        | un => simp only [qq] at hr; cases hr
        | bw c => simp only [qq] at hr; cases hr
        | sh d =>
          simp only [qq] at hr; cases hr
          obtain ⟨w, k1, k2⟩ := rep'.sh i d qq
          rw [h1] at k1; cases k1
          exact k2
        | ow d =>
          simp only [qq] at hr; cases hr
          obtain ⟨a, k1, k2, k3⟩ := rep'.ow i d (.inl qq)
          rw [h1] at k1; cases k1
          refine ⟨a, rfl, ?_, k2, k3⟩
          rcases st.ownO a ⟨i, ⟨d, qq⟩, h1⟩ with z | z
          · exact absurd z (noO a)
          · exact z
  · rcases argOk_get ok i _ e with ⟨_, z⟩ | ⟨_, z⟩
    · cases z
    · rw [z] at ho
      simp only [outIo] at ho
      subst hon
      split at ho <;> cases ho
  · rcases argOk_get ok i _ e with ⟨_, z⟩ | ⟨_, z⟩
    · cases z
    · rw [z] at ho
      have hi : i < as.length := (List.getElem?_eq_some_iff.mp e).1
      obtain ⟨⟨d', e1⟩, e2⟩ := st.bw i c (by rw [List.getElem?_append_left hi]; exact e)
      simp only [outIo, e1, Option.some.injEq] at ho
      subst hd
      cases ho
      obtain ⟨a, k1, k2, k3⟩ := rep'.ow i d (.inr e1)
      refine ⟨a, ?_, k2, k3⟩
      rw [e2] at k1
      unfold L2.start at k1
      rw [List.getElem?_append_left (by rw [List.length_map]; omega), List.getElem?_map] at k1
      cases qq : vs[i]? with
      | none => rw [qq] at k1; cases k1
      | some w => rw [qq] at k1; cases k1; rfl

section
variable {P : Program} {w : World} {K : PySem.W.Frag} {mg : Str → Option Value} {base : Heap}
/-- a def of the text, of no default -/
abbrev FnP (K : PySem.W.Frag) (x : Str) (st : Stmt) (f : Addr) (fd : FuncData) : Prop := FunD K x x (defArgs st) (defBody st) (defScope st) [] [] f fd
/-- what the module's names hold -/
structure Mo (T : Tab) (K : PySem.W.Frag) (mg : Str → Option Value) : Prop where
  con : ∀ x d, T.con.lookup x = some d → ∃ u v, mg x = some u ∧ RelV v u ∧ ∀ R, At K R d v
  free : ∀ x, T.free.contains x = true → mg x = none
  gcd : T.gcd = true → mg "gcd" = some (.builtin "math.gcd")
theorem def_ok {T : Tab} {cf cf' : Cf} {d : Df} {n k i : Nat} {f : Addr} {fd : FuncData} (F : FnP K d.x d.st f fd) (S : FnScope d.N d.ps (defScope d.st)) (M : Mo T K mg)
    (call : ∀ x, T.fns.contains x = true → ∃ (a : Addr) (fd : FuncData) (ps : List Str), FnOk P w K mg base CX0 k a fd ps (spD cf K (T.fns.idxOf x)) ∧ mg x = some (.ref a) ∧ PySem.W.keepIn K (.ref a) = true ∧ Binds K fd ps [])
    (hC : ∀ as, cf'.C i as = runFn cf (compFn T n d) as) : FnOk P w K mg base CX0 (k + 1) f fd d.ps (spD cf' K i) := by
  have lens : ∀ {as : List Sl} {r : Rv × Option D}, cf'.C i as = some r → as.length = d.ps.length := fun {as r} h => by
    rw [hC] at h
    unfold runFn at h
    split at h
    · rename_i hc; exact hc.1
    · cases h
  refine F.ok S (fun vs H Q E h => ?_) (fun cdv A outer s H vs Q E hr h => ?_)
  · obtain ⟨as, R, r, o, rep, hrun, q⟩ := h
    have := rep.len
    rw [List.length_map, lens hrun] at this
    exact this.symm
  · obtain ⟨as, R, r, o, rep, hrun, q⟩ := h
    have hl : as.length = vs.length := by have := rep.len; rwa [List.length_map] at this
    have hlp := lens hrun
    let X := (cxOf CX0 P w K mg base d.N d.x (defScope d.st) f cdv A outer s H E).nox
    have hu : X.A.units + 65 < cLine := by
      have h1 := hr.un
      show (A.deeper (envOfC d.x (defScope d.st) s.heap.objs.size f cdv)).units + 65 < cLine
      omega
    have G : Gd T cf X d.N (defScope d.st) := ⟨rfl, S.nd, rfl, rfl, rfl, M.con, M.free, M.gcd, hu, fun x hx => by
      obtain ⟨a, fd', ps, h1, h2, h3, h4⟩ := call x hx
      exact ⟨k, a, fd', ps, h1, hr, h2, h3, h4⟩⟩
    refine ⟨TSs cf K (compSs T n d.N (defScope d.st) (defBody d.st)), ((compS_ok T cf n).ss G (fun _ => rfl) _).nox, ?_⟩
    rw [hC] at hrun
    unfold runFn at hrun
    split at hrun
    · rename_i hc
      obtain ⟨c1, c2⟩ := hc
      simp only [Option.bind_eq_some_iff] at hrun
      obtain ⟨p, e1, e2⟩ := hrun
      obtain ⟨fl, env'⟩ := p
      have rep0 : Rep K (as ++ List.replicate ((compFn T n d).ns - (compFn T n d).np) .un) (L2.start d.N vs) R H := rep.start (by show d.N.length - d.ps.length = _; omega)
      refine ⟨_, R, fl, env', rep0, e1, ?_⟩
      cases fl with
      | nx =>
        simp only [Option.map_eq_some_iff] at e2
        obtain ⟨o', h1, h2⟩ := e2
        cases h2
        exact fun σ' R' H' rep' st => q .non R' H' (call_end hl c2 rep' st (r := .v .non) rfl rfl h1)
      | rt rv =>
        simp only [Option.bind_eq_some_iff, Option.map_eq_some_iff] at e2
        obtain ⟨r', h0, o', h1, h2⟩ := e2
        cases h2
        exact fun v σ' R' H' rep' st at_ => q v R' H' (call_end hl c2 rep' st at_ h0 h1)
      | bk => cases e2
      | ct => cases e2
    · cases hrun
theorem idx_of {l : List Str} {x : Str} (h : l.contains x = true) : ∃ i : Nat, l.idxOf x = i ∧ l[i]? = some x := by
  have hm : x ∈ l := List.elem_iff.mp h
  have hlt := List.idxOf_lt_length_of_mem hm
  exact ⟨_, rfl, by rw [List.getElem?_eq_getElem hlt, List.getElem_idxOf hlt]⟩
/-- every def keeps its promise at every depth -/
theorem all_ok {T : Tab} {n F : Nat} {ds : List Df} {fns : List Fn} (hT : T.fns = ds.map (·.x)) (hf : fns = ds.map (compFn T n)) (S : ∀ d ∈ ds, FnScope d.N d.ps (defScope d.st)) (M : Mo T K mg)
    (facts : ∀ d ∈ ds, ∃ a fd, FnP K d.x d.st a fd ∧ mg d.x = some (.ref a) ∧ Binds K fd d.ps []) :
    ∀ (k i : Nat) (d : Df), ds[i]? = some d → ∀ a fd, FnP K d.x d.st a fd → FnOk P w K mg base CX0 k a fd d.ps (spD ⟨callN fns F k, ioOf fns, F⟩ K i)
  | 0, i, d, hi, a, fd, hF => by
    have no : ∀ vs H Q E, ¬ spD ⟨callN fns F 0, ioOf fns, F⟩ K i vs H Q E := fun vs H Q E ⟨_, _, _, _, _, h, _⟩ => by simp [callN] at h
    exact ⟨fun vs H Q E h => absurd h (no vs H Q E), fun A outer s H args us vs Q E _ _ _ _ h => absurd h (no vs H Q E)⟩
  | k + 1, i, d, hi, a, fd, hF => by
    have hm : d ∈ ds := List.mem_of_getElem? hi
    refine def_ok (cf := ⟨callN fns F k, ioOf fns, F⟩) (n := n) hF (S d hm) M (fun x hx => ?_) (fun as => ?_)
    · obtain ⟨j, h1, h2⟩ := idx_of hx
      rw [hT, List.getElem?_map] at h2
      cases h3 : ds[j]? with
      | none => rw [h3] at h2; cases h2
      | some d' =>
        rw [h3] at h2
        have hx' : d'.x = x := by simpa using h2
        subst hx'
        obtain ⟨a', fd', f1, f2, f3⟩ := facts d' (List.mem_of_getElem? h3)
        refine ⟨a', fd', d'.ps, ?_, f2, f1.kp, f3⟩
        rw [h1]
        exact all_ok hT hf S M facts k j d' h3 a' fd' f1
    · show callN fns F (k + 1) i as = _
      have : fns[i]? = some (compFn T n d) := by rw [hf, List.getElem?_map, hi]; rfl
      simp only [callN, this]
/-- the law's own promise -/
def spLaw (K : PySem.W.Frag) : Sp := fun vs H Q _ => ∃ (a : Addr) (ns : List Int), vs = [.ref a] ∧ SqL K H a (ns.map V.int) ∧ ns.length ≤ 63 ∧ ∀ v H', v = .bl true → Q v H'
theorem law_sp {T : Tab} {cf : Cf} {i : Nat} (h : ∀ ns : List Int, ns.length ≤ 63 → ∃ o, cf.C i [.sh (.scr ns)] = some (.v (.bl true), o)) : ∀ vs H Q E, spLaw K vs H Q E → spD cf K i vs H Q E := by
  rintro vs H Q E ⟨a, ns, rfl, hS, hl, q⟩
  obtain ⟨o, ho⟩ := h ns hl
  refine ⟨_, H, _, o, ⟨rfl, Ex.refl H, fun j d e => ?_, fun j d e => ?_, fun j k b hj hk => ?_⟩, ho, fun v R' H' ce => ?_⟩
  · cases j with
    | zero => rw [List.getElem?_cons_zero] at e; cases e; exact ⟨.ref a, rfl, a, rfl, hS⟩
    | succ j => simp at e
  · cases j with
    | zero => rcases e with e | e <;> (rw [List.getElem?_cons_zero] at e; cases e)
    | succ j => rcases e with e | e <;> simp at e
  · have h0 : ∀ j b, ¬ Hold [Sl.sh (D.scr ns)] [some (V.ref a)] j b := fun j b ⟨z, _⟩ => by
      cases j with
      | zero => rcases z with ⟨_, z⟩ | ⟨_, z⟩ <;> (rw [List.getElem?_cons_zero] at z; cases z)
      | succ j => rcases z with ⟨_, z⟩ | ⟨_, z⟩ <;> simp at z
    exact absurd hj (h0 j b)
  · exact q v H' ce.2.2.1
end
end Mi

end

section
set_option linter.all false
set_option maxRecDepth 100000
set_option maxHeartbeats 4000000
/-! Mi19: the head, the law -/
namespace Mi
open PySem PySem.Spec PyProof.Rows L2

mutual
/-- a constant of the module as K holds it -/
def atB (K : PySem.W.Frag) : D → Value → Bool
  | .non, .none => true
  | .bl b, .bool c => b == c
  | .int i, .int j _ => decide (i = j)
  | .str x, .str y _ => decide (x = y)
  | .tup ds, .ref a => (match K.lookup a with
    | some ⟨.type c, _, .seq its _, _⟩ => decide (c = "tuple") && (decide (its.size ≤ sizeLine) && atsB K ds its.toList)
    | _ => false)
  | _, _ => false
def atsB (K : PySem.W.Frag) : List D → List Value → Bool
  | [], [] => true
  | d :: ds, u :: us => atB K d u && atsB K ds us
  | _, _ => false
end
mutual
theorem atB_ok {K : PySem.W.Frag} : ∀ (d : D) (u : Value), atB K d u = true → ∃ v, RelV v u ∧ ∀ R, At K R d v
  | .non, u, h => by
    cases u with
    | none => exact ⟨.non, rfl, fun R => rfl⟩
    | _ => simp [atB] at h
  | .bl b, u, h => by
    cases u with
    | bool c =>
      have e : b = c := by simpa [atB] using h
      exact ⟨.bl b, congrArg _ e.symm, fun R => rfl⟩
    | _ => simp [atB] at h
  | .int i, u, h => by
    cases u with
    | int j t =>
      have e : i = j := by simpa [atB] using h
      exact ⟨.int i, ⟨t, by rw [e]⟩, fun R => rfl⟩
    | _ => simp [atB] at h
  | .str x, u, h => by
    cases u with
    | str y t =>
      have e : x = y := by simpa [atB] using h
      exact ⟨.str x, ⟨t, by rw [e]⟩, fun R => rfl⟩
    | _ => simp [atB] at h
  | .tup ds, u, h => by
    cases u with
    | ref a =>
      unfold atB at h
      cases q : K.lookup a with
      | none =>
        rw [q] at h
        cases h
      | some o =>
        obtain ⟨oc, od, dt, osl⟩ := o
        rw [q] at h
        cases oc with
        | type c =>
          cases dt with
          | seq its n =>
            obtain ⟨h1, h2⟩ := He.ba (show (decide (c = "tuple") && (decide (its.size ≤ sizeLine) && atsB K ds its.toList)) = true from h)
            obtain ⟨h3, h4⟩ := He.ba h2
            obtain ⟨vs, r, z⟩ := atsB_ok ds its.toList h4
            exact ⟨.ref a, rfl, fun R => ⟨a, vs, rfl, .inr ⟨_, its, n, q, congrArg Value.type (of_decide_eq_true h1), rfl, of_decide_eq_true h3, r⟩, z R⟩⟩
          | _ => cases h
        | _ => cases dt <;> cases h
    | _ => simp [atB] at h
  | .lst _, u, h | .dct _ _, u, h | .set _, u, h | .scr _, u, h => by cases u <;> simp [atB] at h
theorem atsB_ok {K : PySem.W.Frag} : ∀ (ds : List D) (us : List Value), atsB K ds us = true → ∃ vs, Vals vs us ∧ ∀ R, AtL K R ds vs
  | [], [], _ => ⟨[], .nil, fun R => rfl⟩
  | [], _ :: _, h => by simp [atsB] at h
  | _ :: _, [], h => by simp [atsB] at h
  | d :: ds, u :: us, h => by
    obtain ⟨h1, h2⟩ := He.ba (show (atB K d u && atsB K ds us) = true from by rw [← h, atsB])
    obtain ⟨v, r1, z1⟩ := atB_ok d u h1
    obtain ⟨vs, r2, z2⟩ := atsB_ok ds us h2
    exact ⟨v :: vs, .cons r1 r2, fun R => ⟨v, vs, rfl, z1 R, z2 R⟩⟩
end
def conB (K : PySem.W.Frag) (x : Str) (d : D) : Bool := match PySem.W.nsIn K mainGlobals x with
  | some (some u) => atB K d u
  | _ => false
def gcdB (K : PySem.W.Frag) : Bool := He.eqO (PySem.W.nsIn K mainGlobals "gcd") (some (some (.builtin "math.gcd")))
def exB (T : Tab) (K : PySem.W.Frag) : Bool := (T.con.all fun p => conB K p.1 p.2) && (!T.gcd || gcdB K)
theorem lookup_mem' {α : Type} {x : Str} {d : α} : ∀ {l : List (Str × α)}, l.lookup x = some d → (x, d) ∈ l
  | (y, e) :: l, h => by
    rw [List.lookup_cons] at h
    split at h
    · rename_i q
      cases h
      have : x = y := eq_of_beq q
      rw [this]
      exact List.mem_cons_self ..
    · exact List.mem_cons_of_mem _ (lookup_mem' h)
def faOf (T : Tab) : List He.Fa := T.fns.map .glo ++ T.free.map .free
def Df.dd (d : Df) : He.DefD := ⟨(d.x, none), d.x, d.x, defArgs d.st, defBody d.st, defScope d.st, [], []⟩
abbrev hkOf (T : Tab) (ds : List Df) : PySem.W.Hook := He.hookX 5 (faOf T) (ds.map Df.dd) [] [] (exB T)
def obOf (T : Tab) (ds : List Df) (s : PySem.W.SharedT) : He.AlX := He.obsX 5 (faOf T) (ds.map Df.dd) [] [] (exB T) (HandSHeadRun.getT s)
theorem obOf_eq (T : Tab) (ds : List Df) (s : PySem.W.SharedT) : obOf T ds s = (hkOf T ds).obs s.abs := He.obsX_eq (HandSHeadRun.getT_eq s)
/-- all that is asked of a program by its text alone -/
structure Tx (T : Tab) (n : Nat) (ds : List Df) (fns : List Fn) : Prop where
  hT : T.fns = ds.map (·.x)
  hf : fns = ds.map (compFn T n)
  S : ∀ d ∈ ds, FnScope d.N d.ps (defScope d.st)
  b : ∀ d ∈ ds, ∀ (kV doc pm : Value) (an : Option Addr) (cdv ct : Value) (us : List Value), us.length = d.ps.length → bindArgs (PySem.W.fnOf d.x d.x (defArgs d.st) (defBody d.st) (defScope d.st) .none kV doc pm an cdv ct) ⟨us, []⟩ = pure (d.ps.zip us)
theorem law_walk {l : PySem.W.OpenLaw} {T : Tab} {n F k i : Nat} {ds : List Df} {fns : List Fn} {q : Program} {loose : List Str} {XP : (Str → Option Value) → Heap → Prop} {rd : DefRec} {dl : Df}
    (X : Tx T n ds fns) (hi : ds[i]? = some dl) (hps : dl.ps = [("script" : Str)]) (hx : rd.name = dl.x) (hn : l.most = some 63) (hdf : rd.params.defaults = []) (hr : Room k callerA)
    (h : ∀ ns : List Int, ns.length ≤ 63 → ∃ o, callN fns F k i [.sh (.scr ns)] = some (.v (.bl true), o)) :
    PySem.W.WalkO q loose XP (hkOf T ds).says l.row.toRowW rd [] (fun f vs => PySem.call f vs) := by
  refine L2.walk_ofE (l := l) (n := 63) (k := k) (x := "script") (CX := L2.CX0) hn (by decide) hdf hr (fun w mg fa h0 Y G hmg => ?_) (fun _ _ _ _ z => z)
  obtain ⟨K, KX, c⟩ := Y
  have cd : He.SaysD (faOf T) (ds.map Df.dd) K := c.t.d
  have fct : ∀ f ∈ faOf T, f.ok K = true := fun f hf => He.SaysD.facts cd hf
  have glo : ∀ x ∈ T.fns, (He.Fa.glo x).ok K = true := fun x hx => fct _ (List.mem_append_left _ (List.mem_map_of_mem hx))
  have defs : ∀ d ∈ ds, ∃ fd, FnP K d.x d.st (He.ga K d.x) fd := fun d hd => by
    obtain ⟨fd, F⟩ := He.SaysD.defs cd (d := d.dd) (List.mem_map_of_mem hd)
    exact ⟨fd, F⟩
  have hm : dl ∈ ds := List.mem_of_getElem? hi
  have hdx : ∀ d ∈ ds, d.x ∈ T.fns := fun d hd => by rw [X.hT]; exact List.mem_map_of_mem hd
  obtain ⟨fd, hF⟩ := defs dl hm
  have e : fa = He.ga K dl.x := by
    have e := hmg
    rw [hx] at e
    have e2 := e.symm.trans (He.glo_ok KX G (glo dl.x (hdx dl hm)))
    cases e2
    rfl
  subst e
  refine ⟨K, fd, spLaw K, KX, fun s u => ?_, fun H a ns hl _ hS => ⟨a, ns, rfl, hS, hl, fun v H' z => z⟩, fun base Kb Gb => ?_⟩
  · have := FunD.bindsA (ps := dl.ps) hF (X.b dl hm) s [u] (by rw [hps]; rfl)
    rw [hps] at this
    exact this
  · have M : Mo T K mg := ⟨fun x d hl => by
      have z := List.all_eq_true.mp (He.ba c.more).1 (x, d) (lookup_mem' hl)
      unfold conB at z
      cases q1 : PySem.W.nsIn K mainGlobals x with
      | none => simp only [q1] at z; cases z
      | some o =>
        cases o with
        | none => simp only [q1] at z; cases z
        | some u =>
          simp only [q1] at z
          obtain ⟨v, r, at_⟩ := atB_ok d u z
          exact ⟨u, v, PySem.W.mg_of KX G q1, r, at_⟩, fun x hx => He.free_ok KX G (fct _ (List.mem_append_right _ (List.mem_map_of_mem (List.elem_iff.mp hx)))), fun hg => by
      have z := (He.ba c.more).2
      rw [hg] at z
      exact PySem.W.mg_of KX G (He.eqO_ok (show gcdB K = true by simpa using z))⟩
    have ok := all_ok (P := l.prog) (w := w) (K := K) (mg := mg) (base := base) (F := F) X.hT X.hf X.S M (fun d hd => by
      obtain ⟨fd', F'⟩ := defs d hd
      exact ⟨_, fd', F', He.glo_ok KX G (glo d.x (hdx d hd)), FunD.bindsN F' (X.b d hd)⟩) k i dl hi _ _ hF
    rw [hps] at ok
    exact ok.imp (law_sp (T := T) h)
end Mi

end

section
set_option linter.all false
set_option maxRecDepth 100000
/-! Mi20: walking through the language -/
namespace Mi
open L2 (ixN atI)
/-- there is an answer, and it is such -/
def Op {α : Type} (o : Option α) (Q : α → Prop) : Prop := ∃ a, o = some a ∧ Q a
section
variable {α β : Type} {Q : α → Prop}
theorem op_some {a : α} : Op (some a) Q = Q a := by simp [Op]
theorem op_none : Op none Q = False := by simp [Op]
theorem op_bind {o : Option β} {f : β → Option α} : Op (o.bind f) Q = Op o fun b => Op (f b) Q := by
  cases o <;> simp [Op]
theorem op_map {o : Option β} {f : β → α} : Op (o.map f) Q = Op o fun b => Q (f b) := by
  cases o <;> simp [Op]
theorem op_ite {c : Prop} [Decidable c] {a b : Option α} : Op (if c then a else b) Q = if c then Op a Q else Op b Q := by
  split <;> rfl
theorem Op.mono {Q' : α → Prop} {o : Option α} (h : Op o Q) (m : ∀ a, Q a → Q' a) : Op o Q' := by
  obtain ⟨a, h1, h2⟩ := h
  exact ⟨a, h1, m a h2⟩
theorem op_eq {a : α} {o : Option α} : (o = some a) = Op o fun b => b = a := by
  cases o <;> simp [Op]
end
/-- a body's end -/
def outF (io : Option Nat) (p : Fl × Env) : Option (Rv × Option D) := match p.1 with
  | .nx => (outIo p.2 io).map fun o => (.v .non, o)
  | .rt r => (outR p.2 r).bind fun r' => (outIo p.2 io).map fun o => (r', o)
  | _ => none
/-- the statements, then Q -/
def Wp (cf : Cf) (ss : Ss) (env : Env) (Q : Fl × Env → Prop) : Prop := Op (execs cf ss env) Q
section
variable {cf : Cf} {env : Env} {ss : Ss} {Q : Fl × Env → Prop}
theorem wp_run {fn : Fn} {args : List Sl} {R : Rv × Option D → Prop} (h1 : args.length = fn.np) (h2 : argOk fn.io args = true) : Op (runFn cf fn args) R = Wp cf fn.body (args ++ List.replicate (fn.ns - fn.np) .un) fun p => Op (outF fn.io p) R := by
  unfold runFn Wp
  rw [if_pos ⟨h1, h2⟩, op_bind]
  rfl
theorem wp_nil : Wp cf .nil env Q = Q (.nx, env) := by simp only [Wp, execs, op_some]
theorem wp_set {i : Nat} {e : Xp} : Wp cf (.cons (.set i e) ss) env Q = Op (eval cf e env) fun p => Op (store p.2 i p.1) fun e2 => Wp cf ss e2 Q := by
  simp only [Wp, execs, exec, op_bind, op_map]
theorem wp_unp {is : List Nat} {e : Xp} : Wp cf (.cons (.unp is e) ss) env Q = Op (eval cf e env) fun p => Op (pk p.2 p.1) fun x => match x with
    | .tup ds => Op (puts p.2 is ds) fun e2 => Wp cf ss e2 Q
    | _ => False := by
  simp only [Wp, execs, exec, op_bind, op_map]
  congr 1
  funext p
  congr 1
  funext x
  cases x <;> simp only [op_map, op_none]
theorem wp_par {is : List Nat} {es : Xs} : Wp cf (.cons (.par is es) ss) env Q = Op (evals cf es env) fun p => Op (settle p.1 p.2) fun q => Op (storesR q.2 is q.1) fun e2 => Wp cf ss e2 Q := by
  simp only [Wp, execs, exec, op_bind, op_map]
theorem wp_sti {o i v : Xp} : Wp cf (.cons (.sti o i v) ss) env Q = Op (eval cf v env) fun p => Op (take p.2 p.1) fun t => Op (eval cf o t.2) fun q => Op (eval cf i q.2) fun r => Op (pk r.2 r.1) fun k => match q.1 with
    | .s j => Op (ownOf r.2 j) fun d => Op (setIx d k t.1) fun d' => Op (setOwn r.2 j d') fun e => Wp cf ss e Q
    | _ => False := by
  simp only [Wp, execs, exec, op_bind, op_map]
  congr 1; funext p; congr 1; funext t; congr 1; funext q; congr 1; funext r; congr 1; funext k
  cases q.1 <;> simp only [op_map, op_none, op_bind]
theorem wp_exp {e : Xp} : Wp cf (.cons (.exp e) ss) env Q = Op (eval cf e env) fun p => Wp cf ss p.2 Q := by
  simp only [Wp, execs, exec, op_bind, op_map]
theorem wp_ret {e : Xp} : Wp cf (.cons (.ret e) ss) env Q = Op (eval cf e env) fun p => Q (.rt p.1, p.2) := by
  simp only [Wp, execs, exec, op_bind, op_map, op_some]
theorem wp_retN : Wp cf (.cons .retN ss) env Q = Q (.rt (.v .non), env) := by
  simp only [Wp, execs, exec, Option.bind_some, op_some]
theorem wp_brk : Wp cf (.cons .brk ss) env Q = Q (.bk, env) := by
  simp only [Wp, execs, exec, Option.bind_some, op_some]
theorem wp_cnt : Wp cf (.cons .cnt ss) env Q = Q (.ct, env) := by
  simp only [Wp, execs, exec, Option.bind_some, op_some]
theorem wp_pas : Wp cf (.cons .pas ss) env Q = Wp cf ss env Q := by
  simp only [Wp, execs, exec, Option.bind_some]
/-- behind a statement of several -/
def aft (cf : Cf) (ss : Ss) (Q : Fl × Env → Prop) (p : Fl × Env) : Prop := match p.1 with
  | .nx => Wp cf ss p.2 Q
  | _ => Q p
theorem wp_ite {t : Xp} {a b : Ss} : Wp cf (.cons (.ite t a b) ss) env Q = Op (test cf t env) fun p => if p.1 = true then Wp cf a p.2 (aft cf ss Q) else Wp cf b p.2 (aft cf ss Q) := by
  unfold Wp
  simp only [execs, exec]
  rw [op_bind, op_bind]
  have key : (fun (p : Fl × Env) => Op (match p.1 with
      | .nx => execs cf ss p.2
      | _ => some p) Q) = aft cf ss Q := by
    funext p
    unfold aft Wp
    obtain ⟨fl, e⟩ := p
    cases fl <;> simp only [op_some]
  congr 1; funext p
  refine (congrArg (Op _) key).trans ?_
  split <;> rfl
/-- a loop over a list, then Q -/
def Lp (cf : Cf) (g : Gx) (b : Ss) (ds : List D) (env : Env) (Q : Fl × Env → Prop) : Prop := Op (forLoop (fun d env => (putG env g d).bind fun e1 => execs cf b e1) ds env) Q
/-- behind a turn -/
def lpI (J : Env → Prop) (Q : Fl × Env → Prop) (p : Fl × Env) : Prop := match p.1 with
  | .nx => J p.2
  | .ct => J p.2
  | .bk => Q (.nx, p.2)
  | .rt r => Q (.rt r, p.2)
theorem lp_nil {g : Gx} {b : Ss} : Lp cf g b [] env Q = Q (.nx, env) := by simp only [Lp, forLoop, op_some]
theorem lp_cons {g : Gx} {b : Ss} {d : D} {ds : List D} : Lp cf g b (d :: ds) env Q = Op (putG env g d) fun e1 => Wp cf b e1 (lpI (fun e => Lp cf g b ds e Q) Q) := by
  unfold Lp Wp
  simp only [forLoop]
  rw [op_bind, op_bind]
  congr 1; funext e1; congr 1; funext p
  obtain ⟨fl, e⟩ := p
  cases fl <;> simp only [op_some, lpI]
theorem lpI_nx {J : Env → Prop} : lpI J Q (.nx, env) = J env := rfl
theorem lpI_ct {J : Env → Prop} : lpI J Q (.ct, env) = J env := rfl
theorem lpI_bk {J : Env → Prop} : lpI J Q (.bk, env) = Q (.nx, env) := rfl
theorem lpI_rt {J : Env → Prop} {r : Rv} : lpI J Q (.rt r, env) = Q (.rt r, env) := rfl
theorem lp_inv {g : Gx} {b : Ss} (I : List D → Env → Prop) (step : ∀ d ds env, I (d :: ds) env → Op (putG env g d) fun e1 => Wp cf b e1 (lpI (I ds) Q)) (fin : ∀ env, I [] env → Q (.nx, env)) : ∀ ds env, I ds env → Lp cf g b ds env Q
  | [], env, h => by rw [lp_nil]; exact fin env h
  | d :: ds, env, h => by
    rw [lp_cons]
    refine (step d ds env h).mono fun e1 k => ?_
    refine Op.mono k fun p z => ?_
    obtain ⟨fl, e⟩ := p
    cases fl with
    | nx => exact lp_inv I step fin ds e z
    | ct => exact lp_inv I step fin ds e z
    | bk => exact z
    | rt r => exact z
theorem wp_for {g : Gx} {it : Ix} {b : Ss} : Wp cf (.cons (.for g it b) ss) env Q = Op (match dictI it env with | some p => some p | none => evalI cf it env) fun p => Lp cf g b p.1 p.2 (aft cf ss Q) := by
  unfold Wp Lp
  simp only [execs, exec]
  rw [op_bind, op_bind]
  have key : (fun (p : Fl × Env) => Op (match p.1 with
      | .nx => execs cf ss p.2
      | _ => some p) Q) = aft cf ss Q := by
    funext p
    unfold aft Wp
    obtain ⟨fl, e⟩ := p
    cases fl <;> simp only [op_some]
  congr 1; funext p
  exact congrArg (Op _) key
/-- a loop by a test, then Q -/
def Wl (cf : Cf) (t : Xp) (b : Ss) (F : Nat) (env : Env) (Q : Fl × Env → Prop) : Prop := Op (whileLoop (test cf t) (fun e => execs cf b e) F env) Q
theorem wl_inv {t : Xp} {b : Ss} (I : Nat → Env → Prop) (step : ∀ n env, I n env → Op (test cf t env) fun p => if p.1 = true then Wp cf b p.2 (lpI (fun e => ∃ m, m < n ∧ I m e) Q) else Q (.nx, p.2)) : ∀ F n env, n < F → I n env → Wl cf t b F env Q
  | 0, n, env, hn, h => absurd hn (Nat.not_lt_zero _)
  | F + 1, n, env, hn, h => by
    obtain ⟨⟨k, e⟩, h1, h2⟩ := step n env h
    unfold Wl
    simp only [whileLoop, h1, Option.bind_some]
    cases k with
    | false =>
      refine ⟨_, rfl, ?_⟩
      simpa using h2
    | true =>
      obtain ⟨⟨fl, e'⟩, h3, h4⟩ := (by simpa using h2 : Wp cf b e _)
      simp only [if_true, h3, Option.bind_some]
      cases fl with
      | nx =>
        obtain ⟨m, k1, k2⟩ := h4
        exact wl_inv I step F m e' (by omega) k2
      | ct =>
        obtain ⟨m, k1, k2⟩ := h4
        exact wl_inv I step F m e' (by omega) k2
      | bk => exact ⟨_, rfl, h4⟩
      | rt r => exact ⟨_, rfl, h4⟩
theorem wp_whl {t : Xp} {b : Ss} : Wp cf (.cons (.whl t b) ss) env Q = Wl cf t b cf.F env (aft cf ss Q) := by
  unfold Wp Wl
  simp only [execs, exec]
  rw [op_bind]
  congr 1; funext p
  unfold aft Wp
  obtain ⟨fl, e⟩ := p
  cases fl <;> simp only [op_some]
end
/-- behind a statement: P, or Q if it ends otherwise -/
def Af (P : Env → Prop) (Q : Fl × Env → Prop) (p : Fl × Env) : Prop := match p.1 with
  | .nx => P p.2
  | _ => Q p
theorem wp_join {cf : Cf} {s : Sx} {ss : Ss} {env : Env} {Q : Fl × Env → Prop} (P : Env → Prop) (h1 : Wp cf (.cons s .nil) env (Af P Q)) (h2 : ∀ e, P e → Wp cf ss e Q) : Wp cf (.cons s ss) env Q := by
  obtain ⟨⟨fl, e⟩, k1, k2⟩ := h1
  unfold Wp at h2 ⊢
  simp only [execs] at k1 ⊢
  cases q : exec cf s env with
  | none => rw [q] at k1; cases k1
  | some p =>
    rw [q] at k1
    obtain ⟨fl', e'⟩ := p
    simp only [Option.bind_some] at k1 ⊢
    cases fl' with
    | nx =>
      simp only at k1 ⊢
      cases k1
      exact h2 _ k2
    | bk => simp only at k1 ⊢; cases k1; exact ⟨_, rfl, k2⟩
    | ct => simp only at k1 ⊢; cases k1; exact ⟨_, rfl, k2⟩
    | rt r => simp only at k1 ⊢; cases k1; exact ⟨_, rfl, k2⟩
theorem aft_nx {cf : Cf} {ss : Ss} {Q : Fl × Env → Prop} {env : Env} : aft cf ss Q (.nx, env) = Wp cf ss env Q := rfl
theorem aft_rt {cf : Cf} {ss : Ss} {Q : Fl × Env → Prop} {env : Env} {r : Rv} : aft cf ss Q (.rt r, env) = Q (.rt r, env) := rfl
theorem aft_bk {cf : Cf} {ss : Ss} {Q : Fl × Env → Prop} {env : Env} : aft cf ss Q (.bk, env) = Q (.bk, env) := rfl
theorem aft_ct {cf : Cf} {ss : Ss} {Q : Fl × Env → Prop} {env : Env} : aft cf ss Q (.ct, env) = Q (.ct, env) := rfl
theorem af_nx {P : Env → Prop} {Q : Fl × Env → Prop} {env : Env} : Af P Q (.nx, env) = P env := rfl
theorem af_rt {P : Env → Prop} {Q : Fl × Env → Prop} {env : Env} {r : Rv} : Af P Q (.rt r, env) = Q (.rt r, env) := rfl
theorem af_bk {P : Env → Prop} {Q : Fl × Env → Prop} {env : Env} : Af P Q (.bk, env) = Q (.bk, env) := rfl
theorem af_ct {P : Env → Prop} {Q : Fl × Env → Prop} {env : Env} : Af P Q (.ct, env) = Q (.ct, env) := rfl
theorem op_iff {α : Type} {c : Prop} [Decidable c] {a : Option α} {Q : α → Prop} : Op (if c then a else none) Q = (c ∧ Op a Q) := by
  by_cases h : c <;> simp [h, Op]
theorem op_call {α : Type} {o : Option α} {P Q : α → Prop} (h : Op o P) (m : ∀ a, P a → Q a) : Op o Q := h.mono m
theorem wp_if {cf : Cf} {t : Xp} {a b ss : Ss} {env : Env} {Q : Fl × Env → Prop} (c : Prop) [Decidable c] (ht : Op (test cf t env) fun p => p = (decide c, env)) (h1 : c → Wp cf a env (aft cf ss Q)) (h2 : ¬ c → Wp cf b env (aft cf ss Q)) : Wp cf (.cons (.ite t a b) ss) env Q := by
  rw [wp_ite]
  refine ht.mono ?_
  rintro _ rfl
  by_cases h : c
  · simp only [h, decide_true, if_true]; exact h1 h
  · simp only [h, decide_false]; exact h2 h
/-- no lent object -/
def nb : Sl → Bool
  | .bw _ => false
  | _ => true
theorem isBw_0 {s : Sl} {l : List Sl} : isBw (s :: l) 0 = !nb s := by cases s <;> rfl
theorem isBw_s {s : Sl} {l : List Sl} {n : Nat} : isBw (s :: l) (n + 1) = isBw l n := by simp only [isBw, List.getElem?_cons_succ]
theorem nb_sh {d : D} : nb (.sh d) = true := rfl
theorem nb_ow {d : D} : nb (.ow d) = true := rfl
theorem nb_un : nb .un = true := rfl
theorem nb_bw {d : D} : nb (.bw d) = false := rfl
theorem shaped_int {i : Int} : shaped (.int i) = true := by simp [shaped, shp, deep]
theorem shaped_bl {b : Bool} : shaped (.bl b) = true := by simp [shaped, shp, deep]
theorem shaped_non : shaped .non = true := by simp [shaped, shp, deep]
theorem deq_ii {i j : Int} : deq (.int i) (.int j) = decide (i = j) := by simp [deq]; by_cases h : i = j <;> simp [h]
theorem deq_bb {i j : Bool} : deq (.bl i) (.bl j) = (i == j) := by simp [deq]
/-- a comprehension's loop: each turn answers g d, whatever the env was, and leaves it well -/
theorem lc_inv {own : List Nat} {turn : D → Env → Option (Option D × Env)} {g : D → Option D} {I : Env → Prop} (hw : ∀ e, I e → I (wipe e own)) : ∀ (ds : List D) (env : Env),
    (∀ d ∈ ds, ∀ e, I e → Op (turn d e) fun p => p.1 = g d ∧ I p.2) → I env → Op (lcLoop own turn ds env) fun q => q.1 = ds.filterMap g ∧ I q.2
  | [], env, _, h => by
    simp only [lcLoop, op_some]
    exact ⟨rfl, h⟩
  | d :: ds, env, st, h => by
    obtain ⟨⟨o, e⟩, h1, h2, h3⟩ := st d (List.mem_cons_self ..) env h
    simp only [lcLoop, h1, Option.bind_some, op_map]
    obtain ⟨⟨r, e2⟩, k1, k2, k3⟩ := lc_inv hw ds (wipe e own) (fun d hd => st d (List.mem_cons_of_mem _ hd)) (hw e h3)
    refine ⟨_, k1, ?_, k3⟩
    simp only at h2 k2
    rw [h2, k2, List.filterMap_cons]
    cases g d <;> rfl
end Mi

end

section
set_option linter.all false
set_option maxRecDepth 100000
set_option maxHeartbeats 4000000
/-! Mi21: the helpers that all laws share -/
namespace Mi
open L2 (ixN atI)
theorem mulOk_of {i j : Int} (a : Nat) (ha : a ≤ 100000) (h1 : i.natAbs < 2 ^ a) (h2 : j.natAbs < 2 ^ a) : mulOk i j = true := by
  have e := Nat.pow_le_pow_right (n := 2) (by decide) ha
  have h3 := Nat.lt_of_lt_of_le h1 e
  have h4 := Nat.lt_of_lt_of_le h2 e
  unfold mulOk
  rw [decide_eq_true h3, decide_eq_true h4]
  simp
set_option exponentiation.threshold 100001 in
theorem mulOk_r {i j : Int} (h : j.natAbs < 2 ^ 64) : mulOk i j = true := by
  unfold mulOk
  rw [decide_eq_true h]
  simp
set_option exponentiation.threshold 100001 in
theorem mulOk_l {i j : Int} (h : i.natAbs < 2 ^ 64) : mulOk i j = true := by
  unfold mulOk
  rw [decide_eq_true h]
  simp
def h_mixed : Fn := ⟨2, 5, none, (.cons (.set 2 (.bin .Mod (.blt .int (.cons (.bin .Add (.bin .Add (.bin .Mult (.var 0) (.con (.int (48271)))) (.bin .Mult (.var 1) (.con (.int (69621))))) (.con (.int (11)))) .nil)) (.con (.int (618970019642690137449562111))))) (.cons (.set 3 (.bin .Mod (.blt .int (.cons (.bin .Add (.bin .Add (.bin .Mult (.var 2) (.var 2)) (.bin .Mult (.con (.int (7))) (.var 2))) (.var 1)) .nil)) (.con (.int (162259276829213363391578010288127))))) (.cons (.set 4 (.bin .Mod (.blt .int (.cons (.bin .Add (.bin .Mult (.var 3) (.var 3)) (.var 2)) .nil)) (.con (.int (618970019642690137449562111))))) (.cons (.ret (.bin .Add (.bin .Mult (.var 3) (.con (.int (618970019642690137449562111)))) (.var 4))) .nil))))⟩
theorem mod_lt {a m : Int} {k : Nat} (h : 0 < m) (hm : m.natAbs ≤ 2 ^ k) : (a % m).natAbs < 2 ^ k := by
  have h1 := Int.emod_nonneg a (by omega : m ≠ 0)
  have h2 := Int.emod_lt_of_pos a h
  omega
theorem mixed_ok {cf : Cf} (n p : Int) : Op (runFn cf h_mixed [.sh (.int n), .sh (.int p)]) fun r => ∃ z, r = (.v (.int z), none) := by
  rw [wp_run rfl rfl]
  show Wp cf h_mixed.body [.sh (.int n), .sh (.int p), .un, .un, .un] _
  unfold h_mixed
  rw [wp_set]
  simp only [getIx, L2.atI, L2.ixN, wipe, restore, List.foldl_cons, List.foldl_nil, List.getD_cons_zero, List.getD_cons_succ, lpI_nx, lpI_ct, lpI_bk, lpI_rt, shaped_int, shaped_bl, shaped_non, deq_ii, deq_bb, Bool.and_self, Bool.and_true, Bool.true_and, Int.cast_ofNat_Int, Nat.reducePow, Nat.reduceLeDiff, Int.zero_add, Int.add_zero, aft_nx, aft_rt, aft_bk, aft_ct, af_nx, af_rt, af_bk, af_ct, decide_eq_true_eq, eval, evals, evalsT, evalsA, evalO, evalC, evalI, dictI, test, op_bind, op_map, op_some, op_none, op_ite, if_false_right, pk, take, pks, binop, cmpop, truth, setIx, rangeOf, big, revOf, store, put, puts, putG, setOwn, ownOf, lstAt, bltF, lenF, lenOf, intF, absF, gcdF, isiF, isTy, listF, tupleF, dictF, mutF, appendF, isBw_0, isBw_s, nb_sh, nb_ow, nb_un, nb_bw, settle, storesR, bindA, back, lent, List.getElem?_cons_zero, List.getElem?_cons_succ, List.set_cons_zero, List.set_cons_succ, List.length_cons, List.length_nil, List.map_cons, List.map_nil, List.append_nil, List.nil_append, List.cons_append, and_self, and_true, true_and, if_true, if_false, ite_true, ite_false, reduceIte, Option.bind_some, Option.map_some, decide_true, decide_false, Bool.not_true, Bool.not_false, Bool.false_eq_true, Option.some.injEq, Nat.reduceLT, Nat.reduceAdd, Nat.zero_add, Nat.add_one_lt_add_one_iff, Nat.lt_add_left_iff_pos, Nat.lt_add_one, Nat.zero_lt_succ, Int.reduceLT, Int.reduceLE, Int.reduceNeg, Int.reducePow, Int.reduceToNat, Int.reduceMul, Int.reduceSub,  Int.reduceAdd, forall_const, ne_eq, not_true_eq_false, not_false_eq_true]
  refine ⟨mulOk_r (by decide), mulOk_r (by decide), ?_⟩
  have h1 : ((n * 48271 + p * 69621 + 11) % 618970019642690137449562111).natAbs < 2 ^ 89 := mod_lt (by decide) (by decide)
  generalize (n * 48271 + p * 69621 + 11) % 618970019642690137449562111 = x at h1 ⊢
  rw [wp_set]
  simp only [getIx, L2.atI, L2.ixN, wipe, restore, List.foldl_cons, List.foldl_nil, List.getD_cons_zero, List.getD_cons_succ, lpI_nx, lpI_ct, lpI_bk, lpI_rt, shaped_int, shaped_bl, shaped_non, deq_ii, deq_bb, Bool.and_self, Bool.and_true, Bool.true_and, Int.cast_ofNat_Int, Nat.reducePow, Nat.reduceLeDiff, Int.zero_add, Int.add_zero, aft_nx, aft_rt, aft_bk, aft_ct, af_nx, af_rt, af_bk, af_ct, decide_eq_true_eq, eval, evals, evalsT, evalsA, evalO, evalC, evalI, dictI, test, op_bind, op_map, op_some, op_none, op_ite, if_false_right, pk, take, pks, binop, cmpop, truth, setIx, rangeOf, big, revOf, store, put, puts, putG, setOwn, ownOf, lstAt, bltF, lenF, lenOf, intF, absF, gcdF, isiF, isTy, listF, tupleF, dictF, mutF, appendF, isBw_0, isBw_s, nb_sh, nb_ow, nb_un, nb_bw, settle, storesR, bindA, back, lent, List.getElem?_cons_zero, List.getElem?_cons_succ, List.set_cons_zero, List.set_cons_succ, List.length_cons, List.length_nil, List.map_cons, List.map_nil, List.append_nil, List.nil_append, List.cons_append, and_self, and_true, true_and, if_true, if_false, ite_true, ite_false, reduceIte, Option.bind_some, Option.map_some, decide_true, decide_false, Bool.not_true, Bool.not_false, Bool.false_eq_true, Option.some.injEq, Nat.reduceLT, Nat.reduceAdd, Nat.zero_add, Nat.add_one_lt_add_one_iff, Nat.lt_add_left_iff_pos, Nat.lt_add_one, Nat.zero_lt_succ, Int.reduceLT, Int.reduceLE, Int.reduceNeg, Int.reducePow, Int.reduceToNat, Int.reduceMul, Int.reduceSub,  Int.reduceAdd, forall_const, ne_eq, not_true_eq_false, not_false_eq_true]
  refine ⟨mulOk_of 89 (by decide) h1 h1, mulOk_l (by decide), ?_⟩
  have h2 : ((x * x + 7 * x + p) % 162259276829213363391578010288127).natAbs < 2 ^ 107 := mod_lt (by decide) (by decide)
  generalize (x * x + 7 * x + p) % 162259276829213363391578010288127 = y at h2 ⊢
  rw [wp_set]
  simp only [getIx, L2.atI, L2.ixN, wipe, restore, List.foldl_cons, List.foldl_nil, List.getD_cons_zero, List.getD_cons_succ, lpI_nx, lpI_ct, lpI_bk, lpI_rt, shaped_int, shaped_bl, shaped_non, deq_ii, deq_bb, Bool.and_self, Bool.and_true, Bool.true_and, Int.cast_ofNat_Int, Nat.reducePow, Nat.reduceLeDiff, Int.zero_add, Int.add_zero, aft_nx, aft_rt, aft_bk, aft_ct, af_nx, af_rt, af_bk, af_ct, decide_eq_true_eq, eval, evals, evalsT, evalsA, evalO, evalC, evalI, dictI, test, op_bind, op_map, op_some, op_none, op_ite, if_false_right, pk, take, pks, binop, cmpop, truth, setIx, rangeOf, big, revOf, store, put, puts, putG, setOwn, ownOf, lstAt, bltF, lenF, lenOf, intF, absF, gcdF, isiF, isTy, listF, tupleF, dictF, mutF, appendF, isBw_0, isBw_s, nb_sh, nb_ow, nb_un, nb_bw, settle, storesR, bindA, back, lent, List.getElem?_cons_zero, List.getElem?_cons_succ, List.set_cons_zero, List.set_cons_succ, List.length_cons, List.length_nil, List.map_cons, List.map_nil, List.append_nil, List.nil_append, List.cons_append, and_self, and_true, true_and, if_true, if_false, ite_true, ite_false, reduceIte, Option.bind_some, Option.map_some, decide_true, decide_false, Bool.not_true, Bool.not_false, Bool.false_eq_true, Option.some.injEq, Nat.reduceLT, Nat.reduceAdd, Nat.zero_add, Nat.add_one_lt_add_one_iff, Nat.lt_add_left_iff_pos, Nat.lt_add_one, Nat.zero_lt_succ, Int.reduceLT, Int.reduceLE, Int.reduceNeg, Int.reducePow, Int.reduceToNat, Int.reduceMul, Int.reduceSub,  Int.reduceAdd, forall_const, ne_eq, not_true_eq_false, not_false_eq_true]
  refine ⟨mulOk_of 107 (by decide) h2 h2, ?_⟩
  rw [wp_ret]
  simp only [getIx, L2.atI, L2.ixN, wipe, restore, List.foldl_cons, List.foldl_nil, List.getD_cons_zero, List.getD_cons_succ, lpI_nx, lpI_ct, lpI_bk, lpI_rt, shaped_int, shaped_bl, shaped_non, deq_ii, deq_bb, Bool.and_self, Bool.and_true, Bool.true_and, Int.cast_ofNat_Int, Nat.reducePow, Nat.reduceLeDiff, Int.zero_add, Int.add_zero, aft_nx, aft_rt, aft_bk, aft_ct, af_nx, af_rt, af_bk, af_ct, decide_eq_true_eq, eval, evals, evalsT, evalsA, evalO, evalC, evalI, dictI, test, op_bind, op_map, op_some, op_none, op_ite, if_false_right, pk, take, pks, binop, cmpop, truth, setIx, rangeOf, big, revOf, store, put, puts, putG, setOwn, ownOf, lstAt, bltF, lenF, lenOf, intF, absF, gcdF, isiF, isTy, listF, tupleF, dictF, mutF, appendF, isBw_0, isBw_s, nb_sh, nb_ow, nb_un, nb_bw, settle, storesR, bindA, back, lent, List.getElem?_cons_zero, List.getElem?_cons_succ, List.set_cons_zero, List.set_cons_succ, List.length_cons, List.length_nil, List.map_cons, List.map_nil, List.append_nil, List.nil_append, List.cons_append, and_self, and_true, true_and, if_true, if_false, ite_true, ite_false, reduceIte, Option.bind_some, Option.map_some, decide_true, decide_false, Bool.not_true, Bool.not_false, Bool.false_eq_true, Option.some.injEq, Nat.reduceLT, Nat.reduceAdd, Nat.zero_add, Nat.add_one_lt_add_one_iff, Nat.lt_add_left_iff_pos, Nat.lt_add_one, Nat.zero_lt_succ, Int.reduceLT, Int.reduceLE, Int.reduceNeg, Int.reducePow, Int.reduceToNat, Int.reduceMul, Int.reduceSub,  Int.reduceAdd, forall_const, ne_eq, not_true_eq_false, not_false_eq_true]
  refine ⟨mulOk_of 107 (by decide) h2 (by decide), ?_⟩
  simp only [outF, outR, outIo, getIx, L2.atI, L2.ixN, wipe, restore, List.foldl_cons, List.foldl_nil, List.getD_cons_zero, List.getD_cons_succ, lpI_nx, lpI_ct, lpI_bk, lpI_rt, shaped_int, shaped_bl, shaped_non, deq_ii, deq_bb, Bool.and_self, Bool.and_true, Bool.true_and, Int.cast_ofNat_Int, Nat.reducePow, Nat.reduceLeDiff, Int.zero_add, Int.add_zero, aft_nx, aft_rt, aft_bk, aft_ct, af_nx, af_rt, af_bk, af_ct, decide_eq_true_eq, eval, evals, evalsT, evalsA, evalO, evalC, evalI, dictI, test, op_bind, op_map, op_some, op_none, op_ite, if_false_right, pk, take, pks, binop, cmpop, truth, setIx, rangeOf, big, revOf, store, put, puts, putG, setOwn, ownOf, lstAt, bltF, lenF, lenOf, intF, absF, gcdF, isiF, isTy, listF, tupleF, dictF, mutF, appendF, isBw_0, isBw_s, nb_sh, nb_ow, nb_un, nb_bw, settle, storesR, bindA, back, lent, List.getElem?_cons_zero, List.getElem?_cons_succ, List.set_cons_zero, List.set_cons_succ, List.length_cons, List.length_nil, List.map_cons, List.map_nil, List.append_nil, List.nil_append, List.cons_append, and_self, and_true, true_and, if_true, if_false, ite_true, ite_false, reduceIte, Option.bind_some, Option.map_some, decide_true, decide_false, Bool.not_true, Bool.not_false, Bool.false_eq_true, Option.some.injEq, Nat.reduceLT, Nat.reduceAdd, Nat.zero_add, Nat.add_one_lt_add_one_iff, Nat.lt_add_left_iff_pos, Nat.lt_add_one, Nat.zero_lt_succ, Int.reduceLT, Int.reduceLE, Int.reduceNeg, Int.reducePow, Int.reduceToNat, Int.reduceMul, Int.reduceSub,  Int.reduceAdd, forall_const, ne_eq, not_true_eq_false, not_false_eq_true]
  exact ⟨_, rfl⟩
def h_rest (m : Nat) : Fn := ⟨3, 4, none, (.cons (.set 3 (.con (.int (0)))) (.cons (.ite (.cmp .Gt (.blt .len (.cons (.var 0) .nil)) (.con (.int (0)))) (.cons (.set 3 (.blt .int (.cons (.idx (.var 0) (.bin .Mod (.blt .int (.cons (.var 1) .nil)) (.blt .len (.cons (.var 0) .nil)))) .nil))) .nil) .nil) (.cons (.ite (.cmp .Lt (.var 3) (.con (.int (0)))) (.cons (.set 3 (.bin .Sub (.con (.int (1))) (.bin .Mult (.con (.int (2))) (.var 3)))) .nil) .nil) (.cons (.ite (.and (.cmp .Eq (.var 2) (.con (.int (0)))) (.and (.cmp .Lt (.var 1) (.blt .len (.cons (.var 0) .nil))) (.cmp .GtE (.var 3) (.bin .Pow (.con (.int (10))) (.con (.int (18))))))) (.cons (.ret (.bin .Sub (.var 3) (.bin .Pow (.con (.int (10))) (.con (.int (18)))))) .nil) .nil) (.cons (.ret (.cal m (.cons (.bin .Add (.var 3) (.bin .Mult (.var 2) (.con (.int (1000003))))) (.cons (.var 1) .nil)))) .nil)))))⟩
theorem at_ok (ns : List Int) (p : Int) (h : 0 < (ns.length : Int)) : ∃ z, atI ns (p % ns.length) = some z := by
  have h1 := Int.emod_nonneg p (by omega : (ns.length : Int) ≠ 0)
  have h2 := Int.emod_lt_of_pos p h
  unfold atI ixN
  rw [if_pos h1, if_pos h2]
  have h3 : (p % ns.length).toNat < ns.length := by omega
  exact ⟨_, List.getElem?_eq_getElem h3⟩
theorem rest_ok {cf : Cf} {m : Nat} (hio : cf.io m = none) (hm : ∀ n p : Int, Op (cf.C m [.sh (.int n), .sh (.int p)]) fun r => ∃ z, r = (.v (.int z), none)) (ns : List Int) (p f : Int) : Op (runFn cf (h_rest m) [.sh (.scr ns), .sh (.int p), .sh (.int f)]) fun r => ∃ z, r = (.v (.int z), none) := by
  rw [wp_run rfl rfl]
  show Wp cf (h_rest m).body [.sh (.scr ns), .sh (.int p), .sh (.int f), .un] _
  unfold h_rest
  rw [wp_set]
  simp only [getIx, L2.atI, L2.ixN, wipe, restore, List.foldl_cons, List.foldl_nil, List.getD_cons_zero, List.getD_cons_succ, lpI_nx, lpI_ct, lpI_bk, lpI_rt, shaped_int, shaped_bl, shaped_non, deq_ii, deq_bb, Bool.and_self, Bool.and_true, Bool.true_and, Int.cast_ofNat_Int, Nat.reducePow, Nat.reduceLeDiff, Int.zero_add, Int.add_zero, aft_nx, aft_rt, aft_bk, aft_ct, af_nx, af_rt, af_bk, af_ct, decide_eq_true_eq, eval, evals, evalsT, evalsA, evalO, evalC, evalI, dictI, test, op_bind, op_map, op_some, op_none, op_ite, if_false_right, pk, take, pks, binop, cmpop, truth, setIx, rangeOf, big, revOf, store, put, puts, putG, setOwn, ownOf, lstAt, bltF, lenF, lenOf, intF, absF, gcdF, isiF, isTy, listF, tupleF, dictF, mutF, appendF, isBw_0, isBw_s, nb_sh, nb_ow, nb_un, nb_bw, settle, storesR, bindA, back, lent, List.getElem?_cons_zero, List.getElem?_cons_succ, List.set_cons_zero, List.set_cons_succ, List.length_cons, List.length_nil, List.map_cons, List.map_nil, List.append_nil, List.nil_append, List.cons_append, and_self, and_true, true_and, if_true, if_false, ite_true, ite_false, reduceIte, Option.bind_some, Option.map_some, decide_true, decide_false, Bool.not_true, Bool.not_false, Bool.false_eq_true, Option.some.injEq, Nat.reduceLT, Nat.reduceAdd, Nat.zero_add, Nat.add_one_lt_add_one_iff, Nat.lt_add_left_iff_pos, Nat.lt_add_one, Nat.zero_lt_succ, Int.reduceLT, Int.reduceLE, Int.reduceNeg, Int.reducePow, Int.reduceToNat, Int.reduceMul, Int.reduceSub,  Int.reduceAdd, forall_const, ne_eq, not_true_eq_false, not_false_eq_true]
  refine wp_join (fun e => ∃ z : Int, e = [.sh (.scr ns), .sh (.int p), .sh (.int f), .sh (.int z)]) ?_ ?_
  · rw [wp_ite]
    simp only [getIx, L2.atI, L2.ixN, wipe, restore, List.foldl_cons, List.foldl_nil, List.getD_cons_zero, List.getD_cons_succ, lpI_nx, lpI_ct, lpI_bk, lpI_rt, shaped_int, shaped_bl, shaped_non, deq_ii, deq_bb, Bool.and_self, Bool.and_true, Bool.true_and, Int.cast_ofNat_Int, Nat.reducePow, Nat.reduceLeDiff, Int.zero_add, Int.add_zero, aft_nx, aft_rt, aft_bk, aft_ct, af_nx, af_rt, af_bk, af_ct, decide_eq_true_eq, eval, evals, evalsT, evalsA, evalO, evalC, evalI, dictI, test, op_bind, op_map, op_some, op_none, op_ite, if_false_right, pk, take, pks, binop, cmpop, truth, setIx, rangeOf, big, revOf, store, put, puts, putG, setOwn, ownOf, lstAt, bltF, lenF, lenOf, intF, absF, gcdF, isiF, isTy, listF, tupleF, dictF, mutF, appendF, isBw_0, isBw_s, nb_sh, nb_ow, nb_un, nb_bw, settle, storesR, bindA, back, lent, List.getElem?_cons_zero, List.getElem?_cons_succ, List.set_cons_zero, List.set_cons_succ, List.length_cons, List.length_nil, List.map_cons, List.map_nil, List.append_nil, List.nil_append, List.cons_append, and_self, and_true, true_and, if_true, if_false, ite_true, ite_false, reduceIte, Option.bind_some, Option.map_some, decide_true, decide_false, Bool.not_true, Bool.not_false, Bool.false_eq_true, Option.some.injEq, Nat.reduceLT, Nat.reduceAdd, Nat.zero_add, Nat.add_one_lt_add_one_iff, Nat.lt_add_left_iff_pos, Nat.lt_add_one, Nat.zero_lt_succ, Int.reduceLT, Int.reduceLE, Int.reduceNeg, Int.reducePow, Int.reduceToNat, Int.reduceMul, Int.reduceSub,  Int.reduceAdd, forall_const, ne_eq, not_true_eq_false, not_false_eq_true]
    split
    · rename_i h
      obtain ⟨z, hz⟩ := at_ok ns p h
      simp only [getIx, wp_set, wp_unp, wp_par, wp_sti, wp_exp, wp_ret, wp_retN, wp_brk, wp_cnt, wp_pas, wp_nil, wp_nil, wipe, restore, List.foldl_cons, List.foldl_nil, List.getD_cons_zero, List.getD_cons_succ, lpI_nx, lpI_ct, lpI_bk, lpI_rt, shaped_int, shaped_bl, shaped_non, deq_ii, deq_bb, Bool.and_self, Bool.and_true, Bool.true_and, Int.cast_ofNat_Int, Nat.reducePow, Nat.reduceLeDiff, Int.zero_add, Int.add_zero, aft_nx, aft_rt, aft_bk, aft_ct, af_nx, af_rt, af_bk, af_ct, decide_eq_true_eq, eval, evals, evalsT, evalsA, evalO, evalC, evalI, dictI, test, op_bind, op_map, op_some, op_none, op_ite, if_false_right, pk, take, pks, binop, cmpop, truth, setIx, rangeOf, big, revOf, store, put, puts, putG, setOwn, ownOf, lstAt, bltF, lenF, lenOf, intF, absF, gcdF, isiF, isTy, listF, tupleF, dictF, mutF, appendF, isBw_0, isBw_s, nb_sh, nb_ow, nb_un, nb_bw, settle, storesR, bindA, back, lent, List.getElem?_cons_zero, List.getElem?_cons_succ, List.set_cons_zero, List.set_cons_succ, List.length_cons, List.length_nil, List.map_cons, List.map_nil, List.append_nil, List.nil_append, List.cons_append, and_self, and_true, true_and, if_true, if_false, ite_true, ite_false, reduceIte, Option.bind_some, Option.map_some, decide_true, decide_false, Bool.not_true, Bool.not_false, Bool.false_eq_true, Option.some.injEq, Nat.reduceLT, Nat.reduceAdd, Nat.zero_add, Nat.add_one_lt_add_one_iff, Nat.lt_add_left_iff_pos, Nat.lt_add_one, Nat.zero_lt_succ, Int.reduceLT, Int.reduceLE, Int.reduceNeg, Int.reducePow, Int.reduceToNat, Int.reduceMul, Int.reduceSub,  Int.reduceAdd, forall_const, ne_eq, not_true_eq_false, not_false_eq_true, hz, h]
      exact ⟨z, rfl⟩
    · simp only [wp_set, wp_unp, wp_par, wp_sti, wp_exp, wp_ret, wp_retN, wp_brk, wp_cnt, wp_pas, wp_nil, wp_nil, getIx, L2.atI, L2.ixN, wipe, restore, List.foldl_cons, List.foldl_nil, List.getD_cons_zero, List.getD_cons_succ, lpI_nx, lpI_ct, lpI_bk, lpI_rt, shaped_int, shaped_bl, shaped_non, deq_ii, deq_bb, Bool.and_self, Bool.and_true, Bool.true_and, Int.cast_ofNat_Int, Nat.reducePow, Nat.reduceLeDiff, Int.zero_add, Int.add_zero, aft_nx, aft_rt, aft_bk, aft_ct, af_nx, af_rt, af_bk, af_ct, decide_eq_true_eq, eval, evals, evalsT, evalsA, evalO, evalC, evalI, dictI, test, op_bind, op_map, op_some, op_none, op_ite, if_false_right, pk, take, pks, binop, cmpop, truth, setIx, rangeOf, big, revOf, store, put, puts, putG, setOwn, ownOf, lstAt, bltF, lenF, lenOf, intF, absF, gcdF, isiF, isTy, listF, tupleF, dictF, mutF, appendF, isBw_0, isBw_s, nb_sh, nb_ow, nb_un, nb_bw, settle, storesR, bindA, back, lent, List.getElem?_cons_zero, List.getElem?_cons_succ, List.set_cons_zero, List.set_cons_succ, List.length_cons, List.length_nil, List.map_cons, List.map_nil, List.append_nil, List.nil_append, List.cons_append, and_self, and_true, true_and, if_true, if_false, ite_true, ite_false, reduceIte, Option.bind_some, Option.map_some, decide_true, decide_false, Bool.not_true, Bool.not_false, Bool.false_eq_true, Option.some.injEq, Nat.reduceLT, Nat.reduceAdd, Nat.zero_add, Nat.add_one_lt_add_one_iff, Nat.lt_add_left_iff_pos, Nat.lt_add_one, Nat.zero_lt_succ, Int.reduceLT, Int.reduceLE, Int.reduceNeg, Int.reducePow, Int.reduceToNat, Int.reduceMul, Int.reduceSub,  Int.reduceAdd, forall_const, ne_eq, not_true_eq_false, not_false_eq_true]
      exact ⟨0, rfl⟩
  rintro e ⟨z, rfl⟩
  refine wp_join (fun e => ∃ z : Int, e = [.sh (.scr ns), .sh (.int p), .sh (.int f), .sh (.int z)]) ?_ ?_
  · rw [wp_ite]
    simp only [getIx, L2.atI, L2.ixN, wipe, restore, List.foldl_cons, List.foldl_nil, List.getD_cons_zero, List.getD_cons_succ, lpI_nx, lpI_ct, lpI_bk, lpI_rt, shaped_int, shaped_bl, shaped_non, deq_ii, deq_bb, Bool.and_self, Bool.and_true, Bool.true_and, Int.cast_ofNat_Int, Nat.reducePow, Nat.reduceLeDiff, Int.zero_add, Int.add_zero, aft_nx, aft_rt, aft_bk, aft_ct, af_nx, af_rt, af_bk, af_ct, decide_eq_true_eq, eval, evals, evalsT, evalsA, evalO, evalC, evalI, dictI, test, op_bind, op_map, op_some, op_none, op_ite, if_false_right, pk, take, pks, binop, cmpop, truth, setIx, rangeOf, big, revOf, store, put, puts, putG, setOwn, ownOf, lstAt, bltF, lenF, lenOf, intF, absF, gcdF, isiF, isTy, listF, tupleF, dictF, mutF, appendF, isBw_0, isBw_s, nb_sh, nb_ow, nb_un, nb_bw, settle, storesR, bindA, back, lent, List.getElem?_cons_zero, List.getElem?_cons_succ, List.set_cons_zero, List.set_cons_succ, List.length_cons, List.length_nil, List.map_cons, List.map_nil, List.append_nil, List.nil_append, List.cons_append, and_self, and_true, true_and, if_true, if_false, ite_true, ite_false, reduceIte, Option.bind_some, Option.map_some, decide_true, decide_false, Bool.not_true, Bool.not_false, Bool.false_eq_true, Option.some.injEq, Nat.reduceLT, Nat.reduceAdd, Nat.zero_add, Nat.add_one_lt_add_one_iff, Nat.lt_add_left_iff_pos, Nat.lt_add_one, Nat.zero_lt_succ, Int.reduceLT, Int.reduceLE, Int.reduceNeg, Int.reducePow, Int.reduceToNat, Int.reduceMul, Int.reduceSub,  Int.reduceAdd, forall_const, ne_eq, not_true_eq_false, not_false_eq_true]
    split
    · simp only [wp_set, wp_unp, wp_par, wp_sti, wp_exp, wp_ret, wp_retN, wp_brk, wp_cnt, wp_pas, wp_nil, wp_nil, getIx, L2.atI, L2.ixN, wipe, restore, List.foldl_cons, List.foldl_nil, List.getD_cons_zero, List.getD_cons_succ, lpI_nx, lpI_ct, lpI_bk, lpI_rt, shaped_int, shaped_bl, shaped_non, deq_ii, deq_bb, Bool.and_self, Bool.and_true, Bool.true_and, Int.cast_ofNat_Int, Nat.reducePow, Nat.reduceLeDiff, Int.zero_add, Int.add_zero, aft_nx, aft_rt, aft_bk, aft_ct, af_nx, af_rt, af_bk, af_ct, decide_eq_true_eq, eval, evals, evalsT, evalsA, evalO, evalC, evalI, dictI, test, op_bind, op_map, op_some, op_none, op_ite, if_false_right, pk, take, pks, binop, cmpop, truth, setIx, rangeOf, big, revOf, store, put, puts, putG, setOwn, ownOf, lstAt, bltF, lenF, lenOf, intF, absF, gcdF, isiF, isTy, listF, tupleF, dictF, mutF, appendF, isBw_0, isBw_s, nb_sh, nb_ow, nb_un, nb_bw, settle, storesR, bindA, back, lent, List.getElem?_cons_zero, List.getElem?_cons_succ, List.set_cons_zero, List.set_cons_succ, List.length_cons, List.length_nil, List.map_cons, List.map_nil, List.append_nil, List.nil_append, List.cons_append, and_self, and_true, true_and, if_true, if_false, ite_true, ite_false, reduceIte, Option.bind_some, Option.map_some, decide_true, decide_false, Bool.not_true, Bool.not_false, Bool.false_eq_true, Option.some.injEq, Nat.reduceLT, Nat.reduceAdd, Nat.zero_add, Nat.add_one_lt_add_one_iff, Nat.lt_add_left_iff_pos, Nat.lt_add_one, Nat.zero_lt_succ, Int.reduceLT, Int.reduceLE, Int.reduceNeg, Int.reducePow, Int.reduceToNat, Int.reduceMul, Int.reduceSub,  Int.reduceAdd, forall_const, ne_eq, not_true_eq_false, not_false_eq_true]
      exact ⟨mulOk_l (by decide), _, rfl⟩
    · simp only [wp_set, wp_unp, wp_par, wp_sti, wp_exp, wp_ret, wp_retN, wp_brk, wp_cnt, wp_pas, wp_nil, wp_nil, getIx, L2.atI, L2.ixN, wipe, restore, List.foldl_cons, List.foldl_nil, List.getD_cons_zero, List.getD_cons_succ, lpI_nx, lpI_ct, lpI_bk, lpI_rt, shaped_int, shaped_bl, shaped_non, deq_ii, deq_bb, Bool.and_self, Bool.and_true, Bool.true_and, Int.cast_ofNat_Int, Nat.reducePow, Nat.reduceLeDiff, Int.zero_add, Int.add_zero, aft_nx, aft_rt, aft_bk, aft_ct, af_nx, af_rt, af_bk, af_ct, decide_eq_true_eq, eval, evals, evalsT, evalsA, evalO, evalC, evalI, dictI, test, op_bind, op_map, op_some, op_none, op_ite, if_false_right, pk, take, pks, binop, cmpop, truth, setIx, rangeOf, big, revOf, store, put, puts, putG, setOwn, ownOf, lstAt, bltF, lenF, lenOf, intF, absF, gcdF, isiF, isTy, listF, tupleF, dictF, mutF, appendF, isBw_0, isBw_s, nb_sh, nb_ow, nb_un, nb_bw, settle, storesR, bindA, back, lent, List.getElem?_cons_zero, List.getElem?_cons_succ, List.set_cons_zero, List.set_cons_succ, List.length_cons, List.length_nil, List.map_cons, List.map_nil, List.append_nil, List.nil_append, List.cons_append, and_self, and_true, true_and, if_true, if_false, ite_true, ite_false, reduceIte, Option.bind_some, Option.map_some, decide_true, decide_false, Bool.not_true, Bool.not_false, Bool.false_eq_true, Option.some.injEq, Nat.reduceLT, Nat.reduceAdd, Nat.zero_add, Nat.add_one_lt_add_one_iff, Nat.lt_add_left_iff_pos, Nat.lt_add_one, Nat.zero_lt_succ, Int.reduceLT, Int.reduceLE, Int.reduceNeg, Int.reducePow, Int.reduceToNat, Int.reduceMul, Int.reduceSub,  Int.reduceAdd, forall_const, ne_eq, not_true_eq_false, not_false_eq_true]
      exact ⟨z, rfl⟩
  rintro e ⟨z, rfl⟩
  have fin : Wp cf (.cons (.ret (.cal m (.cons (.bin .Add (.var 3) (.bin .Mult (.var 2) (.con (.int (1000003))))) (.cons (.var 1) .nil)))) .nil) [.sh (.scr ns), .sh (.int p), .sh (.int f), .sh (.int z)] fun p => Op (outF none p) fun r => ∃ z, r = (Rv.v (D.int z), none) := by
    simp only [wp_set, wp_unp, wp_par, wp_sti, wp_exp, wp_ret, wp_retN, wp_brk, wp_cnt, wp_pas, wp_nil, wp_nil, getIx, L2.atI, L2.ixN, wipe, restore, List.foldl_cons, List.foldl_nil, List.getD_cons_zero, List.getD_cons_succ, lpI_nx, lpI_ct, lpI_bk, lpI_rt, shaped_int, shaped_bl, shaped_non, deq_ii, deq_bb, Bool.and_self, Bool.and_true, Bool.true_and, Int.cast_ofNat_Int, Nat.reducePow, Nat.reduceLeDiff, Int.zero_add, Int.add_zero, aft_nx, aft_rt, aft_bk, aft_ct, af_nx, af_rt, af_bk, af_ct, decide_eq_true_eq, eval, evals, evalsT, evalsA, evalO, evalC, evalI, dictI, test, op_bind, op_map, op_some, op_none, op_ite, if_false_right, pk, take, pks, binop, cmpop, truth, setIx, rangeOf, big, revOf, store, put, puts, putG, setOwn, ownOf, lstAt, bltF, lenF, lenOf, intF, absF, gcdF, isiF, isTy, listF, tupleF, dictF, mutF, appendF, isBw_0, isBw_s, nb_sh, nb_ow, nb_un, nb_bw, settle, storesR, bindA, back, lent, List.getElem?_cons_zero, List.getElem?_cons_succ, List.set_cons_zero, List.set_cons_succ, List.length_cons, List.length_nil, List.map_cons, List.map_nil, List.append_nil, List.nil_append, List.cons_append, and_self, and_true, true_and, if_true, if_false, ite_true, ite_false, reduceIte, Option.bind_some, Option.map_some, decide_true, decide_false, Bool.not_true, Bool.not_false, Bool.false_eq_true, Option.some.injEq, Nat.reduceLT, Nat.reduceAdd, Nat.zero_add, Nat.add_one_lt_add_one_iff, Nat.lt_add_left_iff_pos, Nat.lt_add_one, Nat.zero_lt_succ, Int.reduceLT, Int.reduceLE, Int.reduceNeg, Int.reducePow, Int.reduceToNat, Int.reduceMul, Int.reduceSub,  Int.reduceAdd, forall_const, ne_eq, not_true_eq_false, not_false_eq_true, hio]
    refine ⟨mulOk_r (by decide), (hm _ _).mono ?_⟩
    rintro _ ⟨z, rfl⟩
    simp only [outF, outR, outIo, getIx, L2.atI, L2.ixN, wipe, restore, List.foldl_cons, List.foldl_nil, List.getD_cons_zero, List.getD_cons_succ, lpI_nx, lpI_ct, lpI_bk, lpI_rt, shaped_int, shaped_bl, shaped_non, deq_ii, deq_bb, Bool.and_self, Bool.and_true, Bool.true_and, Int.cast_ofNat_Int, Nat.reducePow, Nat.reduceLeDiff, Int.zero_add, Int.add_zero, aft_nx, aft_rt, aft_bk, aft_ct, af_nx, af_rt, af_bk, af_ct, decide_eq_true_eq, eval, evals, evalsT, evalsA, evalO, evalC, evalI, dictI, test, op_bind, op_map, op_some, op_none, op_ite, if_false_right, pk, take, pks, binop, cmpop, truth, setIx, rangeOf, big, revOf, store, put, puts, putG, setOwn, ownOf, lstAt, bltF, lenF, lenOf, intF, absF, gcdF, isiF, isTy, listF, tupleF, dictF, mutF, appendF, isBw_0, isBw_s, nb_sh, nb_ow, nb_un, nb_bw, settle, storesR, bindA, back, lent, List.getElem?_cons_zero, List.getElem?_cons_succ, List.set_cons_zero, List.set_cons_succ, List.length_cons, List.length_nil, List.map_cons, List.map_nil, List.append_nil, List.nil_append, List.cons_append, and_self, and_true, true_and, if_true, if_false, ite_true, ite_false, reduceIte, Option.bind_some, Option.map_some, decide_true, decide_false, Bool.not_true, Bool.not_false, Bool.false_eq_true, Option.some.injEq, Nat.reduceLT, Nat.reduceAdd, Nat.zero_add, Nat.add_one_lt_add_one_iff, Nat.lt_add_left_iff_pos, Nat.lt_add_one, Nat.zero_lt_succ, Int.reduceLT, Int.reduceLE, Int.reduceNeg, Int.reducePow, Int.reduceToNat, Int.reduceMul, Int.reduceSub,  Int.reduceAdd, forall_const, ne_eq, not_true_eq_false, not_false_eq_true]
    exact ⟨_, rfl⟩
  refine wp_if (f = 0 ∧ p < ns.length ∧ 1000000000000000000 ≤ z) ?_ (fun _ => ?_) (fun _ => ?_)
  · simp only [getIx, L2.atI, L2.ixN, wipe, restore, List.foldl_cons, List.foldl_nil, List.getD_cons_zero, List.getD_cons_succ, lpI_nx, lpI_ct, lpI_bk, lpI_rt, shaped_int, shaped_bl, shaped_non, deq_ii, deq_bb, Bool.and_self, Bool.and_true, Bool.true_and, Int.cast_ofNat_Int, Nat.reducePow, Nat.reduceLeDiff, Int.zero_add, Int.add_zero, aft_nx, aft_rt, aft_bk, aft_ct, af_nx, af_rt, af_bk, af_ct, decide_eq_true_eq, eval, evals, evalsT, evalsA, evalO, evalC, evalI, dictI, test, op_bind, op_map, op_some, op_none, op_ite, if_false_right, pk, take, pks, binop, cmpop, truth, setIx, rangeOf, big, revOf, store, put, puts, putG, setOwn, ownOf, lstAt, bltF, lenF, lenOf, intF, absF, gcdF, isiF, isTy, listF, tupleF, dictF, mutF, appendF, isBw_0, isBw_s, nb_sh, nb_ow, nb_un, nb_bw, settle, storesR, bindA, back, lent, List.getElem?_cons_zero, List.getElem?_cons_succ, List.set_cons_zero, List.set_cons_succ, List.length_cons, List.length_nil, List.map_cons, List.map_nil, List.append_nil, List.nil_append, List.cons_append, and_self, and_true, true_and, if_true, if_false, ite_true, ite_false, reduceIte, Option.bind_some, Option.map_some, decide_true, decide_false, Bool.not_true, Bool.not_false, Bool.false_eq_true, Option.some.injEq, Nat.reduceLT, Nat.reduceAdd, Nat.zero_add, Nat.add_one_lt_add_one_iff, Nat.lt_add_left_iff_pos, Nat.lt_add_one, Nat.zero_lt_succ, Int.reduceLT, Int.reduceLE, Int.reduceNeg, Int.reducePow, Int.reduceToNat, Int.reduceMul, Int.reduceSub,  Int.reduceAdd, forall_const, ne_eq, not_true_eq_false, not_false_eq_true]
    by_cases h1 : f = 0
    · by_cases h2 : p < ns.length <;> simp [h1, h2]
    · simp [h1]
  · simp only [wp_set, wp_unp, wp_par, wp_sti, wp_exp, wp_ret, wp_retN, wp_brk, wp_cnt, wp_pas, wp_nil, wp_nil, getIx, L2.atI, L2.ixN, wipe, restore, List.foldl_cons, List.foldl_nil, List.getD_cons_zero, List.getD_cons_succ, lpI_nx, lpI_ct, lpI_bk, lpI_rt, shaped_int, shaped_bl, shaped_non, deq_ii, deq_bb, Bool.and_self, Bool.and_true, Bool.true_and, Int.cast_ofNat_Int, Nat.reducePow, Nat.reduceLeDiff, Int.zero_add, Int.add_zero, aft_nx, aft_rt, aft_bk, aft_ct, af_nx, af_rt, af_bk, af_ct, decide_eq_true_eq, eval, evals, evalsT, evalsA, evalO, evalC, evalI, dictI, test, op_bind, op_map, op_some, op_none, op_ite, if_false_right, pk, take, pks, binop, cmpop, truth, setIx, rangeOf, big, revOf, store, put, puts, putG, setOwn, ownOf, lstAt, bltF, lenF, lenOf, intF, absF, gcdF, isiF, isTy, listF, tupleF, dictF, mutF, appendF, isBw_0, isBw_s, nb_sh, nb_ow, nb_un, nb_bw, settle, storesR, bindA, back, lent, List.getElem?_cons_zero, List.getElem?_cons_succ, List.set_cons_zero, List.set_cons_succ, List.length_cons, List.length_nil, List.map_cons, List.map_nil, List.append_nil, List.nil_append, List.cons_append, and_self, and_true, true_and, if_true, if_false, ite_true, ite_false, reduceIte, Option.bind_some, Option.map_some, decide_true, decide_false, Bool.not_true, Bool.not_false, Bool.false_eq_true, Option.some.injEq, Nat.reduceLT, Nat.reduceAdd, Nat.zero_add, Nat.add_one_lt_add_one_iff, Nat.lt_add_left_iff_pos, Nat.lt_add_one, Nat.zero_lt_succ, Int.reduceLT, Int.reduceLE, Int.reduceNeg, Int.reducePow, Int.reduceToNat, Int.reduceMul, Int.reduceSub,  Int.reduceAdd, forall_const, ne_eq, not_true_eq_false, not_false_eq_true, outF, outR, outIo]
    exact ⟨by decide, _, rfl⟩
  · simp only [wp_nil, aft_nx]
    exact fin
def h_pool (r : Nat) : Fn := ⟨1, 1, none, (.cons (.ret (.lst (.cons (.var 0) (.cons (.con (.int (0))) (.cons (.cal r (.cons (.var 0) (.cons (.con (.int (0))) (.cons (.con (.int (0))) .nil)))) (.cons (.con (.int (0))) .nil)))))) .nil)⟩
def h_next (r : Nat) : Fn := ⟨1, 1, some 0, (.cons (.sti (.var 0) (.con (.int (1))) (.bin .Add (.idx (.var 0) (.con (.int (1)))) (.con (.int (1))))) (.cons (.sti (.var 0) (.con (.int (2))) (.cal r (.cons (.idx (.var 0) (.con (.int (0)))) (.cons (.idx (.var 0) (.con (.int (1)))) (.cons (.con (.int (0))) .nil))))) (.cons (.sti (.var 0) (.con (.int (3))) (.con (.int (0)))) .nil)))⟩
def h_draw (r : Nat) : Fn := ⟨2, 3, some 0, (.cons (.ite (.cmp .LtE (.idx (.var 0) (.con (.int (2)))) (.con (.int (1)))) (.cons (.sti (.var 0) (.con (.int (3))) (.bin .Add (.idx (.var 0) (.con (.int (3)))) (.con (.int (1))))) (.cons (.sti (.var 0) (.con (.int (2))) (.cal r (.cons (.idx (.var 0) (.con (.int (0)))) (.cons (.idx (.var 0) (.con (.int (1)))) (.cons (.idx (.var 0) (.con (.int (3)))) .nil))))) .nil)) .nil) (.cons (.set 2 (.bin .Mod (.blt .int (.cons (.idx (.var 0) (.con (.int (2)))) .nil)) (.var 1))) (.cons (.sti (.var 0) (.con (.int (2))) (.bin .FloorDiv (.blt .int (.cons (.idx (.var 0) (.con (.int (2)))) .nil)) (.var 1))) (.cons (.ret (.var 2)) .nil))))⟩
def h_pick (d : Nat) : Fn := ⟨2, 2, some 0, (.cons (.ret (.idx (.var 1) (.cal d (.cons (.var 0) (.cons (.blt .len (.cons (.var 1) .nil)) .nil))))) .nil)⟩
theorem lt8000 {L : Int} (h : L < 2 ^ 64) : L < 2 ^ 8000 := by
  have e := Nat.pow_le_pow_right (n := 2) (by decide) (by decide : 64 ≤ 8000)
  have e2 : ((2 ^ 64 : Nat) : Int) ≤ ((2 ^ 8000 : Nat) : Int) := Int.ofNat_le.mpr e
  rw [Int.natCast_pow, Int.natCast_pow] at e2
  exact Int.lt_of_lt_of_le h e2
/-- the pool as data -/
abbrev pool (ns : List Int) (a b c : Int) : D := .lst [.scr ns, .int a, .int b, .int c]
abbrev RestOk (cf : Cf) (r : Nat) : Prop := ∀ (ns : List Int) (p f : Int), Op (cf.C r [.sh (.scr ns), .sh (.int p), .sh (.int f)]) fun r => ∃ z, r = (.v (.int z), none)
theorem pool_ok {cf : Cf} {r : Nat} (hio : cf.io r = none) (hr : RestOk cf r) (ns : List Int) : Op (runFn cf (h_pool r) [.sh (.scr ns)]) fun q => ∃ b, q = (.f (pool ns 0 b 0), none) := by
  rw [wp_run rfl rfl]
  show Wp cf (h_pool r).body [.sh (.scr ns)] _
  unfold h_pool
  simp only [wp_set, wp_unp, wp_par, wp_sti, wp_exp, wp_ret, wp_retN, wp_brk, wp_cnt, wp_pas, wp_nil, wp_nil, getIx, L2.atI, L2.ixN, wipe, restore, List.foldl_cons, List.foldl_nil, List.getD_cons_zero, List.getD_cons_succ, lpI_nx, lpI_ct, lpI_bk, lpI_rt, shaped_int, shaped_bl, shaped_non, deq_ii, deq_bb, Bool.and_self, Bool.and_true, Bool.true_and, Int.cast_ofNat_Int, Nat.reducePow, Nat.reduceLeDiff, Int.zero_add, Int.add_zero, aft_nx, aft_rt, aft_bk, aft_ct, af_nx, af_rt, af_bk, af_ct, decide_eq_true_eq, eval, evals, evalsT, evalsA, evalO, evalC, evalI, dictI, test, op_bind, op_map, op_some, op_none, op_ite, if_false_right, pk, take, pks, binop, cmpop, truth, setIx, rangeOf, big, revOf, store, put, puts, putG, setOwn, ownOf, lstAt, bltF, lenF, lenOf, intF, absF, gcdF, isiF, isTy, listF, tupleF, dictF, mutF, appendF, isBw_0, isBw_s, nb_sh, nb_ow, nb_un, nb_bw, settle, storesR, bindA, back, lent, List.getElem?_cons_zero, List.getElem?_cons_succ, List.set_cons_zero, List.set_cons_succ, List.length_cons, List.length_nil, List.map_cons, List.map_nil, List.append_nil, List.nil_append, List.cons_append, and_self, and_true, true_and, if_true, if_false, ite_true, ite_false, reduceIte, Option.bind_some, Option.map_some, decide_true, decide_false, Bool.not_true, Bool.not_false, Bool.false_eq_true, Option.some.injEq, Nat.reduceLT, Nat.reduceAdd, Nat.zero_add, Nat.add_one_lt_add_one_iff, Nat.lt_add_left_iff_pos, Nat.lt_add_one, Nat.zero_lt_succ, Int.reduceLT, Int.reduceLE, Int.reduceNeg, Int.reducePow, Int.reduceToNat, Int.reduceMul, Int.reduceSub,  Int.reduceAdd, forall_const, ne_eq, not_true_eq_false, not_false_eq_true, hio]
  refine (hr _ _ _).mono ?_
  rintro _ ⟨z, rfl⟩
  simp only [outF, outR, outIo, getIx, L2.atI, L2.ixN, wipe, restore, List.foldl_cons, List.foldl_nil, List.getD_cons_zero, List.getD_cons_succ, lpI_nx, lpI_ct, lpI_bk, lpI_rt, shaped_int, shaped_bl, shaped_non, deq_ii, deq_bb, Bool.and_self, Bool.and_true, Bool.true_and, Int.cast_ofNat_Int, Nat.reducePow, Nat.reduceLeDiff, Int.zero_add, Int.add_zero, aft_nx, aft_rt, aft_bk, aft_ct, af_nx, af_rt, af_bk, af_ct, decide_eq_true_eq, eval, evals, evalsT, evalsA, evalO, evalC, evalI, dictI, test, op_bind, op_map, op_some, op_none, op_ite, if_false_right, pk, take, pks, binop, cmpop, truth, setIx, rangeOf, big, revOf, store, put, puts, putG, setOwn, ownOf, lstAt, bltF, lenF, lenOf, intF, absF, gcdF, isiF, isTy, listF, tupleF, dictF, mutF, appendF, isBw_0, isBw_s, nb_sh, nb_ow, nb_un, nb_bw, settle, storesR, bindA, back, lent, List.getElem?_cons_zero, List.getElem?_cons_succ, List.set_cons_zero, List.set_cons_succ, List.length_cons, List.length_nil, List.map_cons, List.map_nil, List.append_nil, List.nil_append, List.cons_append, and_self, and_true, true_and, if_true, if_false, ite_true, ite_false, reduceIte, Option.bind_some, Option.map_some, decide_true, decide_false, Bool.not_true, Bool.not_false, Bool.false_eq_true, Option.some.injEq, Nat.reduceLT, Nat.reduceAdd, Nat.zero_add, Nat.add_one_lt_add_one_iff, Nat.lt_add_left_iff_pos, Nat.lt_add_one, Nat.zero_lt_succ, Int.reduceLT, Int.reduceLE, Int.reduceNeg, Int.reducePow, Int.reduceToNat, Int.reduceMul, Int.reduceSub,  Int.reduceAdd, forall_const, ne_eq, not_true_eq_false, not_false_eq_true]
  exact ⟨by decide, _, rfl⟩
theorem next_ok {cf : Cf} {r : Nat} (hio : cf.io r = none) (hr : RestOk cf r) (ns : List Int) (a b c : Int) : Op (runFn cf (h_next r) [.bw (pool ns a b c)]) fun q => ∃ b', q = (.v .non, some (pool ns (a + 1) b' 0)) := by
  rw [wp_run rfl rfl]
  show Wp cf (h_next r).body [.bw (pool ns a b c)] _
  unfold h_next
  simp only [wp_set, wp_unp, wp_par, wp_sti, wp_exp, wp_ret, wp_retN, wp_brk, wp_cnt, wp_pas, wp_nil, wp_nil, getIx, L2.atI, L2.ixN, wipe, restore, List.foldl_cons, List.foldl_nil, List.getD_cons_zero, List.getD_cons_succ, lpI_nx, lpI_ct, lpI_bk, lpI_rt, shaped_int, shaped_bl, shaped_non, deq_ii, deq_bb, Bool.and_self, Bool.and_true, Bool.true_and, Int.cast_ofNat_Int, Nat.reducePow, Nat.reduceLeDiff, Int.zero_add, Int.add_zero, aft_nx, aft_rt, aft_bk, aft_ct, af_nx, af_rt, af_bk, af_ct, decide_eq_true_eq, eval, evals, evalsT, evalsA, evalO, evalC, evalI, dictI, test, op_bind, op_map, op_some, op_none, op_ite, if_false_right, pk, take, pks, binop, cmpop, truth, setIx, rangeOf, big, revOf, store, put, puts, putG, setOwn, ownOf, lstAt, bltF, lenF, lenOf, intF, absF, gcdF, isiF, isTy, listF, tupleF, dictF, mutF, appendF, isBw_0, isBw_s, nb_sh, nb_ow, nb_un, nb_bw, settle, storesR, bindA, back, lent, List.getElem?_cons_zero, List.getElem?_cons_succ, List.set_cons_zero, List.set_cons_succ, List.length_cons, List.length_nil, List.map_cons, List.map_nil, List.append_nil, List.nil_append, List.cons_append, and_self, and_true, true_and, if_true, if_false, ite_true, ite_false, reduceIte, Option.bind_some, Option.map_some, decide_true, decide_false, Bool.not_true, Bool.not_false, Bool.false_eq_true, Option.some.injEq, Nat.reduceLT, Nat.reduceAdd, Nat.zero_add, Nat.add_one_lt_add_one_iff, Nat.lt_add_left_iff_pos, Nat.lt_add_one, Nat.zero_lt_succ, Int.reduceLT, Int.reduceLE, Int.reduceNeg, Int.reducePow, Int.reduceToNat, Int.reduceMul, Int.reduceSub,  Int.reduceAdd, forall_const, ne_eq, not_true_eq_false, not_false_eq_true, hio]
  refine (hr _ _ _).mono ?_
  rintro _ ⟨z, rfl⟩
  simp only [wp_set, wp_unp, wp_par, wp_sti, wp_exp, wp_ret, wp_retN, wp_brk, wp_cnt, wp_pas, wp_nil, wp_nil, getIx, L2.atI, L2.ixN, wipe, restore, List.foldl_cons, List.foldl_nil, List.getD_cons_zero, List.getD_cons_succ, lpI_nx, lpI_ct, lpI_bk, lpI_rt, shaped_int, shaped_bl, shaped_non, deq_ii, deq_bb, Bool.and_self, Bool.and_true, Bool.true_and, Int.cast_ofNat_Int, Nat.reducePow, Nat.reduceLeDiff, Int.zero_add, Int.add_zero, aft_nx, aft_rt, aft_bk, aft_ct, af_nx, af_rt, af_bk, af_ct, decide_eq_true_eq, eval, evals, evalsT, evalsA, evalO, evalC, evalI, dictI, test, op_bind, op_map, op_some, op_none, op_ite, if_false_right, pk, take, pks, binop, cmpop, truth, setIx, rangeOf, big, revOf, store, put, puts, putG, setOwn, ownOf, lstAt, bltF, lenF, lenOf, intF, absF, gcdF, isiF, isTy, listF, tupleF, dictF, mutF, appendF, isBw_0, isBw_s, nb_sh, nb_ow, nb_un, nb_bw, settle, storesR, bindA, back, lent, List.getElem?_cons_zero, List.getElem?_cons_succ, List.set_cons_zero, List.set_cons_succ, List.length_cons, List.length_nil, List.map_cons, List.map_nil, List.append_nil, List.nil_append, List.cons_append, and_self, and_true, true_and, if_true, if_false, ite_true, ite_false, reduceIte, Option.bind_some, Option.map_some, decide_true, decide_false, Bool.not_true, Bool.not_false, Bool.false_eq_true, Option.some.injEq, Nat.reduceLT, Nat.reduceAdd, Nat.zero_add, Nat.add_one_lt_add_one_iff, Nat.lt_add_left_iff_pos, Nat.lt_add_one, Nat.zero_lt_succ, Int.reduceLT, Int.reduceLE, Int.reduceNeg, Int.reducePow, Int.reduceToNat, Int.reduceMul, Int.reduceSub,  Int.reduceAdd, forall_const, ne_eq, not_true_eq_false, not_false_eq_true, outF, outR, outIo]
  exact ⟨_, rfl⟩
theorem draw_ok {cf : Cf} {r : Nat} (hio : cf.io r = none) (hr : RestOk cf r) (ns : List Int) (a b c L : Int) (hL : 0 < L) (hL2 : L < 2 ^ 64) : Op (runFn cf (h_draw r) [.bw (pool ns a b c), .sh (.int L)]) fun q => ∃ v b' c', 0 ≤ v ∧ v < L ∧ q = (.v (.int v), some (pool ns a b' c')) := by
  rw [wp_run rfl rfl]
  show Wp cf (h_draw r).body [.bw (pool ns a b c), .sh (.int L), .un] _
  unfold h_draw
  refine wp_join (fun e => ∃ b c : Int, e = [.bw (pool ns a b c), .sh (.int L), .un]) ?_ ?_
  · refine wp_if (b ≤ 1) ?_ (fun _ => ?_) (fun _ => ?_)
    · simp only [getIx, L2.atI, L2.ixN, wipe, restore, List.foldl_cons, List.foldl_nil, List.getD_cons_zero, List.getD_cons_succ, lpI_nx, lpI_ct, lpI_bk, lpI_rt, shaped_int, shaped_bl, shaped_non, deq_ii, deq_bb, Bool.and_self, Bool.and_true, Bool.true_and, Int.cast_ofNat_Int, Nat.reducePow, Nat.reduceLeDiff, Int.zero_add, Int.add_zero, aft_nx, aft_rt, aft_bk, aft_ct, af_nx, af_rt, af_bk, af_ct, decide_eq_true_eq, eval, evals, evalsT, evalsA, evalO, evalC, evalI, dictI, test, op_bind, op_map, op_some, op_none, op_ite, if_false_right, pk, take, pks, binop, cmpop, truth, setIx, rangeOf, big, revOf, store, put, puts, putG, setOwn, ownOf, lstAt, bltF, lenF, lenOf, intF, absF, gcdF, isiF, isTy, listF, tupleF, dictF, mutF, appendF, isBw_0, isBw_s, nb_sh, nb_ow, nb_un, nb_bw, settle, storesR, bindA, back, lent, List.getElem?_cons_zero, List.getElem?_cons_succ, List.set_cons_zero, List.set_cons_succ, List.length_cons, List.length_nil, List.map_cons, List.map_nil, List.append_nil, List.nil_append, List.cons_append, and_self, and_true, true_and, if_true, if_false, ite_true, ite_false, reduceIte, Option.bind_some, Option.map_some, decide_true, decide_false, Bool.not_true, Bool.not_false, Bool.false_eq_true, Option.some.injEq, Nat.reduceLT, Nat.reduceAdd, Nat.zero_add, Nat.add_one_lt_add_one_iff, Nat.lt_add_left_iff_pos, Nat.lt_add_one, Nat.zero_lt_succ, Int.reduceLT, Int.reduceLE, Int.reduceNeg, Int.reducePow, Int.reduceToNat, Int.reduceMul, Int.reduceSub,  Int.reduceAdd, forall_const, ne_eq, not_true_eq_false, not_false_eq_true]
    · simp only [wp_set, wp_unp, wp_par, wp_sti, wp_exp, wp_ret, wp_retN, wp_brk, wp_cnt, wp_pas, wp_nil, wp_nil, getIx, L2.atI, L2.ixN, wipe, restore, List.foldl_cons, List.foldl_nil, List.getD_cons_zero, List.getD_cons_succ, lpI_nx, lpI_ct, lpI_bk, lpI_rt, shaped_int, shaped_bl, shaped_non, deq_ii, deq_bb, Bool.and_self, Bool.and_true, Bool.true_and, Int.cast_ofNat_Int, Nat.reducePow, Nat.reduceLeDiff, Int.zero_add, Int.add_zero, aft_nx, aft_rt, aft_bk, aft_ct, af_nx, af_rt, af_bk, af_ct, decide_eq_true_eq, eval, evals, evalsT, evalsA, evalO, evalC, evalI, dictI, test, op_bind, op_map, op_some, op_none, op_ite, if_false_right, pk, take, pks, binop, cmpop, truth, setIx, rangeOf, big, revOf, store, put, puts, putG, setOwn, ownOf, lstAt, bltF, lenF, lenOf, intF, absF, gcdF, isiF, isTy, listF, tupleF, dictF, mutF, appendF, isBw_0, isBw_s, nb_sh, nb_ow, nb_un, nb_bw, settle, storesR, bindA, back, lent, List.getElem?_cons_zero, List.getElem?_cons_succ, List.set_cons_zero, List.set_cons_succ, List.length_cons, List.length_nil, List.map_cons, List.map_nil, List.append_nil, List.nil_append, List.cons_append, and_self, and_true, true_and, if_true, if_false, ite_true, ite_false, reduceIte, Option.bind_some, Option.map_some, decide_true, decide_false, Bool.not_true, Bool.not_false, Bool.false_eq_true, Option.some.injEq, Nat.reduceLT, Nat.reduceAdd, Nat.zero_add, Nat.add_one_lt_add_one_iff, Nat.lt_add_left_iff_pos, Nat.lt_add_one, Nat.zero_lt_succ, Int.reduceLT, Int.reduceLE, Int.reduceNeg, Int.reducePow, Int.reduceToNat, Int.reduceMul, Int.reduceSub,  Int.reduceAdd, forall_const, ne_eq, not_true_eq_false, not_false_eq_true, hio]
      refine (hr _ _ _).mono ?_
      rintro _ ⟨z, rfl⟩
      simp only [wp_set, wp_unp, wp_par, wp_sti, wp_exp, wp_ret, wp_retN, wp_brk, wp_cnt, wp_pas, wp_nil, wp_nil, getIx, L2.atI, L2.ixN, wipe, restore, List.foldl_cons, List.foldl_nil, List.getD_cons_zero, List.getD_cons_succ, lpI_nx, lpI_ct, lpI_bk, lpI_rt, shaped_int, shaped_bl, shaped_non, deq_ii, deq_bb, Bool.and_self, Bool.and_true, Bool.true_and, Int.cast_ofNat_Int, Nat.reducePow, Nat.reduceLeDiff, Int.zero_add, Int.add_zero, aft_nx, aft_rt, aft_bk, aft_ct, af_nx, af_rt, af_bk, af_ct, decide_eq_true_eq, eval, evals, evalsT, evalsA, evalO, evalC, evalI, dictI, test, op_bind, op_map, op_some, op_none, op_ite, if_false_right, pk, take, pks, binop, cmpop, truth, setIx, rangeOf, big, revOf, store, put, puts, putG, setOwn, ownOf, lstAt, bltF, lenF, lenOf, intF, absF, gcdF, isiF, isTy, listF, tupleF, dictF, mutF, appendF, isBw_0, isBw_s, nb_sh, nb_ow, nb_un, nb_bw, settle, storesR, bindA, back, lent, List.getElem?_cons_zero, List.getElem?_cons_succ, List.set_cons_zero, List.set_cons_succ, List.length_cons, List.length_nil, List.map_cons, List.map_nil, List.append_nil, List.nil_append, List.cons_append, and_self, and_true, true_and, if_true, if_false, ite_true, ite_false, reduceIte, Option.bind_some, Option.map_some, decide_true, decide_false, Bool.not_true, Bool.not_false, Bool.false_eq_true, Option.some.injEq, Nat.reduceLT, Nat.reduceAdd, Nat.zero_add, Nat.add_one_lt_add_one_iff, Nat.lt_add_left_iff_pos, Nat.lt_add_one, Nat.zero_lt_succ, Int.reduceLT, Int.reduceLE, Int.reduceNeg, Int.reducePow, Int.reduceToNat, Int.reduceMul, Int.reduceSub,  Int.reduceAdd, forall_const, ne_eq, not_true_eq_false, not_false_eq_true, outF, outR, outIo]
      exact ⟨_, _, rfl⟩
    · simp only [wp_set, wp_unp, wp_par, wp_sti, wp_exp, wp_ret, wp_retN, wp_brk, wp_cnt, wp_pas, wp_nil, wp_nil, getIx, L2.atI, L2.ixN, wipe, restore, List.foldl_cons, List.foldl_nil, List.getD_cons_zero, List.getD_cons_succ, lpI_nx, lpI_ct, lpI_bk, lpI_rt, shaped_int, shaped_bl, shaped_non, deq_ii, deq_bb, Bool.and_self, Bool.and_true, Bool.true_and, Int.cast_ofNat_Int, Nat.reducePow, Nat.reduceLeDiff, Int.zero_add, Int.add_zero, aft_nx, aft_rt, aft_bk, aft_ct, af_nx, af_rt, af_bk, af_ct, decide_eq_true_eq, eval, evals, evalsT, evalsA, evalO, evalC, evalI, dictI, test, op_bind, op_map, op_some, op_none, op_ite, if_false_right, pk, take, pks, binop, cmpop, truth, setIx, rangeOf, big, revOf, store, put, puts, putG, setOwn, ownOf, lstAt, bltF, lenF, lenOf, intF, absF, gcdF, isiF, isTy, listF, tupleF, dictF, mutF, appendF, isBw_0, isBw_s, nb_sh, nb_ow, nb_un, nb_bw, settle, storesR, bindA, back, lent, List.getElem?_cons_zero, List.getElem?_cons_succ, List.set_cons_zero, List.set_cons_succ, List.length_cons, List.length_nil, List.map_cons, List.map_nil, List.append_nil, List.nil_append, List.cons_append, and_self, and_true, true_and, if_true, if_false, ite_true, ite_false, reduceIte, Option.bind_some, Option.map_some, decide_true, decide_false, Bool.not_true, Bool.not_false, Bool.false_eq_true, Option.some.injEq, Nat.reduceLT, Nat.reduceAdd, Nat.zero_add, Nat.add_one_lt_add_one_iff, Nat.lt_add_left_iff_pos, Nat.lt_add_one, Nat.zero_lt_succ, Int.reduceLT, Int.reduceLE, Int.reduceNeg, Int.reducePow, Int.reduceToNat, Int.reduceMul, Int.reduceSub,  Int.reduceAdd, forall_const, ne_eq, not_true_eq_false, not_false_eq_true]
      exact ⟨_, _, rfl⟩
  rintro e ⟨b, c, rfl⟩
  simp only [wp_set, wp_unp, wp_par, wp_sti, wp_exp, wp_ret, wp_retN, wp_brk, wp_cnt, wp_pas, wp_nil, wp_nil, getIx, L2.atI, L2.ixN, wipe, restore, List.foldl_cons, List.foldl_nil, List.getD_cons_zero, List.getD_cons_succ, lpI_nx, lpI_ct, lpI_bk, lpI_rt, shaped_int, shaped_bl, shaped_non, deq_ii, deq_bb, Bool.and_self, Bool.and_true, Bool.true_and, Int.cast_ofNat_Int, Nat.reducePow, Nat.reduceLeDiff, Int.zero_add, Int.add_zero, aft_nx, aft_rt, aft_bk, aft_ct, af_nx, af_rt, af_bk, af_ct, decide_eq_true_eq, eval, evals, evalsT, evalsA, evalO, evalC, evalI, dictI, test, op_bind, op_map, op_some, op_none, op_ite, if_false_right, pk, take, pks, binop, cmpop, truth, setIx, rangeOf, big, revOf, store, put, puts, putG, setOwn, ownOf, lstAt, bltF, lenF, lenOf, intF, absF, gcdF, isiF, isTy, listF, tupleF, dictF, mutF, appendF, isBw_0, isBw_s, nb_sh, nb_ow, nb_un, nb_bw, settle, storesR, bindA, back, lent, List.getElem?_cons_zero, List.getElem?_cons_succ, List.set_cons_zero, List.set_cons_succ, List.length_cons, List.length_nil, List.map_cons, List.map_nil, List.append_nil, List.nil_append, List.cons_append, and_self, and_true, true_and, if_true, if_false, ite_true, ite_false, reduceIte, Option.bind_some, Option.map_some, decide_true, decide_false, Bool.not_true, Bool.not_false, Bool.false_eq_true, Option.some.injEq, Nat.reduceLT, Nat.reduceAdd, Nat.zero_add, Nat.add_one_lt_add_one_iff, Nat.lt_add_left_iff_pos, Nat.lt_add_one, Nat.zero_lt_succ, Int.reduceLT, Int.reduceLE, Int.reduceNeg, Int.reducePow, Int.reduceToNat, Int.reduceMul, Int.reduceSub,  Int.reduceAdd, forall_const, ne_eq, not_true_eq_false, not_false_eq_true, hL, outF, outR, outIo]
  refine ⟨?_, _, _, _, Int.emod_nonneg _ (by omega), Int.emod_lt_of_pos _ hL, rfl⟩
  exact lt8000 hL2
abbrev DrawOk (cf : Cf) (d : Nat) : Prop := ∀ (ns : List Int) (a b c L : Int), 0 < L → L < 2 ^ 64 → Op (cf.C d [.bw (pool ns a b c), .sh (.int L)]) fun q => ∃ v b' c', 0 ≤ v ∧ v < L ∧ q = (.v (.int v), some (pool ns a b' c'))
theorem pick_ok {cf : Cf} {d : Nat} (hio : cf.io d = some 0) (hd : DrawOk cf d) (ns : List Int) (a b c : Int) (ds : List D) (h0 : 0 < ds.length) (h1 : ds.length < 2 ^ 64) : Op (runFn cf (h_pick d) [.bw (pool ns a b c), .sh (.lst ds)]) fun q => ∃ x b' c', x ∈ ds ∧ q = (.v x, some (pool ns a b' c')) := by
  rw [wp_run rfl rfl]
  show Wp cf (h_pick d).body [.bw (pool ns a b c), .sh (.lst ds)] _
  unfold h_pick
  simp only [wp_set, wp_unp, wp_par, wp_sti, wp_exp, wp_ret, wp_retN, wp_brk, wp_cnt, wp_pas, wp_nil, wp_nil, getIx, L2.atI, L2.ixN, wipe, restore, List.foldl_cons, List.foldl_nil, List.getD_cons_zero, List.getD_cons_succ, lpI_nx, lpI_ct, lpI_bk, lpI_rt, shaped_int, shaped_bl, shaped_non, deq_ii, deq_bb, Bool.and_self, Bool.and_true, Bool.true_and, Int.cast_ofNat_Int, Nat.reducePow, Nat.reduceLeDiff, Int.zero_add, Int.add_zero, aft_nx, aft_rt, aft_bk, aft_ct, af_nx, af_rt, af_bk, af_ct, decide_eq_true_eq, eval, evals, evalsT, evalsA, evalO, evalC, evalI, dictI, test, op_bind, op_map, op_some, op_none, op_ite, if_false_right, pk, take, pks, binop, cmpop, truth, setIx, rangeOf, big, revOf, store, put, puts, putG, setOwn, ownOf, lstAt, bltF, lenF, lenOf, intF, absF, gcdF, isiF, isTy, listF, tupleF, dictF, mutF, appendF, isBw_0, isBw_s, nb_sh, nb_ow, nb_un, nb_bw, settle, storesR, bindA, back, lent, List.getElem?_cons_zero, List.getElem?_cons_succ, List.set_cons_zero, List.set_cons_succ, List.length_cons, List.length_nil, List.map_cons, List.map_nil, List.append_nil, List.nil_append, List.cons_append, and_self, and_true, true_and, if_true, if_false, ite_true, ite_false, reduceIte, Option.bind_some, Option.map_some, decide_true, decide_false, Bool.not_true, Bool.not_false, Bool.false_eq_true, Option.some.injEq, Nat.reduceLT, Nat.reduceAdd, Nat.zero_add, Nat.add_one_lt_add_one_iff, Nat.lt_add_left_iff_pos, Nat.lt_add_one, Nat.zero_lt_succ, Int.reduceLT, Int.reduceLE, Int.reduceNeg, Int.reducePow, Int.reduceToNat, Int.reduceMul, Int.reduceSub,  Int.reduceAdd, forall_const, ne_eq, not_true_eq_false, not_false_eq_true, hio]
  refine (hd ns a b c ds.length (by omega) (by exact_mod_cast h1)).mono ?_
  rintro _ ⟨v, b', c', v0, v1, rfl⟩
  have hv : v.toNat < ds.length := by omega
  simp only [wp_set, wp_unp, wp_par, wp_sti, wp_exp, wp_ret, wp_retN, wp_brk, wp_cnt, wp_pas, wp_nil, wp_nil, getIx, L2.atI, L2.ixN, wipe, restore, List.foldl_cons, List.foldl_nil, List.getD_cons_zero, List.getD_cons_succ, lpI_nx, lpI_ct, lpI_bk, lpI_rt, shaped_int, shaped_bl, shaped_non, deq_ii, deq_bb, Bool.and_self, Bool.and_true, Bool.true_and, Int.cast_ofNat_Int, Nat.reducePow, Nat.reduceLeDiff, Int.zero_add, Int.add_zero, aft_nx, aft_rt, aft_bk, aft_ct, af_nx, af_rt, af_bk, af_ct, decide_eq_true_eq, eval, evals, evalsT, evalsA, evalO, evalC, evalI, dictI, test, op_bind, op_map, op_some, op_none, op_ite, if_false_right, pk, take, pks, binop, cmpop, truth, setIx, rangeOf, big, revOf, store, put, puts, putG, setOwn, ownOf, lstAt, bltF, lenF, lenOf, intF, absF, gcdF, isiF, isTy, listF, tupleF, dictF, mutF, appendF, isBw_0, isBw_s, nb_sh, nb_ow, nb_un, nb_bw, settle, storesR, bindA, back, lent, List.getElem?_cons_zero, List.getElem?_cons_succ, List.set_cons_zero, List.set_cons_succ, List.length_cons, List.length_nil, List.map_cons, List.map_nil, List.append_nil, List.nil_append, List.cons_append, and_self, and_true, true_and, if_true, if_false, ite_true, ite_false, reduceIte, Option.bind_some, Option.map_some, decide_true, decide_false, Bool.not_true, Bool.not_false, Bool.false_eq_true, Option.some.injEq, Nat.reduceLT, Nat.reduceAdd, Nat.zero_add, Nat.add_one_lt_add_one_iff, Nat.lt_add_left_iff_pos, Nat.lt_add_one, Nat.zero_lt_succ, Int.reduceLT, Int.reduceLE, Int.reduceNeg, Int.reducePow, Int.reduceToNat, Int.reduceMul, Int.reduceSub,  Int.reduceAdd, forall_const, ne_eq, not_true_eq_false, not_false_eq_true, v0, v1, List.getElem?_eq_getElem hv, outF, outR, outIo]
  exact ⟨_, _, _, List.getElem_mem hv, rfl⟩
theorem callN_at {fns : List Fn} {F k i : Nat} {fn : Fn} {args : List Sl} (h : fns[i]? = some fn) : callN fns F (k + 1) i args = runFn ⟨callN fns F k, ioOf fns, F⟩ fn args := by simp only [callN, h]
/-- what the shared helpers do, for one who calls them -/
structure PoolOk (cf : Cf) (p : Nat) : Prop where
  io : cf.io p = none
  ok : ∀ ns : List Int, Op (cf.C p [.sh (.scr ns)]) fun q => ∃ b, q = (.f (pool ns 0 b 0), none)
structure NextOk (cf : Cf) (n : Nat) : Prop where
  io : cf.io n = some 0
  ok : ∀ (ns : List Int) (a b c : Int), Op (cf.C n [.bw (pool ns a b c)]) fun q => ∃ b', q = (.v .non, some (pool ns (a + 1) b' 0))
structure DrawOk' (cf : Cf) (d : Nat) : Prop where
  io : cf.io d = some 0
  ok : DrawOk cf d
structure PickOk (cf : Cf) (k : Nat) : Prop where
  io : cf.io k = some 0
  ok : ∀ (ns : List Int) (a b c : Int) (ds : List D), 0 < ds.length → ds.length < 2 ^ 64 → Op (cf.C k [.bw (pool ns a b c), .sh (.lst ds)]) fun q => ∃ x b' c', x ∈ ds ∧ q = (.v x, some (pool ns a b' c'))
theorem io_at {fns : List Fn} {i : Nat} {fn : Fn} (h : fns[i]? = some fn) : ioOf fns i = fn.io := by simp only [ioOf, h, Option.bind_some]
section
variable {fns : List Fn} {m r x d F : Nat}
theorem ht_rest (hm : fns[m]? = some h_mixed) (hr : fns[r]? = some (h_rest m)) (j : Nat) : RestOk ⟨callN fns F (j + 2), ioOf fns, F⟩ r := fun ns p f => by
  show Op (callN fns F (j + 1 + 1) r _) _
  rw [callN_at hr]
  refine rest_ok (io_at hm) (fun n p => ?_) ns p f
  show Op (callN fns F (j + 1) m _) _
  rw [callN_at hm]
  exact mixed_ok n p
theorem ht_pool (hm : fns[m]? = some h_mixed) (hr : fns[r]? = some (h_rest m)) (h : fns[x]? = some (h_pool r)) (j : Nat) : PoolOk ⟨callN fns F (j + 3), ioOf fns, F⟩ x := ⟨io_at h, fun ns => by
  show Op (callN fns F (j + 2 + 1) x _) _
  rw [callN_at h]
  exact pool_ok (io_at hr) (ht_rest hm hr j) ns⟩
theorem ht_next (hm : fns[m]? = some h_mixed) (hr : fns[r]? = some (h_rest m)) (h : fns[x]? = some (h_next r)) (j : Nat) : NextOk ⟨callN fns F (j + 3), ioOf fns, F⟩ x := ⟨io_at h, fun ns a b c => by
  show Op (callN fns F (j + 2 + 1) x _) _
  rw [callN_at h]
  exact next_ok (io_at hr) (ht_rest hm hr j) ns a b c⟩
theorem ht_draw (hm : fns[m]? = some h_mixed) (hr : fns[r]? = some (h_rest m)) (h : fns[x]? = some (h_draw r)) (j : Nat) : DrawOk' ⟨callN fns F (j + 3), ioOf fns, F⟩ x := ⟨io_at h, fun ns a b c L h1 h2 => by
  show Op (callN fns F (j + 2 + 1) x _) _
  rw [callN_at h]
  exact draw_ok (io_at hr) (ht_rest hm hr j) ns a b c L h1 h2⟩
theorem ht_pick (hm : fns[m]? = some h_mixed) (hr : fns[r]? = some (h_rest m)) (hd : fns[d]? = some (h_draw r)) (h : fns[x]? = some (h_pick d)) (j : Nat) : PickOk ⟨callN fns F (j + 4), ioOf fns, F⟩ x := ⟨io_at h, fun ns a b c ds h1 h2 => by
  show Op (callN fns F (j + 3 + 1) x _) _
  rw [callN_at h]
  exact pick_ok (io_at hd) (ht_draw hm hr hd j).ok ns a b c ds h1 h2⟩
end
end Mi

end

section
set_option linter.all false
set_option maxRecDepth 100000
set_option maxHeartbeats 4000000
/-! Mi22: comprehensions, the law's own comparison, sorted -/
namespace Mi
/-- a test that changes the slots -/
theorem wp_ifE {cf : Cf} {t : Xp} {a b ss : Ss} {env env' : Env} {Q : Fl × Env → Prop} (c : Prop) [Decidable c] (ht : Op (test cf t env) fun p => p = (decide c, env')) (h1 : c → Wp cf a env' (aft cf ss Q)) (h2 : ¬ c → Wp cf b env' (aft cf ss Q)) : Wp cf (.cons (.ite t a b) ss) env Q := by
  rw [wp_ite]
  refine ht.mono ?_
  rintro _ rfl
  by_cases h : c
  · simp only [h, decide_true, if_true]; exact h1 h
  · simp only [h, decide_false]; exact h2 h
/-! ### comprehensions -/
/-- every turn leaves the slots as they were, but its own -/
theorem lc_pure {own : List Nat} {turn : D → Env → Option (Option D × Env)} (f : D → Option D) {env0 : Env} : ∀ (ds : List D), (∀ d ∈ ds, Op (turn d env0) fun p => p.1 = f d ∧ wipe p.2 own = env0) →
    Op (lcLoop own turn ds env0) fun q => q = (ds.filterMap f, env0)
  | [], _ => by simp only [lcLoop, op_some]; rfl
  | d :: ds, h => by
    obtain ⟨⟨o, e⟩, h1, h2, h3⟩ := h d (List.mem_cons_self ..)
    simp only at h2 h3
    obtain ⟨q, k1, k2⟩ := lc_pure f ds fun d hd => h d (List.mem_cons_of_mem _ hd)
    simp only [lcLoop, h1, Option.bind_some, h3, k1, Option.map_some, op_some]
    subst k2 h2
    rw [List.filterMap_cons]
    cases f d <;> rfl
/-- item by item -/
def All2 {α β : Type} (R : α → β → Prop) : List α → List β → Prop
  | [], [] => True
  | a :: as, b :: bs => R a b ∧ All2 R as bs
  | _, _ => False
theorem All2.length {α β : Type} {R : α → β → Prop} : ∀ {as : List α} {bs : List β}, All2 R as bs → as.length = bs.length
  | [], [], _ => rfl
  | _ :: _, _ :: _, h => congrArg Nat.succ (All2.length h.2)
  | [], _ :: _, h => h.elim
  | _ :: _, [], h => h.elim
theorem All2.get {α β : Type} {R : α → β → Prop} : ∀ {as : List α} {bs : List β}, All2 R as bs → ∀ (i : Nat) (a : α) (b : β), as[i]? = some a → bs[i]? = some b → R a b
  | _ :: _, _ :: _, h, 0, a, b, e1, e2 => by simp at e1 e2; subst e1 e2; exact h.1
  | _ :: _, _ :: _, h, i + 1, a, b, e1, e2 => All2.get h.2 i a b (by simpa using e1) (by simpa using e2)
  | [], [], _, _, _, _, e1, _ => by simp at e1
  | [], _ :: _, h, _, _, _, _, _ => h.elim
  | _ :: _, [], h, _, _, _, _, _ => h.elim
theorem All2.imp {α β : Type} {R S : α → β → Prop} (f : ∀ a b, R a b → S a b) : ∀ {as : List α} {bs : List β}, All2 R as bs → All2 S as bs
  | [], [], _ => trivial
  | _ :: _, _ :: _, h => ⟨f _ _ h.1, All2.imp f h.2⟩
  | [], _ :: _, h => h.elim
  | _ :: _, [], h => h.elim
/-- what a list of data is made of -/
theorem All2.img {α : Type} {R : D → α → Prop} {P : α → D} (f : ∀ d a, R d a → d = P a) : ∀ {ds : List D} {as : List α}, All2 R ds as → ds = as.map P
  | [], [], _ => rfl
  | _ :: _, _ :: _, h => by rw [f _ _ h.1, All2.img f h.2]; rfl
  | [], _ :: _, h => h.elim
  | _ :: _, [], h => h.elim
/-- every turn yields an item that is such, and keeps I -/
theorem lc_all {own : List Nat} {turn : D → Env → Option (Option D × Env)} {I : Env → Prop} (R : D → D → Prop) : ∀ (ds : List D) (env : Env), (∀ d ∈ ds, ∀ e, I e → Op (turn d e) fun p => (∃ x, p.1 = some x ∧ R d x) ∧ I (wipe p.2 own)) → I env →
    Op (lcLoop own turn ds env) fun q => All2 R ds q.1 ∧ I q.2
  | [], env, _, h => by simp only [lcLoop, op_some]; exact ⟨trivial, h⟩
  | d :: ds, env, st, h => by
    obtain ⟨⟨o, e⟩, h1, ⟨x, h2, h3⟩, h4⟩ := st d (List.mem_cons_self ..) env h
    simp only at h2
    subst h2
    obtain ⟨⟨r, e2⟩, k1, k2, k3⟩ := lc_all R ds (wipe e own) (fun d hd => st d (List.mem_cons_of_mem _ hd)) h4
    simp only [lcLoop, h1, Option.bind_some, k1, Option.map_some, op_some]
    exact ⟨⟨h3, k2⟩, k3⟩
/-- every turn keeps the item or drops it -/
theorem lc_sub {own : List Nat} {turn : D → Env → Option (Option D × Env)} {I : Env → Prop} : ∀ (ds : List D) (env : Env), (∀ d ∈ ds, ∀ e, I e → Op (turn d e) fun p => (p.1 = some d ∨ p.1 = none) ∧ I (wipe p.2 own)) → I env →
    Op (lcLoop own turn ds env) fun q => q.1.Sublist ds ∧ I q.2
  | [], env, _, h => by simp only [lcLoop, op_some]; exact ⟨.slnil, h⟩
  | d :: ds, env, st, h => by
    obtain ⟨⟨o, e⟩, h1, h2, h4⟩ := st d (List.mem_cons_self ..) env h
    obtain ⟨⟨r, e2⟩, k1, k2, k3⟩ := lc_sub ds (wipe e own) (fun d hd => st d (List.mem_cons_of_mem _ hd)) h4
    simp only [lcLoop, h1, Option.bind_some, k1, Option.map_some, op_some]
    refine ⟨?_, k3⟩
    rcases h2 with h2 | h2 <;> simp only at h2 <;> subst h2
    · exact k2.cons₂ d
    · exact k2.cons d
theorem filterMap_some {α β : Type} (f : α → β) : ∀ l : List α, (l.filterMap fun x => some (f x)) = l.map f
  | [] => rfl
  | x :: l => by rw [List.filterMap_cons, filterMap_some f l]; rfl
/-! ### data -/
theorem dInts_map : ∀ ns : List Int, dInts (ns.map D.int) = some ns
  | [] => rfl
  | n :: ns => by simp only [List.map_cons, dInts, dInts_map ns, Option.map_some]
theorem dBools_map : ∀ ns : List Bool, dBools (ns.map D.bl) = some ns
  | [] => rfl
  | n :: ns => by simp only [List.map_cons, dBools, dBools_map ns, Option.map_some]
theorem dBools_all : ∀ ds : List D, (∀ d ∈ ds, d = .bl true) → ∃ bs, dBools ds = some bs ∧ bs.all id = true
  | [], _ => ⟨[], rfl, rfl⟩
  | d :: ds, h => by
    obtain ⟨bs, h1, h2⟩ := dBools_all ds fun d hd => h d (List.mem_cons_of_mem _ hd)
    rw [h d (List.mem_cons_self ..)]
    exact ⟨true :: bs, by simp only [dBools, h1, Option.map_some], by simp [h2]⟩
mutual
theorem deq_refl : ∀ d : D, shp d = true → deq d d = true
  | .non, _ => rfl
  | .bl b, _ => by simp [deq]
  | .int i, _ => by simp [deq]
  | .str x, _ => by simp [deq]
  | .tup ds, h | .lst ds, h => by simp only [deq]; exact deqL_refl ds (by simpa only [shp] using h)
theorem deqL_refl : ∀ ds : List D, shpL ds = true → deqL ds ds = true
  | [], _ => rfl
  | d :: ds, h => by
    simp only [shpL, Bool.and_eq_true] at h
    simp only [deqL, deq_refl d h.1, deqL_refl ds h.2, Bool.and_self]
end
theorem shpL_get : ∀ {ds : List D}, shpL ds = true → ∀ d ∈ ds, shp d = true := fun h d hd => shpL_mem h d hd
theorem deepL_le {ds : List D} {d : D} (h : d ∈ ds) : deep d ≤ deepL ds := deepL_mem d h
theorem shaped_of {d : D} (h1 : shp d = true) (h2 : deep d ≤ 64) : shaped d = true := by
  unfold shaped
  rw [h1, decide_eq_true h2]; rfl
theorem deq_str {x y : PySem.Str} : deq (.str x) (.str y) = (x == y) := by simp [deq]
theorem atI_nat {α : Type} {xs : List α} {k : Nat} (h : k < xs.length) : L2.atI xs (k : Int) = some xs[k] := by
  unfold L2.atI L2.ixN
  rw [if_pos (by omega), if_pos (by omega)]
  simp only [Option.bind_some, Int.toNat_natCast]
  exact List.getElem?_eq_getElem h
/-- data of at most n lists within each other -/
def Pl : Nat → D → Prop
  | _, .non => True
  | _, .bl _ => True
  | _, .int _ => True
  | _, .str x => PySem.PyData.strOk x = true
  | n + 1, .tup ds => ds.length ≤ 1000000 ∧ ∀ d ∈ ds, Pl n d
  | n + 1, .lst ds => ds.length ≤ 1000000 ∧ ∀ d ∈ ds, Pl n d
  | _, _ => False
theorem shpL_of : ∀ {ds : List D}, (∀ d ∈ ds, shp d = true) → shpL ds = true
  | [], _ => rfl
  | d :: ds, h => by
    simp only [shpL, h d (List.mem_cons_self ..), shpL_of fun d hd => h d (List.mem_cons_of_mem _ hd), Bool.and_self]
theorem deepL_of {n : Nat} : ∀ {ds : List D}, (∀ d ∈ ds, deep d ≤ n) → deepL ds ≤ n
  | [], _ => Nat.zero_le _
  | d :: ds, h => by
    simp only [deepL]
    exact Nat.max_le.mpr ⟨h d (List.mem_cons_self ..), deepL_of fun d hd => h d (List.mem_cons_of_mem _ hd)⟩
theorem Pl.shp : ∀ {n : Nat} {d : D}, Pl n d → shp d = true ∧ deep d ≤ n
  | n, .non, _ => ⟨rfl, Nat.zero_le _⟩
  | n, .bl _, _ => ⟨rfl, Nat.zero_le _⟩
  | n, .int _, _ => ⟨rfl, Nat.zero_le _⟩
  | n, .str x, h => by
    refine ⟨?_, Nat.zero_le _⟩
    cases n <;> exact h
  | 0, .tup _, h => by simp [Pl] at h
  | 0, .lst _, h => by simp [Pl] at h
  | n + 1, .tup ds, h => by
    simp only [Pl] at h
    have := fun d hd => Pl.shp (h.2 d hd)
    refine ⟨?_, ?_⟩
    · simp only [Mi.shp]; exact shpL_of fun d hd => (this d hd).1
    · simp only [deep]; exact Nat.succ_le_succ (deepL_of fun d hd => (this d hd).2)
  | n + 1, .lst ds, h => by
    simp only [Pl] at h
    have := fun d hd => Pl.shp (h.2 d hd)
    refine ⟨?_, ?_⟩
    · simp only [Mi.shp]; exact shpL_of fun d hd => (this d hd).1
    · simp only [deep]; exact Nat.succ_le_succ (deepL_of fun d hd => (this d hd).2)
  | n, .dct _ _, h => by cases n <;> simp [Pl] at h
  | n, .set _, h => by cases n <;> simp [Pl] at h
  | n, .scr _, h => by cases n <;> simp [Pl] at h
theorem Pl.eq {n : Nat} {d : D} (h : Pl n d) (hn : n ≤ 64) : shaped d = true ∧ deq d d = true := ⟨shaped_of h.shp.1 (Nat.le_trans h.shp.2 hn), deq_refl d h.shp.1⟩
theorem Pl.ints {n : Nat} {ns : List Int} (h : ns.length ≤ 1000000) : Pl (n + 1) (.lst (ns.map .int)) := by
  simp only [Pl, List.length_map]
  refine ⟨h, fun d hd => ?_⟩
  obtain ⟨i, _, rfl⟩ := List.mem_map.mp hd
  cases n <;> trivial
theorem Pl.tints {n : Nat} {ns : List Int} (h : ns.length ≤ 1000000) : Pl (n + 1) (.tup (ns.map .int)) := by
  simp only [Pl, List.length_map]
  refine ⟨h, fun d hd => ?_⟩
  obtain ⟨i, _, rfl⟩ := List.mem_map.mp hd
  cases n <;> trivial
theorem Pl.int {n : Nat} {i : Int} : Pl n (.int i) := by cases n <;> trivial
theorem Pl.bl {n : Nat} {i : Bool} : Pl n (.bl i) := by cases n <;> trivial
theorem Pl.non {n : Nat} : Pl n .non := by cases n <;> trivial
theorem big_nat {n : Nat} (h : n < 2 ^ 62) : big (n : Int) = true := by
  unfold big
  rw [decide_eq_true (by omega), decide_eq_true (by omega)]; rfl
theorem range_nat {n : Nat} (h : n < 2 ^ 62) : rangeOf [.int (n : Int)] = some ((List.range n).map fun (k : Nat) => D.int k) := by
  simp only [rangeOf, big_nat h, if_true, Int.toNat_natCast]
def h_sameC (s : Nat) : Fn := ⟨2, 4, none, (.cons (.ite (.cmp .Is (.var 1) (.con .non)) (.cons (.ret (.cmp .Is (.var 0) (.con .non))) .nil) .nil) (.cons (.ite (.cmp .Is (.var 1) (.con (.bl true))) (.cons (.ret (.cmp .Is (.var 0) (.con (.bl true)))) .nil) .nil) (.cons (.ite (.cmp .Is (.var 1) (.con (.bl false))) (.cons (.ret (.cmp .Is (.var 0) (.con (.bl false)))) .nil) .nil) (.cons (.ite (.blt (.isi .int) (.cons (.var 1) .nil)) (.cons (.ret (.and (.blt (.isi .int) (.cons (.var 0) .nil)) (.and (.not (.blt (.isi .bool) (.cons (.var 0) .nil))) (.cmp .Eq (.var 0) (.var 1))))) .nil) .nil) (.cons (.ite (.blt (.isi .str) (.cons (.var 1) .nil)) (.cons (.ret (.and (.blt (.isi .str) (.cons (.var 0) .nil)) (.cmp .Eq (.var 0) (.var 1)))) .nil) .nil) (.cons (.ite (.blt (.isi .dict) (.cons (.var 1) .nil)) (.cons (.ite (.or (.not (.blt (.isi .dict) (.cons (.var 0) .nil))) (.cmp .NotEq (.blt .len (.cons (.var 0) .nil)) (.blt .len (.cons (.var 1) .nil)))) (.cons (.ret (.con (.bl false))) .nil) .nil) (.cons (.for (.nm 2) (.e (.var 1)) (.cons (.ite (.or (.cmp .NotIn (.var 2) (.var 0)) (.not (.cal s (.cons (.idx (.var 0) (.var 2)) (.cons (.idx (.var 1) (.var 2)) .nil))))) (.cons (.ret (.con (.bl false))) .nil) .nil) .nil)) (.cons (.ret (.con (.bl true))) .nil))) .nil) (.cons (.ite (.or (.cmp .NotEq (.blt (.isi .tuple) (.cons (.var 0) .nil)) (.blt (.isi .tuple) (.cons (.var 1) .nil))) (.cmp .NotEq (.blt (.isi .list) (.cons (.var 0) .nil)) (.blt (.isi .list) (.cons (.var 1) .nil)))) (.cons (.ret (.con (.bl false))) .nil) .nil) (.cons (.ite (.cmp .NotEq (.blt .len (.cons (.var 0) .nil)) (.blt .len (.cons (.var 1) .nil))) (.cons (.ret (.con (.bl false))) .nil) .nil) (.cons (.for (.nm 3) (.rng (.cons (.blt .len (.cons (.var 1) .nil)) .nil)) (.cons (.ite (.not (.cal s (.cons (.idx (.var 0) (.var 3)) (.cons (.idx (.var 1) (.var 3)) .nil)))) (.cons (.ret (.con (.bl false))) .nil) .nil) .nil)) (.cons (.ret (.con (.bl true))) .nil))))))))))⟩
abbrev IsTrue (r : Rv × Option D) : Prop := r = (.v (.bl true), none)
theorem sameC_seq {cf : Cf} {s n : Nat} (hio : cf.io s = none) {d : D} {ds : List D} (hd : d = .tup ds ∨ d = .lst ds) (hl : ds.length < 2 ^ 62) (h : ∀ x ∈ ds, Op (cf.C s [.sh x, .sh x]) IsTrue) : Op (runFn cf (h_sameC s) [.sh d, .sh d]) IsTrue := by
  have hlen : lenOf d = some ds.length := by rcases hd with rfl | rfl <;> rfl
  have hget : ∀ k : Nat, (hk : k < ds.length) → getIx d (.int (k : Int)) = some (.v ds[k]) := fun k hk => by
    rcases hd with rfl | rfl <;> simp only [getIx, atI_nat hk, Option.map_some]
  rw [wp_run rfl rfl]
  show Wp cf (h_sameC s).body [.sh d, .sh d, .un, .un] _
  unfold h_sameC
  refine wp_if False (by rcases hd with rfl | rfl <;> simp only [getIx, L2.atI, L2.ixN, wipe, restore, List.foldl_cons, List.foldl_nil, List.getD_cons_zero, List.getD_cons_succ, lpI_nx, lpI_ct, lpI_bk, lpI_rt, shaped_int, shaped_bl, shaped_non, deq_ii, deq_bb, Bool.and_self, Bool.and_true, Bool.true_and, Int.cast_ofNat_Int, Nat.reducePow, Nat.reduceLeDiff, Int.zero_add, Int.add_zero, aft_nx, aft_rt, aft_bk, aft_ct, af_nx, af_rt, af_bk, af_ct, decide_eq_true_eq, eval, evals, evalsT, evalsA, evalO, evalC, evalI, dictI, test, op_bind, op_map, op_some, op_none, op_ite, if_false_right, pk, take, pks, binop, cmpop, truth, setIx, rangeOf, big, revOf, store, put, puts, putG, setOwn, ownOf, lstAt, bltF, lenF, lenOf, intF, absF, gcdF, isiF, isTy, listF, tupleF, dictF, mutF, appendF, isBw_0, isBw_s, nb_sh, nb_ow, nb_un, nb_bw, settle, storesR, bindA, back, lent, List.getElem?_cons_zero, List.getElem?_cons_succ, List.set_cons_zero, List.set_cons_succ, List.length_cons, List.length_nil, List.map_cons, List.map_nil, List.append_nil, List.nil_append, List.cons_append, and_self, and_true, true_and, if_true, if_false, ite_true, ite_false, reduceIte, Option.bind_some, Option.map_some, decide_true, decide_false, Bool.not_true, Bool.not_false, Bool.false_eq_true, Option.some.injEq, Nat.reduceLT, Nat.reduceAdd, Nat.zero_add, Nat.add_one_lt_add_one_iff, Nat.lt_add_left_iff_pos, Nat.lt_add_one, Nat.zero_lt_succ, Int.reduceLT, Int.reduceLE, Int.reduceNeg, Int.reducePow, Int.reduceToNat, Int.reduceMul, Int.reduceSub,  Int.reduceAdd, forall_const, ne_eq, not_true_eq_false, not_false_eq_true]) (fun h => h.elim) (fun _ => ?_)
  simp only [wp_nil, aft_nx]
  refine wp_if False (by rcases hd with rfl | rfl <;> simp only [getIx, L2.atI, L2.ixN, wipe, restore, List.foldl_cons, List.foldl_nil, List.getD_cons_zero, List.getD_cons_succ, lpI_nx, lpI_ct, lpI_bk, lpI_rt, shaped_int, shaped_bl, shaped_non, deq_ii, deq_bb, Bool.and_self, Bool.and_true, Bool.true_and, Int.cast_ofNat_Int, Nat.reducePow, Nat.reduceLeDiff, Int.zero_add, Int.add_zero, aft_nx, aft_rt, aft_bk, aft_ct, af_nx, af_rt, af_bk, af_ct, decide_eq_true_eq, eval, evals, evalsT, evalsA, evalO, evalC, evalI, dictI, test, op_bind, op_map, op_some, op_none, op_ite, if_false_right, pk, take, pks, binop, cmpop, truth, setIx, rangeOf, big, revOf, store, put, puts, putG, setOwn, ownOf, lstAt, bltF, lenF, lenOf, intF, absF, gcdF, isiF, isTy, listF, tupleF, dictF, mutF, appendF, isBw_0, isBw_s, nb_sh, nb_ow, nb_un, nb_bw, settle, storesR, bindA, back, lent, List.getElem?_cons_zero, List.getElem?_cons_succ, List.set_cons_zero, List.set_cons_succ, List.length_cons, List.length_nil, List.map_cons, List.map_nil, List.append_nil, List.nil_append, List.cons_append, and_self, and_true, true_and, if_true, if_false, ite_true, ite_false, reduceIte, Option.bind_some, Option.map_some, decide_true, decide_false, Bool.not_true, Bool.not_false, Bool.false_eq_true, Option.some.injEq, Nat.reduceLT, Nat.reduceAdd, Nat.zero_add, Nat.add_one_lt_add_one_iff, Nat.lt_add_left_iff_pos, Nat.lt_add_one, Nat.zero_lt_succ, Int.reduceLT, Int.reduceLE, Int.reduceNeg, Int.reducePow, Int.reduceToNat, Int.reduceMul, Int.reduceSub,  Int.reduceAdd, forall_const, ne_eq, not_true_eq_false, not_false_eq_true]) (fun h => h.elim) (fun _ => ?_)
  simp only [wp_nil, aft_nx]
  refine wp_if False (by rcases hd with rfl | rfl <;> simp only [getIx, L2.atI, L2.ixN, wipe, restore, List.foldl_cons, List.foldl_nil, List.getD_cons_zero, List.getD_cons_succ, lpI_nx, lpI_ct, lpI_bk, lpI_rt, shaped_int, shaped_bl, shaped_non, deq_ii, deq_bb, Bool.and_self, Bool.and_true, Bool.true_and, Int.cast_ofNat_Int, Nat.reducePow, Nat.reduceLeDiff, Int.zero_add, Int.add_zero, aft_nx, aft_rt, aft_bk, aft_ct, af_nx, af_rt, af_bk, af_ct, decide_eq_true_eq, eval, evals, evalsT, evalsA, evalO, evalC, evalI, dictI, test, op_bind, op_map, op_some, op_none, op_ite, if_false_right, pk, take, pks, binop, cmpop, truth, setIx, rangeOf, big, revOf, store, put, puts, putG, setOwn, ownOf, lstAt, bltF, lenF, lenOf, intF, absF, gcdF, isiF, isTy, listF, tupleF, dictF, mutF, appendF, isBw_0, isBw_s, nb_sh, nb_ow, nb_un, nb_bw, settle, storesR, bindA, back, lent, List.getElem?_cons_zero, List.getElem?_cons_succ, List.set_cons_zero, List.set_cons_succ, List.length_cons, List.length_nil, List.map_cons, List.map_nil, List.append_nil, List.nil_append, List.cons_append, and_self, and_true, true_and, if_true, if_false, ite_true, ite_false, reduceIte, Option.bind_some, Option.map_some, decide_true, decide_false, Bool.not_true, Bool.not_false, Bool.false_eq_true, Option.some.injEq, Nat.reduceLT, Nat.reduceAdd, Nat.zero_add, Nat.add_one_lt_add_one_iff, Nat.lt_add_left_iff_pos, Nat.lt_add_one, Nat.zero_lt_succ, Int.reduceLT, Int.reduceLE, Int.reduceNeg, Int.reducePow, Int.reduceToNat, Int.reduceMul, Int.reduceSub,  Int.reduceAdd, forall_const, ne_eq, not_true_eq_false, not_false_eq_true]) (fun h => h.elim) (fun _ => ?_)
  simp only [wp_nil, aft_nx]
  refine wp_if False (by rcases hd with rfl | rfl <;> simp only [getIx, L2.atI, L2.ixN, wipe, restore, List.foldl_cons, List.foldl_nil, List.getD_cons_zero, List.getD_cons_succ, lpI_nx, lpI_ct, lpI_bk, lpI_rt, shaped_int, shaped_bl, shaped_non, deq_ii, deq_bb, Bool.and_self, Bool.and_true, Bool.true_and, Int.cast_ofNat_Int, Nat.reducePow, Nat.reduceLeDiff, Int.zero_add, Int.add_zero, aft_nx, aft_rt, aft_bk, aft_ct, af_nx, af_rt, af_bk, af_ct, decide_eq_true_eq, eval, evals, evalsT, evalsA, evalO, evalC, evalI, dictI, test, op_bind, op_map, op_some, op_none, op_ite, if_false_right, pk, take, pks, binop, cmpop, truth, setIx, rangeOf, big, revOf, store, put, puts, putG, setOwn, ownOf, lstAt, bltF, lenF, lenOf, intF, absF, gcdF, isiF, isTy, listF, tupleF, dictF, mutF, appendF, isBw_0, isBw_s, nb_sh, nb_ow, nb_un, nb_bw, settle, storesR, bindA, back, lent, List.getElem?_cons_zero, List.getElem?_cons_succ, List.set_cons_zero, List.set_cons_succ, List.length_cons, List.length_nil, List.map_cons, List.map_nil, List.append_nil, List.nil_append, List.cons_append, and_self, and_true, true_and, if_true, if_false, ite_true, ite_false, reduceIte, Option.bind_some, Option.map_some, decide_true, decide_false, Bool.not_true, Bool.not_false, Bool.false_eq_true, Option.some.injEq, Nat.reduceLT, Nat.reduceAdd, Nat.zero_add, Nat.add_one_lt_add_one_iff, Nat.lt_add_left_iff_pos, Nat.lt_add_one, Nat.zero_lt_succ, Int.reduceLT, Int.reduceLE, Int.reduceNeg, Int.reducePow, Int.reduceToNat, Int.reduceMul, Int.reduceSub,  Int.reduceAdd, forall_const, ne_eq, not_true_eq_false, not_false_eq_true]) (fun h => h.elim) (fun _ => ?_)
  simp only [wp_nil, aft_nx]
  refine wp_if False (by rcases hd with rfl | rfl <;> simp only [getIx, L2.atI, L2.ixN, wipe, restore, List.foldl_cons, List.foldl_nil, List.getD_cons_zero, List.getD_cons_succ, lpI_nx, lpI_ct, lpI_bk, lpI_rt, shaped_int, shaped_bl, shaped_non, deq_ii, deq_bb, Bool.and_self, Bool.and_true, Bool.true_and, Int.cast_ofNat_Int, Nat.reducePow, Nat.reduceLeDiff, Int.zero_add, Int.add_zero, aft_nx, aft_rt, aft_bk, aft_ct, af_nx, af_rt, af_bk, af_ct, decide_eq_true_eq, eval, evals, evalsT, evalsA, evalO, evalC, evalI, dictI, test, op_bind, op_map, op_some, op_none, op_ite, if_false_right, pk, take, pks, binop, cmpop, truth, setIx, rangeOf, big, revOf, store, put, puts, putG, setOwn, ownOf, lstAt, bltF, lenF, lenOf, intF, absF, gcdF, isiF, isTy, listF, tupleF, dictF, mutF, appendF, isBw_0, isBw_s, nb_sh, nb_ow, nb_un, nb_bw, settle, storesR, bindA, back, lent, List.getElem?_cons_zero, List.getElem?_cons_succ, List.set_cons_zero, List.set_cons_succ, List.length_cons, List.length_nil, List.map_cons, List.map_nil, List.append_nil, List.nil_append, List.cons_append, and_self, and_true, true_and, if_true, if_false, ite_true, ite_false, reduceIte, Option.bind_some, Option.map_some, decide_true, decide_false, Bool.not_true, Bool.not_false, Bool.false_eq_true, Option.some.injEq, Nat.reduceLT, Nat.reduceAdd, Nat.zero_add, Nat.add_one_lt_add_one_iff, Nat.lt_add_left_iff_pos, Nat.lt_add_one, Nat.zero_lt_succ, Int.reduceLT, Int.reduceLE, Int.reduceNeg, Int.reducePow, Int.reduceToNat, Int.reduceMul, Int.reduceSub,  Int.reduceAdd, forall_const, ne_eq, not_true_eq_false, not_false_eq_true]) (fun h => h.elim) (fun _ => ?_)
  simp only [wp_nil, aft_nx]
  refine wp_if False (by rcases hd with rfl | rfl <;> simp only [getIx, L2.atI, L2.ixN, wipe, restore, List.foldl_cons, List.foldl_nil, List.getD_cons_zero, List.getD_cons_succ, lpI_nx, lpI_ct, lpI_bk, lpI_rt, shaped_int, shaped_bl, shaped_non, deq_ii, deq_bb, Bool.and_self, Bool.and_true, Bool.true_and, Int.cast_ofNat_Int, Nat.reducePow, Nat.reduceLeDiff, Int.zero_add, Int.add_zero, aft_nx, aft_rt, aft_bk, aft_ct, af_nx, af_rt, af_bk, af_ct, decide_eq_true_eq, eval, evals, evalsT, evalsA, evalO, evalC, evalI, dictI, test, op_bind, op_map, op_some, op_none, op_ite, if_false_right, pk, take, pks, binop, cmpop, truth, setIx, rangeOf, big, revOf, store, put, puts, putG, setOwn, ownOf, lstAt, bltF, lenF, lenOf, intF, absF, gcdF, isiF, isTy, listF, tupleF, dictF, mutF, appendF, isBw_0, isBw_s, nb_sh, nb_ow, nb_un, nb_bw, settle, storesR, bindA, back, lent, List.getElem?_cons_zero, List.getElem?_cons_succ, List.set_cons_zero, List.set_cons_succ, List.length_cons, List.length_nil, List.map_cons, List.map_nil, List.append_nil, List.nil_append, List.cons_append, and_self, and_true, true_and, if_true, if_false, ite_true, ite_false, reduceIte, Option.bind_some, Option.map_some, decide_true, decide_false, Bool.not_true, Bool.not_false, Bool.false_eq_true, Option.some.injEq, Nat.reduceLT, Nat.reduceAdd, Nat.zero_add, Nat.add_one_lt_add_one_iff, Nat.lt_add_left_iff_pos, Nat.lt_add_one, Nat.zero_lt_succ, Int.reduceLT, Int.reduceLE, Int.reduceNeg, Int.reducePow, Int.reduceToNat, Int.reduceMul, Int.reduceSub,  Int.reduceAdd, forall_const, ne_eq, not_true_eq_false, not_false_eq_true]) (fun h => h.elim) (fun _ => ?_)
  simp only [wp_nil, aft_nx]
  refine wp_if False (by rcases hd with rfl | rfl <;> simp only [getIx, L2.atI, L2.ixN, wipe, restore, List.foldl_cons, List.foldl_nil, List.getD_cons_zero, List.getD_cons_succ, lpI_nx, lpI_ct, lpI_bk, lpI_rt, shaped_int, shaped_bl, shaped_non, deq_ii, deq_bb, Bool.and_self, Bool.and_true, Bool.true_and, Int.cast_ofNat_Int, Nat.reducePow, Nat.reduceLeDiff, Int.zero_add, Int.add_zero, aft_nx, aft_rt, aft_bk, aft_ct, af_nx, af_rt, af_bk, af_ct, decide_eq_true_eq, eval, evals, evalsT, evalsA, evalO, evalC, evalI, dictI, test, op_bind, op_map, op_some, op_none, op_ite, if_false_right, pk, take, pks, binop, cmpop, truth, setIx, rangeOf, big, revOf, store, put, puts, putG, setOwn, ownOf, lstAt, bltF, lenF, lenOf, intF, absF, gcdF, isiF, isTy, listF, tupleF, dictF, mutF, appendF, isBw_0, isBw_s, nb_sh, nb_ow, nb_un, nb_bw, settle, storesR, bindA, back, lent, List.getElem?_cons_zero, List.getElem?_cons_succ, List.set_cons_zero, List.set_cons_succ, List.length_cons, List.length_nil, List.map_cons, List.map_nil, List.append_nil, List.nil_append, List.cons_append, and_self, and_true, true_and, if_true, if_false, ite_true, ite_false, reduceIte, Option.bind_some, Option.map_some, decide_true, decide_false, Bool.not_true, Bool.not_false, Bool.false_eq_true, Option.some.injEq, Nat.reduceLT, Nat.reduceAdd, Nat.zero_add, Nat.add_one_lt_add_one_iff, Nat.lt_add_left_iff_pos, Nat.lt_add_one, Nat.zero_lt_succ, Int.reduceLT, Int.reduceLE, Int.reduceNeg, Int.reducePow, Int.reduceToNat, Int.reduceMul, Int.reduceSub,  Int.reduceAdd, forall_const, ne_eq, not_true_eq_false, not_false_eq_true, Bool.not_true, beq_self_eq_true]) (fun h => h.elim) (fun _ => ?_)
  simp only [wp_nil, aft_nx]
  refine wp_if False (by rcases hd with rfl | rfl <;> simp only [getIx, L2.atI, L2.ixN, wipe, restore, List.foldl_cons, List.foldl_nil, List.getD_cons_zero, List.getD_cons_succ, lpI_nx, lpI_ct, lpI_bk, lpI_rt, shaped_int, shaped_bl, shaped_non, deq_ii, deq_bb, Bool.and_self, Bool.and_true, Bool.true_and, Int.cast_ofNat_Int, Nat.reducePow, Nat.reduceLeDiff, Int.zero_add, Int.add_zero, aft_nx, aft_rt, aft_bk, aft_ct, af_nx, af_rt, af_bk, af_ct, decide_eq_true_eq, eval, evals, evalsT, evalsA, evalO, evalC, evalI, dictI, test, op_bind, op_map, op_some, op_none, op_ite, if_false_right, pk, take, pks, binop, cmpop, truth, setIx, rangeOf, big, revOf, store, put, puts, putG, setOwn, ownOf, lstAt, bltF, lenF, lenOf, intF, absF, gcdF, isiF, isTy, listF, tupleF, dictF, mutF, appendF, isBw_0, isBw_s, nb_sh, nb_ow, nb_un, nb_bw, settle, storesR, bindA, back, lent, List.getElem?_cons_zero, List.getElem?_cons_succ, List.set_cons_zero, List.set_cons_succ, List.length_cons, List.length_nil, List.map_cons, List.map_nil, List.append_nil, List.nil_append, List.cons_append, and_self, and_true, true_and, if_true, if_false, ite_true, ite_false, reduceIte, Option.bind_some, Option.map_some, decide_true, decide_false, Bool.not_true, Bool.not_false, Bool.false_eq_true, Option.some.injEq, Nat.reduceLT, Nat.reduceAdd, Nat.zero_add, Nat.add_one_lt_add_one_iff, Nat.lt_add_left_iff_pos, Nat.lt_add_one, Nat.zero_lt_succ, Int.reduceLT, Int.reduceLE, Int.reduceNeg, Int.reducePow, Int.reduceToNat, Int.reduceMul, Int.reduceSub,  Int.reduceAdd, forall_const, ne_eq, not_true_eq_false, not_false_eq_true, Bool.not_true, beq_self_eq_true]) (fun h => h.elim) (fun _ => ?_)
  simp only [wp_nil, aft_nx]
  rw [wp_for]
  have hx : Op (evalI cf (.rng (.cons (.blt .len (.cons (.var 1) .nil)) .nil)) [.sh d, .sh d, .un, .un]) fun p => p = ((List.range ds.length).map fun (k : Nat) => D.int k, [.sh d, .sh d, .un, .un]) := by
    rcases hd with rfl | rfl <;> simp only [evalI, evals, eval, op_bind, op_map, op_some, List.getElem?_cons_zero, List.getElem?_cons_succ, pk, pks, bltF, lenF, lenOf, range_nat hl]
  refine hx.mono ?_
  rintro _ rfl
  refine lp_inv (fun rest e => (∃ s3, e = [.sh d, .sh d, .un, s3] ∧ nb s3 = true) ∧ ∀ x ∈ rest, ∃ k : Nat, x = .int k ∧ k < ds.length) ?_ ?_ _ _ ⟨⟨_, rfl, rfl⟩, fun x hx => ?_⟩
  · rintro x rest e ⟨⟨s3, rfl, hs⟩, hr⟩
    obtain ⟨k, rfl, hk⟩ := hr x (List.mem_cons_self ..)
    simp only [getIx, L2.atI, L2.ixN, wipe, restore, List.foldl_cons, List.foldl_nil, List.getD_cons_zero, List.getD_cons_succ, lpI_nx, lpI_ct, lpI_bk, lpI_rt, shaped_int, shaped_bl, shaped_non, deq_ii, deq_bb, Bool.and_self, Bool.and_true, Bool.true_and, Int.cast_ofNat_Int, Nat.reducePow, Nat.reduceLeDiff, Int.zero_add, Int.add_zero, aft_nx, aft_rt, aft_bk, aft_ct, af_nx, af_rt, af_bk, af_ct, decide_eq_true_eq, eval, evals, evalsT, evalsA, evalO, evalC, evalI, dictI, test, op_bind, op_map, op_some, op_none, op_ite, if_false_right, pk, take, pks, binop, cmpop, truth, setIx, rangeOf, big, revOf, store, put, puts, putG, setOwn, ownOf, lstAt, bltF, lenF, lenOf, intF, absF, gcdF, isiF, isTy, listF, tupleF, dictF, mutF, appendF, isBw_0, isBw_s, nb_sh, nb_ow, nb_un, nb_bw, settle, storesR, bindA, back, lent, List.getElem?_cons_zero, List.getElem?_cons_succ, List.set_cons_zero, List.set_cons_succ, List.length_cons, List.length_nil, List.map_cons, List.map_nil, List.append_nil, List.nil_append, List.cons_append, and_self, and_true, true_and, if_true, if_false, ite_true, ite_false, reduceIte, Option.bind_some, Option.map_some, decide_true, decide_false, Bool.not_true, Bool.not_false, Bool.false_eq_true, Option.some.injEq, Nat.reduceLT, Nat.reduceAdd, Nat.zero_add, Nat.add_one_lt_add_one_iff, Nat.lt_add_left_iff_pos, Nat.lt_add_one, Nat.zero_lt_succ, Int.reduceLT, Int.reduceLE, Int.reduceNeg, Int.reducePow, Int.reduceToNat, Int.reduceMul, Int.reduceSub,  Int.reduceAdd, forall_const, ne_eq, not_true_eq_false, not_false_eq_true, hs]
    refine wp_if False ?_ (fun h => h.elim) (fun _ => ?_)
    · simp only [test, eval, evals, evalsA, op_bind, op_map, op_some, List.getElem?_cons_zero, List.getElem?_cons_succ, pk, take, hget k hk, hio, bindA]
      refine (h _ (List.getElem_mem hk)).mono ?_
      rintro _ rfl
      simp only [getIx, L2.atI, L2.ixN, wipe, restore, List.foldl_cons, List.foldl_nil, List.getD_cons_zero, List.getD_cons_succ, lpI_nx, lpI_ct, lpI_bk, lpI_rt, shaped_int, shaped_bl, shaped_non, deq_ii, deq_bb, Bool.and_self, Bool.and_true, Bool.true_and, Int.cast_ofNat_Int, Nat.reducePow, Nat.reduceLeDiff, Int.zero_add, Int.add_zero, aft_nx, aft_rt, aft_bk, aft_ct, af_nx, af_rt, af_bk, af_ct, decide_eq_true_eq, eval, evals, evalsT, evalsA, evalO, evalC, evalI, dictI, test, op_bind, op_map, op_some, op_none, op_ite, if_false_right, pk, take, pks, binop, cmpop, truth, setIx, rangeOf, big, revOf, store, put, puts, putG, setOwn, ownOf, lstAt, bltF, lenF, lenOf, intF, absF, gcdF, isiF, isTy, listF, tupleF, dictF, mutF, appendF, isBw_0, isBw_s, nb_sh, nb_ow, nb_un, nb_bw, settle, storesR, bindA, back, lent, List.getElem?_cons_zero, List.getElem?_cons_succ, List.set_cons_zero, List.set_cons_succ, List.length_cons, List.length_nil, List.map_cons, List.map_nil, List.append_nil, List.nil_append, List.cons_append, and_self, and_true, true_and, if_true, if_false, ite_true, ite_false, reduceIte, Option.bind_some, Option.map_some, decide_true, decide_false, Bool.not_true, Bool.not_false, Bool.false_eq_true, Option.some.injEq, Nat.reduceLT, Nat.reduceAdd, Nat.zero_add, Nat.add_one_lt_add_one_iff, Nat.lt_add_left_iff_pos, Nat.lt_add_one, Nat.zero_lt_succ, Int.reduceLT, Int.reduceLE, Int.reduceNeg, Int.reducePow, Int.reduceToNat, Int.reduceMul, Int.reduceSub,  Int.reduceAdd, forall_const, ne_eq, not_true_eq_false, not_false_eq_true]
    · simp only [wp_nil, aft_nx, lpI_nx]
      exact ⟨⟨_, rfl, rfl⟩, fun y hy => hr y (List.mem_cons_of_mem _ hy)⟩
  · rintro e ⟨⟨s3, rfl, hs⟩, _⟩
    simp only [wp_set, wp_unp, wp_par, wp_sti, wp_exp, wp_ret, wp_retN, wp_brk, wp_cnt, wp_pas, wp_nil, wp_nil, getIx, L2.atI, L2.ixN, wipe, restore, List.foldl_cons, List.foldl_nil, List.getD_cons_zero, List.getD_cons_succ, lpI_nx, lpI_ct, lpI_bk, lpI_rt, shaped_int, shaped_bl, shaped_non, deq_ii, deq_bb, Bool.and_self, Bool.and_true, Bool.true_and, Int.cast_ofNat_Int, Nat.reducePow, Nat.reduceLeDiff, Int.zero_add, Int.add_zero, aft_nx, aft_rt, aft_bk, aft_ct, af_nx, af_rt, af_bk, af_ct, decide_eq_true_eq, eval, evals, evalsT, evalsA, evalO, evalC, evalI, dictI, test, op_bind, op_map, op_some, op_none, op_ite, if_false_right, pk, take, pks, binop, cmpop, truth, setIx, rangeOf, big, revOf, store, put, puts, putG, setOwn, ownOf, lstAt, bltF, lenF, lenOf, intF, absF, gcdF, isiF, isTy, listF, tupleF, dictF, mutF, appendF, isBw_0, isBw_s, nb_sh, nb_ow, nb_un, nb_bw, settle, storesR, bindA, back, lent, List.getElem?_cons_zero, List.getElem?_cons_succ, List.set_cons_zero, List.set_cons_succ, List.length_cons, List.length_nil, List.map_cons, List.map_nil, List.append_nil, List.nil_append, List.cons_append, and_self, and_true, true_and, if_true, if_false, ite_true, ite_false, reduceIte, Option.bind_some, Option.map_some, decide_true, decide_false, Bool.not_true, Bool.not_false, Bool.false_eq_true, Option.some.injEq, Nat.reduceLT, Nat.reduceAdd, Nat.zero_add, Nat.add_one_lt_add_one_iff, Nat.lt_add_left_iff_pos, Nat.lt_add_one, Nat.zero_lt_succ, Int.reduceLT, Int.reduceLE, Int.reduceNeg, Int.reducePow, Int.reduceToNat, Int.reduceMul, Int.reduceSub,  Int.reduceAdd, forall_const, ne_eq, not_true_eq_false, not_false_eq_true, outF, outR, outIo, wipe, restore, List.foldl_cons, List.foldl_nil, List.getD_cons_zero, List.getD_cons_succ, lpI_nx, lpI_ct, lpI_bk, lpI_rt, shaped_int, shaped_bl, shaped_non, deq_ii, deq_bb, Bool.and_self, Bool.and_true, Bool.true_and, Int.cast_ofNat_Int, Nat.reducePow, Nat.reduceLeDiff, Int.zero_add, Int.add_zero, aft_nx, aft_rt, aft_bk, aft_ct, af_nx, af_rt, af_bk, af_ct, decide_eq_true_eq, eval, evals, evalsT, evalsA, evalO, evalC, evalI, dictI, test, op_bind, op_map, op_some, op_none, op_ite, if_false_right, pk, take, pks, binop, cmpop, truth, setIx, rangeOf, big, revOf, store, put, puts, putG, setOwn, ownOf, lstAt, bltF, lenF, lenOf, intF, absF, gcdF, isiF, isTy, listF, tupleF, dictF, mutF, appendF, isBw_0, isBw_s, nb_sh, nb_ow, nb_un, nb_bw, settle, storesR, bindA, back, lent, List.getElem?_cons_zero, List.getElem?_cons_succ, List.set_cons_zero, List.set_cons_succ, List.length_cons, List.length_nil, List.map_cons, List.map_nil, List.append_nil, List.nil_append, List.cons_append, and_self, and_true, true_and, if_true, if_false, ite_true, ite_false, reduceIte, Option.bind_some, Option.map_some, decide_true, decide_false, Bool.not_true, Bool.not_false, Bool.false_eq_true, Option.some.injEq, Nat.reduceLT, Nat.reduceAdd, Nat.zero_add, Nat.add_one_lt_add_one_iff, Nat.lt_add_left_iff_pos, Nat.lt_add_one, Nat.zero_lt_succ, Int.reduceLT, Int.reduceLE, Int.reduceNeg, Int.reducePow, Int.reduceToNat, Int.reduceMul, Int.reduceSub,  Int.reduceAdd, forall_const, ne_eq, not_true_eq_false, not_false_eq_true]
  · obtain ⟨k, hk, rfl⟩ := List.mem_map.mp hx
    exact ⟨k, rfl, List.mem_range.mp hk⟩
theorem sameC_atom {cf : Cf} {s : Nat} {d : D} (h : (d = .non ∨ (∃ b, d = .bl b)) ∨ (∃ i, d = .int i) ∨ ∃ x, d = .str x ∧ PySem.PyData.strOk x = true) : Op (runFn cf (h_sameC s) [.sh d, .sh d]) IsTrue := by
  rw [wp_run rfl rfl]
  show Wp cf (h_sameC s).body [.sh d, .sh d, .un, .un] _
  unfold h_sameC
  rcases h with (rfl | ⟨b, rfl⟩) | ⟨i, rfl⟩ | ⟨x, rfl, hx⟩
  · refine wp_if True (by simp only [getIx, L2.atI, L2.ixN, wipe, restore, List.foldl_cons, List.foldl_nil, List.getD_cons_zero, List.getD_cons_succ, lpI_nx, lpI_ct, lpI_bk, lpI_rt, shaped_int, shaped_bl, shaped_non, deq_ii, deq_bb, Bool.and_self, Bool.and_true, Bool.true_and, Int.cast_ofNat_Int, Nat.reducePow, Nat.reduceLeDiff, Int.zero_add, Int.add_zero, aft_nx, aft_rt, aft_bk, aft_ct, af_nx, af_rt, af_bk, af_ct, decide_eq_true_eq, eval, evals, evalsT, evalsA, evalO, evalC, evalI, dictI, test, op_bind, op_map, op_some, op_none, op_ite, if_false_right, pk, take, pks, binop, cmpop, truth, setIx, rangeOf, big, revOf, store, put, puts, putG, setOwn, ownOf, lstAt, bltF, lenF, lenOf, intF, absF, gcdF, isiF, isTy, listF, tupleF, dictF, mutF, appendF, isBw_0, isBw_s, nb_sh, nb_ow, nb_un, nb_bw, settle, storesR, bindA, back, lent, List.getElem?_cons_zero, List.getElem?_cons_succ, List.set_cons_zero, List.set_cons_succ, List.length_cons, List.length_nil, List.map_cons, List.map_nil, List.append_nil, List.nil_append, List.cons_append, and_self, and_true, true_and, if_true, if_false, ite_true, ite_false, reduceIte, Option.bind_some, Option.map_some, decide_true, decide_false, Bool.not_true, Bool.not_false, Bool.false_eq_true, Option.some.injEq, Nat.reduceLT, Nat.reduceAdd, Nat.zero_add, Nat.add_one_lt_add_one_iff, Nat.lt_add_left_iff_pos, Nat.lt_add_one, Nat.zero_lt_succ, Int.reduceLT, Int.reduceLE, Int.reduceNeg, Int.reducePow, Int.reduceToNat, Int.reduceMul, Int.reduceSub,  Int.reduceAdd, forall_const, ne_eq, not_true_eq_false, not_false_eq_true]) (fun _ => ?_) (fun h => (h trivial).elim)
    simp only [wp_set, wp_unp, wp_par, wp_sti, wp_exp, wp_ret, wp_retN, wp_brk, wp_cnt, wp_pas, wp_nil, wp_nil, getIx, L2.atI, L2.ixN, wipe, restore, List.foldl_cons, List.foldl_nil, List.getD_cons_zero, List.getD_cons_succ, lpI_nx, lpI_ct, lpI_bk, lpI_rt, shaped_int, shaped_bl, shaped_non, deq_ii, deq_bb, Bool.and_self, Bool.and_true, Bool.true_and, Int.cast_ofNat_Int, Nat.reducePow, Nat.reduceLeDiff, Int.zero_add, Int.add_zero, aft_nx, aft_rt, aft_bk, aft_ct, af_nx, af_rt, af_bk, af_ct, decide_eq_true_eq, eval, evals, evalsT, evalsA, evalO, evalC, evalI, dictI, test, op_bind, op_map, op_some, op_none, op_ite, if_false_right, pk, take, pks, binop, cmpop, truth, setIx, rangeOf, big, revOf, store, put, puts, putG, setOwn, ownOf, lstAt, bltF, lenF, lenOf, intF, absF, gcdF, isiF, isTy, listF, tupleF, dictF, mutF, appendF, isBw_0, isBw_s, nb_sh, nb_ow, nb_un, nb_bw, settle, storesR, bindA, back, lent, List.getElem?_cons_zero, List.getElem?_cons_succ, List.set_cons_zero, List.set_cons_succ, List.length_cons, List.length_nil, List.map_cons, List.map_nil, List.append_nil, List.nil_append, List.cons_append, and_self, and_true, true_and, if_true, if_false, ite_true, ite_false, reduceIte, Option.bind_some, Option.map_some, decide_true, decide_false, Bool.not_true, Bool.not_false, Bool.false_eq_true, Option.some.injEq, Nat.reduceLT, Nat.reduceAdd, Nat.zero_add, Nat.add_one_lt_add_one_iff, Nat.lt_add_left_iff_pos, Nat.lt_add_one, Nat.zero_lt_succ, Int.reduceLT, Int.reduceLE, Int.reduceNeg, Int.reducePow, Int.reduceToNat, Int.reduceMul, Int.reduceSub,  Int.reduceAdd, forall_const, ne_eq, not_true_eq_false, not_false_eq_true, outF, outR, outIo, wipe, restore, List.foldl_cons, List.foldl_nil, List.getD_cons_zero, List.getD_cons_succ, lpI_nx, lpI_ct, lpI_bk, lpI_rt, shaped_int, shaped_bl, shaped_non, deq_ii, deq_bb, Bool.and_self, Bool.and_true, Bool.true_and, Int.cast_ofNat_Int, Nat.reducePow, Nat.reduceLeDiff, Int.zero_add, Int.add_zero, aft_nx, aft_rt, aft_bk, aft_ct, af_nx, af_rt, af_bk, af_ct, decide_eq_true_eq, eval, evals, evalsT, evalsA, evalO, evalC, evalI, dictI, test, op_bind, op_map, op_some, op_none, op_ite, if_false_right, pk, take, pks, binop, cmpop, truth, setIx, rangeOf, big, revOf, store, put, puts, putG, setOwn, ownOf, lstAt, bltF, lenF, lenOf, intF, absF, gcdF, isiF, isTy, listF, tupleF, dictF, mutF, appendF, isBw_0, isBw_s, nb_sh, nb_ow, nb_un, nb_bw, settle, storesR, bindA, back, lent, List.getElem?_cons_zero, List.getElem?_cons_succ, List.set_cons_zero, List.set_cons_succ, List.length_cons, List.length_nil, List.map_cons, List.map_nil, List.append_nil, List.nil_append, List.cons_append, and_self, and_true, true_and, if_true, if_false, ite_true, ite_false, reduceIte, Option.bind_some, Option.map_some, decide_true, decide_false, Bool.not_true, Bool.not_false, Bool.false_eq_true, Option.some.injEq, Nat.reduceLT, Nat.reduceAdd, Nat.zero_add, Nat.add_one_lt_add_one_iff, Nat.lt_add_left_iff_pos, Nat.lt_add_one, Nat.zero_lt_succ, Int.reduceLT, Int.reduceLE, Int.reduceNeg, Int.reducePow, Int.reduceToNat, Int.reduceMul, Int.reduceSub,  Int.reduceAdd, forall_const, ne_eq, not_true_eq_false, not_false_eq_true]
  · refine wp_if False (by simp only [getIx, L2.atI, L2.ixN, wipe, restore, List.foldl_cons, List.foldl_nil, List.getD_cons_zero, List.getD_cons_succ, lpI_nx, lpI_ct, lpI_bk, lpI_rt, shaped_int, shaped_bl, shaped_non, deq_ii, deq_bb, Bool.and_self, Bool.and_true, Bool.true_and, Int.cast_ofNat_Int, Nat.reducePow, Nat.reduceLeDiff, Int.zero_add, Int.add_zero, aft_nx, aft_rt, aft_bk, aft_ct, af_nx, af_rt, af_bk, af_ct, decide_eq_true_eq, eval, evals, evalsT, evalsA, evalO, evalC, evalI, dictI, test, op_bind, op_map, op_some, op_none, op_ite, if_false_right, pk, take, pks, binop, cmpop, truth, setIx, rangeOf, big, revOf, store, put, puts, putG, setOwn, ownOf, lstAt, bltF, lenF, lenOf, intF, absF, gcdF, isiF, isTy, listF, tupleF, dictF, mutF, appendF, isBw_0, isBw_s, nb_sh, nb_ow, nb_un, nb_bw, settle, storesR, bindA, back, lent, List.getElem?_cons_zero, List.getElem?_cons_succ, List.set_cons_zero, List.set_cons_succ, List.length_cons, List.length_nil, List.map_cons, List.map_nil, List.append_nil, List.nil_append, List.cons_append, and_self, and_true, true_and, if_true, if_false, ite_true, ite_false, reduceIte, Option.bind_some, Option.map_some, decide_true, decide_false, Bool.not_true, Bool.not_false, Bool.false_eq_true, Option.some.injEq, Nat.reduceLT, Nat.reduceAdd, Nat.zero_add, Nat.add_one_lt_add_one_iff, Nat.lt_add_left_iff_pos, Nat.lt_add_one, Nat.zero_lt_succ, Int.reduceLT, Int.reduceLE, Int.reduceNeg, Int.reducePow, Int.reduceToNat, Int.reduceMul, Int.reduceSub,  Int.reduceAdd, forall_const, ne_eq, not_true_eq_false, not_false_eq_true]) (fun h => h.elim) (fun _ => ?_)
    simp only [wp_nil, aft_nx]
    cases b with
    | true =>
      refine wp_if True (by simp only [getIx, L2.atI, L2.ixN, wipe, restore, List.foldl_cons, List.foldl_nil, List.getD_cons_zero, List.getD_cons_succ, lpI_nx, lpI_ct, lpI_bk, lpI_rt, shaped_int, shaped_bl, shaped_non, deq_ii, deq_bb, Bool.and_self, Bool.and_true, Bool.true_and, Int.cast_ofNat_Int, Nat.reducePow, Nat.reduceLeDiff, Int.zero_add, Int.add_zero, aft_nx, aft_rt, aft_bk, aft_ct, af_nx, af_rt, af_bk, af_ct, decide_eq_true_eq, eval, evals, evalsT, evalsA, evalO, evalC, evalI, dictI, test, op_bind, op_map, op_some, op_none, op_ite, if_false_right, pk, take, pks, binop, cmpop, truth, setIx, rangeOf, big, revOf, store, put, puts, putG, setOwn, ownOf, lstAt, bltF, lenF, lenOf, intF, absF, gcdF, isiF, isTy, listF, tupleF, dictF, mutF, appendF, isBw_0, isBw_s, nb_sh, nb_ow, nb_un, nb_bw, settle, storesR, bindA, back, lent, List.getElem?_cons_zero, List.getElem?_cons_succ, List.set_cons_zero, List.set_cons_succ, List.length_cons, List.length_nil, List.map_cons, List.map_nil, List.append_nil, List.nil_append, List.cons_append, and_self, and_true, true_and, if_true, if_false, ite_true, ite_false, reduceIte, Option.bind_some, Option.map_some, decide_true, decide_false, Bool.not_true, Bool.not_false, Bool.false_eq_true, Option.some.injEq, Nat.reduceLT, Nat.reduceAdd, Nat.zero_add, Nat.add_one_lt_add_one_iff, Nat.lt_add_left_iff_pos, Nat.lt_add_one, Nat.zero_lt_succ, Int.reduceLT, Int.reduceLE, Int.reduceNeg, Int.reducePow, Int.reduceToNat, Int.reduceMul, Int.reduceSub,  Int.reduceAdd, forall_const, ne_eq, not_true_eq_false, not_false_eq_true, beq_self_eq_true]) (fun _ => ?_) (fun h => (h trivial).elim)
      simp only [wp_set, wp_unp, wp_par, wp_sti, wp_exp, wp_ret, wp_retN, wp_brk, wp_cnt, wp_pas, wp_nil, wp_nil, getIx, L2.atI, L2.ixN, wipe, restore, List.foldl_cons, List.foldl_nil, List.getD_cons_zero, List.getD_cons_succ, lpI_nx, lpI_ct, lpI_bk, lpI_rt, shaped_int, shaped_bl, shaped_non, deq_ii, deq_bb, Bool.and_self, Bool.and_true, Bool.true_and, Int.cast_ofNat_Int, Nat.reducePow, Nat.reduceLeDiff, Int.zero_add, Int.add_zero, aft_nx, aft_rt, aft_bk, aft_ct, af_nx, af_rt, af_bk, af_ct, decide_eq_true_eq, eval, evals, evalsT, evalsA, evalO, evalC, evalI, dictI, test, op_bind, op_map, op_some, op_none, op_ite, if_false_right, pk, take, pks, binop, cmpop, truth, setIx, rangeOf, big, revOf, store, put, puts, putG, setOwn, ownOf, lstAt, bltF, lenF, lenOf, intF, absF, gcdF, isiF, isTy, listF, tupleF, dictF, mutF, appendF, isBw_0, isBw_s, nb_sh, nb_ow, nb_un, nb_bw, settle, storesR, bindA, back, lent, List.getElem?_cons_zero, List.getElem?_cons_succ, List.set_cons_zero, List.set_cons_succ, List.length_cons, List.length_nil, List.map_cons, List.map_nil, List.append_nil, List.nil_append, List.cons_append, and_self, and_true, true_and, if_true, if_false, ite_true, ite_false, reduceIte, Option.bind_some, Option.map_some, decide_true, decide_false, Bool.not_true, Bool.not_false, Bool.false_eq_true, Option.some.injEq, Nat.reduceLT, Nat.reduceAdd, Nat.zero_add, Nat.add_one_lt_add_one_iff, Nat.lt_add_left_iff_pos, Nat.lt_add_one, Nat.zero_lt_succ, Int.reduceLT, Int.reduceLE, Int.reduceNeg, Int.reducePow, Int.reduceToNat, Int.reduceMul, Int.reduceSub,  Int.reduceAdd, forall_const, ne_eq, not_true_eq_false, not_false_eq_true, outF, outR, outIo, wipe, restore, List.foldl_cons, List.foldl_nil, List.getD_cons_zero, List.getD_cons_succ, lpI_nx, lpI_ct, lpI_bk, lpI_rt, shaped_int, shaped_bl, shaped_non, deq_ii, deq_bb, Bool.and_self, Bool.and_true, Bool.true_and, Int.cast_ofNat_Int, Nat.reducePow, Nat.reduceLeDiff, Int.zero_add, Int.add_zero, aft_nx, aft_rt, aft_bk, aft_ct, af_nx, af_rt, af_bk, af_ct, decide_eq_true_eq, eval, evals, evalsT, evalsA, evalO, evalC, evalI, dictI, test, op_bind, op_map, op_some, op_none, op_ite, if_false_right, pk, take, pks, binop, cmpop, truth, setIx, rangeOf, big, revOf, store, put, puts, putG, setOwn, ownOf, lstAt, bltF, lenF, lenOf, intF, absF, gcdF, isiF, isTy, listF, tupleF, dictF, mutF, appendF, isBw_0, isBw_s, nb_sh, nb_ow, nb_un, nb_bw, settle, storesR, bindA, back, lent, List.getElem?_cons_zero, List.getElem?_cons_succ, List.set_cons_zero, List.set_cons_succ, List.length_cons, List.length_nil, List.map_cons, List.map_nil, List.append_nil, List.nil_append, List.cons_append, and_self, and_true, true_and, if_true, if_false, ite_true, ite_false, reduceIte, Option.bind_some, Option.map_some, decide_true, decide_false, Bool.not_true, Bool.not_false, Bool.false_eq_true, Option.some.injEq, Nat.reduceLT, Nat.reduceAdd, Nat.zero_add, Nat.add_one_lt_add_one_iff, Nat.lt_add_left_iff_pos, Nat.lt_add_one, Nat.zero_lt_succ, Int.reduceLT, Int.reduceLE, Int.reduceNeg, Int.reducePow, Int.reduceToNat, Int.reduceMul, Int.reduceSub,  Int.reduceAdd, forall_const, ne_eq, not_true_eq_false, not_false_eq_true, beq_self_eq_true]
    | false =>
      refine wp_if False (by simp only [getIx, L2.atI, L2.ixN, wipe, restore, List.foldl_cons, List.foldl_nil, List.getD_cons_zero, List.getD_cons_succ, lpI_nx, lpI_ct, lpI_bk, lpI_rt, shaped_int, shaped_bl, shaped_non, deq_ii, deq_bb, Bool.and_self, Bool.and_true, Bool.true_and, Int.cast_ofNat_Int, Nat.reducePow, Nat.reduceLeDiff, Int.zero_add, Int.add_zero, aft_nx, aft_rt, aft_bk, aft_ct, af_nx, af_rt, af_bk, af_ct, decide_eq_true_eq, eval, evals, evalsT, evalsA, evalO, evalC, evalI, dictI, test, op_bind, op_map, op_some, op_none, op_ite, if_false_right, pk, take, pks, binop, cmpop, truth, setIx, rangeOf, big, revOf, store, put, puts, putG, setOwn, ownOf, lstAt, bltF, lenF, lenOf, intF, absF, gcdF, isiF, isTy, listF, tupleF, dictF, mutF, appendF, isBw_0, isBw_s, nb_sh, nb_ow, nb_un, nb_bw, settle, storesR, bindA, back, lent, List.getElem?_cons_zero, List.getElem?_cons_succ, List.set_cons_zero, List.set_cons_succ, List.length_cons, List.length_nil, List.map_cons, List.map_nil, List.append_nil, List.nil_append, List.cons_append, and_self, and_true, true_and, if_true, if_false, ite_true, ite_false, reduceIte, Option.bind_some, Option.map_some, decide_true, decide_false, Bool.not_true, Bool.not_false, Bool.false_eq_true, Option.some.injEq, Nat.reduceLT, Nat.reduceAdd, Nat.zero_add, Nat.add_one_lt_add_one_iff, Nat.lt_add_left_iff_pos, Nat.lt_add_one, Nat.zero_lt_succ, Int.reduceLT, Int.reduceLE, Int.reduceNeg, Int.reducePow, Int.reduceToNat, Int.reduceMul, Int.reduceSub,  Int.reduceAdd, forall_const, ne_eq, not_true_eq_false, not_false_eq_true]; decide) (fun h => h.elim) (fun _ => ?_)
      simp only [wp_nil, aft_nx]
      refine wp_if True (by simp only [getIx, L2.atI, L2.ixN, wipe, restore, List.foldl_cons, List.foldl_nil, List.getD_cons_zero, List.getD_cons_succ, lpI_nx, lpI_ct, lpI_bk, lpI_rt, shaped_int, shaped_bl, shaped_non, deq_ii, deq_bb, Bool.and_self, Bool.and_true, Bool.true_and, Int.cast_ofNat_Int, Nat.reducePow, Nat.reduceLeDiff, Int.zero_add, Int.add_zero, aft_nx, aft_rt, aft_bk, aft_ct, af_nx, af_rt, af_bk, af_ct, decide_eq_true_eq, eval, evals, evalsT, evalsA, evalO, evalC, evalI, dictI, test, op_bind, op_map, op_some, op_none, op_ite, if_false_right, pk, take, pks, binop, cmpop, truth, setIx, rangeOf, big, revOf, store, put, puts, putG, setOwn, ownOf, lstAt, bltF, lenF, lenOf, intF, absF, gcdF, isiF, isTy, listF, tupleF, dictF, mutF, appendF, isBw_0, isBw_s, nb_sh, nb_ow, nb_un, nb_bw, settle, storesR, bindA, back, lent, List.getElem?_cons_zero, List.getElem?_cons_succ, List.set_cons_zero, List.set_cons_succ, List.length_cons, List.length_nil, List.map_cons, List.map_nil, List.append_nil, List.nil_append, List.cons_append, and_self, and_true, true_and, if_true, if_false, ite_true, ite_false, reduceIte, Option.bind_some, Option.map_some, decide_true, decide_false, Bool.not_true, Bool.not_false, Bool.false_eq_true, Option.some.injEq, Nat.reduceLT, Nat.reduceAdd, Nat.zero_add, Nat.add_one_lt_add_one_iff, Nat.lt_add_left_iff_pos, Nat.lt_add_one, Nat.zero_lt_succ, Int.reduceLT, Int.reduceLE, Int.reduceNeg, Int.reducePow, Int.reduceToNat, Int.reduceMul, Int.reduceSub,  Int.reduceAdd, forall_const, ne_eq, not_true_eq_false, not_false_eq_true, beq_self_eq_true]) (fun _ => ?_) (fun h => (h trivial).elim)
      simp only [wp_set, wp_unp, wp_par, wp_sti, wp_exp, wp_ret, wp_retN, wp_brk, wp_cnt, wp_pas, wp_nil, wp_nil, getIx, L2.atI, L2.ixN, wipe, restore, List.foldl_cons, List.foldl_nil, List.getD_cons_zero, List.getD_cons_succ, lpI_nx, lpI_ct, lpI_bk, lpI_rt, shaped_int, shaped_bl, shaped_non, deq_ii, deq_bb, Bool.and_self, Bool.and_true, Bool.true_and, Int.cast_ofNat_Int, Nat.reducePow, Nat.reduceLeDiff, Int.zero_add, Int.add_zero, aft_nx, aft_rt, aft_bk, aft_ct, af_nx, af_rt, af_bk, af_ct, decide_eq_true_eq, eval, evals, evalsT, evalsA, evalO, evalC, evalI, dictI, test, op_bind, op_map, op_some, op_none, op_ite, if_false_right, pk, take, pks, binop, cmpop, truth, setIx, rangeOf, big, revOf, store, put, puts, putG, setOwn, ownOf, lstAt, bltF, lenF, lenOf, intF, absF, gcdF, isiF, isTy, listF, tupleF, dictF, mutF, appendF, isBw_0, isBw_s, nb_sh, nb_ow, nb_un, nb_bw, settle, storesR, bindA, back, lent, List.getElem?_cons_zero, List.getElem?_cons_succ, List.set_cons_zero, List.set_cons_succ, List.length_cons, List.length_nil, List.map_cons, List.map_nil, List.append_nil, List.nil_append, List.cons_append, and_self, and_true, true_and, if_true, if_false, ite_true, ite_false, reduceIte, Option.bind_some, Option.map_some, decide_true, decide_false, Bool.not_true, Bool.not_false, Bool.false_eq_true, Option.some.injEq, Nat.reduceLT, Nat.reduceAdd, Nat.zero_add, Nat.add_one_lt_add_one_iff, Nat.lt_add_left_iff_pos, Nat.lt_add_one, Nat.zero_lt_succ, Int.reduceLT, Int.reduceLE, Int.reduceNeg, Int.reducePow, Int.reduceToNat, Int.reduceMul, Int.reduceSub,  Int.reduceAdd, forall_const, ne_eq, not_true_eq_false, not_false_eq_true, outF, outR, outIo, wipe, restore, List.foldl_cons, List.foldl_nil, List.getD_cons_zero, List.getD_cons_succ, lpI_nx, lpI_ct, lpI_bk, lpI_rt, shaped_int, shaped_bl, shaped_non, deq_ii, deq_bb, Bool.and_self, Bool.and_true, Bool.true_and, Int.cast_ofNat_Int, Nat.reducePow, Nat.reduceLeDiff, Int.zero_add, Int.add_zero, aft_nx, aft_rt, aft_bk, aft_ct, af_nx, af_rt, af_bk, af_ct, decide_eq_true_eq, eval, evals, evalsT, evalsA, evalO, evalC, evalI, dictI, test, op_bind, op_map, op_some, op_none, op_ite, if_false_right, pk, take, pks, binop, cmpop, truth, setIx, rangeOf, big, revOf, store, put, puts, putG, setOwn, ownOf, lstAt, bltF, lenF, lenOf, intF, absF, gcdF, isiF, isTy, listF, tupleF, dictF, mutF, appendF, isBw_0, isBw_s, nb_sh, nb_ow, nb_un, nb_bw, settle, storesR, bindA, back, lent, List.getElem?_cons_zero, List.getElem?_cons_succ, List.set_cons_zero, List.set_cons_succ, List.length_cons, List.length_nil, List.map_cons, List.map_nil, List.append_nil, List.nil_append, List.cons_append, and_self, and_true, true_and, if_true, if_false, ite_true, ite_false, reduceIte, Option.bind_some, Option.map_some, decide_true, decide_false, Bool.not_true, Bool.not_false, Bool.false_eq_true, Option.some.injEq, Nat.reduceLT, Nat.reduceAdd, Nat.zero_add, Nat.add_one_lt_add_one_iff, Nat.lt_add_left_iff_pos, Nat.lt_add_one, Nat.zero_lt_succ, Int.reduceLT, Int.reduceLE, Int.reduceNeg, Int.reducePow, Int.reduceToNat, Int.reduceMul, Int.reduceSub,  Int.reduceAdd, forall_const, ne_eq, not_true_eq_false, not_false_eq_true, beq_self_eq_true]
  · refine wp_if False (by simp only [getIx, L2.atI, L2.ixN, wipe, restore, List.foldl_cons, List.foldl_nil, List.getD_cons_zero, List.getD_cons_succ, lpI_nx, lpI_ct, lpI_bk, lpI_rt, shaped_int, shaped_bl, shaped_non, deq_ii, deq_bb, Bool.and_self, Bool.and_true, Bool.true_and, Int.cast_ofNat_Int, Nat.reducePow, Nat.reduceLeDiff, Int.zero_add, Int.add_zero, aft_nx, aft_rt, aft_bk, aft_ct, af_nx, af_rt, af_bk, af_ct, decide_eq_true_eq, eval, evals, evalsT, evalsA, evalO, evalC, evalI, dictI, test, op_bind, op_map, op_some, op_none, op_ite, if_false_right, pk, take, pks, binop, cmpop, truth, setIx, rangeOf, big, revOf, store, put, puts, putG, setOwn, ownOf, lstAt, bltF, lenF, lenOf, intF, absF, gcdF, isiF, isTy, listF, tupleF, dictF, mutF, appendF, isBw_0, isBw_s, nb_sh, nb_ow, nb_un, nb_bw, settle, storesR, bindA, back, lent, List.getElem?_cons_zero, List.getElem?_cons_succ, List.set_cons_zero, List.set_cons_succ, List.length_cons, List.length_nil, List.map_cons, List.map_nil, List.append_nil, List.nil_append, List.cons_append, and_self, and_true, true_and, if_true, if_false, ite_true, ite_false, reduceIte, Option.bind_some, Option.map_some, decide_true, decide_false, Bool.not_true, Bool.not_false, Bool.false_eq_true, Option.some.injEq, Nat.reduceLT, Nat.reduceAdd, Nat.zero_add, Nat.add_one_lt_add_one_iff, Nat.lt_add_left_iff_pos, Nat.lt_add_one, Nat.zero_lt_succ, Int.reduceLT, Int.reduceLE, Int.reduceNeg, Int.reducePow, Int.reduceToNat, Int.reduceMul, Int.reduceSub,  Int.reduceAdd, forall_const, ne_eq, not_true_eq_false, not_false_eq_true]) (fun h => h.elim) (fun _ => ?_)
    simp only [wp_nil, aft_nx]
    refine wp_if False (by simp only [getIx, L2.atI, L2.ixN, wipe, restore, List.foldl_cons, List.foldl_nil, List.getD_cons_zero, List.getD_cons_succ, lpI_nx, lpI_ct, lpI_bk, lpI_rt, shaped_int, shaped_bl, shaped_non, deq_ii, deq_bb, Bool.and_self, Bool.and_true, Bool.true_and, Int.cast_ofNat_Int, Nat.reducePow, Nat.reduceLeDiff, Int.zero_add, Int.add_zero, aft_nx, aft_rt, aft_bk, aft_ct, af_nx, af_rt, af_bk, af_ct, decide_eq_true_eq, eval, evals, evalsT, evalsA, evalO, evalC, evalI, dictI, test, op_bind, op_map, op_some, op_none, op_ite, if_false_right, pk, take, pks, binop, cmpop, truth, setIx, rangeOf, big, revOf, store, put, puts, putG, setOwn, ownOf, lstAt, bltF, lenF, lenOf, intF, absF, gcdF, isiF, isTy, listF, tupleF, dictF, mutF, appendF, isBw_0, isBw_s, nb_sh, nb_ow, nb_un, nb_bw, settle, storesR, bindA, back, lent, List.getElem?_cons_zero, List.getElem?_cons_succ, List.set_cons_zero, List.set_cons_succ, List.length_cons, List.length_nil, List.map_cons, List.map_nil, List.append_nil, List.nil_append, List.cons_append, and_self, and_true, true_and, if_true, if_false, ite_true, ite_false, reduceIte, Option.bind_some, Option.map_some, decide_true, decide_false, Bool.not_true, Bool.not_false, Bool.false_eq_true, Option.some.injEq, Nat.reduceLT, Nat.reduceAdd, Nat.zero_add, Nat.add_one_lt_add_one_iff, Nat.lt_add_left_iff_pos, Nat.lt_add_one, Nat.zero_lt_succ, Int.reduceLT, Int.reduceLE, Int.reduceNeg, Int.reducePow, Int.reduceToNat, Int.reduceMul, Int.reduceSub,  Int.reduceAdd, forall_const, ne_eq, not_true_eq_false, not_false_eq_true]) (fun h => h.elim) (fun _ => ?_)
    simp only [wp_nil, aft_nx]
    refine wp_if False (by simp only [getIx, L2.atI, L2.ixN, wipe, restore, List.foldl_cons, List.foldl_nil, List.getD_cons_zero, List.getD_cons_succ, lpI_nx, lpI_ct, lpI_bk, lpI_rt, shaped_int, shaped_bl, shaped_non, deq_ii, deq_bb, Bool.and_self, Bool.and_true, Bool.true_and, Int.cast_ofNat_Int, Nat.reducePow, Nat.reduceLeDiff, Int.zero_add, Int.add_zero, aft_nx, aft_rt, aft_bk, aft_ct, af_nx, af_rt, af_bk, af_ct, decide_eq_true_eq, eval, evals, evalsT, evalsA, evalO, evalC, evalI, dictI, test, op_bind, op_map, op_some, op_none, op_ite, if_false_right, pk, take, pks, binop, cmpop, truth, setIx, rangeOf, big, revOf, store, put, puts, putG, setOwn, ownOf, lstAt, bltF, lenF, lenOf, intF, absF, gcdF, isiF, isTy, listF, tupleF, dictF, mutF, appendF, isBw_0, isBw_s, nb_sh, nb_ow, nb_un, nb_bw, settle, storesR, bindA, back, lent, List.getElem?_cons_zero, List.getElem?_cons_succ, List.set_cons_zero, List.set_cons_succ, List.length_cons, List.length_nil, List.map_cons, List.map_nil, List.append_nil, List.nil_append, List.cons_append, and_self, and_true, true_and, if_true, if_false, ite_true, ite_false, reduceIte, Option.bind_some, Option.map_some, decide_true, decide_false, Bool.not_true, Bool.not_false, Bool.false_eq_true, Option.some.injEq, Nat.reduceLT, Nat.reduceAdd, Nat.zero_add, Nat.add_one_lt_add_one_iff, Nat.lt_add_left_iff_pos, Nat.lt_add_one, Nat.zero_lt_succ, Int.reduceLT, Int.reduceLE, Int.reduceNeg, Int.reducePow, Int.reduceToNat, Int.reduceMul, Int.reduceSub,  Int.reduceAdd, forall_const, ne_eq, not_true_eq_false, not_false_eq_true]) (fun h => h.elim) (fun _ => ?_)
    simp only [wp_nil, aft_nx]
    refine wp_if True (by simp only [getIx, L2.atI, L2.ixN, wipe, restore, List.foldl_cons, List.foldl_nil, List.getD_cons_zero, List.getD_cons_succ, lpI_nx, lpI_ct, lpI_bk, lpI_rt, shaped_int, shaped_bl, shaped_non, deq_ii, deq_bb, Bool.and_self, Bool.and_true, Bool.true_and, Int.cast_ofNat_Int, Nat.reducePow, Nat.reduceLeDiff, Int.zero_add, Int.add_zero, aft_nx, aft_rt, aft_bk, aft_ct, af_nx, af_rt, af_bk, af_ct, decide_eq_true_eq, eval, evals, evalsT, evalsA, evalO, evalC, evalI, dictI, test, op_bind, op_map, op_some, op_none, op_ite, if_false_right, pk, take, pks, binop, cmpop, truth, setIx, rangeOf, big, revOf, store, put, puts, putG, setOwn, ownOf, lstAt, bltF, lenF, lenOf, intF, absF, gcdF, isiF, isTy, listF, tupleF, dictF, mutF, appendF, isBw_0, isBw_s, nb_sh, nb_ow, nb_un, nb_bw, settle, storesR, bindA, back, lent, List.getElem?_cons_zero, List.getElem?_cons_succ, List.set_cons_zero, List.set_cons_succ, List.length_cons, List.length_nil, List.map_cons, List.map_nil, List.append_nil, List.nil_append, List.cons_append, and_self, and_true, true_and, if_true, if_false, ite_true, ite_false, reduceIte, Option.bind_some, Option.map_some, decide_true, decide_false, Bool.not_true, Bool.not_false, Bool.false_eq_true, Option.some.injEq, Nat.reduceLT, Nat.reduceAdd, Nat.zero_add, Nat.add_one_lt_add_one_iff, Nat.lt_add_left_iff_pos, Nat.lt_add_one, Nat.zero_lt_succ, Int.reduceLT, Int.reduceLE, Int.reduceNeg, Int.reducePow, Int.reduceToNat, Int.reduceMul, Int.reduceSub,  Int.reduceAdd, forall_const, ne_eq, not_true_eq_false, not_false_eq_true]) (fun _ => ?_) (fun h => (h trivial).elim)
    simp only [wp_set, wp_unp, wp_par, wp_sti, wp_exp, wp_ret, wp_retN, wp_brk, wp_cnt, wp_pas, wp_nil, wp_nil, getIx, L2.atI, L2.ixN, wipe, restore, List.foldl_cons, List.foldl_nil, List.getD_cons_zero, List.getD_cons_succ, lpI_nx, lpI_ct, lpI_bk, lpI_rt, shaped_int, shaped_bl, shaped_non, deq_ii, deq_bb, Bool.and_self, Bool.and_true, Bool.true_and, Int.cast_ofNat_Int, Nat.reducePow, Nat.reduceLeDiff, Int.zero_add, Int.add_zero, aft_nx, aft_rt, aft_bk, aft_ct, af_nx, af_rt, af_bk, af_ct, decide_eq_true_eq, eval, evals, evalsT, evalsA, evalO, evalC, evalI, dictI, test, op_bind, op_map, op_some, op_none, op_ite, if_false_right, pk, take, pks, binop, cmpop, truth, setIx, rangeOf, big, revOf, store, put, puts, putG, setOwn, ownOf, lstAt, bltF, lenF, lenOf, intF, absF, gcdF, isiF, isTy, listF, tupleF, dictF, mutF, appendF, isBw_0, isBw_s, nb_sh, nb_ow, nb_un, nb_bw, settle, storesR, bindA, back, lent, List.getElem?_cons_zero, List.getElem?_cons_succ, List.set_cons_zero, List.set_cons_succ, List.length_cons, List.length_nil, List.map_cons, List.map_nil, List.append_nil, List.nil_append, List.cons_append, and_self, and_true, true_and, if_true, if_false, ite_true, ite_false, reduceIte, Option.bind_some, Option.map_some, decide_true, decide_false, Bool.not_true, Bool.not_false, Bool.false_eq_true, Option.some.injEq, Nat.reduceLT, Nat.reduceAdd, Nat.zero_add, Nat.add_one_lt_add_one_iff, Nat.lt_add_left_iff_pos, Nat.lt_add_one, Nat.zero_lt_succ, Int.reduceLT, Int.reduceLE, Int.reduceNeg, Int.reducePow, Int.reduceToNat, Int.reduceMul, Int.reduceSub,  Int.reduceAdd, forall_const, ne_eq, not_true_eq_false, not_false_eq_true, outF, outR, outIo, wipe, restore, List.foldl_cons, List.foldl_nil, List.getD_cons_zero, List.getD_cons_succ, lpI_nx, lpI_ct, lpI_bk, lpI_rt, shaped_int, shaped_bl, shaped_non, deq_ii, deq_bb, Bool.and_self, Bool.and_true, Bool.true_and, Int.cast_ofNat_Int, Nat.reducePow, Nat.reduceLeDiff, Int.zero_add, Int.add_zero, aft_nx, aft_rt, aft_bk, aft_ct, af_nx, af_rt, af_bk, af_ct, decide_eq_true_eq, eval, evals, evalsT, evalsA, evalO, evalC, evalI, dictI, test, op_bind, op_map, op_some, op_none, op_ite, if_false_right, pk, take, pks, binop, cmpop, truth, setIx, rangeOf, big, revOf, store, put, puts, putG, setOwn, ownOf, lstAt, bltF, lenF, lenOf, intF, absF, gcdF, isiF, isTy, listF, tupleF, dictF, mutF, appendF, isBw_0, isBw_s, nb_sh, nb_ow, nb_un, nb_bw, settle, storesR, bindA, back, lent, List.getElem?_cons_zero, List.getElem?_cons_succ, List.set_cons_zero, List.set_cons_succ, List.length_cons, List.length_nil, List.map_cons, List.map_nil, List.append_nil, List.nil_append, List.cons_append, and_self, and_true, true_and, if_true, if_false, ite_true, ite_false, reduceIte, Option.bind_some, Option.map_some, decide_true, decide_false, Bool.not_true, Bool.not_false, Bool.false_eq_true, Option.some.injEq, Nat.reduceLT, Nat.reduceAdd, Nat.zero_add, Nat.add_one_lt_add_one_iff, Nat.lt_add_left_iff_pos, Nat.lt_add_one, Nat.zero_lt_succ, Int.reduceLT, Int.reduceLE, Int.reduceNeg, Int.reducePow, Int.reduceToNat, Int.reduceMul, Int.reduceSub,  Int.reduceAdd, forall_const, ne_eq, not_true_eq_false, not_false_eq_true]
  · have hs : shaped (.str x) = true := shaped_of hx (Nat.zero_le _)
    refine wp_if False (by simp only [getIx, L2.atI, L2.ixN, wipe, restore, List.foldl_cons, List.foldl_nil, List.getD_cons_zero, List.getD_cons_succ, lpI_nx, lpI_ct, lpI_bk, lpI_rt, shaped_int, shaped_bl, shaped_non, deq_ii, deq_bb, Bool.and_self, Bool.and_true, Bool.true_and, Int.cast_ofNat_Int, Nat.reducePow, Nat.reduceLeDiff, Int.zero_add, Int.add_zero, aft_nx, aft_rt, aft_bk, aft_ct, af_nx, af_rt, af_bk, af_ct, decide_eq_true_eq, eval, evals, evalsT, evalsA, evalO, evalC, evalI, dictI, test, op_bind, op_map, op_some, op_none, op_ite, if_false_right, pk, take, pks, binop, cmpop, truth, setIx, rangeOf, big, revOf, store, put, puts, putG, setOwn, ownOf, lstAt, bltF, lenF, lenOf, intF, absF, gcdF, isiF, isTy, listF, tupleF, dictF, mutF, appendF, isBw_0, isBw_s, nb_sh, nb_ow, nb_un, nb_bw, settle, storesR, bindA, back, lent, List.getElem?_cons_zero, List.getElem?_cons_succ, List.set_cons_zero, List.set_cons_succ, List.length_cons, List.length_nil, List.map_cons, List.map_nil, List.append_nil, List.nil_append, List.cons_append, and_self, and_true, true_and, if_true, if_false, ite_true, ite_false, reduceIte, Option.bind_some, Option.map_some, decide_true, decide_false, Bool.not_true, Bool.not_false, Bool.false_eq_true, Option.some.injEq, Nat.reduceLT, Nat.reduceAdd, Nat.zero_add, Nat.add_one_lt_add_one_iff, Nat.lt_add_left_iff_pos, Nat.lt_add_one, Nat.zero_lt_succ, Int.reduceLT, Int.reduceLE, Int.reduceNeg, Int.reducePow, Int.reduceToNat, Int.reduceMul, Int.reduceSub,  Int.reduceAdd, forall_const, ne_eq, not_true_eq_false, not_false_eq_true]) (fun h => h.elim) (fun _ => ?_)
    simp only [wp_nil, aft_nx]
    refine wp_if False (by simp only [getIx, L2.atI, L2.ixN, wipe, restore, List.foldl_cons, List.foldl_nil, List.getD_cons_zero, List.getD_cons_succ, lpI_nx, lpI_ct, lpI_bk, lpI_rt, shaped_int, shaped_bl, shaped_non, deq_ii, deq_bb, Bool.and_self, Bool.and_true, Bool.true_and, Int.cast_ofNat_Int, Nat.reducePow, Nat.reduceLeDiff, Int.zero_add, Int.add_zero, aft_nx, aft_rt, aft_bk, aft_ct, af_nx, af_rt, af_bk, af_ct, decide_eq_true_eq, eval, evals, evalsT, evalsA, evalO, evalC, evalI, dictI, test, op_bind, op_map, op_some, op_none, op_ite, if_false_right, pk, take, pks, binop, cmpop, truth, setIx, rangeOf, big, revOf, store, put, puts, putG, setOwn, ownOf, lstAt, bltF, lenF, lenOf, intF, absF, gcdF, isiF, isTy, listF, tupleF, dictF, mutF, appendF, isBw_0, isBw_s, nb_sh, nb_ow, nb_un, nb_bw, settle, storesR, bindA, back, lent, List.getElem?_cons_zero, List.getElem?_cons_succ, List.set_cons_zero, List.set_cons_succ, List.length_cons, List.length_nil, List.map_cons, List.map_nil, List.append_nil, List.nil_append, List.cons_append, and_self, and_true, true_and, if_true, if_false, ite_true, ite_false, reduceIte, Option.bind_some, Option.map_some, decide_true, decide_false, Bool.not_true, Bool.not_false, Bool.false_eq_true, Option.some.injEq, Nat.reduceLT, Nat.reduceAdd, Nat.zero_add, Nat.add_one_lt_add_one_iff, Nat.lt_add_left_iff_pos, Nat.lt_add_one, Nat.zero_lt_succ, Int.reduceLT, Int.reduceLE, Int.reduceNeg, Int.reducePow, Int.reduceToNat, Int.reduceMul, Int.reduceSub,  Int.reduceAdd, forall_const, ne_eq, not_true_eq_false, not_false_eq_true]) (fun h => h.elim) (fun _ => ?_)
    simp only [wp_nil, aft_nx]
    refine wp_if False (by simp only [getIx, L2.atI, L2.ixN, wipe, restore, List.foldl_cons, List.foldl_nil, List.getD_cons_zero, List.getD_cons_succ, lpI_nx, lpI_ct, lpI_bk, lpI_rt, shaped_int, shaped_bl, shaped_non, deq_ii, deq_bb, Bool.and_self, Bool.and_true, Bool.true_and, Int.cast_ofNat_Int, Nat.reducePow, Nat.reduceLeDiff, Int.zero_add, Int.add_zero, aft_nx, aft_rt, aft_bk, aft_ct, af_nx, af_rt, af_bk, af_ct, decide_eq_true_eq, eval, evals, evalsT, evalsA, evalO, evalC, evalI, dictI, test, op_bind, op_map, op_some, op_none, op_ite, if_false_right, pk, take, pks, binop, cmpop, truth, setIx, rangeOf, big, revOf, store, put, puts, putG, setOwn, ownOf, lstAt, bltF, lenF, lenOf, intF, absF, gcdF, isiF, isTy, listF, tupleF, dictF, mutF, appendF, isBw_0, isBw_s, nb_sh, nb_ow, nb_un, nb_bw, settle, storesR, bindA, back, lent, List.getElem?_cons_zero, List.getElem?_cons_succ, List.set_cons_zero, List.set_cons_succ, List.length_cons, List.length_nil, List.map_cons, List.map_nil, List.append_nil, List.nil_append, List.cons_append, and_self, and_true, true_and, if_true, if_false, ite_true, ite_false, reduceIte, Option.bind_some, Option.map_some, decide_true, decide_false, Bool.not_true, Bool.not_false, Bool.false_eq_true, Option.some.injEq, Nat.reduceLT, Nat.reduceAdd, Nat.zero_add, Nat.add_one_lt_add_one_iff, Nat.lt_add_left_iff_pos, Nat.lt_add_one, Nat.zero_lt_succ, Int.reduceLT, Int.reduceLE, Int.reduceNeg, Int.reducePow, Int.reduceToNat, Int.reduceMul, Int.reduceSub,  Int.reduceAdd, forall_const, ne_eq, not_true_eq_false, not_false_eq_true]) (fun h => h.elim) (fun _ => ?_)
    simp only [wp_nil, aft_nx]
    refine wp_if False (by simp only [getIx, L2.atI, L2.ixN, wipe, restore, List.foldl_cons, List.foldl_nil, List.getD_cons_zero, List.getD_cons_succ, lpI_nx, lpI_ct, lpI_bk, lpI_rt, shaped_int, shaped_bl, shaped_non, deq_ii, deq_bb, Bool.and_self, Bool.and_true, Bool.true_and, Int.cast_ofNat_Int, Nat.reducePow, Nat.reduceLeDiff, Int.zero_add, Int.add_zero, aft_nx, aft_rt, aft_bk, aft_ct, af_nx, af_rt, af_bk, af_ct, decide_eq_true_eq, eval, evals, evalsT, evalsA, evalO, evalC, evalI, dictI, test, op_bind, op_map, op_some, op_none, op_ite, if_false_right, pk, take, pks, binop, cmpop, truth, setIx, rangeOf, big, revOf, store, put, puts, putG, setOwn, ownOf, lstAt, bltF, lenF, lenOf, intF, absF, gcdF, isiF, isTy, listF, tupleF, dictF, mutF, appendF, isBw_0, isBw_s, nb_sh, nb_ow, nb_un, nb_bw, settle, storesR, bindA, back, lent, List.getElem?_cons_zero, List.getElem?_cons_succ, List.set_cons_zero, List.set_cons_succ, List.length_cons, List.length_nil, List.map_cons, List.map_nil, List.append_nil, List.nil_append, List.cons_append, and_self, and_true, true_and, if_true, if_false, ite_true, ite_false, reduceIte, Option.bind_some, Option.map_some, decide_true, decide_false, Bool.not_true, Bool.not_false, Bool.false_eq_true, Option.some.injEq, Nat.reduceLT, Nat.reduceAdd, Nat.zero_add, Nat.add_one_lt_add_one_iff, Nat.lt_add_left_iff_pos, Nat.lt_add_one, Nat.zero_lt_succ, Int.reduceLT, Int.reduceLE, Int.reduceNeg, Int.reducePow, Int.reduceToNat, Int.reduceMul, Int.reduceSub,  Int.reduceAdd, forall_const, ne_eq, not_true_eq_false, not_false_eq_true]) (fun h => h.elim) (fun _ => ?_)
    simp only [wp_nil, aft_nx]
    refine wp_if True (by simp only [getIx, L2.atI, L2.ixN, wipe, restore, List.foldl_cons, List.foldl_nil, List.getD_cons_zero, List.getD_cons_succ, lpI_nx, lpI_ct, lpI_bk, lpI_rt, shaped_int, shaped_bl, shaped_non, deq_ii, deq_bb, Bool.and_self, Bool.and_true, Bool.true_and, Int.cast_ofNat_Int, Nat.reducePow, Nat.reduceLeDiff, Int.zero_add, Int.add_zero, aft_nx, aft_rt, aft_bk, aft_ct, af_nx, af_rt, af_bk, af_ct, decide_eq_true_eq, eval, evals, evalsT, evalsA, evalO, evalC, evalI, dictI, test, op_bind, op_map, op_some, op_none, op_ite, if_false_right, pk, take, pks, binop, cmpop, truth, setIx, rangeOf, big, revOf, store, put, puts, putG, setOwn, ownOf, lstAt, bltF, lenF, lenOf, intF, absF, gcdF, isiF, isTy, listF, tupleF, dictF, mutF, appendF, isBw_0, isBw_s, nb_sh, nb_ow, nb_un, nb_bw, settle, storesR, bindA, back, lent, List.getElem?_cons_zero, List.getElem?_cons_succ, List.set_cons_zero, List.set_cons_succ, List.length_cons, List.length_nil, List.map_cons, List.map_nil, List.append_nil, List.nil_append, List.cons_append, and_self, and_true, true_and, if_true, if_false, ite_true, ite_false, reduceIte, Option.bind_some, Option.map_some, decide_true, decide_false, Bool.not_true, Bool.not_false, Bool.false_eq_true, Option.some.injEq, Nat.reduceLT, Nat.reduceAdd, Nat.zero_add, Nat.add_one_lt_add_one_iff, Nat.lt_add_left_iff_pos, Nat.lt_add_one, Nat.zero_lt_succ, Int.reduceLT, Int.reduceLE, Int.reduceNeg, Int.reducePow, Int.reduceToNat, Int.reduceMul, Int.reduceSub,  Int.reduceAdd, forall_const, ne_eq, not_true_eq_false, not_false_eq_true]) (fun _ => ?_) (fun h => (h trivial).elim)
    simp only [wp_set, wp_unp, wp_par, wp_sti, wp_exp, wp_ret, wp_retN, wp_brk, wp_cnt, wp_pas, wp_nil, wp_nil, getIx, L2.atI, L2.ixN, wipe, restore, List.foldl_cons, List.foldl_nil, List.getD_cons_zero, List.getD_cons_succ, lpI_nx, lpI_ct, lpI_bk, lpI_rt, shaped_int, shaped_bl, shaped_non, deq_ii, deq_bb, Bool.and_self, Bool.and_true, Bool.true_and, Int.cast_ofNat_Int, Nat.reducePow, Nat.reduceLeDiff, Int.zero_add, Int.add_zero, aft_nx, aft_rt, aft_bk, aft_ct, af_nx, af_rt, af_bk, af_ct, decide_eq_true_eq, eval, evals, evalsT, evalsA, evalO, evalC, evalI, dictI, test, op_bind, op_map, op_some, op_none, op_ite, if_false_right, pk, take, pks, binop, cmpop, truth, setIx, rangeOf, big, revOf, store, put, puts, putG, setOwn, ownOf, lstAt, bltF, lenF, lenOf, intF, absF, gcdF, isiF, isTy, listF, tupleF, dictF, mutF, appendF, isBw_0, isBw_s, nb_sh, nb_ow, nb_un, nb_bw, settle, storesR, bindA, back, lent, List.getElem?_cons_zero, List.getElem?_cons_succ, List.set_cons_zero, List.set_cons_succ, List.length_cons, List.length_nil, List.map_cons, List.map_nil, List.append_nil, List.nil_append, List.cons_append, and_self, and_true, true_and, if_true, if_false, ite_true, ite_false, reduceIte, Option.bind_some, Option.map_some, decide_true, decide_false, Bool.not_true, Bool.not_false, Bool.false_eq_true, Option.some.injEq, Nat.reduceLT, Nat.reduceAdd, Nat.zero_add, Nat.add_one_lt_add_one_iff, Nat.lt_add_left_iff_pos, Nat.lt_add_one, Nat.zero_lt_succ, Int.reduceLT, Int.reduceLE, Int.reduceNeg, Int.reducePow, Int.reduceToNat, Int.reduceMul, Int.reduceSub,  Int.reduceAdd, forall_const, ne_eq, not_true_eq_false, not_false_eq_true, outF, outR, outIo, wipe, restore, List.foldl_cons, List.foldl_nil, List.getD_cons_zero, List.getD_cons_succ, lpI_nx, lpI_ct, lpI_bk, lpI_rt, shaped_int, shaped_bl, shaped_non, deq_ii, deq_bb, Bool.and_self, Bool.and_true, Bool.true_and, Int.cast_ofNat_Int, Nat.reducePow, Nat.reduceLeDiff, Int.zero_add, Int.add_zero, aft_nx, aft_rt, aft_bk, aft_ct, af_nx, af_rt, af_bk, af_ct, decide_eq_true_eq, eval, evals, evalsT, evalsA, evalO, evalC, evalI, dictI, test, op_bind, op_map, op_some, op_none, op_ite, if_false_right, pk, take, pks, binop, cmpop, truth, setIx, rangeOf, big, revOf, store, put, puts, putG, setOwn, ownOf, lstAt, bltF, lenF, lenOf, intF, absF, gcdF, isiF, isTy, listF, tupleF, dictF, mutF, appendF, isBw_0, isBw_s, nb_sh, nb_ow, nb_un, nb_bw, settle, storesR, bindA, back, lent, List.getElem?_cons_zero, List.getElem?_cons_succ, List.set_cons_zero, List.set_cons_succ, List.length_cons, List.length_nil, List.map_cons, List.map_nil, List.append_nil, List.nil_append, List.cons_append, and_self, and_true, true_and, if_true, if_false, ite_true, ite_false, reduceIte, Option.bind_some, Option.map_some, decide_true, decide_false, Bool.not_true, Bool.not_false, Bool.false_eq_true, Option.some.injEq, Nat.reduceLT, Nat.reduceAdd, Nat.zero_add, Nat.add_one_lt_add_one_iff, Nat.lt_add_left_iff_pos, Nat.lt_add_one, Nat.zero_lt_succ, Int.reduceLT, Int.reduceLE, Int.reduceNeg, Int.reducePow, Int.reduceToNat, Int.reduceMul, Int.reduceSub,  Int.reduceAdd, forall_const, ne_eq, not_true_eq_false, not_false_eq_true, hs, deq_str, beq_self_eq_true]
/-- the law's own comparison of a thing with its like -/
theorem sameC_ok {fns : List Fn} {F s : Nat} (h : fns[s]? = some (h_sameC s)) : ∀ (n k : Nat) (d : D), Pl n d → Op (callN fns F (k + n + 1) s [.sh d, .sh d]) IsTrue
  | n, k, .non, _ => by rw [callN_at h]; exact sameC_atom (.inl (.inl rfl))
  | n, k, .bl b, _ => by rw [callN_at h]; exact sameC_atom (.inl (.inr ⟨b, rfl⟩))
  | n, k, .int i, _ => by rw [callN_at h]; exact sameC_atom (.inr (.inl ⟨i, rfl⟩))
  | n, k, .str x, hp => by
    rw [callN_at h]
    exact sameC_atom (.inr (.inr ⟨x, rfl, by cases n <;> exact hp⟩))
  | n + 1, k, .tup ds, hp => by
    simp only [Pl] at hp
    show Op (callN fns F (k + n + 1 + 1) s _) _
    rw [callN_at h]
    exact sameC_seq (n := n) (io_at h) (.inl rfl) (by omega) fun x hx => sameC_ok h n k x (hp.2 x hx)
  | n + 1, k, .lst ds, hp => by
    simp only [Pl] at hp
    show Op (callN fns F (k + n + 1 + 1) s _) _
    rw [callN_at h]
    exact sameC_seq (n := n) (io_at h) (.inr rfl) (by omega) fun x hx => sameC_ok h n k x (hp.2 x hx)
  | 0, _, .tup _, hp => by simp [Pl] at hp
  | 0, _, .lst _, hp => by simp [Pl] at hp
  | n, _, .dct _ _, hp => by cases n <;> simp [Pl] at hp
  | n, _, .set _, hp => by cases n <;> simp [Pl] at hp
  | n, _, .scr _, hp => by cases n <;> simp [Pl] at hp
def h_sameA (s : Nat) : Fn := ⟨2, 4, none, (.cons (.ite (.blt (.isi .dict) (.cons (.var 0) .nil)) (.cons (.ite (.or (.not (.blt (.isi .dict) (.cons (.var 1) .nil))) (.cmp .NotEq (.blt .len (.cons (.var 0) .nil)) (.blt .len (.cons (.var 1) .nil)))) (.cons (.ret (.con (.bl false))) .nil) .nil) (.cons (.for (.nm 2) (.e (.var 0)) (.cons (.ite (.or (.cmp .NotIn (.var 2) (.var 1)) (.not (.cal s (.cons (.idx (.var 0) (.var 2)) (.cons (.idx (.var 1) (.var 2)) .nil))))) (.cons (.ret (.con (.bl false))) .nil) .nil) .nil)) (.cons (.ret (.con (.bl true))) .nil))) .nil) (.cons (.ite (.or (.blt (.isi .list) (.cons (.var 0) .nil)) (.blt (.isi .tuple) (.cons (.var 0) .nil))) (.cons (.ite (.or (.cmp .NotEq (.blt (.isi .list) (.cons (.var 0) .nil)) (.blt (.isi .list) (.cons (.var 1) .nil))) (.cmp .NotEq (.blt (.isi .tuple) (.cons (.var 0) .nil)) (.blt (.isi .tuple) (.cons (.var 1) .nil)))) (.cons (.ret (.con (.bl false))) .nil) .nil) (.cons (.ret (.and (.cmp .Eq (.blt .len (.cons (.var 0) .nil)) (.blt .len (.cons (.var 1) .nil))) (.blt .all (.cons (.lc (.cal s (.cons (.idx (.var 0) (.var 3)) (.cons (.idx (.var 1) (.var 3)) .nil))) (.nm 3) (.rng (.cons (.blt .len (.cons (.var 0) .nil)) .nil)) .no [3]) .nil)))) .nil)) .nil) (.cons (.ite (.or (.cmp .Is (.var 0) (.con .non)) (.cmp .Is (.var 1) (.con .non))) (.cons (.ret (.and (.cmp .Is (.var 0) (.con .non)) (.cmp .Is (.var 1) (.con .non)))) .nil) .nil) (.cons (.ite (.or (.blt (.isi .bool) (.cons (.var 0) .nil)) (.blt (.isi .bool) (.cons (.var 1) .nil))) (.cons (.ret (.and (.blt (.isi .bool) (.cons (.var 0) .nil)) (.and (.blt (.isi .bool) (.cons (.var 1) .nil)) (.cmp .Eq (.var 0) (.var 1))))) .nil) .nil) (.cons (.ite (.blt (.isi .str) (.cons (.var 0) .nil)) (.cons (.ret (.and (.blt (.isi .str) (.cons (.var 1) .nil)) (.cmp .Eq (.var 0) (.var 1)))) .nil) .nil) (.cons (.ret (.and (.blt (.isi .int) (.cons (.var 1) .nil)) (.cmp .Eq (.var 0) (.var 1)))) .nil))))))⟩
theorem sameA_seq {cf : Cf} {s : Nat} (hio : cf.io s = none) {d : D} {ds : List D} (hd : d = .tup ds ∨ d = .lst ds) (hl : ds.length ≤ 1000000) (h : ∀ x ∈ ds, Op (cf.C s [.sh x, .sh x]) IsTrue) : Op (runFn cf (h_sameA s) [.sh d, .sh d]) IsTrue := by
  have hget : ∀ k : Nat, (hk : k < ds.length) → getIx d (.int (k : Int)) = some (.v ds[k]) := fun k hk => by
    rcases hd with rfl | rfl <;> simp only [getIx, atI_nat hk, Option.map_some]
  have hl2 : ds.length < 2 ^ 62 := by omega
  have hl3 : ds.length ≤ PySem.sizeLine := Nat.le_trans hl (by decide)
  rw [wp_run rfl rfl]
  show Wp cf (h_sameA s).body [.sh d, .sh d, .un, .un] _
  unfold h_sameA
  refine wp_if False (by rcases hd with rfl | rfl <;> simp only [getIx, L2.atI, L2.ixN, wipe, restore, List.foldl_cons, List.foldl_nil, List.getD_cons_zero, List.getD_cons_succ, lpI_nx, lpI_ct, lpI_bk, lpI_rt, shaped_int, shaped_bl, shaped_non, deq_ii, deq_bb, Bool.and_self, Bool.and_true, Bool.true_and, Int.cast_ofNat_Int, Nat.reducePow, Nat.reduceLeDiff, Int.zero_add, Int.add_zero, aft_nx, aft_rt, aft_bk, aft_ct, af_nx, af_rt, af_bk, af_ct, decide_eq_true_eq, eval, evals, evalsT, evalsA, evalO, evalC, evalI, dictI, test, op_bind, op_map, op_some, op_none, op_ite, if_false_right, pk, take, pks, binop, cmpop, truth, setIx, rangeOf, big, revOf, store, put, puts, putG, setOwn, ownOf, lstAt, bltF, lenF, lenOf, intF, absF, gcdF, isiF, isTy, listF, tupleF, dictF, mutF, appendF, isBw_0, isBw_s, nb_sh, nb_ow, nb_un, nb_bw, settle, storesR, bindA, back, lent, List.getElem?_cons_zero, List.getElem?_cons_succ, List.set_cons_zero, List.set_cons_succ, List.length_cons, List.length_nil, List.map_cons, List.map_nil, List.append_nil, List.nil_append, List.cons_append, and_self, and_true, true_and, if_true, if_false, ite_true, ite_false, reduceIte, Option.bind_some, Option.map_some, decide_true, decide_false, Bool.not_true, Bool.not_false, Bool.false_eq_true, Option.some.injEq, Nat.reduceLT, Nat.reduceAdd, Nat.zero_add, Nat.add_one_lt_add_one_iff, Nat.lt_add_left_iff_pos, Nat.lt_add_one, Nat.zero_lt_succ, Int.reduceLT, Int.reduceLE, Int.reduceNeg, Int.reducePow, Int.reduceToNat, Int.reduceMul, Int.reduceSub,  Int.reduceAdd, forall_const, ne_eq, not_true_eq_false, not_false_eq_true]) (fun h => h.elim) (fun _ => ?_)
  simp only [wp_nil, aft_nx]
  refine wp_if True (by rcases hd with rfl | rfl <;> simp only [getIx, L2.atI, L2.ixN, wipe, restore, List.foldl_cons, List.foldl_nil, List.getD_cons_zero, List.getD_cons_succ, lpI_nx, lpI_ct, lpI_bk, lpI_rt, shaped_int, shaped_bl, shaped_non, deq_ii, deq_bb, Bool.and_self, Bool.and_true, Bool.true_and, Int.cast_ofNat_Int, Nat.reducePow, Nat.reduceLeDiff, Int.zero_add, Int.add_zero, aft_nx, aft_rt, aft_bk, aft_ct, af_nx, af_rt, af_bk, af_ct, decide_eq_true_eq, eval, evals, evalsT, evalsA, evalO, evalC, evalI, dictI, test, op_bind, op_map, op_some, op_none, op_ite, if_false_right, pk, take, pks, binop, cmpop, truth, setIx, rangeOf, big, revOf, store, put, puts, putG, setOwn, ownOf, lstAt, bltF, lenF, lenOf, intF, absF, gcdF, isiF, isTy, listF, tupleF, dictF, mutF, appendF, isBw_0, isBw_s, nb_sh, nb_ow, nb_un, nb_bw, settle, storesR, bindA, back, lent, List.getElem?_cons_zero, List.getElem?_cons_succ, List.set_cons_zero, List.set_cons_succ, List.length_cons, List.length_nil, List.map_cons, List.map_nil, List.append_nil, List.nil_append, List.cons_append, and_self, and_true, true_and, if_true, if_false, ite_true, ite_false, reduceIte, Option.bind_some, Option.map_some, decide_true, decide_false, Bool.not_true, Bool.not_false, Bool.false_eq_true, Option.some.injEq, Nat.reduceLT, Nat.reduceAdd, Nat.zero_add, Nat.add_one_lt_add_one_iff, Nat.lt_add_left_iff_pos, Nat.lt_add_one, Nat.zero_lt_succ, Int.reduceLT, Int.reduceLE, Int.reduceNeg, Int.reducePow, Int.reduceToNat, Int.reduceMul, Int.reduceSub,  Int.reduceAdd, forall_const, ne_eq, not_true_eq_false, not_false_eq_true]) (fun _ => ?_) (fun h => (h trivial).elim)
  refine wp_if False (by rcases hd with rfl | rfl <;> simp only [getIx, L2.atI, L2.ixN, wipe, restore, List.foldl_cons, List.foldl_nil, List.getD_cons_zero, List.getD_cons_succ, lpI_nx, lpI_ct, lpI_bk, lpI_rt, shaped_int, shaped_bl, shaped_non, deq_ii, deq_bb, Bool.and_self, Bool.and_true, Bool.true_and, Int.cast_ofNat_Int, Nat.reducePow, Nat.reduceLeDiff, Int.zero_add, Int.add_zero, aft_nx, aft_rt, aft_bk, aft_ct, af_nx, af_rt, af_bk, af_ct, decide_eq_true_eq, eval, evals, evalsT, evalsA, evalO, evalC, evalI, dictI, test, op_bind, op_map, op_some, op_none, op_ite, if_false_right, pk, take, pks, binop, cmpop, truth, setIx, rangeOf, big, revOf, store, put, puts, putG, setOwn, ownOf, lstAt, bltF, lenF, lenOf, intF, absF, gcdF, isiF, isTy, listF, tupleF, dictF, mutF, appendF, isBw_0, isBw_s, nb_sh, nb_ow, nb_un, nb_bw, settle, storesR, bindA, back, lent, List.getElem?_cons_zero, List.getElem?_cons_succ, List.set_cons_zero, List.set_cons_succ, List.length_cons, List.length_nil, List.map_cons, List.map_nil, List.append_nil, List.nil_append, List.cons_append, and_self, and_true, true_and, if_true, if_false, ite_true, ite_false, reduceIte, Option.bind_some, Option.map_some, decide_true, decide_false, Bool.not_true, Bool.not_false, Bool.false_eq_true, Option.some.injEq, Nat.reduceLT, Nat.reduceAdd, Nat.zero_add, Nat.add_one_lt_add_one_iff, Nat.lt_add_left_iff_pos, Nat.lt_add_one, Nat.zero_lt_succ, Int.reduceLT, Int.reduceLE, Int.reduceNeg, Int.reducePow, Int.reduceToNat, Int.reduceMul, Int.reduceSub,  Int.reduceAdd, forall_const, ne_eq, not_true_eq_false, not_false_eq_true, Bool.not_true, beq_self_eq_true]) (fun h => h.elim) (fun _ => ?_)
  simp only [wp_nil, aft_nx]
  rw [wp_ret]
  have hx : Op (eval cf (.lc (.cal s (.cons (.idx (.var 0) (.var 3)) (.cons (.idx (.var 1) (.var 3)) .nil))) (.nm 3) (.rng (.cons (.blt .len (.cons (.var 0) .nil)) .nil)) .no [3]) [.sh d, .sh d, .un, .un]) fun p => ∃ r, p = (.f (.lst r), [.sh d, .sh d, .un, .un]) ∧ ∀ x ∈ r, x = .bl true := by
    have hr : Op (evalI cf (.rng (.cons (.blt .len (.cons (.var 0) .nil)) .nil)) [.sh d, .sh d, .un, .un]) fun p => p = ((List.range ds.length).map fun (k : Nat) => D.int k, [.sh d, .sh d, .un, .un]) := by
      rcases hd with rfl | rfl <;> simp only [evalI, evals, eval, op_bind, op_map, op_some, List.getElem?_cons_zero, List.getElem?_cons_succ, pk, pks, bltF, lenF, lenOf, range_nat hl2]
    rw [eval, op_bind]
    refine hr.mono ?_
    rintro _ rfl
    simp only [op_bind]
    refine (lc_all (I := fun e => e = [.sh d, .sh d, .un, .un]) (fun _ x => x = .bl true) _ _ (fun x hx e he => ?_) rfl).mono ?_
    · subst he
      obtain ⟨k, hk, rfl⟩ := List.mem_map.mp hx
      have hk := List.mem_range.mp hk
      simp only [wipe, restore, List.foldl_cons, List.foldl_nil, List.getD_cons_zero, List.getD_cons_succ, lpI_nx, lpI_ct, lpI_bk, lpI_rt, shaped_int, shaped_bl, shaped_non, deq_ii, deq_bb, Bool.and_self, Bool.and_true, Bool.true_and, Int.cast_ofNat_Int, Nat.reducePow, Nat.reduceLeDiff, Int.zero_add, Int.add_zero, aft_nx, aft_rt, aft_bk, aft_ct, af_nx, af_rt, af_bk, af_ct, decide_eq_true_eq, eval, evals, evalsT, evalsA, evalO, evalC, evalI, dictI, test, op_bind, op_map, op_some, op_none, op_ite, if_false_right, pk, take, pks, binop, cmpop, truth, setIx, rangeOf, big, revOf, store, put, puts, putG, setOwn, ownOf, lstAt, bltF, lenF, lenOf, intF, absF, gcdF, isiF, isTy, listF, tupleF, dictF, mutF, appendF, isBw_0, isBw_s, nb_sh, nb_ow, nb_un, nb_bw, settle, storesR, bindA, back, lent, List.getElem?_cons_zero, List.getElem?_cons_succ, List.set_cons_zero, List.set_cons_succ, List.length_cons, List.length_nil, List.map_cons, List.map_nil, List.append_nil, List.nil_append, List.cons_append, and_self, and_true, true_and, if_true, if_false, ite_true, ite_false, reduceIte, Option.bind_some, Option.map_some, decide_true, decide_false, Bool.not_true, Bool.not_false, Bool.false_eq_true, Option.some.injEq, Nat.reduceLT, Nat.reduceAdd, Nat.zero_add, Nat.add_one_lt_add_one_iff, Nat.lt_add_left_iff_pos, Nat.lt_add_one, Nat.zero_lt_succ, Int.reduceLT, Int.reduceLE, Int.reduceNeg, Int.reducePow, Int.reduceToNat, Int.reduceMul, Int.reduceSub,  Int.reduceAdd, forall_const, ne_eq, not_true_eq_false, not_false_eq_true, hget k hk, hio]
      refine (h _ (List.getElem_mem hk)).mono ?_
      rintro _ rfl
      simp only [wipe, restore, List.foldl_cons, List.foldl_nil, List.getD_cons_zero, List.getD_cons_succ, lpI_nx, lpI_ct, lpI_bk, lpI_rt, shaped_int, shaped_bl, shaped_non, deq_ii, deq_bb, Bool.and_self, Bool.and_true, Bool.true_and, Int.cast_ofNat_Int, Nat.reducePow, Nat.reduceLeDiff, Int.zero_add, Int.add_zero, aft_nx, aft_rt, aft_bk, aft_ct, af_nx, af_rt, af_bk, af_ct, decide_eq_true_eq, eval, evals, evalsT, evalsA, evalO, evalC, evalI, dictI, test, op_bind, op_map, op_some, op_none, op_ite, if_false_right, pk, take, pks, binop, cmpop, truth, setIx, rangeOf, big, revOf, store, put, puts, putG, setOwn, ownOf, lstAt, bltF, lenF, lenOf, intF, absF, gcdF, isiF, isTy, listF, tupleF, dictF, mutF, appendF, isBw_0, isBw_s, nb_sh, nb_ow, nb_un, nb_bw, settle, storesR, bindA, back, lent, List.getElem?_cons_zero, List.getElem?_cons_succ, List.set_cons_zero, List.set_cons_succ, List.length_cons, List.length_nil, List.map_cons, List.map_nil, List.append_nil, List.nil_append, List.cons_append, and_self, and_true, true_and, if_true, if_false, ite_true, ite_false, reduceIte, Option.bind_some, Option.map_some, decide_true, decide_false, Bool.not_true, Bool.not_false, Bool.false_eq_true, Option.some.injEq, Nat.reduceLT, Nat.reduceAdd, Nat.zero_add, Nat.add_one_lt_add_one_iff, Nat.lt_add_left_iff_pos, Nat.lt_add_one, Nat.zero_lt_succ, Int.reduceLT, Int.reduceLE, Int.reduceNeg, Int.reducePow, Int.reduceToNat, Int.reduceMul, Int.reduceSub,  Int.reduceAdd, forall_const, ne_eq, not_true_eq_false, not_false_eq_true]
      exact ⟨_, rfl, rfl⟩
    · rintro ⟨r, e⟩ ⟨a2, he⟩
      simp only at he
      subst he
      have hlr := a2.length
      rw [List.length_map, List.length_range] at hlr
      simp only at a2 hlr
      simp only [getIx, L2.atI, L2.ixN, wipe, restore, List.foldl_cons, List.foldl_nil, List.getD_cons_zero, List.getD_cons_succ, lpI_nx, lpI_ct, lpI_bk, lpI_rt, shaped_int, shaped_bl, shaped_non, deq_ii, deq_bb, Bool.and_self, Bool.and_true, Bool.true_and, Int.cast_ofNat_Int, Nat.reducePow, Nat.reduceLeDiff, Int.zero_add, Int.add_zero, aft_nx, aft_rt, aft_bk, aft_ct, af_nx, af_rt, af_bk, af_ct, decide_eq_true_eq, eval, evals, evalsT, evalsA, evalO, evalC, evalI, dictI, test, op_bind, op_map, op_some, op_none, op_ite, if_false_right, pk, take, pks, binop, cmpop, truth, setIx, rangeOf, big, revOf, store, put, puts, putG, setOwn, ownOf, lstAt, bltF, lenF, lenOf, intF, absF, gcdF, isiF, isTy, listF, tupleF, dictF, mutF, appendF, isBw_0, isBw_s, nb_sh, nb_ow, nb_un, nb_bw, settle, storesR, bindA, back, lent, List.getElem?_cons_zero, List.getElem?_cons_succ, List.set_cons_zero, List.set_cons_succ, List.length_cons, List.length_nil, List.map_cons, List.map_nil, List.append_nil, List.nil_append, List.cons_append, and_self, and_true, true_and, if_true, if_false, ite_true, ite_false, reduceIte, Option.bind_some, Option.map_some, decide_true, decide_false, Bool.not_true, Bool.not_false, Bool.false_eq_true, Option.some.injEq, Nat.reduceLT, Nat.reduceAdd, Nat.zero_add, Nat.add_one_lt_add_one_iff, Nat.lt_add_left_iff_pos, Nat.lt_add_one, Nat.zero_lt_succ, Int.reduceLT, Int.reduceLE, Int.reduceNeg, Int.reducePow, Int.reduceToNat, Int.reduceMul, Int.reduceSub,  Int.reduceAdd, forall_const, ne_eq, not_true_eq_false, not_false_eq_true]
      refine ⟨by omega, r, rfl, fun x hx => ?_⟩
      obtain ⟨i, hi, rfl⟩ := List.mem_iff_getElem.mp hx
      exact a2.get i _ _ (List.getElem?_eq_getElem (by rw [List.length_map, List.length_range]; omega)) (List.getElem?_eq_getElem hi)
  have hh : Op (eval cf (.blt .all (.cons (.lc (.cal s (.cons (.idx (.var 0) (.var 3)) (.cons (.idx (.var 1) (.var 3)) .nil))) (.nm 3) (.rng (.cons (.blt .len (.cons (.var 0) .nil)) .nil)) .no [3]) .nil)) [.sh d, .sh d, .un, .un]) fun p => p = (.v (.bl true), [.sh d, .sh d, .un, .un]) := by
    rw [eval, evals]
    simp only [op_bind, op_map]
    refine hx.mono ?_
    rintro _ ⟨r, rfl, hr⟩
    obtain ⟨bs, h1, h2⟩ := dBools_all r hr
    simp only [evals, op_some, pks, pk, op_bind, op_map, bltF, allF, h1, h2]
  have hc : Op (eval cf (.cmp .Eq (.blt .len (.cons (.var 0) .nil)) (.blt .len (.cons (.var 1) .nil))) [.sh d, .sh d, .un, .un]) fun p => p = (.v (.bl true), [.sh d, .sh d, .un, .un]) := by
    rcases hd with rfl | rfl <;> simp only [getIx, L2.atI, L2.ixN, wipe, restore, List.foldl_cons, List.foldl_nil, List.getD_cons_zero, List.getD_cons_succ, lpI_nx, lpI_ct, lpI_bk, lpI_rt, shaped_int, shaped_bl, shaped_non, deq_ii, deq_bb, Bool.and_self, Bool.and_true, Bool.true_and, Int.cast_ofNat_Int, Nat.reducePow, Nat.reduceLeDiff, Int.zero_add, Int.add_zero, aft_nx, aft_rt, aft_bk, aft_ct, af_nx, af_rt, af_bk, af_ct, decide_eq_true_eq, eval, evals, evalsT, evalsA, evalO, evalC, evalI, dictI, test, op_bind, op_map, op_some, op_none, op_ite, if_false_right, pk, take, pks, binop, cmpop, truth, setIx, rangeOf, big, revOf, store, put, puts, putG, setOwn, ownOf, lstAt, bltF, lenF, lenOf, intF, absF, gcdF, isiF, isTy, listF, tupleF, dictF, mutF, appendF, isBw_0, isBw_s, nb_sh, nb_ow, nb_un, nb_bw, settle, storesR, bindA, back, lent, List.getElem?_cons_zero, List.getElem?_cons_succ, List.set_cons_zero, List.set_cons_succ, List.length_cons, List.length_nil, List.map_cons, List.map_nil, List.append_nil, List.nil_append, List.cons_append, and_self, and_true, true_and, if_true, if_false, ite_true, ite_false, reduceIte, Option.bind_some, Option.map_some, decide_true, decide_false, Bool.not_true, Bool.not_false, Bool.false_eq_true, Option.some.injEq, Nat.reduceLT, Nat.reduceAdd, Nat.zero_add, Nat.add_one_lt_add_one_iff, Nat.lt_add_left_iff_pos, Nat.lt_add_one, Nat.zero_lt_succ, Int.reduceLT, Int.reduceLE, Int.reduceNeg, Int.reducePow, Int.reduceToNat, Int.reduceMul, Int.reduceSub,  Int.reduceAdd, forall_const, ne_eq, not_true_eq_false, not_false_eq_true]
  rw [eval, op_bind]
  refine hc.mono ?_
  rintro _ rfl
  simp only [pk, truth, op_bind, op_some, if_true]
  refine hh.mono ?_
  rintro _ rfl
  simp only [outF, outR, outIo, wipe, restore, List.foldl_cons, List.foldl_nil, List.getD_cons_zero, List.getD_cons_succ, lpI_nx, lpI_ct, lpI_bk, lpI_rt, shaped_int, shaped_bl, shaped_non, deq_ii, deq_bb, Bool.and_self, Bool.and_true, Bool.true_and, Int.cast_ofNat_Int, Nat.reducePow, Nat.reduceLeDiff, Int.zero_add, Int.add_zero, aft_nx, aft_rt, aft_bk, aft_ct, af_nx, af_rt, af_bk, af_ct, decide_eq_true_eq, eval, evals, evalsT, evalsA, evalO, evalC, evalI, dictI, test, op_bind, op_map, op_some, op_none, op_ite, if_false_right, pk, take, pks, binop, cmpop, truth, setIx, rangeOf, big, revOf, store, put, puts, putG, setOwn, ownOf, lstAt, bltF, lenF, lenOf, intF, absF, gcdF, isiF, isTy, listF, tupleF, dictF, mutF, appendF, isBw_0, isBw_s, nb_sh, nb_ow, nb_un, nb_bw, settle, storesR, bindA, back, lent, List.getElem?_cons_zero, List.getElem?_cons_succ, List.set_cons_zero, List.set_cons_succ, List.length_cons, List.length_nil, List.map_cons, List.map_nil, List.append_nil, List.nil_append, List.cons_append, and_self, and_true, true_and, if_true, if_false, ite_true, ite_false, reduceIte, Option.bind_some, Option.map_some, decide_true, decide_false, Bool.not_true, Bool.not_false, Bool.false_eq_true, Option.some.injEq, Nat.reduceLT, Nat.reduceAdd, Nat.zero_add, Nat.add_one_lt_add_one_iff, Nat.lt_add_left_iff_pos, Nat.lt_add_one, Nat.zero_lt_succ, Int.reduceLT, Int.reduceLE, Int.reduceNeg, Int.reducePow, Int.reduceToNat, Int.reduceMul, Int.reduceSub,  Int.reduceAdd, forall_const, ne_eq, not_true_eq_false, not_false_eq_true]
theorem sameA_atom {cf : Cf} {s : Nat} {d : D} (h : (d = .non ∨ (∃ b, d = .bl b)) ∨ (∃ i, d = .int i) ∨ ∃ x, d = .str x ∧ PySem.PyData.strOk x = true) : Op (runFn cf (h_sameA s) [.sh d, .sh d]) IsTrue := by
  rw [wp_run rfl rfl]
  show Wp cf (h_sameA s).body [.sh d, .sh d, .un, .un] _
  unfold h_sameA
  refine wp_if False (by rcases h with (rfl | ⟨b, rfl⟩) | ⟨i, rfl⟩ | ⟨x, rfl, hx⟩ <;> simp only [getIx, L2.atI, L2.ixN, wipe, restore, List.foldl_cons, List.foldl_nil, List.getD_cons_zero, List.getD_cons_succ, lpI_nx, lpI_ct, lpI_bk, lpI_rt, shaped_int, shaped_bl, shaped_non, deq_ii, deq_bb, Bool.and_self, Bool.and_true, Bool.true_and, Int.cast_ofNat_Int, Nat.reducePow, Nat.reduceLeDiff, Int.zero_add, Int.add_zero, aft_nx, aft_rt, aft_bk, aft_ct, af_nx, af_rt, af_bk, af_ct, decide_eq_true_eq, eval, evals, evalsT, evalsA, evalO, evalC, evalI, dictI, test, op_bind, op_map, op_some, op_none, op_ite, if_false_right, pk, take, pks, binop, cmpop, truth, setIx, rangeOf, big, revOf, store, put, puts, putG, setOwn, ownOf, lstAt, bltF, lenF, lenOf, intF, absF, gcdF, isiF, isTy, listF, tupleF, dictF, mutF, appendF, isBw_0, isBw_s, nb_sh, nb_ow, nb_un, nb_bw, settle, storesR, bindA, back, lent, List.getElem?_cons_zero, List.getElem?_cons_succ, List.set_cons_zero, List.set_cons_succ, List.length_cons, List.length_nil, List.map_cons, List.map_nil, List.append_nil, List.nil_append, List.cons_append, and_self, and_true, true_and, if_true, if_false, ite_true, ite_false, reduceIte, Option.bind_some, Option.map_some, decide_true, decide_false, Bool.not_true, Bool.not_false, Bool.false_eq_true, Option.some.injEq, Nat.reduceLT, Nat.reduceAdd, Nat.zero_add, Nat.add_one_lt_add_one_iff, Nat.lt_add_left_iff_pos, Nat.lt_add_one, Nat.zero_lt_succ, Int.reduceLT, Int.reduceLE, Int.reduceNeg, Int.reducePow, Int.reduceToNat, Int.reduceMul, Int.reduceSub,  Int.reduceAdd, forall_const, ne_eq, not_true_eq_false, not_false_eq_true]) (fun h => h.elim) (fun _ => ?_)
  simp only [wp_nil, aft_nx]
  refine wp_if False (by rcases h with (rfl | ⟨b, rfl⟩) | ⟨i, rfl⟩ | ⟨x, rfl, hx⟩ <;> simp only [getIx, L2.atI, L2.ixN, wipe, restore, List.foldl_cons, List.foldl_nil, List.getD_cons_zero, List.getD_cons_succ, lpI_nx, lpI_ct, lpI_bk, lpI_rt, shaped_int, shaped_bl, shaped_non, deq_ii, deq_bb, Bool.and_self, Bool.and_true, Bool.true_and, Int.cast_ofNat_Int, Nat.reducePow, Nat.reduceLeDiff, Int.zero_add, Int.add_zero, aft_nx, aft_rt, aft_bk, aft_ct, af_nx, af_rt, af_bk, af_ct, decide_eq_true_eq, eval, evals, evalsT, evalsA, evalO, evalC, evalI, dictI, test, op_bind, op_map, op_some, op_none, op_ite, if_false_right, pk, take, pks, binop, cmpop, truth, setIx, rangeOf, big, revOf, store, put, puts, putG, setOwn, ownOf, lstAt, bltF, lenF, lenOf, intF, absF, gcdF, isiF, isTy, listF, tupleF, dictF, mutF, appendF, isBw_0, isBw_s, nb_sh, nb_ow, nb_un, nb_bw, settle, storesR, bindA, back, lent, List.getElem?_cons_zero, List.getElem?_cons_succ, List.set_cons_zero, List.set_cons_succ, List.length_cons, List.length_nil, List.map_cons, List.map_nil, List.append_nil, List.nil_append, List.cons_append, and_self, and_true, true_and, if_true, if_false, ite_true, ite_false, reduceIte, Option.bind_some, Option.map_some, decide_true, decide_false, Bool.not_true, Bool.not_false, Bool.false_eq_true, Option.some.injEq, Nat.reduceLT, Nat.reduceAdd, Nat.zero_add, Nat.add_one_lt_add_one_iff, Nat.lt_add_left_iff_pos, Nat.lt_add_one, Nat.zero_lt_succ, Int.reduceLT, Int.reduceLE, Int.reduceNeg, Int.reducePow, Int.reduceToNat, Int.reduceMul, Int.reduceSub,  Int.reduceAdd, forall_const, ne_eq, not_true_eq_false, not_false_eq_true]) (fun h => h.elim) (fun _ => ?_)
  simp only [wp_nil, aft_nx]
  rcases h with (rfl | ⟨b, rfl⟩) | h
  · refine wp_if True (by simp only [getIx, L2.atI, L2.ixN, wipe, restore, List.foldl_cons, List.foldl_nil, List.getD_cons_zero, List.getD_cons_succ, lpI_nx, lpI_ct, lpI_bk, lpI_rt, shaped_int, shaped_bl, shaped_non, deq_ii, deq_bb, Bool.and_self, Bool.and_true, Bool.true_and, Int.cast_ofNat_Int, Nat.reducePow, Nat.reduceLeDiff, Int.zero_add, Int.add_zero, aft_nx, aft_rt, aft_bk, aft_ct, af_nx, af_rt, af_bk, af_ct, decide_eq_true_eq, eval, evals, evalsT, evalsA, evalO, evalC, evalI, dictI, test, op_bind, op_map, op_some, op_none, op_ite, if_false_right, pk, take, pks, binop, cmpop, truth, setIx, rangeOf, big, revOf, store, put, puts, putG, setOwn, ownOf, lstAt, bltF, lenF, lenOf, intF, absF, gcdF, isiF, isTy, listF, tupleF, dictF, mutF, appendF, isBw_0, isBw_s, nb_sh, nb_ow, nb_un, nb_bw, settle, storesR, bindA, back, lent, List.getElem?_cons_zero, List.getElem?_cons_succ, List.set_cons_zero, List.set_cons_succ, List.length_cons, List.length_nil, List.map_cons, List.map_nil, List.append_nil, List.nil_append, List.cons_append, and_self, and_true, true_and, if_true, if_false, ite_true, ite_false, reduceIte, Option.bind_some, Option.map_some, decide_true, decide_false, Bool.not_true, Bool.not_false, Bool.false_eq_true, Option.some.injEq, Nat.reduceLT, Nat.reduceAdd, Nat.zero_add, Nat.add_one_lt_add_one_iff, Nat.lt_add_left_iff_pos, Nat.lt_add_one, Nat.zero_lt_succ, Int.reduceLT, Int.reduceLE, Int.reduceNeg, Int.reducePow, Int.reduceToNat, Int.reduceMul, Int.reduceSub,  Int.reduceAdd, forall_const, ne_eq, not_true_eq_false, not_false_eq_true]) (fun _ => ?_) (fun h => (h trivial).elim)
    simp only [wp_set, wp_unp, wp_par, wp_sti, wp_exp, wp_ret, wp_retN, wp_brk, wp_cnt, wp_pas, wp_nil, wp_nil, getIx, L2.atI, L2.ixN, wipe, restore, List.foldl_cons, List.foldl_nil, List.getD_cons_zero, List.getD_cons_succ, lpI_nx, lpI_ct, lpI_bk, lpI_rt, shaped_int, shaped_bl, shaped_non, deq_ii, deq_bb, Bool.and_self, Bool.and_true, Bool.true_and, Int.cast_ofNat_Int, Nat.reducePow, Nat.reduceLeDiff, Int.zero_add, Int.add_zero, aft_nx, aft_rt, aft_bk, aft_ct, af_nx, af_rt, af_bk, af_ct, decide_eq_true_eq, eval, evals, evalsT, evalsA, evalO, evalC, evalI, dictI, test, op_bind, op_map, op_some, op_none, op_ite, if_false_right, pk, take, pks, binop, cmpop, truth, setIx, rangeOf, big, revOf, store, put, puts, putG, setOwn, ownOf, lstAt, bltF, lenF, lenOf, intF, absF, gcdF, isiF, isTy, listF, tupleF, dictF, mutF, appendF, isBw_0, isBw_s, nb_sh, nb_ow, nb_un, nb_bw, settle, storesR, bindA, back, lent, List.getElem?_cons_zero, List.getElem?_cons_succ, List.set_cons_zero, List.set_cons_succ, List.length_cons, List.length_nil, List.map_cons, List.map_nil, List.append_nil, List.nil_append, List.cons_append, and_self, and_true, true_and, if_true, if_false, ite_true, ite_false, reduceIte, Option.bind_some, Option.map_some, decide_true, decide_false, Bool.not_true, Bool.not_false, Bool.false_eq_true, Option.some.injEq, Nat.reduceLT, Nat.reduceAdd, Nat.zero_add, Nat.add_one_lt_add_one_iff, Nat.lt_add_left_iff_pos, Nat.lt_add_one, Nat.zero_lt_succ, Int.reduceLT, Int.reduceLE, Int.reduceNeg, Int.reducePow, Int.reduceToNat, Int.reduceMul, Int.reduceSub,  Int.reduceAdd, forall_const, ne_eq, not_true_eq_false, not_false_eq_true, outF, outR, outIo, wipe, restore, List.foldl_cons, List.foldl_nil, List.getD_cons_zero, List.getD_cons_succ, lpI_nx, lpI_ct, lpI_bk, lpI_rt, shaped_int, shaped_bl, shaped_non, deq_ii, deq_bb, Bool.and_self, Bool.and_true, Bool.true_and, Int.cast_ofNat_Int, Nat.reducePow, Nat.reduceLeDiff, Int.zero_add, Int.add_zero, aft_nx, aft_rt, aft_bk, aft_ct, af_nx, af_rt, af_bk, af_ct, decide_eq_true_eq, eval, evals, evalsT, evalsA, evalO, evalC, evalI, dictI, test, op_bind, op_map, op_some, op_none, op_ite, if_false_right, pk, take, pks, binop, cmpop, truth, setIx, rangeOf, big, revOf, store, put, puts, putG, setOwn, ownOf, lstAt, bltF, lenF, lenOf, intF, absF, gcdF, isiF, isTy, listF, tupleF, dictF, mutF, appendF, isBw_0, isBw_s, nb_sh, nb_ow, nb_un, nb_bw, settle, storesR, bindA, back, lent, List.getElem?_cons_zero, List.getElem?_cons_succ, List.set_cons_zero, List.set_cons_succ, List.length_cons, List.length_nil, List.map_cons, List.map_nil, List.append_nil, List.nil_append, List.cons_append, and_self, and_true, true_and, if_true, if_false, ite_true, ite_false, reduceIte, Option.bind_some, Option.map_some, decide_true, decide_false, Bool.not_true, Bool.not_false, Bool.false_eq_true, Option.some.injEq, Nat.reduceLT, Nat.reduceAdd, Nat.zero_add, Nat.add_one_lt_add_one_iff, Nat.lt_add_left_iff_pos, Nat.lt_add_one, Nat.zero_lt_succ, Int.reduceLT, Int.reduceLE, Int.reduceNeg, Int.reducePow, Int.reduceToNat, Int.reduceMul, Int.reduceSub,  Int.reduceAdd, forall_const, ne_eq, not_true_eq_false, not_false_eq_true]
  · refine wp_if False (by simp only [getIx, L2.atI, L2.ixN, wipe, restore, List.foldl_cons, List.foldl_nil, List.getD_cons_zero, List.getD_cons_succ, lpI_nx, lpI_ct, lpI_bk, lpI_rt, shaped_int, shaped_bl, shaped_non, deq_ii, deq_bb, Bool.and_self, Bool.and_true, Bool.true_and, Int.cast_ofNat_Int, Nat.reducePow, Nat.reduceLeDiff, Int.zero_add, Int.add_zero, aft_nx, aft_rt, aft_bk, aft_ct, af_nx, af_rt, af_bk, af_ct, decide_eq_true_eq, eval, evals, evalsT, evalsA, evalO, evalC, evalI, dictI, test, op_bind, op_map, op_some, op_none, op_ite, if_false_right, pk, take, pks, binop, cmpop, truth, setIx, rangeOf, big, revOf, store, put, puts, putG, setOwn, ownOf, lstAt, bltF, lenF, lenOf, intF, absF, gcdF, isiF, isTy, listF, tupleF, dictF, mutF, appendF, isBw_0, isBw_s, nb_sh, nb_ow, nb_un, nb_bw, settle, storesR, bindA, back, lent, List.getElem?_cons_zero, List.getElem?_cons_succ, List.set_cons_zero, List.set_cons_succ, List.length_cons, List.length_nil, List.map_cons, List.map_nil, List.append_nil, List.nil_append, List.cons_append, and_self, and_true, true_and, if_true, if_false, ite_true, ite_false, reduceIte, Option.bind_some, Option.map_some, decide_true, decide_false, Bool.not_true, Bool.not_false, Bool.false_eq_true, Option.some.injEq, Nat.reduceLT, Nat.reduceAdd, Nat.zero_add, Nat.add_one_lt_add_one_iff, Nat.lt_add_left_iff_pos, Nat.lt_add_one, Nat.zero_lt_succ, Int.reduceLT, Int.reduceLE, Int.reduceNeg, Int.reducePow, Int.reduceToNat, Int.reduceMul, Int.reduceSub,  Int.reduceAdd, forall_const, ne_eq, not_true_eq_false, not_false_eq_true]) (fun h => h.elim) (fun _ => ?_)
    simp only [wp_nil, aft_nx]
    refine wp_if True (by simp only [getIx, L2.atI, L2.ixN, wipe, restore, List.foldl_cons, List.foldl_nil, List.getD_cons_zero, List.getD_cons_succ, lpI_nx, lpI_ct, lpI_bk, lpI_rt, shaped_int, shaped_bl, shaped_non, deq_ii, deq_bb, Bool.and_self, Bool.and_true, Bool.true_and, Int.cast_ofNat_Int, Nat.reducePow, Nat.reduceLeDiff, Int.zero_add, Int.add_zero, aft_nx, aft_rt, aft_bk, aft_ct, af_nx, af_rt, af_bk, af_ct, decide_eq_true_eq, eval, evals, evalsT, evalsA, evalO, evalC, evalI, dictI, test, op_bind, op_map, op_some, op_none, op_ite, if_false_right, pk, take, pks, binop, cmpop, truth, setIx, rangeOf, big, revOf, store, put, puts, putG, setOwn, ownOf, lstAt, bltF, lenF, lenOf, intF, absF, gcdF, isiF, isTy, listF, tupleF, dictF, mutF, appendF, isBw_0, isBw_s, nb_sh, nb_ow, nb_un, nb_bw, settle, storesR, bindA, back, lent, List.getElem?_cons_zero, List.getElem?_cons_succ, List.set_cons_zero, List.set_cons_succ, List.length_cons, List.length_nil, List.map_cons, List.map_nil, List.append_nil, List.nil_append, List.cons_append, and_self, and_true, true_and, if_true, if_false, ite_true, ite_false, reduceIte, Option.bind_some, Option.map_some, decide_true, decide_false, Bool.not_true, Bool.not_false, Bool.false_eq_true, Option.some.injEq, Nat.reduceLT, Nat.reduceAdd, Nat.zero_add, Nat.add_one_lt_add_one_iff, Nat.lt_add_left_iff_pos, Nat.lt_add_one, Nat.zero_lt_succ, Int.reduceLT, Int.reduceLE, Int.reduceNeg, Int.reducePow, Int.reduceToNat, Int.reduceMul, Int.reduceSub,  Int.reduceAdd, forall_const, ne_eq, not_true_eq_false, not_false_eq_true]) (fun _ => ?_) (fun h => (h trivial).elim)
    simp only [wp_set, wp_unp, wp_par, wp_sti, wp_exp, wp_ret, wp_retN, wp_brk, wp_cnt, wp_pas, wp_nil, wp_nil, getIx, L2.atI, L2.ixN, wipe, restore, List.foldl_cons, List.foldl_nil, List.getD_cons_zero, List.getD_cons_succ, lpI_nx, lpI_ct, lpI_bk, lpI_rt, shaped_int, shaped_bl, shaped_non, deq_ii, deq_bb, Bool.and_self, Bool.and_true, Bool.true_and, Int.cast_ofNat_Int, Nat.reducePow, Nat.reduceLeDiff, Int.zero_add, Int.add_zero, aft_nx, aft_rt, aft_bk, aft_ct, af_nx, af_rt, af_bk, af_ct, decide_eq_true_eq, eval, evals, evalsT, evalsA, evalO, evalC, evalI, dictI, test, op_bind, op_map, op_some, op_none, op_ite, if_false_right, pk, take, pks, binop, cmpop, truth, setIx, rangeOf, big, revOf, store, put, puts, putG, setOwn, ownOf, lstAt, bltF, lenF, lenOf, intF, absF, gcdF, isiF, isTy, listF, tupleF, dictF, mutF, appendF, isBw_0, isBw_s, nb_sh, nb_ow, nb_un, nb_bw, settle, storesR, bindA, back, lent, List.getElem?_cons_zero, List.getElem?_cons_succ, List.set_cons_zero, List.set_cons_succ, List.length_cons, List.length_nil, List.map_cons, List.map_nil, List.append_nil, List.nil_append, List.cons_append, and_self, and_true, true_and, if_true, if_false, ite_true, ite_false, reduceIte, Option.bind_some, Option.map_some, decide_true, decide_false, Bool.not_true, Bool.not_false, Bool.false_eq_true, Option.some.injEq, Nat.reduceLT, Nat.reduceAdd, Nat.zero_add, Nat.add_one_lt_add_one_iff, Nat.lt_add_left_iff_pos, Nat.lt_add_one, Nat.zero_lt_succ, Int.reduceLT, Int.reduceLE, Int.reduceNeg, Int.reducePow, Int.reduceToNat, Int.reduceMul, Int.reduceSub,  Int.reduceAdd, forall_const, ne_eq, not_true_eq_false, not_false_eq_true, outF, outR, outIo, wipe, restore, List.foldl_cons, List.foldl_nil, List.getD_cons_zero, List.getD_cons_succ, lpI_nx, lpI_ct, lpI_bk, lpI_rt, shaped_int, shaped_bl, shaped_non, deq_ii, deq_bb, Bool.and_self, Bool.and_true, Bool.true_and, Int.cast_ofNat_Int, Nat.reducePow, Nat.reduceLeDiff, Int.zero_add, Int.add_zero, aft_nx, aft_rt, aft_bk, aft_ct, af_nx, af_rt, af_bk, af_ct, decide_eq_true_eq, eval, evals, evalsT, evalsA, evalO, evalC, evalI, dictI, test, op_bind, op_map, op_some, op_none, op_ite, if_false_right, pk, take, pks, binop, cmpop, truth, setIx, rangeOf, big, revOf, store, put, puts, putG, setOwn, ownOf, lstAt, bltF, lenF, lenOf, intF, absF, gcdF, isiF, isTy, listF, tupleF, dictF, mutF, appendF, isBw_0, isBw_s, nb_sh, nb_ow, nb_un, nb_bw, settle, storesR, bindA, back, lent, List.getElem?_cons_zero, List.getElem?_cons_succ, List.set_cons_zero, List.set_cons_succ, List.length_cons, List.length_nil, List.map_cons, List.map_nil, List.append_nil, List.nil_append, List.cons_append, and_self, and_true, true_and, if_true, if_false, ite_true, ite_false, reduceIte, Option.bind_some, Option.map_some, decide_true, decide_false, Bool.not_true, Bool.not_false, Bool.false_eq_true, Option.some.injEq, Nat.reduceLT, Nat.reduceAdd, Nat.zero_add, Nat.add_one_lt_add_one_iff, Nat.lt_add_left_iff_pos, Nat.lt_add_one, Nat.zero_lt_succ, Int.reduceLT, Int.reduceLE, Int.reduceNeg, Int.reducePow, Int.reduceToNat, Int.reduceMul, Int.reduceSub,  Int.reduceAdd, forall_const, ne_eq, not_true_eq_false, not_false_eq_true, beq_self_eq_true]
  · refine wp_if False (by rcases h with ⟨i, rfl⟩ | ⟨x, rfl, hx⟩ <;> simp only [getIx, L2.atI, L2.ixN, wipe, restore, List.foldl_cons, List.foldl_nil, List.getD_cons_zero, List.getD_cons_succ, lpI_nx, lpI_ct, lpI_bk, lpI_rt, shaped_int, shaped_bl, shaped_non, deq_ii, deq_bb, Bool.and_self, Bool.and_true, Bool.true_and, Int.cast_ofNat_Int, Nat.reducePow, Nat.reduceLeDiff, Int.zero_add, Int.add_zero, aft_nx, aft_rt, aft_bk, aft_ct, af_nx, af_rt, af_bk, af_ct, decide_eq_true_eq, eval, evals, evalsT, evalsA, evalO, evalC, evalI, dictI, test, op_bind, op_map, op_some, op_none, op_ite, if_false_right, pk, take, pks, binop, cmpop, truth, setIx, rangeOf, big, revOf, store, put, puts, putG, setOwn, ownOf, lstAt, bltF, lenF, lenOf, intF, absF, gcdF, isiF, isTy, listF, tupleF, dictF, mutF, appendF, isBw_0, isBw_s, nb_sh, nb_ow, nb_un, nb_bw, settle, storesR, bindA, back, lent, List.getElem?_cons_zero, List.getElem?_cons_succ, List.set_cons_zero, List.set_cons_succ, List.length_cons, List.length_nil, List.map_cons, List.map_nil, List.append_nil, List.nil_append, List.cons_append, and_self, and_true, true_and, if_true, if_false, ite_true, ite_false, reduceIte, Option.bind_some, Option.map_some, decide_true, decide_false, Bool.not_true, Bool.not_false, Bool.false_eq_true, Option.some.injEq, Nat.reduceLT, Nat.reduceAdd, Nat.zero_add, Nat.add_one_lt_add_one_iff, Nat.lt_add_left_iff_pos, Nat.lt_add_one, Nat.zero_lt_succ, Int.reduceLT, Int.reduceLE, Int.reduceNeg, Int.reducePow, Int.reduceToNat, Int.reduceMul, Int.reduceSub,  Int.reduceAdd, forall_const, ne_eq, not_true_eq_false, not_false_eq_true]) (fun h => h.elim) (fun _ => ?_)
    simp only [wp_nil, aft_nx]
    refine wp_if False (by rcases h with ⟨i, rfl⟩ | ⟨x, rfl, hx⟩ <;> simp only [getIx, L2.atI, L2.ixN, wipe, restore, List.foldl_cons, List.foldl_nil, List.getD_cons_zero, List.getD_cons_succ, lpI_nx, lpI_ct, lpI_bk, lpI_rt, shaped_int, shaped_bl, shaped_non, deq_ii, deq_bb, Bool.and_self, Bool.and_true, Bool.true_and, Int.cast_ofNat_Int, Nat.reducePow, Nat.reduceLeDiff, Int.zero_add, Int.add_zero, aft_nx, aft_rt, aft_bk, aft_ct, af_nx, af_rt, af_bk, af_ct, decide_eq_true_eq, eval, evals, evalsT, evalsA, evalO, evalC, evalI, dictI, test, op_bind, op_map, op_some, op_none, op_ite, if_false_right, pk, take, pks, binop, cmpop, truth, setIx, rangeOf, big, revOf, store, put, puts, putG, setOwn, ownOf, lstAt, bltF, lenF, lenOf, intF, absF, gcdF, isiF, isTy, listF, tupleF, dictF, mutF, appendF, isBw_0, isBw_s, nb_sh, nb_ow, nb_un, nb_bw, settle, storesR, bindA, back, lent, List.getElem?_cons_zero, List.getElem?_cons_succ, List.set_cons_zero, List.set_cons_succ, List.length_cons, List.length_nil, List.map_cons, List.map_nil, List.append_nil, List.nil_append, List.cons_append, and_self, and_true, true_and, if_true, if_false, ite_true, ite_false, reduceIte, Option.bind_some, Option.map_some, decide_true, decide_false, Bool.not_true, Bool.not_false, Bool.false_eq_true, Option.some.injEq, Nat.reduceLT, Nat.reduceAdd, Nat.zero_add, Nat.add_one_lt_add_one_iff, Nat.lt_add_left_iff_pos, Nat.lt_add_one, Nat.zero_lt_succ, Int.reduceLT, Int.reduceLE, Int.reduceNeg, Int.reducePow, Int.reduceToNat, Int.reduceMul, Int.reduceSub,  Int.reduceAdd, forall_const, ne_eq, not_true_eq_false, not_false_eq_true]) (fun h => h.elim) (fun _ => ?_)
    simp only [wp_nil, aft_nx]
    rcases h with ⟨i, rfl⟩ | ⟨x, rfl, hx⟩
    · refine wp_if False (by simp only [getIx, L2.atI, L2.ixN, wipe, restore, List.foldl_cons, List.foldl_nil, List.getD_cons_zero, List.getD_cons_succ, lpI_nx, lpI_ct, lpI_bk, lpI_rt, shaped_int, shaped_bl, shaped_non, deq_ii, deq_bb, Bool.and_self, Bool.and_true, Bool.true_and, Int.cast_ofNat_Int, Nat.reducePow, Nat.reduceLeDiff, Int.zero_add, Int.add_zero, aft_nx, aft_rt, aft_bk, aft_ct, af_nx, af_rt, af_bk, af_ct, decide_eq_true_eq, eval, evals, evalsT, evalsA, evalO, evalC, evalI, dictI, test, op_bind, op_map, op_some, op_none, op_ite, if_false_right, pk, take, pks, binop, cmpop, truth, setIx, rangeOf, big, revOf, store, put, puts, putG, setOwn, ownOf, lstAt, bltF, lenF, lenOf, intF, absF, gcdF, isiF, isTy, listF, tupleF, dictF, mutF, appendF, isBw_0, isBw_s, nb_sh, nb_ow, nb_un, nb_bw, settle, storesR, bindA, back, lent, List.getElem?_cons_zero, List.getElem?_cons_succ, List.set_cons_zero, List.set_cons_succ, List.length_cons, List.length_nil, List.map_cons, List.map_nil, List.append_nil, List.nil_append, List.cons_append, and_self, and_true, true_and, if_true, if_false, ite_true, ite_false, reduceIte, Option.bind_some, Option.map_some, decide_true, decide_false, Bool.not_true, Bool.not_false, Bool.false_eq_true, Option.some.injEq, Nat.reduceLT, Nat.reduceAdd, Nat.zero_add, Nat.add_one_lt_add_one_iff, Nat.lt_add_left_iff_pos, Nat.lt_add_one, Nat.zero_lt_succ, Int.reduceLT, Int.reduceLE, Int.reduceNeg, Int.reducePow, Int.reduceToNat, Int.reduceMul, Int.reduceSub,  Int.reduceAdd, forall_const, ne_eq, not_true_eq_false, not_false_eq_true]) (fun h => h.elim) (fun _ => ?_)
      simp only [wp_set, wp_unp, wp_par, wp_sti, wp_exp, wp_ret, wp_retN, wp_brk, wp_cnt, wp_pas, wp_nil, wp_nil, getIx, L2.atI, L2.ixN, wipe, restore, List.foldl_cons, List.foldl_nil, List.getD_cons_zero, List.getD_cons_succ, lpI_nx, lpI_ct, lpI_bk, lpI_rt, shaped_int, shaped_bl, shaped_non, deq_ii, deq_bb, Bool.and_self, Bool.and_true, Bool.true_and, Int.cast_ofNat_Int, Nat.reducePow, Nat.reduceLeDiff, Int.zero_add, Int.add_zero, aft_nx, aft_rt, aft_bk, aft_ct, af_nx, af_rt, af_bk, af_ct, decide_eq_true_eq, eval, evals, evalsT, evalsA, evalO, evalC, evalI, dictI, test, op_bind, op_map, op_some, op_none, op_ite, if_false_right, pk, take, pks, binop, cmpop, truth, setIx, rangeOf, big, revOf, store, put, puts, putG, setOwn, ownOf, lstAt, bltF, lenF, lenOf, intF, absF, gcdF, isiF, isTy, listF, tupleF, dictF, mutF, appendF, isBw_0, isBw_s, nb_sh, nb_ow, nb_un, nb_bw, settle, storesR, bindA, back, lent, List.getElem?_cons_zero, List.getElem?_cons_succ, List.set_cons_zero, List.set_cons_succ, List.length_cons, List.length_nil, List.map_cons, List.map_nil, List.append_nil, List.nil_append, List.cons_append, and_self, and_true, true_and, if_true, if_false, ite_true, ite_false, reduceIte, Option.bind_some, Option.map_some, decide_true, decide_false, Bool.not_true, Bool.not_false, Bool.false_eq_true, Option.some.injEq, Nat.reduceLT, Nat.reduceAdd, Nat.zero_add, Nat.add_one_lt_add_one_iff, Nat.lt_add_left_iff_pos, Nat.lt_add_one, Nat.zero_lt_succ, Int.reduceLT, Int.reduceLE, Int.reduceNeg, Int.reducePow, Int.reduceToNat, Int.reduceMul, Int.reduceSub,  Int.reduceAdd, forall_const, ne_eq, not_true_eq_false, not_false_eq_true, outF, outR, outIo, wipe, restore, List.foldl_cons, List.foldl_nil, List.getD_cons_zero, List.getD_cons_succ, lpI_nx, lpI_ct, lpI_bk, lpI_rt, shaped_int, shaped_bl, shaped_non, deq_ii, deq_bb, Bool.and_self, Bool.and_true, Bool.true_and, Int.cast_ofNat_Int, Nat.reducePow, Nat.reduceLeDiff, Int.zero_add, Int.add_zero, aft_nx, aft_rt, aft_bk, aft_ct, af_nx, af_rt, af_bk, af_ct, decide_eq_true_eq, eval, evals, evalsT, evalsA, evalO, evalC, evalI, dictI, test, op_bind, op_map, op_some, op_none, op_ite, if_false_right, pk, take, pks, binop, cmpop, truth, setIx, rangeOf, big, revOf, store, put, puts, putG, setOwn, ownOf, lstAt, bltF, lenF, lenOf, intF, absF, gcdF, isiF, isTy, listF, tupleF, dictF, mutF, appendF, isBw_0, isBw_s, nb_sh, nb_ow, nb_un, nb_bw, settle, storesR, bindA, back, lent, List.getElem?_cons_zero, List.getElem?_cons_succ, List.set_cons_zero, List.set_cons_succ, List.length_cons, List.length_nil, List.map_cons, List.map_nil, List.append_nil, List.nil_append, List.cons_append, and_self, and_true, true_and, if_true, if_false, ite_true, ite_false, reduceIte, Option.bind_some, Option.map_some, decide_true, decide_false, Bool.not_true, Bool.not_false, Bool.false_eq_true, Option.some.injEq, Nat.reduceLT, Nat.reduceAdd, Nat.zero_add, Nat.add_one_lt_add_one_iff, Nat.lt_add_left_iff_pos, Nat.lt_add_one, Nat.zero_lt_succ, Int.reduceLT, Int.reduceLE, Int.reduceNeg, Int.reducePow, Int.reduceToNat, Int.reduceMul, Int.reduceSub,  Int.reduceAdd, forall_const, ne_eq, not_true_eq_false, not_false_eq_true]
    · have hs : shaped (.str x) = true := shaped_of hx (Nat.zero_le _)
      refine wp_if True (by simp only [getIx, L2.atI, L2.ixN, wipe, restore, List.foldl_cons, List.foldl_nil, List.getD_cons_zero, List.getD_cons_succ, lpI_nx, lpI_ct, lpI_bk, lpI_rt, shaped_int, shaped_bl, shaped_non, deq_ii, deq_bb, Bool.and_self, Bool.and_true, Bool.true_and, Int.cast_ofNat_Int, Nat.reducePow, Nat.reduceLeDiff, Int.zero_add, Int.add_zero, aft_nx, aft_rt, aft_bk, aft_ct, af_nx, af_rt, af_bk, af_ct, decide_eq_true_eq, eval, evals, evalsT, evalsA, evalO, evalC, evalI, dictI, test, op_bind, op_map, op_some, op_none, op_ite, if_false_right, pk, take, pks, binop, cmpop, truth, setIx, rangeOf, big, revOf, store, put, puts, putG, setOwn, ownOf, lstAt, bltF, lenF, lenOf, intF, absF, gcdF, isiF, isTy, listF, tupleF, dictF, mutF, appendF, isBw_0, isBw_s, nb_sh, nb_ow, nb_un, nb_bw, settle, storesR, bindA, back, lent, List.getElem?_cons_zero, List.getElem?_cons_succ, List.set_cons_zero, List.set_cons_succ, List.length_cons, List.length_nil, List.map_cons, List.map_nil, List.append_nil, List.nil_append, List.cons_append, and_self, and_true, true_and, if_true, if_false, ite_true, ite_false, reduceIte, Option.bind_some, Option.map_some, decide_true, decide_false, Bool.not_true, Bool.not_false, Bool.false_eq_true, Option.some.injEq, Nat.reduceLT, Nat.reduceAdd, Nat.zero_add, Nat.add_one_lt_add_one_iff, Nat.lt_add_left_iff_pos, Nat.lt_add_one, Nat.zero_lt_succ, Int.reduceLT, Int.reduceLE, Int.reduceNeg, Int.reducePow, Int.reduceToNat, Int.reduceMul, Int.reduceSub,  Int.reduceAdd, forall_const, ne_eq, not_true_eq_false, not_false_eq_true]) (fun _ => ?_) (fun h => (h trivial).elim)
      simp only [wp_set, wp_unp, wp_par, wp_sti, wp_exp, wp_ret, wp_retN, wp_brk, wp_cnt, wp_pas, wp_nil, wp_nil, getIx, L2.atI, L2.ixN, wipe, restore, List.foldl_cons, List.foldl_nil, List.getD_cons_zero, List.getD_cons_succ, lpI_nx, lpI_ct, lpI_bk, lpI_rt, shaped_int, shaped_bl, shaped_non, deq_ii, deq_bb, Bool.and_self, Bool.and_true, Bool.true_and, Int.cast_ofNat_Int, Nat.reducePow, Nat.reduceLeDiff, Int.zero_add, Int.add_zero, aft_nx, aft_rt, aft_bk, aft_ct, af_nx, af_rt, af_bk, af_ct, decide_eq_true_eq, eval, evals, evalsT, evalsA, evalO, evalC, evalI, dictI, test, op_bind, op_map, op_some, op_none, op_ite, if_false_right, pk, take, pks, binop, cmpop, truth, setIx, rangeOf, big, revOf, store, put, puts, putG, setOwn, ownOf, lstAt, bltF, lenF, lenOf, intF, absF, gcdF, isiF, isTy, listF, tupleF, dictF, mutF, appendF, isBw_0, isBw_s, nb_sh, nb_ow, nb_un, nb_bw, settle, storesR, bindA, back, lent, List.getElem?_cons_zero, List.getElem?_cons_succ, List.set_cons_zero, List.set_cons_succ, List.length_cons, List.length_nil, List.map_cons, List.map_nil, List.append_nil, List.nil_append, List.cons_append, and_self, and_true, true_and, if_true, if_false, ite_true, ite_false, reduceIte, Option.bind_some, Option.map_some, decide_true, decide_false, Bool.not_true, Bool.not_false, Bool.false_eq_true, Option.some.injEq, Nat.reduceLT, Nat.reduceAdd, Nat.zero_add, Nat.add_one_lt_add_one_iff, Nat.lt_add_left_iff_pos, Nat.lt_add_one, Nat.zero_lt_succ, Int.reduceLT, Int.reduceLE, Int.reduceNeg, Int.reducePow, Int.reduceToNat, Int.reduceMul, Int.reduceSub,  Int.reduceAdd, forall_const, ne_eq, not_true_eq_false, not_false_eq_true, outF, outR, outIo, wipe, restore, List.foldl_cons, List.foldl_nil, List.getD_cons_zero, List.getD_cons_succ, lpI_nx, lpI_ct, lpI_bk, lpI_rt, shaped_int, shaped_bl, shaped_non, deq_ii, deq_bb, Bool.and_self, Bool.and_true, Bool.true_and, Int.cast_ofNat_Int, Nat.reducePow, Nat.reduceLeDiff, Int.zero_add, Int.add_zero, aft_nx, aft_rt, aft_bk, aft_ct, af_nx, af_rt, af_bk, af_ct, decide_eq_true_eq, eval, evals, evalsT, evalsA, evalO, evalC, evalI, dictI, test, op_bind, op_map, op_some, op_none, op_ite, if_false_right, pk, take, pks, binop, cmpop, truth, setIx, rangeOf, big, revOf, store, put, puts, putG, setOwn, ownOf, lstAt, bltF, lenF, lenOf, intF, absF, gcdF, isiF, isTy, listF, tupleF, dictF, mutF, appendF, isBw_0, isBw_s, nb_sh, nb_ow, nb_un, nb_bw, settle, storesR, bindA, back, lent, List.getElem?_cons_zero, List.getElem?_cons_succ, List.set_cons_zero, List.set_cons_succ, List.length_cons, List.length_nil, List.map_cons, List.map_nil, List.append_nil, List.nil_append, List.cons_append, and_self, and_true, true_and, if_true, if_false, ite_true, ite_false, reduceIte, Option.bind_some, Option.map_some, decide_true, decide_false, Bool.not_true, Bool.not_false, Bool.false_eq_true, Option.some.injEq, Nat.reduceLT, Nat.reduceAdd, Nat.zero_add, Nat.add_one_lt_add_one_iff, Nat.lt_add_left_iff_pos, Nat.lt_add_one, Nat.zero_lt_succ, Int.reduceLT, Int.reduceLE, Int.reduceNeg, Int.reducePow, Int.reduceToNat, Int.reduceMul, Int.reduceSub,  Int.reduceAdd, forall_const, ne_eq, not_true_eq_false, not_false_eq_true, hs, deq_str, beq_self_eq_true]
theorem sameA_ok {fns : List Fn} {F s : Nat} (h : fns[s]? = some (h_sameA s)) : ∀ (n k : Nat) (d : D), Pl n d → Op (callN fns F (k + n + 1) s [.sh d, .sh d]) IsTrue
  | n, k, .non, _ => by rw [callN_at h]; exact sameA_atom (.inl (.inl rfl))
  | n, k, .bl b, _ => by rw [callN_at h]; exact sameA_atom (.inl (.inr ⟨b, rfl⟩))
  | n, k, .int i, _ => by rw [callN_at h]; exact sameA_atom (.inr (.inl ⟨i, rfl⟩))
  | n, k, .str x, hp => by
    rw [callN_at h]
    exact sameA_atom (.inr (.inr ⟨x, rfl, by cases n <;> exact hp⟩))
  | n + 1, k, .tup ds, hp => by
    simp only [Pl] at hp
    show Op (callN fns F (k + n + 1 + 1) s _) _
    rw [callN_at h]
    exact sameA_seq (io_at h) (.inl rfl) hp.1 fun x hx => sameA_ok h n k x (hp.2 x hx)
  | n + 1, k, .lst ds, hp => by
    simp only [Pl] at hp
    show Op (callN fns F (k + n + 1 + 1) s _) _
    rw [callN_at h]
    exact sameA_seq (io_at h) (.inr rfl) hp.1 fun x hx => sameA_ok h n k x (hp.2 x hx)
  | 0, _, .tup _, hp => by simp [Pl] at hp
  | 0, _, .lst _, hp => by simp [Pl] at hp
  | n, _, .dct _ _, hp => by cases n <;> simp [Pl] at hp
  | n, _, .set _, hp => by cases n <;> simp [Pl] at hp
  | n, _, .scr _, hp => by cases n <;> simp [Pl] at hp
/-- a loop by its index -/
theorem lp_idx {cf : Cf} {g : Gx} {b : Ss} {Q : Fl × Env → Prop} {all : List D} (J : Nat → Env → Prop) (step : ∀ (i : Nat) (h : i < all.length) (env : Env), J i env → Op (putG env g all[i]) fun e1 => Wp cf b e1 (lpI (J (i + 1)) Q))
    (fin : ∀ env, J all.length env → Q (.nx, env)) (env : Env) (h0 : J 0 env) : Lp cf g b all env Q := by
  refine lp_inv (fun rest e => ∃ i, i ≤ all.length ∧ rest = all.drop i ∧ J i e) ?_ ?_ all env ⟨0, Nat.zero_le _, rfl, h0⟩
  · rintro d ds e ⟨i, hi, hr, hJ⟩
    have hlt : i < all.length := by
      rcases Nat.lt_or_ge i all.length with h | h
      · exact h
      · rw [List.drop_eq_nil_of_le h] at hr; cases hr
    rw [List.drop_eq_getElem_cons hlt] at hr
    obtain ⟨rfl, rfl⟩ := List.cons.inj hr
    refine (step i hlt e hJ).mono fun e1 k => Op.mono k fun p z => ?_
    obtain ⟨fl, e⟩ := p
    cases fl with
    | nx => exact ⟨i + 1, hlt, rfl, z⟩
    | ct => exact ⟨i + 1, hlt, rfl, z⟩
    | bk => exact z
    | rt r => exact z
  · rintro e ⟨i, hi, hr, hJ⟩
    have : i = all.length := by
      have h := congrArg List.length hr
      rw [List.length_nil, List.length_drop] at h
      omega
    subst this
    exact fin e hJ
/-! ### sorted -/
theorem insB_le {α : Type} {le : α → α → Bool} {x : α} : ∀ {l : List α}, (∀ y ∈ l, le x y = true) → insB le x l = x :: l
  | [], _ => rfl
  | y :: l, h => by
    show (if le x y then x :: y :: l else y :: insB le x l) = _
    rw [if_pos (h y (List.mem_cons_self ..))]
/-- a list in order is its own sorting -/
theorem sortB_sorted {α : Type} {le : α → α → Bool} : ∀ {l : List α}, l.Pairwise (fun x y => le x y = true) → sortB le l = l
  | [], _ => rfl
  | x :: l, h => by
    obtain ⟨h1, h2⟩ := List.pairwise_cons.mp h
    show insB le x (sortB le l) = _
    rw [sortB_sorted h2, insB_le h1]
theorem sortB_perm {α : Type} {le : α → α → Bool} (ht : ∀ a b c, le a b = true → le b c = true → le a c = true) (hl : ∀ a b, (le a b || le b a) = true) (l : List α) : (sortB le l).Perm l := by
  rw [sortB_eq ht hl]; exact List.mergeSort_perm l le
/-- two rearrangements of one list without equal items sort alike -/
theorem sortB_eq_of {α : Type} {le : α → α → Bool} (ht : ∀ a b c, le a b = true → le b c = true → le a c = true) (hl : ∀ a b, (le a b || le b a) = true) (ha : ∀ a b, le a b = true → le b a = true → a = b) {l m : List α} (hp : l.Perm m) (hm : m.Pairwise (fun x y => le x y = true)) : sortB le l = m := by
  rw [sortB_eq ht hl]
  have h1 := List.pairwise_mergeSort ht hl l
  have h2 : (l.mergeSort le).Perm m := (List.mergeSort_perm l le).trans hp
  exact h2.eq_of_pairwise (fun a b _ _ x y => ha a b x y) h1 hm
theorem dle_int {i j : Int} : dle (.int i) (.int j) = decide (i ≤ j) := by
  unfold dle dlt
  simp only [toPy, PySem.W.dataLt_int]
  by_cases h : j < i <;> simp [h] <;> omega
theorem insB_map {α β : Type} {le : α → α → Bool} {le' : β → β → Bool} (f : α → β) (h : ∀ a b, le' (f a) (f b) = le a b) (x : α) : ∀ l : List α, insB le' (f x) (l.map f) = (insB le x l).map f
  | [] => rfl
  | y :: l => by
    show (if le' (f x) (f y) then f x :: f y :: l.map f else f y :: insB le' (f x) (l.map f)) = (if le x y then x :: y :: l else y :: insB le x l).map f
    rw [h, insB_map f h x l]
    split <;> rfl
theorem sortB_map {α β : Type} {le : α → α → Bool} {le' : β → β → Bool} (f : α → β) (h : ∀ a b, le' (f a) (f b) = le a b) : ∀ l : List α, sortB le' (l.map f) = (sortB le l).map f
  | [] => rfl
  | x :: l => by
    show insB le' (f x) (sortB le' (l.map f)) = (insB le x (sortB le l)).map f
    rw [sortB_map f h l, insB_map f h]
/-- ints sorted -/
theorem sortI {ns ms : List Int} (hp : ns.Perm ms) (hm : ms.Pairwise (· ≤ ·)) : sortB dle (ns.map D.int) = ms.map D.int := by
  rw [sortB_map (le := fun a b : Int => decide (a ≤ b)) D.int (fun a b => dle_int)]
  rw [sortB_eq_of (m := ms) (fun a b c h1 h2 => by simp only [decide_eq_true_eq] at *; omega) (fun a b => by simp; omega) (fun a b h1 h2 => by simp only [decide_eq_true_eq] at *; omega) hp (hm.imp fun h => by simpa using h)]
theorem sortable_ints (ns : List Int) : sortable (ns.map D.int) = true := by
  unfold sortable
  have h1 : (ns.map D.int).all noTup = true := by
    rw [List.all_eq_true]; intro d hd; obtain ⟨i, _, rfl⟩ := List.mem_map.mp hd; rfl
  have h2 : ((ns.map D.int).all fun a => (ns.map D.int).all fun b => alk a b) = true := by
    rw [List.all_eq_true]; intro d hd; obtain ⟨i, _, rfl⟩ := List.mem_map.mp hd
    rw [List.all_eq_true]; intro d hd; obtain ⟨j, _, rfl⟩ := List.mem_map.mp hd
    simp [alk, toPy, PySem.W.alike]
  have h3 : shpL (ns.map D.int) = true := shpL_of fun d hd => by obtain ⟨i, _, rfl⟩ := List.mem_map.mp hd; rfl
  have h4 : deepL (ns.map D.int) ≤ 60 := deepL_of fun d hd => by obtain ⟨i, _, rfl⟩ := List.mem_map.mp hd; exact Nat.zero_le _
  rw [h1, h2, h3, decide_eq_true h4]
  simp
theorem sortedF_ints {ns ms : List Int} (hp : ns.Perm ms) (hm : ms.Pairwise (· ≤ ·)) : sortedF [.lst (ns.map .int)] = some (.f (.lst (ms.map .int))) := by
  simp only [sortedF, sortable_ints, if_true, sortI hp hm]
end Mi

end
set_option linter.all false
set_option maxRecDepth 100000
set_option maxHeartbeats 4000000
namespace K31
open Mi
section
open PySem PySem.Spec PyProof.Rows L2
def top (i : Nat) : Stmt := PySem.Challenge.pw_lockwork_k31_locks_and_their_keys.main.body.getD i (.Pass ⟨0, 0, 0, 0⟩)
def d_opens : Df := ⟨"opens", top 1, ["lock", "key", "height", "chamber"], ["lock", "key"], none⟩
def d_pins : Df := ⟨"pins", top 2, ["lock", "chamber"], ["lock"], none⟩
def d_opening_keys : Df := ⟨"opening_keys", top 3, ["lock", "found", "chamber", "key", "height"], ["lock"], none⟩
def d_opened_by : Df := ⟨"opened_by", top 4, ["lock", "keys", "name"], ["lock", "keys"], none⟩
def d__law_mixed : Df := ⟨"_law_mixed", top 6, ["number", "place", "first", "second", "third"], ["number", "place"], none⟩
def d__law_rest : Df := ⟨"_law_rest", top 7, ["script", "place", "fills", "number"], ["script", "place", "fills"], none⟩
def d__law_pool : Df := ⟨"_law_pool", top 8, ["script"], ["script"], none⟩
def d__law_next : Df := ⟨"_law_next", top 9, ["pool"], ["pool"], some 0⟩
def d__law_draw : Df := ⟨"_law_draw", top 10, ["pool", "limit", "value"], ["pool", "limit"], some 0⟩
def d__law_lock : Df := ⟨"_law_lock", top 11, ["pool", "n", "b", "found", "k", "chamber", "height"], ["pool", "n", "b"], some 0⟩
def d__law_same : Df := ⟨"_law_same", top 12, ["actual", "due", "key", "k"], ["actual", "due"], none⟩
def d__law_all_keys : Df := ⟨"_law_all_keys", top 13, ["lock", "found", "chamber", "more", "key", "height"], ["lock"], none⟩
def d__law_key : Df := ⟨"_law_key", top 14, ["pool", "n", "b", "k"], ["pool", "n", "b"], some 0⟩
def d__law_keys : Df := ⟨"_law_keys", top 15, ["pool", "n", "b", "most", "names", "found", "name"], ["pool", "n", "b", "most"], some 0⟩
def d__law_pick : Df := ⟨"_law_pick", top 16, ["pool", "options"], ["pool", "options"], some 0⟩
def d_law : Df := ⟨"law", top 17, ["script", "pool", "turn", "n", "b", "lock", "due", "keys", "name", "chamber"], ["script"], none⟩
def dfs : List Df := [d_opens, d_pins, d_opening_keys, d_opened_by, d__law_mixed, d__law_rest, d__law_pool, d__law_next, d__law_draw, d__law_lock, d__law_same, d__law_all_keys, d__law_key, d__law_keys, d__law_pick, d_law]
def tab : Tab := ⟨["opens", "pins", "opening_keys", "opened_by", "_law_mixed", "_law_rest", "_law_pool", "_law_next", "_law_draw", "_law_lock", "_law_same", "_law_all_keys", "_law_key", "_law_keys", "_law_pick", "law"], [], ["len", "all", "zip", "sum", "sorted", "int", "range", "isinstance", "bool", "str", "dict", "tuple", "list"], false, ["keys"]⟩
end
def f_opens : Fn := ⟨2, 4, none, (.cons (.ret (.and (.cmp .Eq (.blt .len (.cons (.var 0) .nil)) (.blt .len (.cons (.var 1) .nil))) (.blt .all (.cons (.lc (.cmp .In (.var 2) (.var 3)) (.tp [2, 3]) (.zps (.cons (.var 1) (.cons (.var 0) .nil))) .no [2, 3]) .nil)))) .nil)⟩
def f_pins : Fn := ⟨1, 2, none, (.cons (.ret (.blt .sum (.cons (.lc (.bin .Sub (.blt .len (.cons (.var 1) .nil)) (.con (.int (1)))) (.nm 1) (.e (.var 0)) .no [1]) .nil))) .nil)⟩
def f_opening_keys : Fn := ⟨1, 5, none, (.cons (.set 1 (.lst (.cons (.tup .nil) .nil))) (.cons (.for (.nm 2) (.e (.var 0)) (.cons (.set 1 (.lc2 (.bin .Add (.var 3) (.tup (.cons (.var 4) .nil))) (.nm 3) (.e (.var 1)) .no (.nm 4) (.e (.var 2)) .no [3, 4] [4])) .nil)) (.cons (.ret (.blt .sorted (.cons (.var 1) .nil))) .nil)))⟩
def f_opened_by : Fn := ⟨2, 3, none, (.cons (.ret (.blt .sorted (.cons (.lc (.var 2) (.nm 2) (.dk (.var 1)) (.so (.cal 0 (.cons (.var 0) (.cons (.idx (.var 1) (.var 2)) .nil)))) [2]) .nil))) .nil)⟩
def f__law_mixed : Fn := ⟨2, 5, none, (.cons (.set 2 (.bin .Mod (.blt .int (.cons (.bin .Add (.bin .Add (.bin .Mult (.var 0) (.con (.int (48271)))) (.bin .Mult (.var 1) (.con (.int (69621))))) (.con (.int (11)))) .nil)) (.con (.int (618970019642690137449562111))))) (.cons (.set 3 (.bin .Mod (.blt .int (.cons (.bin .Add (.bin .Add (.bin .Mult (.var 2) (.var 2)) (.bin .Mult (.con (.int (7))) (.var 2))) (.var 1)) .nil)) (.con (.int (162259276829213363391578010288127))))) (.cons (.set 4 (.bin .Mod (.blt .int (.cons (.bin .Add (.bin .Mult (.var 3) (.var 3)) (.var 2)) .nil)) (.con (.int (618970019642690137449562111))))) (.cons (.ret (.bin .Add (.bin .Mult (.var 3) (.con (.int (618970019642690137449562111)))) (.var 4))) .nil))))⟩
def f__law_rest : Fn := ⟨3, 4, none, (.cons (.set 3 (.con (.int (0)))) (.cons (.ite (.cmp .Gt (.blt .len (.cons (.var 0) .nil)) (.con (.int (0)))) (.cons (.set 3 (.blt .int (.cons (.idx (.var 0) (.bin .Mod (.blt .int (.cons (.var 1) .nil)) (.blt .len (.cons (.var 0) .nil)))) .nil))) .nil) .nil) (.cons (.ite (.cmp .Lt (.var 3) (.con (.int (0)))) (.cons (.set 3 (.bin .Sub (.con (.int (1))) (.bin .Mult (.con (.int (2))) (.var 3)))) .nil) .nil) (.cons (.ite (.and (.cmp .Eq (.var 2) (.con (.int (0)))) (.and (.cmp .Lt (.var 1) (.blt .len (.cons (.var 0) .nil))) (.cmp .GtE (.var 3) (.bin .Pow (.con (.int (10))) (.con (.int (18))))))) (.cons (.ret (.bin .Sub (.var 3) (.bin .Pow (.con (.int (10))) (.con (.int (18)))))) .nil) .nil) (.cons (.ret (.cal 4 (.cons (.bin .Add (.var 3) (.bin .Mult (.var 2) (.con (.int (1000003))))) (.cons (.var 1) .nil)))) .nil)))))⟩
def f__law_pool : Fn := ⟨1, 1, none, (.cons (.ret (.lst (.cons (.var 0) (.cons (.con (.int (0))) (.cons (.cal 5 (.cons (.var 0) (.cons (.con (.int (0))) (.cons (.con (.int (0))) .nil)))) (.cons (.con (.int (0))) .nil)))))) .nil)⟩
def f__law_next : Fn := ⟨1, 1, some 0, (.cons (.sti (.var 0) (.con (.int (1))) (.bin .Add (.idx (.var 0) (.con (.int (1)))) (.con (.int (1))))) (.cons (.sti (.var 0) (.con (.int (2))) (.cal 5 (.cons (.idx (.var 0) (.con (.int (0)))) (.cons (.idx (.var 0) (.con (.int (1)))) (.cons (.con (.int (0))) .nil))))) (.cons (.sti (.var 0) (.con (.int (3))) (.con (.int (0)))) .nil)))⟩
def f__law_draw : Fn := ⟨2, 3, some 0, (.cons (.ite (.cmp .LtE (.idx (.var 0) (.con (.int (2)))) (.con (.int (1)))) (.cons (.sti (.var 0) (.con (.int (3))) (.bin .Add (.idx (.var 0) (.con (.int (3)))) (.con (.int (1))))) (.cons (.sti (.var 0) (.con (.int (2))) (.cal 5 (.cons (.idx (.var 0) (.con (.int (0)))) (.cons (.idx (.var 0) (.con (.int (1)))) (.cons (.idx (.var 0) (.con (.int (3)))) .nil))))) .nil)) .nil) (.cons (.set 2 (.bin .Mod (.blt .int (.cons (.idx (.var 0) (.con (.int (2)))) .nil)) (.var 1))) (.cons (.sti (.var 0) (.con (.int (2))) (.bin .FloorDiv (.blt .int (.cons (.idx (.var 0) (.con (.int (2)))) .nil)) (.var 1))) (.cons (.ret (.var 2)) .nil))))⟩
def f__law_lock : Fn := ⟨3, 7, some 0, (.cons (.set 3 (.lst .nil)) (.cons (.for (.nm 4) (.rng (.cons (.var 1) .nil)) (.cons (.set 5 (.lc (.var 6) (.nm 6) (.rng (.cons (.var 2) .nil)) (.so (.cmp .Eq (.cal 8 (.cons (.var 0) (.cons (.con (.int (3))) .nil))) (.con (.int (0))))) [6])) (.cons (.exp (.mut .append (.var 3) (.cons (.ife (.cmp .NotEq (.var 5) (.lst .nil)) (.var 5) (.lst (.cons (.cal 8 (.cons (.var 0) (.cons (.var 2) .nil))) .nil))) .nil))) .nil))) (.cons (.ret (.var 3)) .nil)))⟩
def f__law_same : Fn := ⟨2, 4, none, (.cons (.ite (.cmp .Is (.var 1) (.con .non)) (.cons (.ret (.cmp .Is (.var 0) (.con .non))) .nil) .nil) (.cons (.ite (.cmp .Is (.var 1) (.con (.bl true))) (.cons (.ret (.cmp .Is (.var 0) (.con (.bl true)))) .nil) .nil) (.cons (.ite (.cmp .Is (.var 1) (.con (.bl false))) (.cons (.ret (.cmp .Is (.var 0) (.con (.bl false)))) .nil) .nil) (.cons (.ite (.blt (.isi .int) (.cons (.var 1) .nil)) (.cons (.ret (.and (.blt (.isi .int) (.cons (.var 0) .nil)) (.and (.not (.blt (.isi .bool) (.cons (.var 0) .nil))) (.cmp .Eq (.var 0) (.var 1))))) .nil) .nil) (.cons (.ite (.blt (.isi .str) (.cons (.var 1) .nil)) (.cons (.ret (.and (.blt (.isi .str) (.cons (.var 0) .nil)) (.cmp .Eq (.var 0) (.var 1)))) .nil) .nil) (.cons (.ite (.blt (.isi .dict) (.cons (.var 1) .nil)) (.cons (.ite (.or (.not (.blt (.isi .dict) (.cons (.var 0) .nil))) (.cmp .NotEq (.blt .len (.cons (.var 0) .nil)) (.blt .len (.cons (.var 1) .nil)))) (.cons (.ret (.con (.bl false))) .nil) .nil) (.cons (.for (.nm 2) (.e (.var 1)) (.cons (.ite (.or (.cmp .NotIn (.var 2) (.var 0)) (.not (.cal 10 (.cons (.idx (.var 0) (.var 2)) (.cons (.idx (.var 1) (.var 2)) .nil))))) (.cons (.ret (.con (.bl false))) .nil) .nil) .nil)) (.cons (.ret (.con (.bl true))) .nil))) .nil) (.cons (.ite (.or (.cmp .NotEq (.blt (.isi .tuple) (.cons (.var 0) .nil)) (.blt (.isi .tuple) (.cons (.var 1) .nil))) (.cmp .NotEq (.blt (.isi .list) (.cons (.var 0) .nil)) (.blt (.isi .list) (.cons (.var 1) .nil)))) (.cons (.ret (.con (.bl false))) .nil) .nil) (.cons (.ite (.cmp .NotEq (.blt .len (.cons (.var 0) .nil)) (.blt .len (.cons (.var 1) .nil))) (.cons (.ret (.con (.bl false))) .nil) .nil) (.cons (.for (.nm 3) (.rng (.cons (.blt .len (.cons (.var 1) .nil)) .nil)) (.cons (.ite (.not (.cal 10 (.cons (.idx (.var 0) (.var 3)) (.cons (.idx (.var 1) (.var 3)) .nil)))) (.cons (.ret (.con (.bl false))) .nil) .nil) .nil)) (.cons (.ret (.con (.bl true))) .nil))))))))))⟩
def f__law_all_keys : Fn := ⟨1, 6, none, (.cons (.set 1 (.lst (.cons (.tup .nil) .nil))) (.cons (.for (.nm 2) (.e (.var 0)) (.cons (.set 3 (.lst .nil)) (.cons (.for (.nm 4) (.e (.var 1)) (.cons (.set 3 (.bin .Add (.var 3) (.lc (.bin .Add (.var 4) (.tup (.cons (.var 5) .nil))) (.nm 5) (.e (.var 2)) .no [5]))) .nil)) (.cons (.set 1 (.var 3)) .nil)))) (.cons (.ret (.blt .sorted (.cons (.var 1) .nil))) .nil)))⟩
def f__law_key : Fn := ⟨3, 4, some 0, (.cons (.ret (.blt .tuple (.cons (.lc (.cal 8 (.cons (.var 0) (.cons (.var 2) .nil))) (.nm 3) (.rng (.cons (.var 1) .nil)) .no [3]) .nil))) .nil)⟩
def f__law_keys : Fn := ⟨4, 7, some 0, (.cons (.set 4 (.sli (.lst (.cons (.con (.str { cps := #[97, 110, 110] })) (.cons (.con (.str { cps := #[98, 111, 98] })) (.cons (.con (.str { cps := #[99, 97, 116] })) (.cons (.con (.str { cps := #[100, 97, 110] })) (.cons (.con (.str { cps := #[101, 118, 101] })) (.cons (.con (.str { cps := #[102, 97, 121] })) .nil))))))) .no (.so (.bin .Add (.con (.int (1))) (.cal 8 (.cons (.var 0) (.cons (.var 3) .nil))))))) (.cons (.set 5 .dnw) (.cons (.for (.nm 6) (.e (.var 4)) (.cons (.sti (.var 5) (.var 6) (.cal 12 (.cons (.var 0) (.cons (.var 1) (.cons (.var 2) .nil))))) .nil)) (.cons (.ret (.var 5)) .nil))))⟩
def f__law_pick : Fn := ⟨2, 2, some 0, (.cons (.ret (.idx (.var 1) (.cal 8 (.cons (.var 0) (.cons (.blt .len (.cons (.var 1) .nil)) .nil))))) .nil)⟩
def f_law : Fn := ⟨1, 10, none, (.cons (.set 1 (.cal 6 (.cons (.var 0) .nil))) (.cons (.for (.nm 2) (.rng (.cons (.con (.int (3))) .nil)) (.cons (.exp (.cal 7 (.cons (.var 1) .nil))) (.cons (.set 3 (.bin .Add (.con (.int (1))) (.cal 8 (.cons (.var 1) (.cons (.con (.int (4))) .nil))))) (.cons (.set 4 (.bin .Add (.con (.int (2))) (.cal 8 (.cons (.var 1) (.cons (.con (.int (4))) .nil))))) (.cons (.set 5 (.cal 9 (.cons (.var 1) (.cons (.var 3) (.cons (.var 4) .nil))))) (.cons (.ite (.not (.cal 10 (.cons (.cal 1 (.cons (.lc (.blt .list (.cons (.var 9) .nil)) (.nm 9) (.e (.var 5)) .no [9]) .nil)) (.cons (.bin .Sub (.blt .sum (.cons (.lc (.blt .len (.cons (.var 9) .nil)) (.nm 9) (.e (.var 5)) .no [9]) .nil)) (.var 3)) .nil)))) (.cons (.ret (.con (.bl false))) .nil) .nil) (.cons (.set 6 (.cal 11 (.cons (.var 5) .nil))) (.cons (.ite (.not (.cal 10 (.cons (.cal 2 (.cons (.lc (.blt .list (.cons (.var 9) .nil)) (.nm 9) (.e (.var 5)) .no [9]) .nil)) (.cons (.var 6) .nil)))) (.cons (.ret (.con (.bl false))) .nil) .nil) (.cons (.exp (.cal 7 (.cons (.var 1) .nil))) (.cons (.set 7 (.cal 13 (.cons (.var 1) (.cons (.var 3) (.cons (.var 4) (.cons (.con (.int (5))) .nil)))))) (.cons (.ite (.cmp .Eq (.cal 8 (.cons (.var 1) (.cons (.con (.int (2))) .nil))) (.con (.int (0)))) (.cons (.sti (.var 7) (.con (.str { cps := #[103, 117, 115] })) (.cal 14 (.cons (.var 1) (.cons (.var 6) .nil)))) .nil) .nil) (.cons (.for (.nm 8) (.dk (.var 7)) (.cons (.ite (.not (.cal 10 (.cons (.cal 0 (.cons (.var 5) (.cons (.idx (.var 7) (.var 8)) .nil))) (.cons (.cmp .In (.idx (.var 7) (.var 8)) (.var 6)) .nil)))) (.cons (.ret (.con (.bl false))) .nil) .nil) .nil)) (.cons (.ite (.not (.cal 10 (.cons (.cal 3 (.cons (.var 5) (.cons (.blt .dict (.cons (.var 7) .nil)) .nil))) (.cons (.blt .sorted (.cons (.lc (.var 8) (.nm 8) (.dk (.var 7)) (.so (.cmp .In (.idx (.var 7) (.var 8)) (.var 6))) [8]) .nil)) .nil)))) (.cons (.ret (.con (.bl false))) .nil) .nil) .nil))))))))))))) (.cons (.ret (.con (.bl true))) .nil)))⟩
def fns : List Fn := [f_opens, f_pins, f_opening_keys, f_opened_by, f__law_mixed, f__law_rest, f__law_pool, f__law_next, f__law_draw, f__law_lock, f__law_same, f__law_all_keys, f__law_key, f__law_keys, f__law_pick, f_law]
abbrev lockD (Ls : List (List Int)) : D := .lst (Ls.map fun l => .lst (l.map .int))
abbrev tI (ks : List Int) : D := .tup (ks.map .int)
def opn : List (List Int) → List Int → Bool
  | [], [] => true
  | l :: Ls, k :: ks => l.contains k && opn Ls ks
  | _, _ => false
def one (d : D) : Option D := some (.bl (match d with | .tup [x, .lst l] => l.any fun y => deq y x | _ => false))
theorem any_int (l : List Int) (k : Int) : ((l.map D.int).any fun y => deq y (.int k)) = l.contains k := by
  induction l with
  | nil => rfl
  | cons a l ih =>
    rw [List.map_cons, List.any_cons, ih, List.contains_cons, deq_ii]
    congr 1
    by_cases h : a = k
    · simp [h]
    · simp [h, Ne.symm h]
theorem shaped_ints (l : List Int) : ((l.map D.int).all shaped) = true := by
  rw [List.all_eq_true]; intro d hd; obtain ⟨i, _, rfl⟩ := List.mem_map.mp hd; exact shaped_int
theorem ones (Ls : List (List Int)) (ks : List Int) (h : Ls.length = ks.length) : ∃ bs, dBools ((((ks.map D.int).zip (Ls.map fun l => D.lst (l.map .int))).map fun p => D.tup [p.1, p.2]).filterMap one) = some bs ∧ bs.all id = opn Ls ks := by
  induction Ls generalizing ks with
  | nil =>
    cases ks with
    | nil => exact ⟨[], rfl, rfl⟩
    | cons k ks => cases h
  | cons l Ls ih =>
    cases ks with
    | nil => cases h
    | cons k ks =>
      obtain ⟨bs, h1, h2⟩ := ih ks (by simpa using h)
      refine ⟨l.contains k :: bs, ?_, ?_⟩
      · simp only [List.map_cons, List.zip_cons_cons, List.filterMap_cons, one, any_int, dBools]
        rw [h1]; rfl
      · simp only [List.all_cons, id, h2, opn]
theorem opens_ok {cf : Cf} (Ls : List (List Int)) (ks : List Int) (h : Ls.length = ks.length) (hn : ks.length ≤ 1000) : Op (runFn cf f_opens [.sh (lockD Ls), .sh (tI ks)]) fun r => r = (.v (.bl (opn Ls ks)), none) := by
  have hn2 : ks.length ≤ PySem.sizeLine := Nat.le_trans hn (by decide)
  rw [wp_run rfl rfl]
  show Wp cf f_opens.body [.sh (lockD Ls), .sh (tI ks), .un, .un] _
  unfold f_opens
  rw [wp_ret]
  simp only [getIx, L2.atI, L2.ixN, wipe, restore, List.foldl_cons, List.foldl_nil, List.getD_cons_zero, List.getD_cons_succ, lpI_nx, lpI_ct, lpI_bk, lpI_rt, shaped_int, shaped_bl, shaped_non, deq_ii, deq_bb, Bool.and_self, Bool.and_true, Bool.true_and, Int.cast_ofNat_Int, Nat.reducePow, Nat.reduceLeDiff, Int.zero_add, Int.add_zero, aft_nx, aft_rt, aft_bk, aft_ct, af_nx, af_rt, af_bk, af_ct, decide_eq_true_eq, eval, evals, evalsT, evalsA, evalO, evalC, evalI, dictI, test, op_bind, op_map, op_some, op_none, op_ite, if_false_right, pk, take, pks, binop, cmpop, truth, setIx, rangeOf, big, revOf, store, put, puts, putG, setOwn, ownOf, lstAt, bltF, lenF, lenOf, intF, absF, gcdF, isiF, isTy, listF, tupleF, dictF, mutF, appendF, isBw_0, isBw_s, nb_sh, nb_ow, nb_un, nb_bw, settle, storesR, bindA, back, lent, List.getElem?_cons_zero, List.getElem?_cons_succ, List.set_cons_zero, List.set_cons_succ, List.length_cons, List.length_nil, List.map_cons, List.map_nil, List.append_nil, List.nil_append, List.cons_append, and_self, and_true, true_and, if_true, if_false, ite_true, ite_false, reduceIte, Option.bind_some, Option.map_some, decide_true, decide_false, Bool.not_true, Bool.not_false, Bool.false_eq_true, Option.some.injEq, Nat.reduceLT, Nat.reduceAdd, Nat.zero_add, Nat.add_one_lt_add_one_iff, Nat.lt_add_left_iff_pos, Nat.lt_add_one, Nat.zero_lt_succ, Int.reduceLT, Int.reduceLE, Int.reduceNeg, Int.reducePow, Int.reduceToNat, Int.reduceMul, Int.reduceSub,  Int.reduceAdd, forall_const, ne_eq, not_true_eq_false, not_false_eq_true, List.length_map, h, zipOf, itemsOf]
  refine (lc_pure one _ (fun d hd => ?_)).mono ?_
  · obtain ⟨p, hp, rfl⟩ := List.mem_map.mp hd
    obtain ⟨hp1, hp2⟩ := List.of_mem_zip (show (p.1, p.2) ∈ _ from hp)
    obtain ⟨k, _, hk⟩ := List.mem_map.mp hp1
    obtain ⟨l, _, hl⟩ := List.mem_map.mp hp2
    rw [← hk, ← hl]
    simp only [getIx, L2.atI, L2.ixN, wipe, restore, List.foldl_cons, List.foldl_nil, List.getD_cons_zero, List.getD_cons_succ, lpI_nx, lpI_ct, lpI_bk, lpI_rt, shaped_int, shaped_bl, shaped_non, deq_ii, deq_bb, Bool.and_self, Bool.and_true, Bool.true_and, Int.cast_ofNat_Int, Nat.reducePow, Nat.reduceLeDiff, Int.zero_add, Int.add_zero, aft_nx, aft_rt, aft_bk, aft_ct, af_nx, af_rt, af_bk, af_ct, decide_eq_true_eq, eval, evals, evalsT, evalsA, evalO, evalC, evalI, dictI, test, op_bind, op_map, op_some, op_none, op_ite, if_false_right, pk, take, pks, binop, cmpop, truth, setIx, rangeOf, big, revOf, store, put, puts, putG, setOwn, ownOf, lstAt, bltF, lenF, lenOf, intF, absF, gcdF, isiF, isTy, listF, tupleF, dictF, mutF, appendF, isBw_0, isBw_s, nb_sh, nb_ow, nb_un, nb_bw, settle, storesR, bindA, back, lent, List.getElem?_cons_zero, List.getElem?_cons_succ, List.set_cons_zero, List.set_cons_succ, List.length_cons, List.length_nil, List.map_cons, List.map_nil, List.append_nil, List.nil_append, List.cons_append, and_self, and_true, true_and, if_true, if_false, ite_true, ite_false, reduceIte, Option.bind_some, Option.map_some, decide_true, decide_false, Bool.not_true, Bool.not_false, Bool.false_eq_true, Option.some.injEq, Nat.reduceLT, Nat.reduceAdd, Nat.zero_add, Nat.add_one_lt_add_one_iff, Nat.lt_add_left_iff_pos, Nat.lt_add_one, Nat.zero_lt_succ, Int.reduceLT, Int.reduceLE, Int.reduceNeg, Int.reducePow, Int.reduceToNat, Int.reduceMul, Int.reduceSub,  Int.reduceAdd, forall_const, ne_eq, not_true_eq_false, not_false_eq_true, shaped_ints]
    rfl
  · rintro _ rfl
    obtain ⟨bs, h1, h2⟩ := ones Ls ks h
    have hl := congrArg (Option.map List.length) h1
    simp only [getIx, L2.atI, L2.ixN, wipe, restore, List.foldl_cons, List.foldl_nil, List.getD_cons_zero, List.getD_cons_succ, lpI_nx, lpI_ct, lpI_bk, lpI_rt, shaped_int, shaped_bl, shaped_non, deq_ii, deq_bb, Bool.and_self, Bool.and_true, Bool.true_and, Int.cast_ofNat_Int, Nat.reducePow, Nat.reduceLeDiff, Int.zero_add, Int.add_zero, aft_nx, aft_rt, aft_bk, aft_ct, af_nx, af_rt, af_bk, af_ct, decide_eq_true_eq, eval, evals, evalsT, evalsA, evalO, evalC, evalI, dictI, test, op_bind, op_map, op_some, op_none, op_ite, if_false_right, pk, take, pks, binop, cmpop, truth, setIx, rangeOf, big, revOf, store, put, puts, putG, setOwn, ownOf, lstAt, bltF, lenF, lenOf, intF, absF, gcdF, isiF, isTy, listF, tupleF, dictF, mutF, appendF, isBw_0, isBw_s, nb_sh, nb_ow, nb_un, nb_bw, settle, storesR, bindA, back, lent, List.getElem?_cons_zero, List.getElem?_cons_succ, List.set_cons_zero, List.set_cons_succ, List.length_cons, List.length_nil, List.map_cons, List.map_nil, List.append_nil, List.nil_append, List.cons_append, and_self, and_true, true_and, if_true, if_false, ite_true, ite_false, reduceIte, Option.bind_some, Option.map_some, decide_true, decide_false, Bool.not_true, Bool.not_false, Bool.false_eq_true, Option.some.injEq, Nat.reduceLT, Nat.reduceAdd, Nat.zero_add, Nat.add_one_lt_add_one_iff, Nat.lt_add_left_iff_pos, Nat.lt_add_one, Nat.zero_lt_succ, Int.reduceLT, Int.reduceLE, Int.reduceNeg, Int.reducePow, Int.reduceToNat, Int.reduceMul, Int.reduceSub,  Int.reduceAdd, forall_const, ne_eq, not_true_eq_false, not_false_eq_true, allF, h1, h2, outF, outR, outIo, wipe, restore, List.foldl_cons, List.foldl_nil, List.getD_cons_zero, List.getD_cons_succ, lpI_nx, lpI_ct, lpI_bk, lpI_rt, shaped_int, shaped_bl, shaped_non, deq_ii, deq_bb, Bool.and_self, Bool.and_true, Bool.true_and, Int.cast_ofNat_Int, Nat.reducePow, Nat.reduceLeDiff, Int.zero_add, Int.add_zero, aft_nx, aft_rt, aft_bk, aft_ct, af_nx, af_rt, af_bk, af_ct, decide_eq_true_eq, eval, evals, evalsT, evalsA, evalO, evalC, evalI, dictI, test, op_bind, op_map, op_some, op_none, op_ite, if_false_right, pk, take, pks, binop, cmpop, truth, setIx, rangeOf, big, revOf, store, put, puts, putG, setOwn, ownOf, lstAt, bltF, lenF, lenOf, intF, absF, gcdF, isiF, isTy, listF, tupleF, dictF, mutF, appendF, isBw_0, isBw_s, nb_sh, nb_ow, nb_un, nb_bw, settle, storesR, bindA, back, lent, List.getElem?_cons_zero, List.getElem?_cons_succ, List.set_cons_zero, List.set_cons_succ, List.length_cons, List.length_nil, List.map_cons, List.map_nil, List.append_nil, List.nil_append, List.cons_append, and_self, and_true, true_and, if_true, if_false, ite_true, ite_false, reduceIte, Option.bind_some, Option.map_some, decide_true, decide_false, Bool.not_true, Bool.not_false, Bool.false_eq_true, Option.some.injEq, Nat.reduceLT, Nat.reduceAdd, Nat.zero_add, Nat.add_one_lt_add_one_iff, Nat.lt_add_left_iff_pos, Nat.lt_add_one, Nat.zero_lt_succ, Int.reduceLT, Int.reduceLE, Int.reduceNeg, Int.reducePow, Int.reduceToNat, Int.reduceMul, Int.reduceSub,  Int.reduceAdd, forall_const, ne_eq, not_true_eq_false, not_false_eq_true]
    refine Nat.le_trans (List.length_filterMap_le _ _) ?_
    simp only [List.length_map, List.length_zip, h, Nat.min_self]
    exact hn2
theorem opn_len : ∀ {Ls : List (List Int)} {ks : List Int}, opn Ls ks = true → Ls.length = ks.length
  | [], [], _ => rfl
  | l :: Ls, k :: ks, h => by
    simp only [opn, Bool.and_eq_true] at h
    exact congrArg Nat.succ (opn_len h.2)
  | [], _ :: _, h => by cases h
  | _ :: _, [], h => by cases h
/-- a chamber: its heights in order, below b -/
structure Ch (b : Int) (l : List Int) : Prop where
  up : l.Pairwise (· < ·)
  lo : ∀ x ∈ l, 0 ≤ x
  hi : ∀ x ∈ l, x < b
abbrev chD (l : List Int) : D := .lst (l.map .int)
def LockP (n b : Int) (d : D) : Prop := ∃ Ls : List (List Int), d = lockD Ls ∧ (Ls.length : Int) = n ∧ ∀ l ∈ Ls, Ch b l ∧ l ≠ []
theorem lock_ok {cf : Cf} (W : DrawOk' cf 8) (ns : List Int) (a b0 c : Int) (n : Nat) (b : Nat) (hn : n ≤ 5) (hb0 : 0 < b) (hb : b ≤ 6) :
    Op (runFn cf f__law_lock [.bw (pool ns a b0 c), .sh (.int (n : Nat)), .sh (.int (b : Nat))]) fun r => ∃ Ls b1 c1, r = (.f (lockD Ls), some (pool ns a b1 c1)) ∧ Ls.length = n ∧ ∀ l ∈ Ls, Ch b l ∧ l ≠ [] := by
  rw [wp_run rfl rfl]
  show Wp cf f__law_lock.body [.bw (pool ns a b0 c), .sh (.int (n : Nat)), .sh (.int (b : Nat)), .un, .un, .un, .un] _
  unfold f__law_lock
  have hsl : PySem.sizeLine = 16777216 := by decide
  rw [wp_set]
  simp only [getIx, L2.atI, L2.ixN, wipe, restore, List.foldl_cons, List.foldl_nil, List.getD_cons_zero, List.getD_cons_succ, lpI_nx, lpI_ct, lpI_bk, lpI_rt, shaped_int, shaped_bl, shaped_non, deq_ii, deq_bb, Bool.and_self, Bool.and_true, Bool.true_and, Int.cast_ofNat_Int, Nat.reducePow, Nat.reduceLeDiff, Int.zero_add, Int.add_zero, aft_nx, aft_rt, aft_bk, aft_ct, af_nx, af_rt, af_bk, af_ct, decide_eq_true_eq, eval, evals, evalsT, evalsA, evalO, evalC, evalI, dictI, test, op_bind, op_map, op_some, op_none, op_ite, if_false_right, pk, take, pks, binop, cmpop, truth, setIx, rangeOf, big, revOf, store, put, puts, putG, setOwn, ownOf, lstAt, bltF, lenF, lenOf, intF, absF, gcdF, isiF, isTy, listF, tupleF, dictF, mutF, appendF, isBw_0, isBw_s, nb_sh, nb_ow, nb_un, nb_bw, settle, storesR, bindA, back, lent, List.getElem?_cons_zero, List.getElem?_cons_succ, List.set_cons_zero, List.set_cons_succ, List.length_cons, List.length_nil, List.map_cons, List.map_nil, List.append_nil, List.nil_append, List.cons_append, and_self, and_true, true_and, if_true, if_false, ite_true, ite_false, reduceIte, Option.bind_some, Option.map_some, decide_true, decide_false, Bool.not_true, Bool.not_false, Bool.false_eq_true, Option.some.injEq, Nat.reduceLT, Nat.reduceAdd, Nat.zero_add, Nat.add_one_lt_add_one_iff, Nat.lt_add_left_iff_pos, Nat.lt_add_one, Nat.zero_lt_succ, Int.reduceLT, Int.reduceLE, Int.reduceNeg, Int.reducePow, Int.reduceToNat, Int.reduceMul, Int.reduceSub,  Int.reduceAdd, forall_const, ne_eq, not_true_eq_false, not_false_eq_true]
  refine ⟨by decide, ?_⟩
  rw [wp_for]
  simp -implicitDefEqProofs only [wipe, restore, List.foldl_cons, List.foldl_nil, List.getD_cons_zero, List.getD_cons_succ, lpI_nx, lpI_ct, lpI_bk, lpI_rt, shaped_int, shaped_bl, shaped_non, deq_ii, deq_bb, Bool.and_self, Bool.and_true, Bool.true_and, Int.cast_ofNat_Int, Nat.reducePow, Nat.reduceLeDiff, Int.zero_add, Int.add_zero, aft_nx, aft_rt, aft_bk, aft_ct, af_nx, af_rt, af_bk, af_ct, decide_eq_true_eq, eval, evals, evalsT, evalsA, evalO, evalC, evalI, dictI, test, op_bind, op_map, op_some, op_none, op_ite, if_false_right, pk, take, pks, binop, cmpop, truth, setIx, revOf, store, put, puts, putG, setOwn, ownOf, lstAt, bltF, lenF, lenOf, intF, absF, gcdF, isiF, isTy, listF, tupleF, dictF, mutF, appendF, isBw_0, isBw_s, nb_sh, nb_ow, nb_un, nb_bw, settle, storesR, bindA, back, lent, List.getElem?_cons_zero, List.getElem?_cons_succ, List.set_cons_zero, List.set_cons_succ, List.length_cons, List.length_nil, List.map_cons, List.map_nil, List.append_nil, List.nil_append, List.cons_append, and_self, and_true, true_and, if_true, if_false, ite_true, ite_false, reduceIte, Option.bind_some, Option.map_some, decide_true, decide_false, Bool.not_true, Bool.not_false, Bool.false_eq_true, Option.some.injEq, Nat.reduceLT, Nat.reduceAdd, Nat.zero_add, Nat.add_one_lt_add_one_iff, Nat.lt_add_left_iff_pos, Nat.lt_add_one, Nat.zero_lt_succ, Int.reduceLT, Int.reduceLE, Int.reduceNeg, Int.reducePow, Int.reduceToNat, Int.reduceMul, Int.reduceSub,  Int.reduceAdd, forall_const, ne_eq, not_true_eq_false, not_false_eq_true, range_nat (show n < 2 ^ 62 by omega)]
  refine lp_idx (fun i e => ∃ Ls b1 c1 s4 s5 s6, e = [.bw (pool ns a b1 c1), .sh (.int (n : Nat)), .sh (.int (b : Nat)), .ow (lockD Ls), s4, s5, s6] ∧ nb s4 = true ∧ nb s5 = true ∧ nb s6 = true ∧ Ls.length = i ∧ ∀ l ∈ Ls, Ch b l ∧ l ≠ []) ?_ ?_ _ ⟨[], b0, c, .un, .un, .un, rfl, rfl, rfl, rfl, rfl, fun l hl => nomatch hl⟩
  · rintro i hi e ⟨Ls, b1, c1, s4, s5, s6, rfl, n4, n5, n6, hL, hLs⟩
    rw [List.length_map, List.length_range] at hi
    simp only [List.getElem_map, List.getElem_range]
    simp only [getIx, L2.atI, L2.ixN, wipe, restore, List.foldl_cons, List.foldl_nil, List.getD_cons_zero, List.getD_cons_succ, lpI_nx, lpI_ct, lpI_bk, lpI_rt, shaped_int, shaped_bl, shaped_non, deq_ii, deq_bb, Bool.and_self, Bool.and_true, Bool.true_and, Int.cast_ofNat_Int, Nat.reducePow, Nat.reduceLeDiff, Int.zero_add, Int.add_zero, aft_nx, aft_rt, aft_bk, aft_ct, af_nx, af_rt, af_bk, af_ct, decide_eq_true_eq, eval, evals, evalsT, evalsA, evalO, evalC, evalI, dictI, test, op_bind, op_map, op_some, op_none, op_ite, if_false_right, pk, take, pks, binop, cmpop, truth, setIx, rangeOf, big, revOf, store, put, puts, putG, setOwn, ownOf, lstAt, bltF, lenF, lenOf, intF, absF, gcdF, isiF, isTy, listF, tupleF, dictF, mutF, appendF, isBw_0, isBw_s, nb_sh, nb_ow, nb_un, nb_bw, settle, storesR, bindA, back, lent, List.getElem?_cons_zero, List.getElem?_cons_succ, List.set_cons_zero, List.set_cons_succ, List.length_cons, List.length_nil, List.map_cons, List.map_nil, List.append_nil, List.nil_append, List.cons_append, and_self, and_true, true_and, if_true, if_false, ite_true, ite_false, reduceIte, Option.bind_some, Option.map_some, decide_true, decide_false, Bool.not_true, Bool.not_false, Bool.false_eq_true, Option.some.injEq, Nat.reduceLT, Nat.reduceAdd, Nat.zero_add, Nat.add_one_lt_add_one_iff, Nat.lt_add_left_iff_pos, Nat.lt_add_one, Nat.zero_lt_succ, Int.reduceLT, Int.reduceLE, Int.reduceNeg, Int.reducePow, Int.reduceToNat, Int.reduceMul, Int.reduceSub,  Int.reduceAdd, forall_const, ne_eq, not_true_eq_false, not_false_eq_true, n4]
    refine wp_join (fun e => ∃ (l : List Int) (b1 c1 : Int) (s6 : Sl), e = [.bw (pool ns a b1 c1), .sh (.int (n : Nat)), .sh (.int (b : Nat)), .ow (lockD Ls), .sh (.int (i : Nat)), .ow (chD l), s6] ∧ nb s6 = true ∧ Ch b l) ?_ ?_
    · rw [wp_set]
      simp -implicitDefEqProofs only [wipe, restore, List.foldl_cons, List.foldl_nil, List.getD_cons_zero, List.getD_cons_succ, lpI_nx, lpI_ct, lpI_bk, lpI_rt, shaped_int, shaped_bl, shaped_non, deq_ii, deq_bb, Bool.and_self, Bool.and_true, Bool.true_and, Int.cast_ofNat_Int, Nat.reducePow, Nat.reduceLeDiff, Int.zero_add, Int.add_zero, aft_nx, aft_rt, aft_bk, aft_ct, af_nx, af_rt, af_bk, af_ct, decide_eq_true_eq, eval, evals, evalsT, evalsA, evalO, evalC, evalI, dictI, test, op_bind, op_map, op_some, op_none, op_ite, if_false_right, pk, take, pks, binop, cmpop, truth, setIx, revOf, store, put, puts, putG, setOwn, ownOf, lstAt, bltF, lenF, lenOf, intF, absF, gcdF, isiF, isTy, listF, tupleF, dictF, mutF, appendF, isBw_0, isBw_s, nb_sh, nb_ow, nb_un, nb_bw, settle, storesR, bindA, back, lent, List.getElem?_cons_zero, List.getElem?_cons_succ, List.set_cons_zero, List.set_cons_succ, List.length_cons, List.length_nil, List.map_cons, List.map_nil, List.append_nil, List.nil_append, List.cons_append, and_self, and_true, true_and, if_true, if_false, ite_true, ite_false, reduceIte, Option.bind_some, Option.map_some, decide_true, decide_false, Bool.not_true, Bool.not_false, Bool.false_eq_true, Option.some.injEq, Nat.reduceLT, Nat.reduceAdd, Nat.zero_add, Nat.add_one_lt_add_one_iff, Nat.lt_add_left_iff_pos, Nat.lt_add_one, Nat.zero_lt_succ, Int.reduceLT, Int.reduceLE, Int.reduceNeg, Int.reducePow, Int.reduceToNat, Int.reduceMul, Int.reduceSub,  Int.reduceAdd, forall_const, ne_eq, not_true_eq_false, not_false_eq_true, range_nat (show b < 2 ^ 62 by omega)]
      refine (lc_sub (I := fun e => ∃ b1 c1, e = [.bw (pool ns a b1 c1), .sh (.int (n : Nat)), .sh (.int (b : Nat)), .ow (lockD Ls), .sh (.int (i : Nat)), s5, .un]) _ _ ?_ ?_).mono ?_
      · rintro d hd e ⟨b1, c1, rfl⟩
        simp only [getIx, L2.atI, L2.ixN, wipe, restore, List.foldl_cons, List.foldl_nil, List.getD_cons_zero, List.getD_cons_succ, lpI_nx, lpI_ct, lpI_bk, lpI_rt, shaped_int, shaped_bl, shaped_non, deq_ii, deq_bb, Bool.and_self, Bool.and_true, Bool.true_and, Int.cast_ofNat_Int, Nat.reducePow, Nat.reduceLeDiff, Int.zero_add, Int.add_zero, aft_nx, aft_rt, aft_bk, aft_ct, af_nx, af_rt, af_bk, af_ct, decide_eq_true_eq, eval, evals, evalsT, evalsA, evalO, evalC, evalI, dictI, test, op_bind, op_map, op_some, op_none, op_ite, if_false_right, pk, take, pks, binop, cmpop, truth, setIx, rangeOf, big, revOf, store, put, puts, putG, setOwn, ownOf, lstAt, bltF, lenF, lenOf, intF, absF, gcdF, isiF, isTy, listF, tupleF, dictF, mutF, appendF, isBw_0, isBw_s, nb_sh, nb_ow, nb_un, nb_bw, settle, storesR, bindA, back, lent, List.getElem?_cons_zero, List.getElem?_cons_succ, List.set_cons_zero, List.set_cons_succ, List.length_cons, List.length_nil, List.map_cons, List.map_nil, List.append_nil, List.nil_append, List.cons_append, and_self, and_true, true_and, if_true, if_false, ite_true, ite_false, reduceIte, Option.bind_some, Option.map_some, decide_true, decide_false, Bool.not_true, Bool.not_false, Bool.false_eq_true, Option.some.injEq, Nat.reduceLT, Nat.reduceAdd, Nat.zero_add, Nat.add_one_lt_add_one_iff, Nat.lt_add_left_iff_pos, Nat.lt_add_one, Nat.zero_lt_succ, Int.reduceLT, Int.reduceLE, Int.reduceNeg, Int.reducePow, Int.reduceToNat, Int.reduceMul, Int.reduceSub,  Int.reduceAdd, forall_const, ne_eq, not_true_eq_false, not_false_eq_true, W.io]
        refine (W.ok ns a b1 c1 3 (by decide) (by decide)).mono ?_
        rintro _ ⟨v, b2, c2, v0, v1, rfl⟩
        simp only [getIx, L2.atI, L2.ixN, wipe, restore, List.foldl_cons, List.foldl_nil, List.getD_cons_zero, List.getD_cons_succ, lpI_nx, lpI_ct, lpI_bk, lpI_rt, shaped_int, shaped_bl, shaped_non, deq_ii, deq_bb, Bool.and_self, Bool.and_true, Bool.true_and, Int.cast_ofNat_Int, Nat.reducePow, Nat.reduceLeDiff, Int.zero_add, Int.add_zero, aft_nx, aft_rt, aft_bk, aft_ct, af_nx, af_rt, af_bk, af_ct, decide_eq_true_eq, eval, evals, evalsT, evalsA, evalO, evalC, evalI, dictI, test, op_bind, op_map, op_some, op_none, op_ite, if_false_right, pk, take, pks, binop, cmpop, truth, setIx, rangeOf, big, revOf, store, put, puts, putG, setOwn, ownOf, lstAt, bltF, lenF, lenOf, intF, absF, gcdF, isiF, isTy, listF, tupleF, dictF, mutF, appendF, isBw_0, isBw_s, nb_sh, nb_ow, nb_un, nb_bw, settle, storesR, bindA, back, lent, List.getElem?_cons_zero, List.getElem?_cons_succ, List.set_cons_zero, List.set_cons_succ, List.length_cons, List.length_nil, List.map_cons, List.map_nil, List.append_nil, List.nil_append, List.cons_append, and_self, and_true, true_and, if_true, if_false, ite_true, ite_false, reduceIte, Option.bind_some, Option.map_some, decide_true, decide_false, Bool.not_true, Bool.not_false, Bool.false_eq_true, Option.some.injEq, Nat.reduceLT, Nat.reduceAdd, Nat.zero_add, Nat.add_one_lt_add_one_iff, Nat.lt_add_left_iff_pos, Nat.lt_add_one, Nat.zero_lt_succ, Int.reduceLT, Int.reduceLE, Int.reduceNeg, Int.reducePow, Int.reduceToNat, Int.reduceMul, Int.reduceSub,  Int.reduceAdd, forall_const, ne_eq, not_true_eq_false, not_false_eq_true]
        by_cases hv : v = 0
        · simp only [hv, getIx, L2.atI, L2.ixN, wipe, restore, List.foldl_cons, List.foldl_nil, List.getD_cons_zero, List.getD_cons_succ, lpI_nx, lpI_ct, lpI_bk, lpI_rt, shaped_int, shaped_bl, shaped_non, deq_ii, deq_bb, Bool.and_self, Bool.and_true, Bool.true_and, Int.cast_ofNat_Int, Nat.reducePow, Nat.reduceLeDiff, Int.zero_add, Int.add_zero, aft_nx, aft_rt, aft_bk, aft_ct, af_nx, af_rt, af_bk, af_ct, decide_eq_true_eq, eval, evals, evalsT, evalsA, evalO, evalC, evalI, dictI, test, op_bind, op_map, op_some, op_none, op_ite, if_false_right, pk, take, pks, binop, cmpop, truth, setIx, rangeOf, big, revOf, store, put, puts, putG, setOwn, ownOf, lstAt, bltF, lenF, lenOf, intF, absF, gcdF, isiF, isTy, listF, tupleF, dictF, mutF, appendF, isBw_0, isBw_s, nb_sh, nb_ow, nb_un, nb_bw, settle, storesR, bindA, back, lent, List.getElem?_cons_zero, List.getElem?_cons_succ, List.set_cons_zero, List.set_cons_succ, List.length_cons, List.length_nil, List.map_cons, List.map_nil, List.append_nil, List.nil_append, List.cons_append, and_self, and_true, true_and, if_true, if_false, ite_true, ite_false, reduceIte, Option.bind_some, Option.map_some, decide_true, decide_false, Bool.not_true, Bool.not_false, Bool.false_eq_true, Option.some.injEq, Nat.reduceLT, Nat.reduceAdd, Nat.zero_add, Nat.add_one_lt_add_one_iff, Nat.lt_add_left_iff_pos, Nat.lt_add_one, Nat.zero_lt_succ, Int.reduceLT, Int.reduceLE, Int.reduceNeg, Int.reducePow, Int.reduceToNat, Int.reduceMul, Int.reduceSub,  Int.reduceAdd, forall_const, ne_eq, not_true_eq_false, not_false_eq_true]
          exact ⟨.inl trivial, _, _, rfl⟩
        · simp only [hv, getIx, L2.atI, L2.ixN, wipe, restore, List.foldl_cons, List.foldl_nil, List.getD_cons_zero, List.getD_cons_succ, lpI_nx, lpI_ct, lpI_bk, lpI_rt, shaped_int, shaped_bl, shaped_non, deq_ii, deq_bb, Bool.and_self, Bool.and_true, Bool.true_and, Int.cast_ofNat_Int, Nat.reducePow, Nat.reduceLeDiff, Int.zero_add, Int.add_zero, aft_nx, aft_rt, aft_bk, aft_ct, af_nx, af_rt, af_bk, af_ct, decide_eq_true_eq, eval, evals, evalsT, evalsA, evalO, evalC, evalI, dictI, test, op_bind, op_map, op_some, op_none, op_ite, if_false_right, pk, take, pks, binop, cmpop, truth, setIx, rangeOf, big, revOf, store, put, puts, putG, setOwn, ownOf, lstAt, bltF, lenF, lenOf, intF, absF, gcdF, isiF, isTy, listF, tupleF, dictF, mutF, appendF, isBw_0, isBw_s, nb_sh, nb_ow, nb_un, nb_bw, settle, storesR, bindA, back, lent, List.getElem?_cons_zero, List.getElem?_cons_succ, List.set_cons_zero, List.set_cons_succ, List.length_cons, List.length_nil, List.map_cons, List.map_nil, List.append_nil, List.nil_append, List.cons_append, and_self, and_true, true_and, if_true, if_false, ite_true, ite_false, reduceIte, Option.bind_some, Option.map_some, decide_true, decide_false, Bool.not_true, Bool.not_false, Bool.false_eq_true, Option.some.injEq, Nat.reduceLT, Nat.reduceAdd, Nat.zero_add, Nat.add_one_lt_add_one_iff, Nat.lt_add_left_iff_pos, Nat.lt_add_one, Nat.zero_lt_succ, Int.reduceLT, Int.reduceLE, Int.reduceNeg, Int.reducePow, Int.reduceToNat, Int.reduceMul, Int.reduceSub,  Int.reduceAdd, forall_const, ne_eq, not_true_eq_false, not_false_eq_true]
          exact ⟨.inr trivial, _, _, rfl⟩
      · exact ⟨_, _, rfl⟩
      · rintro ⟨r, e⟩ ⟨hr, b2, c2, he⟩
        simp only at hr he
        subst he
        obtain ⟨l', hl', rfl⟩ := List.sublist_map_iff.mp hr
        have hc : Ch b (l'.map fun (k : Nat) => (k : Int)) := ⟨List.pairwise_map.mpr ((List.pairwise_lt_range.sublist hl').imp fun h => by omega), fun x hx => by
          obtain ⟨k, _, rfl⟩ := List.mem_map.mp hx; omega, fun x hx => by
          obtain ⟨k, hk, rfl⟩ := List.mem_map.mp hx
          have := List.mem_range.mp (hl'.subset hk)
          omega⟩
        have hlen := hl'.length_le
        rw [List.length_range] at hlen
        simp only [getIx, L2.atI, L2.ixN, wipe, restore, List.foldl_cons, List.foldl_nil, List.getD_cons_zero, List.getD_cons_succ, lpI_nx, lpI_ct, lpI_bk, lpI_rt, shaped_int, shaped_bl, shaped_non, deq_ii, deq_bb, Bool.and_self, Bool.and_true, Bool.true_and, Int.cast_ofNat_Int, Nat.reducePow, Nat.reduceLeDiff, Int.zero_add, Int.add_zero, aft_nx, aft_rt, aft_bk, aft_ct, af_nx, af_rt, af_bk, af_ct, decide_eq_true_eq, eval, evals, evalsT, evalsA, evalO, evalC, evalI, dictI, test, op_bind, op_map, op_some, op_none, op_ite, if_false_right, pk, take, pks, binop, cmpop, truth, setIx, rangeOf, big, revOf, store, put, puts, putG, setOwn, ownOf, lstAt, bltF, lenF, lenOf, intF, absF, gcdF, isiF, isTy, listF, tupleF, dictF, mutF, appendF, isBw_0, isBw_s, nb_sh, nb_ow, nb_un, nb_bw, settle, storesR, bindA, back, lent, List.getElem?_cons_zero, List.getElem?_cons_succ, List.set_cons_zero, List.set_cons_succ, List.length_cons, List.length_nil, List.map_cons, List.map_nil, List.append_nil, List.nil_append, List.cons_append, and_self, and_true, true_and, if_true, if_false, ite_true, ite_false, reduceIte, Option.bind_some, Option.map_some, decide_true, decide_false, Bool.not_true, Bool.not_false, Bool.false_eq_true, Option.some.injEq, Nat.reduceLT, Nat.reduceAdd, Nat.zero_add, Nat.add_one_lt_add_one_iff, Nat.lt_add_left_iff_pos, Nat.lt_add_one, Nat.zero_lt_succ, Int.reduceLT, Int.reduceLE, Int.reduceNeg, Int.reducePow, Int.reduceToNat, Int.reduceMul, Int.reduceSub,  Int.reduceAdd, forall_const, ne_eq, not_true_eq_false, not_false_eq_true, n5, wp_nil, List.length_map, hsl]
        refine ⟨by omega, l'.map fun (k : Nat) => (k : Int), b2, c2, s6, ?_, n6, hc⟩
        simp
    · rintro e ⟨l, b1, c1, s6, rfl, n6, hc⟩
      rw [wp_exp]
      have hsh : shaped (chD l) = true := shaped_of (shpL_of fun d hd => by obtain ⟨i, _, rfl⟩ := List.mem_map.mp hd; rfl) (by
        show deepL _ + 1 ≤ 64
        have : deepL (l.map D.int) ≤ 0 := deepL_of fun d hd => by obtain ⟨i, _, rfl⟩ := List.mem_map.mp hd; exact Nat.le_refl _
        omega)
      have hsh0 : shaped (.lst []) = true := by decide
      have fin : ∀ (l : List Int) (b1 c1 : Int) (t : Sl), Ch b l → l ≠ [] → nb t = true → nb s6 = true → ∃ Ls' b1' c1' s4 s5 s6', [Sl.bw (pool ns a b1 c1), .sh (.int (n : Nat)), .sh (.int (b : Nat)), .ow (.lst ((Ls.map fun l => D.lst (l.map D.int)) ++ [chD l])), .sh (.int (i : Nat)), t, s6] = [Sl.bw (pool ns a b1' c1'), .sh (.int (n : Nat)), .sh (.int (b : Nat)), .ow (lockD Ls'), s4, s5, s6'] ∧ nb s4 = true ∧ nb s5 = true ∧ nb s6' = true ∧ Ls'.length = i + 1 ∧ ∀ (l : List Int), l ∈ Ls' → Ch b l ∧ ¬l = [] := fun l b1 c1 t hc hl ht h6 =>
        ⟨Ls ++ [l], b1, c1, .sh (.int (i : Nat)), t, s6, by simp, rfl, ht, h6, by simp [hL], fun l' hl' => by
          rcases List.mem_append.mp hl' with h | h
          · exact hLs l' h
          · rw [List.mem_singleton.mp h]; exact ⟨hc, hl⟩⟩
      have hLl : (Ls.map fun l => D.lst (l.map D.int)).length < PySem.sizeLine := by rw [List.length_map, hsl]; omega
      cases l with
      | nil =>
        have hd : deq (chD []) (.lst []) = true := rfl
        simp only [getIx, L2.atI, L2.ixN, wipe, restore, List.foldl_cons, List.foldl_nil, List.getD_cons_zero, List.getD_cons_succ, lpI_nx, lpI_ct, lpI_bk, lpI_rt, shaped_int, shaped_bl, shaped_non, deq_ii, deq_bb, Bool.and_self, Bool.and_true, Bool.true_and, Int.cast_ofNat_Int, Nat.reducePow, Nat.reduceLeDiff, Int.zero_add, Int.add_zero, aft_nx, aft_rt, aft_bk, aft_ct, af_nx, af_rt, af_bk, af_ct, decide_eq_true_eq, eval, evals, evalsT, evalsA, evalO, evalC, evalI, dictI, test, op_bind, op_map, op_some, op_none, op_ite, if_false_right, pk, take, pks, binop, cmpop, truth, setIx, rangeOf, big, revOf, store, put, puts, putG, setOwn, ownOf, lstAt, bltF, lenF, lenOf, intF, absF, gcdF, isiF, isTy, listF, tupleF, dictF, mutF, appendF, isBw_0, isBw_s, nb_sh, nb_ow, nb_un, nb_bw, settle, storesR, bindA, back, lent, List.getElem?_cons_zero, List.getElem?_cons_succ, List.set_cons_zero, List.set_cons_succ, List.length_cons, List.length_nil, List.map_cons, List.map_nil, List.append_nil, List.nil_append, List.cons_append, and_self, and_true, true_and, if_true, if_false, ite_true, ite_false, reduceIte, Option.bind_some, Option.map_some, decide_true, decide_false, Bool.not_true, Bool.not_false, Bool.false_eq_true, Option.some.injEq, Nat.reduceLT, Nat.reduceAdd, Nat.zero_add, Nat.add_one_lt_add_one_iff, Nat.lt_add_left_iff_pos, Nat.lt_add_one, Nat.zero_lt_succ, Int.reduceLT, Int.reduceLE, Int.reduceNeg, Int.reducePow, Int.reduceToNat, Int.reduceMul, Int.reduceSub,  Int.reduceAdd, forall_const, ne_eq, not_true_eq_false, not_false_eq_true, hsh, hsh0, hd, W.io]
        refine ⟨by decide, (W.ok ns a b1 c1 b (by omega) (by omega)).mono ?_⟩
        rintro _ ⟨v, b2, c2, v0, v1, rfl⟩
        simp only [getIx, L2.atI, L2.ixN, wipe, restore, List.foldl_cons, List.foldl_nil, List.getD_cons_zero, List.getD_cons_succ, lpI_nx, lpI_ct, lpI_bk, lpI_rt, shaped_int, shaped_bl, shaped_non, deq_ii, deq_bb, Bool.and_self, Bool.and_true, Bool.true_and, Int.cast_ofNat_Int, Nat.reducePow, Nat.reduceLeDiff, Int.zero_add, Int.add_zero, aft_nx, aft_rt, aft_bk, aft_ct, af_nx, af_rt, af_bk, af_ct, decide_eq_true_eq, eval, evals, evalsT, evalsA, evalO, evalC, evalI, dictI, test, op_bind, op_map, op_some, op_none, op_ite, if_false_right, pk, take, pks, binop, cmpop, truth, setIx, rangeOf, big, revOf, store, put, puts, putG, setOwn, ownOf, lstAt, bltF, lenF, lenOf, intF, absF, gcdF, isiF, isTy, listF, tupleF, dictF, mutF, appendF, isBw_0, isBw_s, nb_sh, nb_ow, nb_un, nb_bw, settle, storesR, bindA, back, lent, List.getElem?_cons_zero, List.getElem?_cons_succ, List.set_cons_zero, List.set_cons_succ, List.length_cons, List.length_nil, List.map_cons, List.map_nil, List.append_nil, List.nil_append, List.cons_append, and_self, and_true, true_and, if_true, if_false, ite_true, ite_false, reduceIte, Option.bind_some, Option.map_some, decide_true, decide_false, Bool.not_true, Bool.not_false, Bool.false_eq_true, Option.some.injEq, Nat.reduceLT, Nat.reduceAdd, Nat.zero_add, Nat.add_one_lt_add_one_iff, Nat.lt_add_left_iff_pos, Nat.lt_add_one, Nat.zero_lt_succ, Int.reduceLT, Int.reduceLE, Int.reduceNeg, Int.reducePow, Int.reduceToNat, Int.reduceMul, Int.reduceSub,  Int.reduceAdd, forall_const, ne_eq, not_true_eq_false, not_false_eq_true, hLl, wp_nil]
        refine ⟨by decide, fin [v] b2 c2 _ ⟨List.pairwise_singleton _ _, fun x hx => ?_, fun x hx => ?_⟩ (by simp) rfl n6⟩
        · rw [List.mem_singleton.mp hx]; exact v0
        · rw [List.mem_singleton.mp hx]; exact v1
      | cons x l =>
        have hd : deq (chD (x :: l)) (.lst []) = false := rfl
        simp only [getIx, L2.atI, L2.ixN, wipe, restore, List.foldl_cons, List.foldl_nil, List.getD_cons_zero, List.getD_cons_succ, lpI_nx, lpI_ct, lpI_bk, lpI_rt, shaped_int, shaped_bl, shaped_non, deq_ii, deq_bb, Bool.and_self, Bool.and_true, Bool.true_and, Int.cast_ofNat_Int, Nat.reducePow, Nat.reduceLeDiff, Int.zero_add, Int.add_zero, aft_nx, aft_rt, aft_bk, aft_ct, af_nx, af_rt, af_bk, af_ct, decide_eq_true_eq, eval, evals, evalsT, evalsA, evalO, evalC, evalI, dictI, test, op_bind, op_map, op_some, op_none, op_ite, if_false_right, pk, take, pks, binop, cmpop, truth, setIx, rangeOf, big, revOf, store, put, puts, putG, setOwn, ownOf, lstAt, bltF, lenF, lenOf, intF, absF, gcdF, isiF, isTy, listF, tupleF, dictF, mutF, appendF, isBw_0, isBw_s, nb_sh, nb_ow, nb_un, nb_bw, settle, storesR, bindA, back, lent, List.getElem?_cons_zero, List.getElem?_cons_succ, List.set_cons_zero, List.set_cons_succ, List.length_cons, List.length_nil, List.map_cons, List.map_nil, List.append_nil, List.nil_append, List.cons_append, and_self, and_true, true_and, if_true, if_false, ite_true, ite_false, reduceIte, Option.bind_some, Option.map_some, decide_true, decide_false, Bool.not_true, Bool.not_false, Bool.false_eq_true, Option.some.injEq, Nat.reduceLT, Nat.reduceAdd, Nat.zero_add, Nat.add_one_lt_add_one_iff, Nat.lt_add_left_iff_pos, Nat.lt_add_one, Nat.zero_lt_succ, Int.reduceLT, Int.reduceLE, Int.reduceNeg, Int.reducePow, Int.reduceToNat, Int.reduceMul, Int.reduceSub,  Int.reduceAdd, forall_const, ne_eq, not_true_eq_false, not_false_eq_true, hsh, hsh0, hd, hLl, wp_nil]
        exact ⟨by decide, fin (x :: l) b1 c1 _ hc (by simp) rfl n6⟩
  · rintro e ⟨Ls, b1, c1, s4, s5, s6, rfl, n4, n5, n6, hL, hLs⟩
    rw [List.length_map, List.length_range] at hL
    rw [aft_nx, wp_ret]
    simp only [getIx, L2.atI, L2.ixN, wipe, restore, List.foldl_cons, List.foldl_nil, List.getD_cons_zero, List.getD_cons_succ, lpI_nx, lpI_ct, lpI_bk, lpI_rt, shaped_int, shaped_bl, shaped_non, deq_ii, deq_bb, Bool.and_self, Bool.and_true, Bool.true_and, Int.cast_ofNat_Int, Nat.reducePow, Nat.reduceLeDiff, Int.zero_add, Int.add_zero, aft_nx, aft_rt, aft_bk, aft_ct, af_nx, af_rt, af_bk, af_ct, decide_eq_true_eq, eval, evals, evalsT, evalsA, evalO, evalC, evalI, dictI, test, op_bind, op_map, op_some, op_none, op_ite, if_false_right, pk, take, pks, binop, cmpop, truth, setIx, rangeOf, big, revOf, store, put, puts, putG, setOwn, ownOf, lstAt, bltF, lenF, lenOf, intF, absF, gcdF, isiF, isTy, listF, tupleF, dictF, mutF, appendF, isBw_0, isBw_s, nb_sh, nb_ow, nb_un, nb_bw, settle, storesR, bindA, back, lent, List.getElem?_cons_zero, List.getElem?_cons_succ, List.set_cons_zero, List.set_cons_succ, List.length_cons, List.length_nil, List.map_cons, List.map_nil, List.append_nil, List.nil_append, List.cons_append, and_self, and_true, true_and, if_true, if_false, ite_true, ite_false, reduceIte, Option.bind_some, Option.map_some, decide_true, decide_false, Bool.not_true, Bool.not_false, Bool.false_eq_true, Option.some.injEq, Nat.reduceLT, Nat.reduceAdd, Nat.zero_add, Nat.add_one_lt_add_one_iff, Nat.lt_add_left_iff_pos, Nat.lt_add_one, Nat.zero_lt_succ, Int.reduceLT, Int.reduceLE, Int.reduceNeg, Int.reducePow, Int.reduceToNat, Int.reduceMul, Int.reduceSub,  Int.reduceAdd, forall_const, ne_eq, not_true_eq_false, not_false_eq_true, outF, outR, outIo, wipe, restore, List.foldl_cons, List.foldl_nil, List.getD_cons_zero, List.getD_cons_succ, lpI_nx, lpI_ct, lpI_bk, lpI_rt, shaped_int, shaped_bl, shaped_non, deq_ii, deq_bb, Bool.and_self, Bool.and_true, Bool.true_and, Int.cast_ofNat_Int, Nat.reducePow, Nat.reduceLeDiff, Int.zero_add, Int.add_zero, aft_nx, aft_rt, aft_bk, aft_ct, af_nx, af_rt, af_bk, af_ct, decide_eq_true_eq, eval, evals, evalsT, evalsA, evalO, evalC, evalI, dictI, test, op_bind, op_map, op_some, op_none, op_ite, if_false_right, pk, take, pks, binop, cmpop, truth, setIx, rangeOf, big, revOf, store, put, puts, putG, setOwn, ownOf, lstAt, bltF, lenF, lenOf, intF, absF, gcdF, isiF, isTy, listF, tupleF, dictF, mutF, appendF, isBw_0, isBw_s, nb_sh, nb_ow, nb_un, nb_bw, settle, storesR, bindA, back, lent, List.getElem?_cons_zero, List.getElem?_cons_succ, List.set_cons_zero, List.set_cons_succ, List.length_cons, List.length_nil, List.map_cons, List.map_nil, List.append_nil, List.nil_append, List.cons_append, and_self, and_true, true_and, if_true, if_false, ite_true, ite_false, reduceIte, Option.bind_some, Option.map_some, decide_true, decide_false, Bool.not_true, Bool.not_false, Bool.false_eq_true, Option.some.injEq, Nat.reduceLT, Nat.reduceAdd, Nat.zero_add, Nat.add_one_lt_add_one_iff, Nat.lt_add_left_iff_pos, Nat.lt_add_one, Nat.zero_lt_succ, Int.reduceLT, Int.reduceLE, Int.reduceNeg, Int.reducePow, Int.reduceToNat, Int.reduceMul, Int.reduceSub,  Int.reduceAdd, forall_const, ne_eq, not_true_eq_false, not_false_eq_true]
    exact ⟨Ls, b1, c1, rfl, hL, hLs⟩
theorem img_ints {r : List D} {P : Int → Prop} (h : ∀ x ∈ r, ∃ v, x = .int v ∧ P v) : ∃ ks : List Int, r = ks.map .int ∧ ∀ k ∈ ks, P k := by
  induction r with
  | nil => exact ⟨[], rfl, fun k hk => nomatch hk⟩
  | cons x r ih =>
    obtain ⟨v, rfl, hv⟩ := h x (List.mem_cons_self ..)
    obtain ⟨ks, rfl, hk⟩ := ih fun y hy => h y (List.mem_cons_of_mem _ hy)
    refine ⟨v :: ks, rfl, fun k hk' => ?_⟩
    rcases List.mem_cons.mp hk' with rfl | h
    · exact hv
    · exact hk k h
theorem all2_right {R : D → D → Prop} {P : D → Prop} (f : ∀ a b, R a b → P b) : ∀ {as bs : List D}, All2 R as bs → ∀ b ∈ bs, P b
  | [], [], _, b, h => nomatch h
  | _ :: _, _ :: _, h, b, hb => by
    rcases List.mem_cons.mp hb with rfl | hb
    · exact f _ _ h.1
    · exact all2_right f h.2 b hb
  | [], _ :: _, h, _, _ => h.elim
  | _ :: _, [], h, _, _ => h.elim
theorem key_ok {cf : Cf} (W : DrawOk' cf 8) (ns : List Int) (a b0 c : Int) (n : Nat) (b : Nat) (hn : n ≤ 5) (hb0 : 0 < b) (hb : b ≤ 6) :
    Op (runFn cf f__law_key [.bw (pool ns a b0 c), .sh (.int (n : Nat)), .sh (.int (b : Nat))]) fun r => ∃ ks b1 c1, r = (.v (tI ks), some (pool ns a b1 c1)) ∧ ks.length = n ∧ ∀ k ∈ ks, 0 ≤ k ∧ k < b := by
  rw [wp_run rfl rfl]
  show Wp cf f__law_key.body [.bw (pool ns a b0 c), .sh (.int (n : Nat)), .sh (.int (b : Nat)), .un] _
  unfold f__law_key
  have hsl : PySem.sizeLine = 16777216 := by decide
  rw [wp_ret]
  simp -implicitDefEqProofs only [wipe, restore, List.foldl_cons, List.foldl_nil, List.getD_cons_zero, List.getD_cons_succ, lpI_nx, lpI_ct, lpI_bk, lpI_rt, shaped_int, shaped_bl, shaped_non, deq_ii, deq_bb, Bool.and_self, Bool.and_true, Bool.true_and, Int.cast_ofNat_Int, Nat.reducePow, Nat.reduceLeDiff, Int.zero_add, Int.add_zero, aft_nx, aft_rt, aft_bk, aft_ct, af_nx, af_rt, af_bk, af_ct, decide_eq_true_eq, eval, evals, evalsT, evalsA, evalO, evalC, evalI, dictI, test, op_bind, op_map, op_some, op_none, op_ite, if_false_right, pk, take, pks, binop, cmpop, truth, setIx, revOf, store, put, puts, putG, setOwn, ownOf, lstAt, bltF, lenF, lenOf, intF, absF, gcdF, isiF, isTy, listF, tupleF, dictF, mutF, appendF, isBw_0, isBw_s, nb_sh, nb_ow, nb_un, nb_bw, settle, storesR, bindA, back, lent, List.getElem?_cons_zero, List.getElem?_cons_succ, List.set_cons_zero, List.set_cons_succ, List.length_cons, List.length_nil, List.map_cons, List.map_nil, List.append_nil, List.nil_append, List.cons_append, and_self, and_true, true_and, if_true, if_false, ite_true, ite_false, reduceIte, Option.bind_some, Option.map_some, decide_true, decide_false, Bool.not_true, Bool.not_false, Bool.false_eq_true, Option.some.injEq, Nat.reduceLT, Nat.reduceAdd, Nat.zero_add, Nat.add_one_lt_add_one_iff, Nat.lt_add_left_iff_pos, Nat.lt_add_one, Nat.zero_lt_succ, Int.reduceLT, Int.reduceLE, Int.reduceNeg, Int.reducePow, Int.reduceToNat, Int.reduceMul, Int.reduceSub,  Int.reduceAdd, forall_const, ne_eq, not_true_eq_false, not_false_eq_true, range_nat (show n < 2 ^ 62 by omega)]
  refine (lc_all (I := fun e => ∃ b1 c1, e = [.bw (pool ns a b1 c1), .sh (.int (n : Nat)), .sh (.int (b : Nat)), .un]) (fun _ x => ∃ v : Int, x = .int v ∧ 0 ≤ v ∧ v < b) _ _ ?_ ?_).mono ?_
  · rintro d hd e ⟨b1, c1, rfl⟩
    simp only [getIx, L2.atI, L2.ixN, wipe, restore, List.foldl_cons, List.foldl_nil, List.getD_cons_zero, List.getD_cons_succ, lpI_nx, lpI_ct, lpI_bk, lpI_rt, shaped_int, shaped_bl, shaped_non, deq_ii, deq_bb, Bool.and_self, Bool.and_true, Bool.true_and, Int.cast_ofNat_Int, Nat.reducePow, Nat.reduceLeDiff, Int.zero_add, Int.add_zero, aft_nx, aft_rt, aft_bk, aft_ct, af_nx, af_rt, af_bk, af_ct, decide_eq_true_eq, eval, evals, evalsT, evalsA, evalO, evalC, evalI, dictI, test, op_bind, op_map, op_some, op_none, op_ite, if_false_right, pk, take, pks, binop, cmpop, truth, setIx, rangeOf, big, revOf, store, put, puts, putG, setOwn, ownOf, lstAt, bltF, lenF, lenOf, intF, absF, gcdF, isiF, isTy, listF, tupleF, dictF, mutF, appendF, isBw_0, isBw_s, nb_sh, nb_ow, nb_un, nb_bw, settle, storesR, bindA, back, lent, List.getElem?_cons_zero, List.getElem?_cons_succ, List.set_cons_zero, List.set_cons_succ, List.length_cons, List.length_nil, List.map_cons, List.map_nil, List.append_nil, List.nil_append, List.cons_append, and_self, and_true, true_and, if_true, if_false, ite_true, ite_false, reduceIte, Option.bind_some, Option.map_some, decide_true, decide_false, Bool.not_true, Bool.not_false, Bool.false_eq_true, Option.some.injEq, Nat.reduceLT, Nat.reduceAdd, Nat.zero_add, Nat.add_one_lt_add_one_iff, Nat.lt_add_left_iff_pos, Nat.lt_add_one, Nat.zero_lt_succ, Int.reduceLT, Int.reduceLE, Int.reduceNeg, Int.reducePow, Int.reduceToNat, Int.reduceMul, Int.reduceSub,  Int.reduceAdd, forall_const, ne_eq, not_true_eq_false, not_false_eq_true, W.io]
    refine (W.ok ns a b1 c1 b (by omega) (by omega)).mono ?_
    rintro _ ⟨v, b2, c2, v0, v1, rfl⟩
    simp only [getIx, L2.atI, L2.ixN, wipe, restore, List.foldl_cons, List.foldl_nil, List.getD_cons_zero, List.getD_cons_succ, lpI_nx, lpI_ct, lpI_bk, lpI_rt, shaped_int, shaped_bl, shaped_non, deq_ii, deq_bb, Bool.and_self, Bool.and_true, Bool.true_and, Int.cast_ofNat_Int, Nat.reducePow, Nat.reduceLeDiff, Int.zero_add, Int.add_zero, aft_nx, aft_rt, aft_bk, aft_ct, af_nx, af_rt, af_bk, af_ct, decide_eq_true_eq, eval, evals, evalsT, evalsA, evalO, evalC, evalI, dictI, test, op_bind, op_map, op_some, op_none, op_ite, if_false_right, pk, take, pks, binop, cmpop, truth, setIx, rangeOf, big, revOf, store, put, puts, putG, setOwn, ownOf, lstAt, bltF, lenF, lenOf, intF, absF, gcdF, isiF, isTy, listF, tupleF, dictF, mutF, appendF, isBw_0, isBw_s, nb_sh, nb_ow, nb_un, nb_bw, settle, storesR, bindA, back, lent, List.getElem?_cons_zero, List.getElem?_cons_succ, List.set_cons_zero, List.set_cons_succ, List.length_cons, List.length_nil, List.map_cons, List.map_nil, List.append_nil, List.nil_append, List.cons_append, and_self, and_true, true_and, if_true, if_false, ite_true, ite_false, reduceIte, Option.bind_some, Option.map_some, decide_true, decide_false, Bool.not_true, Bool.not_false, Bool.false_eq_true, Option.some.injEq, Nat.reduceLT, Nat.reduceAdd, Nat.zero_add, Nat.add_one_lt_add_one_iff, Nat.lt_add_left_iff_pos, Nat.lt_add_one, Nat.zero_lt_succ, Int.reduceLT, Int.reduceLE, Int.reduceNeg, Int.reducePow, Int.reduceToNat, Int.reduceMul, Int.reduceSub,  Int.reduceAdd, forall_const, ne_eq, not_true_eq_false, not_false_eq_true]
    exact ⟨⟨_, rfl, _, rfl, v0, v1⟩, _, _, rfl⟩
  · exact ⟨_, _, rfl⟩
  · rintro ⟨r, e⟩ ⟨hr, b2, c2, he⟩
    simp only at hr he
    subst he
    have hlr := hr.length
    rw [List.length_map, List.length_range] at hlr
    obtain ⟨ks, rfl, hk⟩ := img_ints (all2_right (P := fun x => ∃ v : Int, x = .int v ∧ 0 ≤ v ∧ v < b) (fun _ _ h => h) hr)
    rw [List.length_map] at hlr
    simp only [getIx, L2.atI, L2.ixN, wipe, restore, List.foldl_cons, List.foldl_nil, List.getD_cons_zero, List.getD_cons_succ, lpI_nx, lpI_ct, lpI_bk, lpI_rt, shaped_int, shaped_bl, shaped_non, deq_ii, deq_bb, Bool.and_self, Bool.and_true, Bool.true_and, Int.cast_ofNat_Int, Nat.reducePow, Nat.reduceLeDiff, Int.zero_add, Int.add_zero, aft_nx, aft_rt, aft_bk, aft_ct, af_nx, af_rt, af_bk, af_ct, decide_eq_true_eq, eval, evals, evalsT, evalsA, evalO, evalC, evalI, dictI, test, op_bind, op_map, op_some, op_none, op_ite, if_false_right, pk, take, pks, binop, cmpop, truth, setIx, rangeOf, big, revOf, store, put, puts, putG, setOwn, ownOf, lstAt, bltF, lenF, lenOf, intF, absF, gcdF, isiF, isTy, listF, tupleF, dictF, mutF, appendF, isBw_0, isBw_s, nb_sh, nb_ow, nb_un, nb_bw, settle, storesR, bindA, back, lent, List.getElem?_cons_zero, List.getElem?_cons_succ, List.set_cons_zero, List.set_cons_succ, List.length_cons, List.length_nil, List.map_cons, List.map_nil, List.append_nil, List.nil_append, List.cons_append, and_self, and_true, true_and, if_true, if_false, ite_true, ite_false, reduceIte, Option.bind_some, Option.map_some, decide_true, decide_false, Bool.not_true, Bool.not_false, Bool.false_eq_true, Option.some.injEq, Nat.reduceLT, Nat.reduceAdd, Nat.zero_add, Nat.add_one_lt_add_one_iff, Nat.lt_add_left_iff_pos, Nat.lt_add_one, Nat.zero_lt_succ, Int.reduceLT, Int.reduceLE, Int.reduceNeg, Int.reducePow, Int.reduceToNat, Int.reduceMul, Int.reduceSub,  Int.reduceAdd, forall_const, ne_eq, not_true_eq_false, not_false_eq_true, outF, outR, outIo, wipe, restore, List.foldl_cons, List.foldl_nil, List.getD_cons_zero, List.getD_cons_succ, lpI_nx, lpI_ct, lpI_bk, lpI_rt, shaped_int, shaped_bl, shaped_non, deq_ii, deq_bb, Bool.and_self, Bool.and_true, Bool.true_and, Int.cast_ofNat_Int, Nat.reducePow, Nat.reduceLeDiff, Int.zero_add, Int.add_zero, aft_nx, aft_rt, aft_bk, aft_ct, af_nx, af_rt, af_bk, af_ct, decide_eq_true_eq, eval, evals, evalsT, evalsA, evalO, evalC, evalI, dictI, test, op_bind, op_map, op_some, op_none, op_ite, if_false_right, pk, take, pks, binop, cmpop, truth, setIx, rangeOf, big, revOf, store, put, puts, putG, setOwn, ownOf, lstAt, bltF, lenF, lenOf, intF, absF, gcdF, isiF, isTy, listF, tupleF, dictF, mutF, appendF, isBw_0, isBw_s, nb_sh, nb_ow, nb_un, nb_bw, settle, storesR, bindA, back, lent, List.getElem?_cons_zero, List.getElem?_cons_succ, List.set_cons_zero, List.set_cons_succ, List.length_cons, List.length_nil, List.map_cons, List.map_nil, List.append_nil, List.nil_append, List.cons_append, and_self, and_true, true_and, if_true, if_false, ite_true, ite_false, reduceIte, Option.bind_some, Option.map_some, decide_true, decide_false, Bool.not_true, Bool.not_false, Bool.false_eq_true, Option.some.injEq, Nat.reduceLT, Nat.reduceAdd, Nat.zero_add, Nat.add_one_lt_add_one_iff, Nat.lt_add_left_iff_pos, Nat.lt_add_one, Nat.zero_lt_succ, Int.reduceLT, Int.reduceLE, Int.reduceNeg, Int.reducePow, Int.reduceToNat, Int.reduceMul, Int.reduceSub,  Int.reduceAdd, forall_const, ne_eq, not_true_eq_false, not_false_eq_true, List.length_map, hsl]
    exact ⟨by omega, ks, b2, c2, rfl, hlr.symm, hk⟩
abbrev lT (rs : List (List Int)) : D := .lst (rs.map tI)
def ltL : List Int → List Int → Bool
  | [], [] => false
  | [], _ :: _ => true
  | _ :: _, [] => false
  | x :: a, y :: b => if x = y then ltL a b else decide (x < y)
def leL (a b : List Int) : Bool := !ltL b a
theorem ltL_eq : ∀ a b : List Int, ltL a b = decide (a < b)
  | [], [] => by simp [ltL]
  | [], _ :: _ => by simp [ltL]
  | _ :: _, [] => by simp [ltL]
  | x :: a, y :: b => by
    rw [ltL, ltL_eq a b]
    by_cases h : x = y
    · simp [h, List.cons_lt_cons_iff]
    · simp [h, List.cons_lt_cons_iff]
theorem shp_tI {l : List Int} (h : l.length ≤ 1000) : shaped (tI l) = true := ((Pl.tints (n := 0) (ns := l) (by omega)).eq (by decide)).1
theorem dlt_tI (a b : List Int) : dlt (tI a) (tI b) = ltL a b := by
  unfold dlt
  have e : ∀ l : List Int, toPy (tI l) = .tuple (l.map .int) := fun l => by
    show PySem.PyData.tuple (toPyL (l.map D.int)) = _
    congr 1
    induction l with
    | nil => rfl
    | cons x l ih => rw [List.map_cons, List.map_cons, toPyL, ih]; rfl
  rw [e, e, PySem.W.dataLt_tuple, ltL_eq]
  exact PySem.W.dataLt_ints a b
theorem dle_tI (a b : List Int) : dle (tI a) (tI b) = leL a b := by
  unfold dle leL
  rw [dlt_tI]
theorem alk_tI (a b : List Int) : alk (tI a) (tI b) = true := by
  unfold alk
  have e : ∀ l : List Int, toPy (tI l) = .tuple (l.map .int) := fun l => by
    show PySem.PyData.tuple (toPyL (l.map D.int)) = _
    congr 1
    induction l with
    | nil => rfl
    | cons x l ih => rw [List.map_cons, List.map_cons, toPyL, ih]; rfl
  rw [e, e]
  have h : ∀ a b : List Int, PySem.W.alikeAll (a.map .int) (b.map .int) = true := fun a => by
    induction a with
    | nil => intro b; cases b <;> rfl
    | cons x a ih =>
      intro b
      cases b with
      | nil => rfl
      | cons y b =>
        rw [List.map_cons, List.map_cons, PySem.W.alikeAll, ih b]
        rfl
  rw [PySem.W.alike]
  exact h a b
theorem sorted_tI {rs : List (List Int)} (h : ∀ r ∈ rs, r ≠ [] ∧ r.length ≤ 1000) : sortedF [lT rs] = some (.f (lT (sortB leL rs))) := by
  have h1 : (rs.map tI).all isTup1 = true := by
    rw [List.all_eq_true]
    intro d hd
    obtain ⟨r, hr, rfl⟩ := List.mem_map.mp hd
    obtain ⟨x, r', rfl⟩ := List.exists_cons_of_ne_nil (h r hr).1
    rfl
  have h2 : ((rs.map tI).all fun a => (rs.map tI).all fun b => alk a b) = true := by
    rw [List.all_eq_true]
    intro d hd
    obtain ⟨r, hr, rfl⟩ := List.mem_map.mp hd
    rw [List.all_eq_true]
    intro d hd
    obtain ⟨r, hr, rfl⟩ := List.mem_map.mp hd
    exact alk_tI _ _
  have h3 : shpL (rs.map tI) = true := shpL_of fun d hd => by
    obtain ⟨r, hr, rfl⟩ := List.mem_map.mp hd
    exact (Pl.tints (n := 0) (ns := r) (by have := (h r hr).2; omega)).shp.1
  have h4 : deepL (rs.map tI) ≤ 60 := deepL_of fun d hd => by
    obtain ⟨r, hr, rfl⟩ := List.mem_map.mp hd
    exact Nat.le_trans (Pl.tints (n := 0) (ns := r) (by have := (h r hr).2; omega)).shp.2 (by decide)
  have h5 : sortable (rs.map tI) = true := by
    unfold sortable
    rw [h1, h2, h3, decide_eq_true h4]
    rfl
  simp only [sortedF, h5, if_true]
  rw [sortB_map (le := leL) tI dle_tI]
/-- a comprehension of two walks, each turn leaving the slots as they were but its own -/
theorem flat_pure {own : List Nat} {turn : D → Env → Option (List D × Env)} (f : D → List D) {env0 : Env} : ∀ (ds : List D), (∀ d ∈ ds, Op (turn d env0) fun p => p.1 = f d ∧ wipe p.2 own = env0) →
    Op (flatLoop own turn ds env0) fun q => q = (ds.flatMap f, env0)
  | [], _ => by simp only [flatLoop, op_some]; rfl
  | d :: ds, h => by
    obtain ⟨⟨o, e⟩, h1, h2, h3⟩ := h d (List.mem_cons_self ..)
    simp only at h2 h3
    obtain ⟨q, k1, k2⟩ := flat_pure f ds fun d hd => h d (List.mem_cons_of_mem _ hd)
    simp only [flatLoop, h1, Option.bind_some, h3, k1, Option.map_some, op_some]
    subst k2 h2
    rw [List.flatMap_cons]
theorem deq_lI : ∀ a b : List Int, deqL (a.map D.int) (b.map D.int) = decide (a = b)
  | [], [] => rfl
  | [], _ :: _ => rfl
  | _ :: _, [] => rfl
  | x :: a, y :: b => by
    simp only [List.map_cons, deqL, deq_ii, deq_lI a b]
    by_cases h : x = y <;> simp [h]
theorem deq_tI (a b : List Int) : deq (tI a) (tI b) = decide (a = b) := by simp only [deq, deq_lI]
theorem ch_len : ∀ (l : List Int) (lo hi : Int), l.Pairwise (· < ·) → (∀ x ∈ l, lo ≤ x ∧ x < hi) → lo ≤ hi → (l.length : Int) ≤ hi - lo
  | [], lo, hi, _, _, h => by rw [List.length_nil]; omega
  | x :: l, lo, hi, hp, hb, h => by
    obtain ⟨p1, p2⟩ := List.pairwise_cons.mp hp
    have hx := hb x (List.mem_cons_self ..)
    have := ch_len l (x + 1) hi p2 (fun y hy => ⟨by have := p1 y hy; omega, (hb y (List.mem_cons_of_mem _ hy)).2⟩) (by omega)
    rw [List.length_cons]
    omega
theorem cut_to {ds : List D} {i : Nat} (h : i ≤ ds.length) : cut ds none (some (i : Int)) = ds.take i := by
  unfold cut
  simp only [sIx, HT.sIx_nat, HT.sIx_none, Nat.min_eq_left h, Nat.sub_zero, List.drop_zero]
def extK (l : List Int) (q : List Int) : List (List Int) := l.map fun h => q ++ [h]
def kallF (F : List (List Int)) (Ls : List (List Int)) : List (List Int) := Ls.foldl (fun F l => F.flatMap (extK l)) F
def kall (Ls : List (List Int)) : List (List Int) := kallF [[]] Ls
theorem kallF_mem : ∀ (Ls F : List (List Int)) (k : List Int), k ∈ kallF F Ls ↔ ∃ f ∈ F, ∃ t, k = f ++ t ∧ opn Ls t = true
  | [], F, k => by
    constructor
    · intro h
      exact ⟨k, h, [], by simp, rfl⟩
    · rintro ⟨f, hf, t, rfl, ht⟩
      cases t with
      | nil => simpa [kallF] using hf
      | cons a t => simp [opn] at ht
  | l :: Ls, F, k => by
    show k ∈ kallF (F.flatMap (extK l)) Ls ↔ _
    rw [kallF_mem Ls]
    constructor
    · rintro ⟨f, hf, t, rfl, ht⟩
      obtain ⟨q, hq, hf⟩ := List.mem_flatMap.mp hf
      obtain ⟨h, hh, rfl⟩ := List.mem_map.mp hf
      exact ⟨q, hq, h :: t, by simp, by simp [opn, ht, hh]⟩
    · rintro ⟨f, hf, t, rfl, ht⟩
      cases t with
      | nil => simp [opn] at ht
      | cons h t =>
        simp only [opn, Bool.and_eq_true] at ht
        exact ⟨f ++ [h], List.mem_flatMap.mpr ⟨f, hf, List.mem_map.mpr ⟨h, by simpa using ht.1, rfl⟩⟩, t, by simp, ht.2⟩
theorem kall_mem (Ls : List (List Int)) (k : List Int) : k ∈ kall Ls ↔ opn Ls k = true := by
  unfold kall
  rw [kallF_mem]
  constructor
  · rintro ⟨f, hf, t, rfl, ht⟩
    obtain rfl := List.mem_singleton.mp hf
    exact ht
  · intro h
    exact ⟨[], List.mem_singleton_self _, k, rfl, h⟩
theorem kall_snoc (Ls : List (List Int)) (l : List Int) : kall (Ls ++ [l]) = (kall Ls).flatMap (extK l) := by
  unfold kall kallF
  rw [List.foldl_append]; rfl
theorem opn_length : ∀ {Ls : List (List Int)} {ks : List Int}, opn Ls ks = true → ks.length = Ls.length
  | [], [], _ => rfl
  | [], _ :: _, h => by simp [opn] at h
  | _ :: _, [], h => by simp [opn] at h
  | l :: Ls, k :: ks, h => by
    simp only [opn, Bool.and_eq_true] at h
    rw [List.length_cons, List.length_cons, opn_length h.2]
theorem flatMap_len (F : List (List Int)) (l : List Int) : (F.flatMap (extK l)).length = F.length * l.length := by
  induction F with
  | nil => simp
  | cons f F ih => rw [List.flatMap_cons, List.length_append, ih, List.length_cons, Nat.succ_mul]; simp [extK]; omega
theorem kall_len : ∀ (Ls : List (List Int)) (F : List (List Int)), (∀ l ∈ Ls, l.length ≤ 5) → (kallF F Ls).length ≤ F.length * 5 ^ Ls.length
  | [], F, _ => by simp [kallF]
  | l :: Ls, F, h => by
    have ih := kall_len Ls (F.flatMap (extK l)) fun l hl => h l (List.mem_cons_of_mem _ hl)
    have hl := h l (List.mem_cons_self ..)
    rw [flatMap_len] at ih
    show (kallF (F.flatMap (extK l)) Ls).length ≤ _
    refine Nat.le_trans ih ?_
    rw [List.length_cons, Nat.pow_succ, Nat.mul_assoc]
    refine Nat.mul_le_mul_left _ ?_
    rw [Nat.mul_comm]
    exact Nat.mul_le_mul_left _ hl
theorem kall_le {Ls : List (List Int)} (h : ∀ l ∈ Ls, l.length ≤ 5) (hn : Ls.length ≤ 4) : (kall Ls).length ≤ 625 := by
  have := kall_len Ls [[]] h
  refine Nat.le_trans this ?_
  rw [List.length_singleton, Nat.one_mul]
  exact Nat.le_trans (Nat.pow_le_pow_right (by decide) hn) (by decide)
theorem mem_insB {α : Type} (le : α → α → Bool) (x y : α) : ∀ l : List α, y ∈ insB le x l ↔ y = x ∨ y ∈ l
  | [] => by simp [insB]
  | z :: l => by
    unfold insB
    by_cases h : le x z = true
    · rw [if_pos h]; simp
    · rw [if_neg h, List.mem_cons, mem_insB le x y l, List.mem_cons]
      constructor
      · rintro (h | h | h)
        · exact .inr (.inl h)
        · exact .inl h
        · exact .inr (.inr h)
      · rintro (h | h | h)
        · exact .inr (.inl h)
        · exact .inl h
        · exact .inr (.inr h)
theorem mem_sortB {α : Type} (le : α → α → Bool) (y : α) : ∀ l : List α, y ∈ sortB le l ↔ y ∈ l
  | [] => by simp [sortB]
  | x :: l => by
    show y ∈ insB le x (sortB le l) ↔ _
    rw [mem_insB, mem_sortB le y l, List.mem_cons]
theorem len_insB {α : Type} (le : α → α → Bool) (x : α) : ∀ l : List α, (insB le x l).length = l.length + 1
  | [] => rfl
  | z :: l => by
    unfold insB
    by_cases h : le x z = true
    · rw [if_pos h]; rfl
    · rw [if_neg h, List.length_cons, len_insB le x l, List.length_cons]
theorem len_sortB {α : Type} (le : α → α → Bool) : ∀ l : List α, (sortB le l).length = l.length
  | [] => rfl
  | x :: l => by
    show (insB le x (sortB le l)).length = _
    rw [len_insB, len_sortB le l]; rfl
def DU (Ls : List (List Int)) : List (List Int) := sortB leL (kall Ls)
theorem DU_mem (Ls : List (List Int)) (k : List Int) : k ∈ DU Ls ↔ opn Ls k = true := by unfold DU; rw [mem_sortB, kall_mem]
theorem DU_any (Ls : List (List Int)) (k : List Int) : ((DU Ls).map tI).any (fun y => deq y (tI k)) = opn Ls k := by
  by_cases h : opn Ls k = true
  · rw [h, List.any_eq_true]
    exact ⟨tI k, List.mem_map.mpr ⟨k, (DU_mem Ls k).mpr h, rfl⟩, by rw [deq_tI]; simp⟩
  · rw [Bool.not_eq_true] at h
    rw [h, List.any_eq_false]
    intro x hx
    obtain ⟨y, hy, rfl⟩ := List.mem_map.mp hx
    rw [deq_tI, decide_eq_true_iff]
    rintro rfl
    rw [DU_mem, h] at hy; cases hy
structure LkP (Ls : List (List Int)) : Prop where
  n0 : 0 < Ls.length
  n4 : Ls.length ≤ 4
  l5 : ∀ l ∈ Ls, l.length ≤ 5
theorem LkP.key {Ls : List (List Int)} (h : LkP Ls) {k : List Int} (hk : opn Ls k = true) : k ≠ [] ∧ k.length ≤ 4 := by
  have := opn_length hk
  have h0 := h.n0
  have h4 := h.n4
  refine ⟨?_, by omega⟩
  rintro rfl
  rw [List.length_nil] at this; omega
theorem LkP.sorted {Ls : List (List Int)} (h : LkP Ls) : sortedF [lT (kall Ls)] = some (.f (lT (DU Ls))) := sorted_tI fun r hr => by
  obtain ⟨h1, h2⟩ := h.key ((kall_mem Ls r).mp hr)
  exact ⟨h1, by omega⟩
theorem LkP.shaped {Ls : List (List Int)} (h : LkP Ls) : ((DU Ls).map tI).all shaped = true := by
  rw [List.all_eq_true]
  intro x hx
  obtain ⟨y, hy, rfl⟩ := List.mem_map.mp hx
  have := (h.key ((DU_mem Ls y).mp hy)).2
  exact shp_tI (by omega)
theorem LkP.len {Ls : List (List Int)} (h : LkP Ls) : (DU Ls).length ≤ 625 := by unfold DU; rw [len_sortB]; exact kall_le h.l5 h.n4
def unT : D → List Int
  | .tup ds => ds.map fun d => match d with | .int i => i | _ => 0
  | _ => []
theorem unT_tI (l : List Int) : unT (tI l) = l := by
  show (l.map D.int).map _ = l
  rw [List.map_map]
  conv => rhs; rw [← List.map_id l]
  rfl
theorem flat_extK (l : List Int) : ∀ rs : List (List Int), (rs.map tI).flatMap (fun d => (extK l (unT d)).map tI) = (rs.flatMap (extK l)).map tI
  | [] => rfl
  | r :: rs => by rw [List.map_cons, List.flatMap_cons, List.flatMap_cons, List.map_append, flat_extK l rs, unT_tI]
def exD (q : List Int) : D → Option D
  | .int x => some (tI (q ++ [x]))
  | _ => none
theorem fm_exD (q l : List Int) : (l.map D.int).filterMap (exD q) = (extK l q).map tI := by
  rw [List.filterMap_map]
  unfold extK
  rw [List.map_map, ← filterMap_some]; rfl
theorem take_snoc (Ls : List (List Int)) (i : Nat) (h : i < Ls.length) : kall (Ls.take (i + 1)) = (kall (Ls.take i)).flatMap (extK Ls[i]) := by
  rw [List.take_succ_eq_append_getElem h, kall_snoc]
theorem LkP.take_le {Ls : List (List Int)} (h : LkP Ls) (i : Nat) : (kall (Ls.take i)).length ≤ 625 :=
  kall_le (fun l hl => h.l5 l (List.mem_of_mem_take hl)) (by rw [List.length_take]; have := h.n4; omega)
theorem LkP.take_key {Ls : List (List Int)} (h : LkP Ls) (i : Nat) {k : List Int} (hk : k ∈ kall (Ls.take i)) : k.length ≤ 4 := by
  have := opn_length ((kall_mem _ k).mp hk)
  rw [List.length_take] at this
  have := h.n4; omega
theorem okeys_ok {cf : Cf} (Ls : List (List Int)) (hL : LkP Ls) : Op (runFn cf f_opening_keys [.sh (lockD Ls)]) fun r => r = (.f (lT (DU Ls)), none) := by
  have hsl : PySem.sizeLine = 16777216 := by decide
  rw [wp_run rfl rfl]
  show Wp cf f_opening_keys.body [.sh _, .un, .un, .un, .un] _
  unfold f_opening_keys
  rw [wp_set]
  simp -implicitDefEqProofs only [wipe, restore, List.foldl_cons, List.foldl_nil, List.getD_cons_zero, List.getD_cons_succ, lpI_nx, lpI_ct, lpI_bk, lpI_rt, shaped_int, shaped_bl, shaped_non, deq_ii, deq_bb, Bool.and_self, Bool.and_true, Bool.true_and, Int.cast_ofNat_Int, Nat.reducePow, Nat.reduceLeDiff, Int.zero_add, Int.add_zero, aft_nx, aft_rt, aft_bk, aft_ct, af_nx, af_rt, af_bk, af_ct, decide_eq_true_eq, eval, evals, evalsT, evalsA, evalO, evalC, evalI, dictI, test, op_bind, op_map, op_some, op_none, op_ite, if_false_right, pk, take, pks, binop, cmpop, truth, setIx, rangeOf, big, revOf, store, put, puts, putG, setOwn, ownOf, lstAt, bltF, lenF, lenOf, intF, absF, gcdF, isiF, isTy, listF, tupleF, dictF, mutF, appendF, isBw_0, isBw_s, nb_sh, nb_ow, nb_un, nb_bw, settle, storesR, bindA, back, lent, List.getElem?_cons_zero, List.getElem?_cons_succ, List.set_cons_zero, List.set_cons_succ, List.length_cons, List.length_nil, List.map_cons, List.map_nil, List.append_nil, List.nil_append, List.cons_append, and_self, and_true, true_and, if_true, if_false, ite_true, ite_false, reduceIte, Option.bind_some, Option.map_some, decide_true, decide_false, Bool.not_true, Bool.not_false, Bool.false_eq_true, Option.some.injEq, Nat.reduceLT, Nat.reduceAdd, Nat.zero_add, Nat.add_one_lt_add_one_iff, Nat.lt_add_left_iff_pos, Nat.lt_add_one, Nat.zero_lt_succ, Int.reduceLT, Int.reduceLE, Int.reduceNeg, Int.reducePow, Int.reduceToNat, Int.reduceMul, Int.reduceSub,  Int.reduceAdd, forall_const, ne_eq, not_true_eq_false, not_false_eq_true]
  refine ⟨by decide, by decide, ?_⟩
  rw [wp_for]
  simp -implicitDefEqProofs only [wipe, restore, List.foldl_cons, List.foldl_nil, List.getD_cons_zero, List.getD_cons_succ, lpI_nx, lpI_ct, lpI_bk, lpI_rt, shaped_int, shaped_bl, shaped_non, deq_ii, deq_bb, Bool.and_self, Bool.and_true, Bool.true_and, Int.cast_ofNat_Int, Nat.reducePow, Nat.reduceLeDiff, Int.zero_add, Int.add_zero, aft_nx, aft_rt, aft_bk, aft_ct, af_nx, af_rt, af_bk, af_ct, decide_eq_true_eq, eval, evals, evalsT, evalsA, evalO, evalC, evalI, dictI, test, op_bind, op_map, op_some, op_none, op_ite, if_false_right, pk, take, pks, binop, cmpop, truth, setIx, rangeOf, big, revOf, store, put, puts, putG, setOwn, ownOf, lstAt, bltF, lenF, lenOf, intF, absF, gcdF, isiF, isTy, listF, tupleF, dictF, mutF, appendF, isBw_0, isBw_s, nb_sh, nb_ow, nb_un, nb_bw, settle, storesR, bindA, back, lent, List.getElem?_cons_zero, List.getElem?_cons_succ, List.set_cons_zero, List.set_cons_succ, List.length_cons, List.length_nil, List.map_cons, List.map_nil, List.append_nil, List.nil_append, List.cons_append, and_self, and_true, true_and, if_true, if_false, ite_true, ite_false, reduceIte, Option.bind_some, Option.map_some, decide_true, decide_false, Bool.not_true, Bool.not_false, Bool.false_eq_true, Option.some.injEq, Nat.reduceLT, Nat.reduceAdd, Nat.zero_add, Nat.add_one_lt_add_one_iff, Nat.lt_add_left_iff_pos, Nat.lt_add_one, Nat.zero_lt_succ, Int.reduceLT, Int.reduceLE, Int.reduceNeg, Int.reducePow, Int.reduceToNat, Int.reduceMul, Int.reduceSub,  Int.reduceAdd, forall_const, ne_eq, not_true_eq_false, not_false_eq_true, itemsOf]
  refine lp_idx (fun i e => ∃ s2, e = [.sh (lockD Ls), .ow (lT (kall (Ls.take i))), s2, .un, .un] ∧ nb s2 = true) ?_ ?_ _ ⟨.un, rfl, rfl⟩
  · rintro i hi e ⟨s2, rfl, n2⟩
    have hi' := hi
    rw [List.length_map] at hi'
    simp only [List.getElem_map]
    have hst := take_snoc Ls i hi'
    have hle := hL.take_le (i + 1)
    rw [hst] at hle ⊢
    have hkl := fun k hk => hL.take_key i (k := k) hk
    generalize kall (Ls.take i) = KK at *
    have hll := hL.l5 Ls[i] (List.getElem_mem _)
    generalize Ls[i] = l at *
    simp -implicitDefEqProofs only [wipe, restore, List.foldl_cons, List.foldl_nil, List.getD_cons_zero, List.getD_cons_succ, lpI_nx, lpI_ct, lpI_bk, lpI_rt, shaped_int, shaped_bl, shaped_non, deq_ii, deq_bb, Bool.and_self, Bool.and_true, Bool.true_and, Int.cast_ofNat_Int, Nat.reducePow, Nat.reduceLeDiff, Int.zero_add, Int.add_zero, aft_nx, aft_rt, aft_bk, aft_ct, af_nx, af_rt, af_bk, af_ct, decide_eq_true_eq, eval, evals, evalsT, evalsA, evalO, evalC, evalI, dictI, test, op_bind, op_map, op_some, op_none, op_ite, if_false_right, pk, take, pks, binop, cmpop, truth, setIx, rangeOf, big, revOf, store, put, puts, putG, setOwn, ownOf, lstAt, bltF, lenF, lenOf, intF, absF, gcdF, isiF, isTy, listF, tupleF, dictF, mutF, appendF, isBw_0, isBw_s, nb_sh, nb_ow, nb_un, nb_bw, settle, storesR, bindA, back, lent, List.getElem?_cons_zero, List.getElem?_cons_succ, List.set_cons_zero, List.set_cons_succ, List.length_cons, List.length_nil, List.map_cons, List.map_nil, List.append_nil, List.nil_append, List.cons_append, and_self, and_true, true_and, if_true, if_false, ite_true, ite_false, reduceIte, Option.bind_some, Option.map_some, decide_true, decide_false, Bool.not_true, Bool.not_false, Bool.false_eq_true, Option.some.injEq, Nat.reduceLT, Nat.reduceAdd, Nat.zero_add, Nat.add_one_lt_add_one_iff, Nat.lt_add_left_iff_pos, Nat.lt_add_one, Nat.zero_lt_succ, Int.reduceLT, Int.reduceLE, Int.reduceNeg, Int.reducePow, Int.reduceToNat, Int.reduceMul, Int.reduceSub,  Int.reduceAdd, forall_const, ne_eq, not_true_eq_false, not_false_eq_true, n2]
    rw [wp_set]
    rw [eval, op_bind]
    simp -implicitDefEqProofs only [wipe, restore, List.foldl_cons, List.foldl_nil, List.getD_cons_zero, List.getD_cons_succ, lpI_nx, lpI_ct, lpI_bk, lpI_rt, shaped_int, shaped_bl, shaped_non, deq_ii, deq_bb, Bool.and_self, Bool.and_true, Bool.true_and, Int.cast_ofNat_Int, Nat.reducePow, Nat.reduceLeDiff, Int.zero_add, Int.add_zero, aft_nx, aft_rt, aft_bk, aft_ct, af_nx, af_rt, af_bk, af_ct, decide_eq_true_eq, eval, evals, evalsT, evalsA, evalO, evalC, evalI, dictI, test, op_bind, op_map, op_some, op_none, op_ite, if_false_right, pk, take, pks, binop, cmpop, truth, setIx, rangeOf, big, revOf, store, put, puts, putG, setOwn, ownOf, lstAt, bltF, lenF, lenOf, intF, absF, gcdF, isiF, isTy, listF, tupleF, dictF, mutF, appendF, isBw_0, isBw_s, nb_sh, nb_ow, nb_un, nb_bw, settle, storesR, bindA, back, lent, List.getElem?_cons_zero, List.getElem?_cons_succ, List.set_cons_zero, List.set_cons_succ, List.length_cons, List.length_nil, List.map_cons, List.map_nil, List.append_nil, List.nil_append, List.cons_append, and_self, and_true, true_and, if_true, if_false, ite_true, ite_false, reduceIte, Option.bind_some, Option.map_some, decide_true, decide_false, Bool.not_true, Bool.not_false, Bool.false_eq_true, Option.some.injEq, Nat.reduceLT, Nat.reduceAdd, Nat.zero_add, Nat.add_one_lt_add_one_iff, Nat.lt_add_left_iff_pos, Nat.lt_add_one, Nat.zero_lt_succ, Int.reduceLT, Int.reduceLE, Int.reduceNeg, Int.reducePow, Int.reduceToNat, Int.reduceMul, Int.reduceSub,  Int.reduceAdd, forall_const, ne_eq, not_true_eq_false, not_false_eq_true, itemsOf]
    refine (flat_pure (fun d => (extK l (unT d)).map tI) _ (fun x hx => ?_)).mono ?_
    · obtain ⟨q, hq, rfl⟩ := List.mem_map.mp hx
      have hql := hkl q hq
      simp -implicitDefEqProofs only [wipe, restore, List.foldl_cons, List.foldl_nil, List.getD_cons_zero, List.getD_cons_succ, lpI_nx, lpI_ct, lpI_bk, lpI_rt, shaped_int, shaped_bl, shaped_non, deq_ii, deq_bb, Bool.and_self, Bool.and_true, Bool.true_and, Int.cast_ofNat_Int, Nat.reducePow, Nat.reduceLeDiff, Int.zero_add, Int.add_zero, aft_nx, aft_rt, aft_bk, aft_ct, af_nx, af_rt, af_bk, af_ct, decide_eq_true_eq, eval, evals, evalsT, evalsA, evalO, evalC, evalI, dictI, test, op_bind, op_map, op_some, op_none, op_ite, if_false_right, pk, take, pks, binop, cmpop, truth, setIx, rangeOf, big, revOf, store, put, puts, putG, setOwn, ownOf, lstAt, bltF, lenF, lenOf, intF, absF, gcdF, isiF, isTy, listF, tupleF, dictF, mutF, appendF, isBw_0, isBw_s, nb_sh, nb_ow, nb_un, nb_bw, settle, storesR, bindA, back, lent, List.getElem?_cons_zero, List.getElem?_cons_succ, List.set_cons_zero, List.set_cons_succ, List.length_cons, List.length_nil, List.map_cons, List.map_nil, List.append_nil, List.nil_append, List.cons_append, and_self, and_true, true_and, if_true, if_false, ite_true, ite_false, reduceIte, Option.bind_some, Option.map_some, decide_true, decide_false, Bool.not_true, Bool.not_false, Bool.false_eq_true, Option.some.injEq, Nat.reduceLT, Nat.reduceAdd, Nat.zero_add, Nat.add_one_lt_add_one_iff, Nat.lt_add_left_iff_pos, Nat.lt_add_one, Nat.zero_lt_succ, Int.reduceLT, Int.reduceLE, Int.reduceNeg, Int.reducePow, Int.reduceToNat, Int.reduceMul, Int.reduceSub,  Int.reduceAdd, forall_const, ne_eq, not_true_eq_false, not_false_eq_true, itemsOf]
      refine (lc_pure (exD q) _ (fun y hy => ?_)).mono ?_
      · obtain ⟨k, hk, rfl⟩ := List.mem_map.mp hy
        simp -implicitDefEqProofs only [wipe, restore, List.foldl_cons, List.foldl_nil, List.getD_cons_zero, List.getD_cons_succ, lpI_nx, lpI_ct, lpI_bk, lpI_rt, shaped_int, shaped_bl, shaped_non, deq_ii, deq_bb, Bool.and_self, Bool.and_true, Bool.true_and, Int.cast_ofNat_Int, Nat.reducePow, Nat.reduceLeDiff, Int.zero_add, Int.add_zero, aft_nx, aft_rt, aft_bk, aft_ct, af_nx, af_rt, af_bk, af_ct, decide_eq_true_eq, eval, evals, evalsT, evalsA, evalO, evalC, evalI, dictI, test, op_bind, op_map, op_some, op_none, op_ite, if_false_right, pk, take, pks, binop, cmpop, truth, setIx, rangeOf, big, revOf, store, put, puts, putG, setOwn, ownOf, lstAt, bltF, lenF, lenOf, intF, absF, gcdF, isiF, isTy, listF, tupleF, dictF, mutF, appendF, isBw_0, isBw_s, nb_sh, nb_ow, nb_un, nb_bw, settle, storesR, bindA, back, lent, List.getElem?_cons_zero, List.getElem?_cons_succ, List.set_cons_zero, List.set_cons_succ, List.length_cons, List.length_nil, List.map_cons, List.map_nil, List.append_nil, List.nil_append, List.cons_append, and_self, and_true, true_and, if_true, if_false, ite_true, ite_false, reduceIte, Option.bind_some, Option.map_some, decide_true, decide_false, Bool.not_true, Bool.not_false, Bool.false_eq_true, Option.some.injEq, Nat.reduceLT, Nat.reduceAdd, Nat.zero_add, Nat.add_one_lt_add_one_iff, Nat.lt_add_left_iff_pos, Nat.lt_add_one, Nat.zero_lt_succ, Int.reduceLT, Int.reduceLE, Int.reduceNeg, Int.reducePow, Int.reduceToNat, Int.reduceMul, Int.reduceSub,  Int.reduceAdd, forall_const, ne_eq, not_true_eq_false, not_false_eq_true, List.length_map, hsl]
        refine ⟨by omega, ?_⟩
        simp [exD]
      · rintro _ rfl
        rw [unT_tI]
        simp -implicitDefEqProofs only [wipe, restore, List.foldl_cons, List.foldl_nil, List.getD_cons_zero, List.getD_cons_succ, lpI_nx, lpI_ct, lpI_bk, lpI_rt, shaped_int, shaped_bl, shaped_non, deq_ii, deq_bb, Bool.and_self, Bool.and_true, Bool.true_and, Int.cast_ofNat_Int, Nat.reducePow, Nat.reduceLeDiff, Int.zero_add, Int.add_zero, aft_nx, aft_rt, aft_bk, aft_ct, af_nx, af_rt, af_bk, af_ct, decide_eq_true_eq, eval, evals, evalsT, evalsA, evalO, evalC, evalI, dictI, test, op_bind, op_map, op_some, op_none, op_ite, if_false_right, pk, take, pks, binop, cmpop, truth, setIx, rangeOf, big, revOf, store, put, puts, putG, setOwn, ownOf, lstAt, bltF, lenF, lenOf, intF, absF, gcdF, isiF, isTy, listF, tupleF, dictF, mutF, appendF, isBw_0, isBw_s, nb_sh, nb_ow, nb_un, nb_bw, settle, storesR, bindA, back, lent, List.getElem?_cons_zero, List.getElem?_cons_succ, List.set_cons_zero, List.set_cons_succ, List.length_cons, List.length_nil, List.map_cons, List.map_nil, List.append_nil, List.nil_append, List.cons_append, and_self, and_true, true_and, if_true, if_false, ite_true, ite_false, reduceIte, Option.bind_some, Option.map_some, decide_true, decide_false, Bool.not_true, Bool.not_false, Bool.false_eq_true, Option.some.injEq, Nat.reduceLT, Nat.reduceAdd, Nat.zero_add, Nat.add_one_lt_add_one_iff, Nat.lt_add_left_iff_pos, Nat.lt_add_one, Nat.zero_lt_succ, Int.reduceLT, Int.reduceLE, Int.reduceNeg, Int.reducePow, Int.reduceToNat, Int.reduceMul, Int.reduceSub,  Int.reduceAdd, forall_const, ne_eq, not_true_eq_false, not_false_eq_true, fm_exD]
    · rintro _ rfl
      rw [flat_extK]
      simp -implicitDefEqProofs only [wipe, restore, List.foldl_cons, List.foldl_nil, List.getD_cons_zero, List.getD_cons_succ, lpI_nx, lpI_ct, lpI_bk, lpI_rt, shaped_int, shaped_bl, shaped_non, deq_ii, deq_bb, Bool.and_self, Bool.and_true, Bool.true_and, Int.cast_ofNat_Int, Nat.reducePow, Nat.reduceLeDiff, Int.zero_add, Int.add_zero, aft_nx, aft_rt, aft_bk, aft_ct, af_nx, af_rt, af_bk, af_ct, decide_eq_true_eq, eval, evals, evalsT, evalsA, evalO, evalC, evalI, dictI, test, op_bind, op_map, op_some, op_none, op_ite, if_false_right, pk, take, pks, binop, cmpop, truth, setIx, rangeOf, big, revOf, store, put, puts, putG, setOwn, ownOf, lstAt, bltF, lenF, lenOf, intF, absF, gcdF, isiF, isTy, listF, tupleF, dictF, mutF, appendF, isBw_0, isBw_s, nb_sh, nb_ow, nb_un, nb_bw, settle, storesR, bindA, back, lent, List.getElem?_cons_zero, List.getElem?_cons_succ, List.set_cons_zero, List.set_cons_succ, List.length_cons, List.length_nil, List.map_cons, List.map_nil, List.append_nil, List.nil_append, List.cons_append, and_self, and_true, true_and, if_true, if_false, ite_true, ite_false, reduceIte, Option.bind_some, Option.map_some, decide_true, decide_false, Bool.not_true, Bool.not_false, Bool.false_eq_true, Option.some.injEq, Nat.reduceLT, Nat.reduceAdd, Nat.zero_add, Nat.add_one_lt_add_one_iff, Nat.lt_add_left_iff_pos, Nat.lt_add_one, Nat.zero_lt_succ, Int.reduceLT, Int.reduceLE, Int.reduceNeg, Int.reducePow, Int.reduceToNat, Int.reduceMul, Int.reduceSub,  Int.reduceAdd, forall_const, ne_eq, not_true_eq_false, not_false_eq_true, List.length_map, hsl]
      refine ⟨by omega, ?_⟩
      rw [wp_nil, lpI_nx]
      exact ⟨_, rfl, rfl⟩
  · rintro e ⟨s2, rfl, n2⟩
    have hso := hL.sorted
    rw [List.length_map, List.take_of_length_le (Nat.le_refl _), aft_nx, wp_ret]
    simp -implicitDefEqProofs only [wipe, restore, List.foldl_cons, List.foldl_nil, List.getD_cons_zero, List.getD_cons_succ, lpI_nx, lpI_ct, lpI_bk, lpI_rt, shaped_int, shaped_bl, shaped_non, deq_ii, deq_bb, Bool.and_self, Bool.and_true, Bool.true_and, Int.cast_ofNat_Int, Nat.reducePow, Nat.reduceLeDiff, Int.zero_add, Int.add_zero, aft_nx, aft_rt, aft_bk, aft_ct, af_nx, af_rt, af_bk, af_ct, decide_eq_true_eq, eval, evals, evalsT, evalsA, evalO, evalC, evalI, dictI, test, op_bind, op_map, op_some, op_none, op_ite, if_false_right, pk, take, pks, binop, cmpop, truth, setIx, rangeOf, big, revOf, store, put, puts, putG, setOwn, ownOf, lstAt, bltF, lenF, lenOf, intF, absF, gcdF, isiF, isTy, listF, tupleF, dictF, mutF, appendF, isBw_0, isBw_s, nb_sh, nb_ow, nb_un, nb_bw, settle, storesR, bindA, back, lent, List.getElem?_cons_zero, List.getElem?_cons_succ, List.set_cons_zero, List.set_cons_succ, List.length_cons, List.length_nil, List.map_cons, List.map_nil, List.append_nil, List.nil_append, List.cons_append, and_self, and_true, true_and, if_true, if_false, ite_true, ite_false, reduceIte, Option.bind_some, Option.map_some, decide_true, decide_false, Bool.not_true, Bool.not_false, Bool.false_eq_true, Option.some.injEq, Nat.reduceLT, Nat.reduceAdd, Nat.zero_add, Nat.add_one_lt_add_one_iff, Nat.lt_add_left_iff_pos, Nat.lt_add_one, Nat.zero_lt_succ, Int.reduceLT, Int.reduceLE, Int.reduceNeg, Int.reducePow, Int.reduceToNat, Int.reduceMul, Int.reduceSub,  Int.reduceAdd, forall_const, ne_eq, not_true_eq_false, not_false_eq_true, hso, outF, outR, outIo, wipe, restore, List.foldl_cons, List.foldl_nil, List.getD_cons_zero, List.getD_cons_succ, lpI_nx, lpI_ct, lpI_bk, lpI_rt, shaped_int, shaped_bl, shaped_non, deq_ii, deq_bb, Bool.and_self, Bool.and_true, Bool.true_and, Int.cast_ofNat_Int, Nat.reducePow, Nat.reduceLeDiff, Int.zero_add, Int.add_zero, aft_nx, aft_rt, aft_bk, aft_ct, af_nx, af_rt, af_bk, af_ct, decide_eq_true_eq, eval, evals, evalsT, evalsA, evalO, evalC, evalI, dictI, test, op_bind, op_map, op_some, op_none, op_ite, if_false_right, pk, take, pks, binop, cmpop, truth, setIx, rangeOf, big, revOf, store, put, puts, putG, setOwn, ownOf, lstAt, bltF, lenF, lenOf, intF, absF, gcdF, isiF, isTy, listF, tupleF, dictF, mutF, appendF, isBw_0, isBw_s, nb_sh, nb_ow, nb_un, nb_bw, settle, storesR, bindA, back, lent, List.getElem?_cons_zero, List.getElem?_cons_succ, List.set_cons_zero, List.set_cons_succ, List.length_cons, List.length_nil, List.map_cons, List.map_nil, List.append_nil, List.nil_append, List.cons_append, and_self, and_true, true_and, if_true, if_false, ite_true, ite_false, reduceIte, Option.bind_some, Option.map_some, decide_true, decide_false, Bool.not_true, Bool.not_false, Bool.false_eq_true, Option.some.injEq, Nat.reduceLT, Nat.reduceAdd, Nat.zero_add, Nat.add_one_lt_add_one_iff, Nat.lt_add_left_iff_pos, Nat.lt_add_one, Nat.zero_lt_succ, Int.reduceLT, Int.reduceLE, Int.reduceNeg, Int.reducePow, Int.reduceToNat, Int.reduceMul, Int.reduceSub,  Int.reduceAdd, forall_const, ne_eq, not_true_eq_false, not_false_eq_true]
theorem lkeys_ok {cf : Cf} (Ls : List (List Int)) (hL : LkP Ls) : Op (runFn cf f__law_all_keys [.sh (lockD Ls)]) fun r => r = (.f (lT (DU Ls)), none) := by
  have hsl : PySem.sizeLine = 16777216 := by decide
  rw [wp_run rfl rfl]
  show Wp cf f__law_all_keys.body [.sh _, .un, .un, .un, .un, .un] _
  unfold f__law_all_keys
  rw [wp_set]
  simp -implicitDefEqProofs only [wipe, restore, List.foldl_cons, List.foldl_nil, List.getD_cons_zero, List.getD_cons_succ, lpI_nx, lpI_ct, lpI_bk, lpI_rt, shaped_int, shaped_bl, shaped_non, deq_ii, deq_bb, Bool.and_self, Bool.and_true, Bool.true_and, Int.cast_ofNat_Int, Nat.reducePow, Nat.reduceLeDiff, Int.zero_add, Int.add_zero, aft_nx, aft_rt, aft_bk, aft_ct, af_nx, af_rt, af_bk, af_ct, decide_eq_true_eq, eval, evals, evalsT, evalsA, evalO, evalC, evalI, dictI, test, op_bind, op_map, op_some, op_none, op_ite, if_false_right, pk, take, pks, binop, cmpop, truth, setIx, rangeOf, big, revOf, store, put, puts, putG, setOwn, ownOf, lstAt, bltF, lenF, lenOf, intF, absF, gcdF, isiF, isTy, listF, tupleF, dictF, mutF, appendF, isBw_0, isBw_s, nb_sh, nb_ow, nb_un, nb_bw, settle, storesR, bindA, back, lent, List.getElem?_cons_zero, List.getElem?_cons_succ, List.set_cons_zero, List.set_cons_succ, List.length_cons, List.length_nil, List.map_cons, List.map_nil, List.append_nil, List.nil_append, List.cons_append, and_self, and_true, true_and, if_true, if_false, ite_true, ite_false, reduceIte, Option.bind_some, Option.map_some, decide_true, decide_false, Bool.not_true, Bool.not_false, Bool.false_eq_true, Option.some.injEq, Nat.reduceLT, Nat.reduceAdd, Nat.zero_add, Nat.add_one_lt_add_one_iff, Nat.lt_add_left_iff_pos, Nat.lt_add_one, Nat.zero_lt_succ, Int.reduceLT, Int.reduceLE, Int.reduceNeg, Int.reducePow, Int.reduceToNat, Int.reduceMul, Int.reduceSub,  Int.reduceAdd, forall_const, ne_eq, not_true_eq_false, not_false_eq_true]
  refine ⟨by decide, by decide, ?_⟩
  rw [wp_for]
  simp -implicitDefEqProofs only [wipe, restore, List.foldl_cons, List.foldl_nil, List.getD_cons_zero, List.getD_cons_succ, lpI_nx, lpI_ct, lpI_bk, lpI_rt, shaped_int, shaped_bl, shaped_non, deq_ii, deq_bb, Bool.and_self, Bool.and_true, Bool.true_and, Int.cast_ofNat_Int, Nat.reducePow, Nat.reduceLeDiff, Int.zero_add, Int.add_zero, aft_nx, aft_rt, aft_bk, aft_ct, af_nx, af_rt, af_bk, af_ct, decide_eq_true_eq, eval, evals, evalsT, evalsA, evalO, evalC, evalI, dictI, test, op_bind, op_map, op_some, op_none, op_ite, if_false_right, pk, take, pks, binop, cmpop, truth, setIx, rangeOf, big, revOf, store, put, puts, putG, setOwn, ownOf, lstAt, bltF, lenF, lenOf, intF, absF, gcdF, isiF, isTy, listF, tupleF, dictF, mutF, appendF, isBw_0, isBw_s, nb_sh, nb_ow, nb_un, nb_bw, settle, storesR, bindA, back, lent, List.getElem?_cons_zero, List.getElem?_cons_succ, List.set_cons_zero, List.set_cons_succ, List.length_cons, List.length_nil, List.map_cons, List.map_nil, List.append_nil, List.nil_append, List.cons_append, and_self, and_true, true_and, if_true, if_false, ite_true, ite_false, reduceIte, Option.bind_some, Option.map_some, decide_true, decide_false, Bool.not_true, Bool.not_false, Bool.false_eq_true, Option.some.injEq, Nat.reduceLT, Nat.reduceAdd, Nat.zero_add, Nat.add_one_lt_add_one_iff, Nat.lt_add_left_iff_pos, Nat.lt_add_one, Nat.zero_lt_succ, Int.reduceLT, Int.reduceLE, Int.reduceNeg, Int.reducePow, Int.reduceToNat, Int.reduceMul, Int.reduceSub,  Int.reduceAdd, forall_const, ne_eq, not_true_eq_false, not_false_eq_true, itemsOf]
  refine lp_idx (fun i e => ∃ s1 s2 s3 s4, e = [.sh (lockD Ls), s1, s2, s3, s4, .un] ∧ (s1 = .ow (lT (kall (Ls.take i))) ∨ s1 = .sh (lT (kall (Ls.take i)))) ∧ nb s2 = true ∧ nb s3 = true ∧ nb s4 = true) ?_ ?_ _ ⟨_, .un, .un, .un, rfl, .inl rfl, rfl, rfl, rfl⟩
  · rintro i hi e ⟨s1, s2, s3, s4, rfl, h1, n2, n3, n4⟩
    have hi' := hi
    rw [List.length_map] at hi'
    simp only [List.getElem_map]
    have hst := take_snoc Ls i hi'
    have hle := hL.take_le (i + 1)
    rw [hst] at hle ⊢
    have hkl := fun k hk => hL.take_key i (k := k) hk
    generalize kall (Ls.take i) = KK at *
    have hll := hL.l5 Ls[i] (List.getElem_mem _)
    generalize Ls[i] = l at *
    rcases h1 with rfl | rfl
    all_goals (
      simp -implicitDefEqProofs only [wipe, restore, List.foldl_cons, List.foldl_nil, List.getD_cons_zero, List.getD_cons_succ, lpI_nx, lpI_ct, lpI_bk, lpI_rt, shaped_int, shaped_bl, shaped_non, deq_ii, deq_bb, Bool.and_self, Bool.and_true, Bool.true_and, Int.cast_ofNat_Int, Nat.reducePow, Nat.reduceLeDiff, Int.zero_add, Int.add_zero, aft_nx, aft_rt, aft_bk, aft_ct, af_nx, af_rt, af_bk, af_ct, decide_eq_true_eq, eval, evals, evalsT, evalsA, evalO, evalC, evalI, dictI, test, op_bind, op_map, op_some, op_none, op_ite, if_false_right, pk, take, pks, binop, cmpop, truth, setIx, rangeOf, big, revOf, store, put, puts, putG, setOwn, ownOf, lstAt, bltF, lenF, lenOf, intF, absF, gcdF, isiF, isTy, listF, tupleF, dictF, mutF, appendF, isBw_0, isBw_s, nb_sh, nb_ow, nb_un, nb_bw, settle, storesR, bindA, back, lent, List.getElem?_cons_zero, List.getElem?_cons_succ, List.set_cons_zero, List.set_cons_succ, List.length_cons, List.length_nil, List.map_cons, List.map_nil, List.append_nil, List.nil_append, List.cons_append, and_self, and_true, true_and, if_true, if_false, ite_true, ite_false, reduceIte, Option.bind_some, Option.map_some, decide_true, decide_false, Bool.not_true, Bool.not_false, Bool.false_eq_true, Option.some.injEq, Nat.reduceLT, Nat.reduceAdd, Nat.zero_add, Nat.add_one_lt_add_one_iff, Nat.lt_add_left_iff_pos, Nat.lt_add_one, Nat.zero_lt_succ, Int.reduceLT, Int.reduceLE, Int.reduceNeg, Int.reducePow, Int.reduceToNat, Int.reduceMul, Int.reduceSub,  Int.reduceAdd, forall_const, ne_eq, not_true_eq_false, not_false_eq_true, n2]
      rw [wp_set]
      simp -implicitDefEqProofs only [wipe, restore, List.foldl_cons, List.foldl_nil, List.getD_cons_zero, List.getD_cons_succ, lpI_nx, lpI_ct, lpI_bk, lpI_rt, shaped_int, shaped_bl, shaped_non, deq_ii, deq_bb, Bool.and_self, Bool.and_true, Bool.true_and, Int.cast_ofNat_Int, Nat.reducePow, Nat.reduceLeDiff, Int.zero_add, Int.add_zero, aft_nx, aft_rt, aft_bk, aft_ct, af_nx, af_rt, af_bk, af_ct, decide_eq_true_eq, eval, evals, evalsT, evalsA, evalO, evalC, evalI, dictI, test, op_bind, op_map, op_some, op_none, op_ite, if_false_right, pk, take, pks, binop, cmpop, truth, setIx, rangeOf, big, revOf, store, put, puts, putG, setOwn, ownOf, lstAt, bltF, lenF, lenOf, intF, absF, gcdF, isiF, isTy, listF, tupleF, dictF, mutF, appendF, isBw_0, isBw_s, nb_sh, nb_ow, nb_un, nb_bw, settle, storesR, bindA, back, lent, List.getElem?_cons_zero, List.getElem?_cons_succ, List.set_cons_zero, List.set_cons_succ, List.length_cons, List.length_nil, List.map_cons, List.map_nil, List.append_nil, List.nil_append, List.cons_append, and_self, and_true, true_and, if_true, if_false, ite_true, ite_false, reduceIte, Option.bind_some, Option.map_some, decide_true, decide_false, Bool.not_true, Bool.not_false, Bool.false_eq_true, Option.some.injEq, Nat.reduceLT, Nat.reduceAdd, Nat.zero_add, Nat.add_one_lt_add_one_iff, Nat.lt_add_left_iff_pos, Nat.lt_add_one, Nat.zero_lt_succ, Int.reduceLT, Int.reduceLE, Int.reduceNeg, Int.reducePow, Int.reduceToNat, Int.reduceMul, Int.reduceSub,  Int.reduceAdd, forall_const, ne_eq, not_true_eq_false, not_false_eq_true, n3]
      refine ⟨by decide, ?_⟩
      rw [wp_for]
      simp -implicitDefEqProofs only [wipe, restore, List.foldl_cons, List.foldl_nil, List.getD_cons_zero, List.getD_cons_succ, lpI_nx, lpI_ct, lpI_bk, lpI_rt, shaped_int, shaped_bl, shaped_non, deq_ii, deq_bb, Bool.and_self, Bool.and_true, Bool.true_and, Int.cast_ofNat_Int, Nat.reducePow, Nat.reduceLeDiff, Int.zero_add, Int.add_zero, aft_nx, aft_rt, aft_bk, aft_ct, af_nx, af_rt, af_bk, af_ct, decide_eq_true_eq, eval, evals, evalsT, evalsA, evalO, evalC, evalI, dictI, test, op_bind, op_map, op_some, op_none, op_ite, if_false_right, pk, take, pks, binop, cmpop, truth, setIx, rangeOf, big, revOf, store, put, puts, putG, setOwn, ownOf, lstAt, bltF, lenF, lenOf, intF, absF, gcdF, isiF, isTy, listF, tupleF, dictF, mutF, appendF, isBw_0, isBw_s, nb_sh, nb_ow, nb_un, nb_bw, settle, storesR, bindA, back, lent, List.getElem?_cons_zero, List.getElem?_cons_succ, List.set_cons_zero, List.set_cons_succ, List.length_cons, List.length_nil, List.map_cons, List.map_nil, List.append_nil, List.nil_append, List.cons_append, and_self, and_true, true_and, if_true, if_false, ite_true, ite_false, reduceIte, Option.bind_some, Option.map_some, decide_true, decide_false, Bool.not_true, Bool.not_false, Bool.false_eq_true, Option.some.injEq, Nat.reduceLT, Nat.reduceAdd, Nat.zero_add, Nat.add_one_lt_add_one_iff, Nat.lt_add_left_iff_pos, Nat.lt_add_one, Nat.zero_lt_succ, Int.reduceLT, Int.reduceLE, Int.reduceNeg, Int.reducePow, Int.reduceToNat, Int.reduceMul, Int.reduceSub,  Int.reduceAdd, forall_const, ne_eq, not_true_eq_false, not_false_eq_true, itemsOf]
      refine lp_idx (fun j e => ∃ s4, e = [.sh (lockD Ls), .sh (lT KK), .sh (chD l), .ow (lT ((KK.take j).flatMap (extK l))), s4, .un] ∧ nb s4 = true) ?_ ?_ _ ⟨s4, rfl, n4⟩
      · rintro j hj e ⟨s4, rfl, n4⟩
        have hj' := hj
        rw [List.length_map] at hj'
        simp only [List.getElem_map]
        have hql := hkl KK[j] (List.getElem_mem _)
        have hst2 : (KK.take (j + 1)).flatMap (extK l) = (KK.take j).flatMap (extK l) ++ extK l KK[j] := by rw [List.take_succ_eq_append_getElem hj', List.flatMap_append]; simp
        have hle2 : ((KK.take (j + 1)).flatMap (extK l)).length ≤ 625 := by
          rw [flatMap_len] at hle ⊢
          exact Nat.le_trans (Nat.mul_le_mul_right _ (by rw [List.length_take]; omega)) hle
        rw [hst2] at hle2 ⊢
        rw [List.length_append] at hle2
        generalize (KK.take j).flatMap (extK l) = FL at *
        generalize KK[j] = q at *
        simp -implicitDefEqProofs only [wipe, restore, List.foldl_cons, List.foldl_nil, List.getD_cons_zero, List.getD_cons_succ, lpI_nx, lpI_ct, lpI_bk, lpI_rt, shaped_int, shaped_bl, shaped_non, deq_ii, deq_bb, Bool.and_self, Bool.and_true, Bool.true_and, Int.cast_ofNat_Int, Nat.reducePow, Nat.reduceLeDiff, Int.zero_add, Int.add_zero, aft_nx, aft_rt, aft_bk, aft_ct, af_nx, af_rt, af_bk, af_ct, decide_eq_true_eq, eval, evals, evalsT, evalsA, evalO, evalC, evalI, dictI, test, op_bind, op_map, op_some, op_none, op_ite, if_false_right, pk, take, pks, binop, cmpop, truth, setIx, rangeOf, big, revOf, store, put, puts, putG, setOwn, ownOf, lstAt, bltF, lenF, lenOf, intF, absF, gcdF, isiF, isTy, listF, tupleF, dictF, mutF, appendF, isBw_0, isBw_s, nb_sh, nb_ow, nb_un, nb_bw, settle, storesR, bindA, back, lent, List.getElem?_cons_zero, List.getElem?_cons_succ, List.set_cons_zero, List.set_cons_succ, List.length_cons, List.length_nil, List.map_cons, List.map_nil, List.append_nil, List.nil_append, List.cons_append, and_self, and_true, true_and, if_true, if_false, ite_true, ite_false, reduceIte, Option.bind_some, Option.map_some, decide_true, decide_false, Bool.not_true, Bool.not_false, Bool.false_eq_true, Option.some.injEq, Nat.reduceLT, Nat.reduceAdd, Nat.zero_add, Nat.add_one_lt_add_one_iff, Nat.lt_add_left_iff_pos, Nat.lt_add_one, Nat.zero_lt_succ, Int.reduceLT, Int.reduceLE, Int.reduceNeg, Int.reducePow, Int.reduceToNat, Int.reduceMul, Int.reduceSub,  Int.reduceAdd, forall_const, ne_eq, not_true_eq_false, not_false_eq_true, n4]
        rw [wp_set]
        simp -implicitDefEqProofs only [wipe, restore, List.foldl_cons, List.foldl_nil, List.getD_cons_zero, List.getD_cons_succ, lpI_nx, lpI_ct, lpI_bk, lpI_rt, shaped_int, shaped_bl, shaped_non, deq_ii, deq_bb, Bool.and_self, Bool.and_true, Bool.true_and, Int.cast_ofNat_Int, Nat.reducePow, Nat.reduceLeDiff, Int.zero_add, Int.add_zero, aft_nx, aft_rt, aft_bk, aft_ct, af_nx, af_rt, af_bk, af_ct, decide_eq_true_eq, eval, evals, evalsT, evalsA, evalO, evalC, evalI, dictI, test, op_bind, op_map, op_some, op_none, op_ite, if_false_right, pk, take, pks, binop, cmpop, truth, setIx, rangeOf, big, revOf, store, put, puts, putG, setOwn, ownOf, lstAt, bltF, lenF, lenOf, intF, absF, gcdF, isiF, isTy, listF, tupleF, dictF, mutF, appendF, isBw_0, isBw_s, nb_sh, nb_ow, nb_un, nb_bw, settle, storesR, bindA, back, lent, List.getElem?_cons_zero, List.getElem?_cons_succ, List.set_cons_zero, List.set_cons_succ, List.length_cons, List.length_nil, List.map_cons, List.map_nil, List.append_nil, List.nil_append, List.cons_append, and_self, and_true, true_and, if_true, if_false, ite_true, ite_false, reduceIte, Option.bind_some, Option.map_some, decide_true, decide_false, Bool.not_true, Bool.not_false, Bool.false_eq_true, Option.some.injEq, Nat.reduceLT, Nat.reduceAdd, Nat.zero_add, Nat.add_one_lt_add_one_iff, Nat.lt_add_left_iff_pos, Nat.lt_add_one, Nat.zero_lt_succ, Int.reduceLT, Int.reduceLE, Int.reduceNeg, Int.reducePow, Int.reduceToNat, Int.reduceMul, Int.reduceSub,  Int.reduceAdd, forall_const, ne_eq, not_true_eq_false, not_false_eq_true, itemsOf]
        refine (lc_pure (exD q) _ (fun y hy => ?_)).mono ?_
        · obtain ⟨k, hk, rfl⟩ := List.mem_map.mp hy
          simp -implicitDefEqProofs only [wipe, restore, List.foldl_cons, List.foldl_nil, List.getD_cons_zero, List.getD_cons_succ, lpI_nx, lpI_ct, lpI_bk, lpI_rt, shaped_int, shaped_bl, shaped_non, deq_ii, deq_bb, Bool.and_self, Bool.and_true, Bool.true_and, Int.cast_ofNat_Int, Nat.reducePow, Nat.reduceLeDiff, Int.zero_add, Int.add_zero, aft_nx, aft_rt, aft_bk, aft_ct, af_nx, af_rt, af_bk, af_ct, decide_eq_true_eq, eval, evals, evalsT, evalsA, evalO, evalC, evalI, dictI, test, op_bind, op_map, op_some, op_none, op_ite, if_false_right, pk, take, pks, binop, cmpop, truth, setIx, rangeOf, big, revOf, store, put, puts, putG, setOwn, ownOf, lstAt, bltF, lenF, lenOf, intF, absF, gcdF, isiF, isTy, listF, tupleF, dictF, mutF, appendF, isBw_0, isBw_s, nb_sh, nb_ow, nb_un, nb_bw, settle, storesR, bindA, back, lent, List.getElem?_cons_zero, List.getElem?_cons_succ, List.set_cons_zero, List.set_cons_succ, List.length_cons, List.length_nil, List.map_cons, List.map_nil, List.append_nil, List.nil_append, List.cons_append, and_self, and_true, true_and, if_true, if_false, ite_true, ite_false, reduceIte, Option.bind_some, Option.map_some, decide_true, decide_false, Bool.not_true, Bool.not_false, Bool.false_eq_true, Option.some.injEq, Nat.reduceLT, Nat.reduceAdd, Nat.zero_add, Nat.add_one_lt_add_one_iff, Nat.lt_add_left_iff_pos, Nat.lt_add_one, Nat.zero_lt_succ, Int.reduceLT, Int.reduceLE, Int.reduceNeg, Int.reducePow, Int.reduceToNat, Int.reduceMul, Int.reduceSub,  Int.reduceAdd, forall_const, ne_eq, not_true_eq_false, not_false_eq_true, List.length_map, hsl]
          refine ⟨by omega, ?_⟩
          simp [exD]
        · rintro _ rfl
          simp -implicitDefEqProofs only [wipe, restore, List.foldl_cons, List.foldl_nil, List.getD_cons_zero, List.getD_cons_succ, lpI_nx, lpI_ct, lpI_bk, lpI_rt, shaped_int, shaped_bl, shaped_non, deq_ii, deq_bb, Bool.and_self, Bool.and_true, Bool.true_and, Int.cast_ofNat_Int, Nat.reducePow, Nat.reduceLeDiff, Int.zero_add, Int.add_zero, aft_nx, aft_rt, aft_bk, aft_ct, af_nx, af_rt, af_bk, af_ct, decide_eq_true_eq, eval, evals, evalsT, evalsA, evalO, evalC, evalI, dictI, test, op_bind, op_map, op_some, op_none, op_ite, if_false_right, pk, take, pks, binop, cmpop, truth, setIx, rangeOf, big, revOf, store, put, puts, putG, setOwn, ownOf, lstAt, bltF, lenF, lenOf, intF, absF, gcdF, isiF, isTy, listF, tupleF, dictF, mutF, appendF, isBw_0, isBw_s, nb_sh, nb_ow, nb_un, nb_bw, settle, storesR, bindA, back, lent, List.getElem?_cons_zero, List.getElem?_cons_succ, List.set_cons_zero, List.set_cons_succ, List.length_cons, List.length_nil, List.map_cons, List.map_nil, List.append_nil, List.nil_append, List.cons_append, and_self, and_true, true_and, if_true, if_false, ite_true, ite_false, reduceIte, Option.bind_some, Option.map_some, decide_true, decide_false, Bool.not_true, Bool.not_false, Bool.false_eq_true, Option.some.injEq, Nat.reduceLT, Nat.reduceAdd, Nat.zero_add, Nat.add_one_lt_add_one_iff, Nat.lt_add_left_iff_pos, Nat.lt_add_one, Nat.zero_lt_succ, Int.reduceLT, Int.reduceLE, Int.reduceNeg, Int.reducePow, Int.reduceToNat, Int.reduceMul, Int.reduceSub,  Int.reduceAdd, forall_const, ne_eq, not_true_eq_false, not_false_eq_true, fm_exD, List.length_map, hsl]
          refine ⟨by omega, by omega, ?_⟩
          rw [wp_nil, lpI_nx]
          exact ⟨_, by rw [show lT (FL ++ extK l q) = .lst (FL.map tI ++ (extK l q).map tI) from congrArg D.lst (List.map_append ..)], rfl⟩
      · rintro e ⟨s4, rfl, n4⟩
        rw [List.length_map, List.take_of_length_le (Nat.le_refl _), aft_nx, wp_set]
        simp -implicitDefEqProofs only [wipe, restore, List.foldl_cons, List.foldl_nil, List.getD_cons_zero, List.getD_cons_succ, lpI_nx, lpI_ct, lpI_bk, lpI_rt, shaped_int, shaped_bl, shaped_non, deq_ii, deq_bb, Bool.and_self, Bool.and_true, Bool.true_and, Int.cast_ofNat_Int, Nat.reducePow, Nat.reduceLeDiff, Int.zero_add, Int.add_zero, aft_nx, aft_rt, aft_bk, aft_ct, af_nx, af_rt, af_bk, af_ct, decide_eq_true_eq, eval, evals, evalsT, evalsA, evalO, evalC, evalI, dictI, test, op_bind, op_map, op_some, op_none, op_ite, if_false_right, pk, take, pks, binop, cmpop, truth, setIx, rangeOf, big, revOf, store, put, puts, putG, setOwn, ownOf, lstAt, bltF, lenF, lenOf, intF, absF, gcdF, isiF, isTy, listF, tupleF, dictF, mutF, appendF, isBw_0, isBw_s, nb_sh, nb_ow, nb_un, nb_bw, settle, storesR, bindA, back, lent, List.getElem?_cons_zero, List.getElem?_cons_succ, List.set_cons_zero, List.set_cons_succ, List.length_cons, List.length_nil, List.map_cons, List.map_nil, List.append_nil, List.nil_append, List.cons_append, and_self, and_true, true_and, if_true, if_false, ite_true, ite_false, reduceIte, Option.bind_some, Option.map_some, decide_true, decide_false, Bool.not_true, Bool.not_false, Bool.false_eq_true, Option.some.injEq, Nat.reduceLT, Nat.reduceAdd, Nat.zero_add, Nat.add_one_lt_add_one_iff, Nat.lt_add_left_iff_pos, Nat.lt_add_one, Nat.zero_lt_succ, Int.reduceLT, Int.reduceLE, Int.reduceNeg, Int.reducePow, Int.reduceToNat, Int.reduceMul, Int.reduceSub,  Int.reduceAdd, forall_const, ne_eq, not_true_eq_false, not_false_eq_true]
        rw [wp_nil, lpI_nx]
        exact ⟨_, _, _, _, rfl, .inr rfl, rfl, rfl, n4⟩)
  · rintro e ⟨s1, s2, s3, s4, rfl, h1, n2, n3, n4⟩
    have hso := hL.sorted
    rw [List.length_map, List.take_of_length_le (Nat.le_refl _)] at h1
    rw [aft_nx, wp_ret]
    rcases h1 with rfl | rfl
    all_goals simp -implicitDefEqProofs only [wipe, restore, List.foldl_cons, List.foldl_nil, List.getD_cons_zero, List.getD_cons_succ, lpI_nx, lpI_ct, lpI_bk, lpI_rt, shaped_int, shaped_bl, shaped_non, deq_ii, deq_bb, Bool.and_self, Bool.and_true, Bool.true_and, Int.cast_ofNat_Int, Nat.reducePow, Nat.reduceLeDiff, Int.zero_add, Int.add_zero, aft_nx, aft_rt, aft_bk, aft_ct, af_nx, af_rt, af_bk, af_ct, decide_eq_true_eq, eval, evals, evalsT, evalsA, evalO, evalC, evalI, dictI, test, op_bind, op_map, op_some, op_none, op_ite, if_false_right, pk, take, pks, binop, cmpop, truth, setIx, rangeOf, big, revOf, store, put, puts, putG, setOwn, ownOf, lstAt, bltF, lenF, lenOf, intF, absF, gcdF, isiF, isTy, listF, tupleF, dictF, mutF, appendF, isBw_0, isBw_s, nb_sh, nb_ow, nb_un, nb_bw, settle, storesR, bindA, back, lent, List.getElem?_cons_zero, List.getElem?_cons_succ, List.set_cons_zero, List.set_cons_succ, List.length_cons, List.length_nil, List.map_cons, List.map_nil, List.append_nil, List.nil_append, List.cons_append, and_self, and_true, true_and, if_true, if_false, ite_true, ite_false, reduceIte, Option.bind_some, Option.map_some, decide_true, decide_false, Bool.not_true, Bool.not_false, Bool.false_eq_true, Option.some.injEq, Nat.reduceLT, Nat.reduceAdd, Nat.zero_add, Nat.add_one_lt_add_one_iff, Nat.lt_add_left_iff_pos, Nat.lt_add_one, Nat.zero_lt_succ, Int.reduceLT, Int.reduceLE, Int.reduceNeg, Int.reducePow, Int.reduceToNat, Int.reduceMul, Int.reduceSub,  Int.reduceAdd, forall_const, ne_eq, not_true_eq_false, not_false_eq_true, hso, outF, outR, outIo, wipe, restore, List.foldl_cons, List.foldl_nil, List.getD_cons_zero, List.getD_cons_succ, lpI_nx, lpI_ct, lpI_bk, lpI_rt, shaped_int, shaped_bl, shaped_non, deq_ii, deq_bb, Bool.and_self, Bool.and_true, Bool.true_and, Int.cast_ofNat_Int, Nat.reducePow, Nat.reduceLeDiff, Int.zero_add, Int.add_zero, aft_nx, aft_rt, aft_bk, aft_ct, af_nx, af_rt, af_bk, af_ct, decide_eq_true_eq, eval, evals, evalsT, evalsA, evalO, evalC, evalI, dictI, test, op_bind, op_map, op_some, op_none, op_ite, if_false_right, pk, take, pks, binop, cmpop, truth, setIx, rangeOf, big, revOf, store, put, puts, putG, setOwn, ownOf, lstAt, bltF, lenF, lenOf, intF, absF, gcdF, isiF, isTy, listF, tupleF, dictF, mutF, appendF, isBw_0, isBw_s, nb_sh, nb_ow, nb_un, nb_bw, settle, storesR, bindA, back, lent, List.getElem?_cons_zero, List.getElem?_cons_succ, List.set_cons_zero, List.set_cons_succ, List.length_cons, List.length_nil, List.map_cons, List.map_nil, List.append_nil, List.nil_append, List.cons_append, and_self, and_true, true_and, if_true, if_false, ite_true, ite_false, reduceIte, Option.bind_some, Option.map_some, decide_true, decide_false, Bool.not_true, Bool.not_false, Bool.false_eq_true, Option.some.injEq, Nat.reduceLT, Nat.reduceAdd, Nat.zero_add, Nat.add_one_lt_add_one_iff, Nat.lt_add_left_iff_pos, Nat.lt_add_one, Nat.zero_lt_succ, Int.reduceLT, Int.reduceLE, Int.reduceNeg, Int.reducePow, Int.reduceToNat, Int.reduceMul, Int.reduceSub,  Int.reduceAdd, forall_const, ne_eq, not_true_eq_false, not_false_eq_true]
/-! pins -/
def pinD : D → Option D
  | .lst ds => some (.int ((ds.length : Int) - 1))
  | _ => none
def lenD : D → Option D
  | .lst ds => some (.int (ds.length : Int))
  | _ => none
theorem fm_pinD : ∀ Ls : List (List Int), (Ls.map chD).filterMap pinD = (Ls.map fun l => (l.length : Int) - 1).map D.int
  | [] => rfl
  | l :: Ls => by rw [List.map_cons, List.filterMap_cons_some (b := .int ((l.length : Int) - 1)) (by simp [pinD]), fm_pinD Ls]; rfl
theorem fm_lenD : ∀ Ls : List (List Int), (Ls.map chD).filterMap lenD = (Ls.map fun l => (l.length : Int)).map D.int
  | [] => rfl
  | l :: Ls => by rw [List.map_cons, List.filterMap_cons_some (b := .int (l.length : Int)) (by simp [lenD]), fm_lenD Ls]; rfl
theorem pin_sum : ∀ Ls : List (List Int), (Ls.map fun l => (l.length : Int) - 1).sum = (Ls.map fun l => (l.length : Int)).sum - (Ls.length : Nat)
  | [] => rfl
  | l :: Ls => by rw [List.map_cons, List.sum_cons, pin_sum Ls, List.map_cons, List.sum_cons, List.length_cons]; omega
theorem sum_I (T : List Int) : sumF [.lst (T.map D.int)] = some (.v (.int T.sum)) := by
  simp only [sumF, dInts_map, Option.map_some]
theorem pins_ok {cf : Cf} (Ls : List (List Int)) (hL : LkP Ls) : Op (runFn cf f_pins [.sh (lockD Ls)]) fun r => r = (.v (.int ((Ls.map fun l => (l.length : Int)).sum - (Ls.length : Nat))), none) := by
  have hsl : PySem.sizeLine = 16777216 := by decide
  rw [wp_run rfl rfl]
  show Wp cf f_pins.body [.sh _, .un] _
  unfold f_pins
  rw [wp_ret]
  simp -implicitDefEqProofs only [wipe, restore, List.foldl_cons, List.foldl_nil, List.getD_cons_zero, List.getD_cons_succ, lpI_nx, lpI_ct, lpI_bk, lpI_rt, shaped_int, shaped_bl, shaped_non, deq_ii, deq_bb, Bool.and_self, Bool.and_true, Bool.true_and, Int.cast_ofNat_Int, Nat.reducePow, Nat.reduceLeDiff, Int.zero_add, Int.add_zero, aft_nx, aft_rt, aft_bk, aft_ct, af_nx, af_rt, af_bk, af_ct, decide_eq_true_eq, eval, evals, evalsT, evalsA, evalO, evalC, evalI, dictI, test, op_bind, op_map, op_some, op_none, op_ite, if_false_right, pk, take, pks, binop, cmpop, truth, setIx, rangeOf, big, revOf, store, put, puts, putG, setOwn, ownOf, lstAt, bltF, lenF, lenOf, intF, absF, gcdF, isiF, isTy, listF, tupleF, dictF, mutF, appendF, isBw_0, isBw_s, nb_sh, nb_ow, nb_un, nb_bw, settle, storesR, bindA, back, lent, List.getElem?_cons_zero, List.getElem?_cons_succ, List.set_cons_zero, List.set_cons_succ, List.length_cons, List.length_nil, List.map_cons, List.map_nil, List.append_nil, List.nil_append, List.cons_append, and_self, and_true, true_and, if_true, if_false, ite_true, ite_false, reduceIte, Option.bind_some, Option.map_some, decide_true, decide_false, Bool.not_true, Bool.not_false, Bool.false_eq_true, Option.some.injEq, Nat.reduceLT, Nat.reduceAdd, Nat.zero_add, Nat.add_one_lt_add_one_iff, Nat.lt_add_left_iff_pos, Nat.lt_add_one, Nat.zero_lt_succ, Int.reduceLT, Int.reduceLE, Int.reduceNeg, Int.reducePow, Int.reduceToNat, Int.reduceMul, Int.reduceSub,  Int.reduceAdd, forall_const, ne_eq, not_true_eq_false, not_false_eq_true, itemsOf]
  refine (lc_pure pinD _ (fun y hy => ?_)).mono ?_
  · obtain ⟨l, hl, rfl⟩ := List.mem_map.mp hy
    simp -implicitDefEqProofs only [wipe, restore, List.foldl_cons, List.foldl_nil, List.getD_cons_zero, List.getD_cons_succ, lpI_nx, lpI_ct, lpI_bk, lpI_rt, shaped_int, shaped_bl, shaped_non, deq_ii, deq_bb, Bool.and_self, Bool.and_true, Bool.true_and, Int.cast_ofNat_Int, Nat.reducePow, Nat.reduceLeDiff, Int.zero_add, Int.add_zero, aft_nx, aft_rt, aft_bk, aft_ct, af_nx, af_rt, af_bk, af_ct, decide_eq_true_eq, eval, evals, evalsT, evalsA, evalO, evalC, evalI, dictI, test, op_bind, op_map, op_some, op_none, op_ite, if_false_right, pk, take, pks, binop, cmpop, truth, setIx, rangeOf, big, revOf, store, put, puts, putG, setOwn, ownOf, lstAt, bltF, lenF, lenOf, intF, absF, gcdF, isiF, isTy, listF, tupleF, dictF, mutF, appendF, isBw_0, isBw_s, nb_sh, nb_ow, nb_un, nb_bw, settle, storesR, bindA, back, lent, List.getElem?_cons_zero, List.getElem?_cons_succ, List.set_cons_zero, List.set_cons_succ, List.length_cons, List.length_nil, List.map_cons, List.map_nil, List.append_nil, List.nil_append, List.cons_append, and_self, and_true, true_and, if_true, if_false, ite_true, ite_false, reduceIte, Option.bind_some, Option.map_some, decide_true, decide_false, Bool.not_true, Bool.not_false, Bool.false_eq_true, Option.some.injEq, Nat.reduceLT, Nat.reduceAdd, Nat.zero_add, Nat.add_one_lt_add_one_iff, Nat.lt_add_left_iff_pos, Nat.lt_add_one, Nat.zero_lt_succ, Int.reduceLT, Int.reduceLE, Int.reduceNeg, Int.reducePow, Int.reduceToNat, Int.reduceMul, Int.reduceSub,  Int.reduceAdd, forall_const, ne_eq, not_true_eq_false, not_false_eq_true, List.length_map, pinD]
  · rintro _ rfl
    have h4 := hL.n4
    rw [fm_pinD]
    simp -implicitDefEqProofs only [wipe, restore, List.foldl_cons, List.foldl_nil, List.getD_cons_zero, List.getD_cons_succ, lpI_nx, lpI_ct, lpI_bk, lpI_rt, shaped_int, shaped_bl, shaped_non, deq_ii, deq_bb, Bool.and_self, Bool.and_true, Bool.true_and, Int.cast_ofNat_Int, Nat.reducePow, Nat.reduceLeDiff, Int.zero_add, Int.add_zero, aft_nx, aft_rt, aft_bk, aft_ct, af_nx, af_rt, af_bk, af_ct, decide_eq_true_eq, eval, evals, evalsT, evalsA, evalO, evalC, evalI, dictI, test, op_bind, op_map, op_some, op_none, op_ite, if_false_right, pk, take, pks, binop, cmpop, truth, setIx, rangeOf, big, revOf, store, put, puts, putG, setOwn, ownOf, lstAt, bltF, lenF, lenOf, intF, absF, gcdF, isiF, isTy, listF, tupleF, dictF, mutF, appendF, isBw_0, isBw_s, nb_sh, nb_ow, nb_un, nb_bw, settle, storesR, bindA, back, lent, List.getElem?_cons_zero, List.getElem?_cons_succ, List.set_cons_zero, List.set_cons_succ, List.length_cons, List.length_nil, List.map_cons, List.map_nil, List.append_nil, List.nil_append, List.cons_append, and_self, and_true, true_and, if_true, if_false, ite_true, ite_false, reduceIte, Option.bind_some, Option.map_some, decide_true, decide_false, Bool.not_true, Bool.not_false, Bool.false_eq_true, Option.some.injEq, Nat.reduceLT, Nat.reduceAdd, Nat.zero_add, Nat.add_one_lt_add_one_iff, Nat.lt_add_left_iff_pos, Nat.lt_add_one, Nat.zero_lt_succ, Int.reduceLT, Int.reduceLE, Int.reduceNeg, Int.reducePow, Int.reduceToNat, Int.reduceMul, Int.reduceSub,  Int.reduceAdd, forall_const, ne_eq, not_true_eq_false, not_false_eq_true, sum_I, List.length_map, hsl, pin_sum, outF, outR, outIo, wipe, restore, List.foldl_cons, List.foldl_nil, List.getD_cons_zero, List.getD_cons_succ, lpI_nx, lpI_ct, lpI_bk, lpI_rt, shaped_int, shaped_bl, shaped_non, deq_ii, deq_bb, Bool.and_self, Bool.and_true, Bool.true_and, Int.cast_ofNat_Int, Nat.reducePow, Nat.reduceLeDiff, Int.zero_add, Int.add_zero, aft_nx, aft_rt, aft_bk, aft_ct, af_nx, af_rt, af_bk, af_ct, decide_eq_true_eq, eval, evals, evalsT, evalsA, evalO, evalC, evalI, dictI, test, op_bind, op_map, op_some, op_none, op_ite, if_false_right, pk, take, pks, binop, cmpop, truth, setIx, rangeOf, big, revOf, store, put, puts, putG, setOwn, ownOf, lstAt, bltF, lenF, lenOf, intF, absF, gcdF, isiF, isTy, listF, tupleF, dictF, mutF, appendF, isBw_0, isBw_s, nb_sh, nb_ow, nb_un, nb_bw, settle, storesR, bindA, back, lent, List.getElem?_cons_zero, List.getElem?_cons_succ, List.set_cons_zero, List.set_cons_succ, List.length_cons, List.length_nil, List.map_cons, List.map_nil, List.append_nil, List.nil_append, List.cons_append, and_self, and_true, true_and, if_true, if_false, ite_true, ite_false, reduceIte, Option.bind_some, Option.map_some, decide_true, decide_false, Bool.not_true, Bool.not_false, Bool.false_eq_true, Option.some.injEq, Nat.reduceLT, Nat.reduceAdd, Nat.zero_add, Nat.add_one_lt_add_one_iff, Nat.lt_add_left_iff_pos, Nat.lt_add_one, Nat.zero_lt_succ, Int.reduceLT, Int.reduceLE, Int.reduceNeg, Int.reducePow, Int.reduceToNat, Int.reduceMul, Int.reduceSub,  Int.reduceAdd, forall_const, ne_eq, not_true_eq_false, not_false_eq_true]
    omega
/-! bunches of keys -/
def NM : List PySem.Str := [{ cps := #[97, 110, 110] }, { cps := #[98, 111, 98] }, { cps := #[99, 97, 116] }, { cps := #[100, 97, 110] }, { cps := #[101, 118, 101] }, { cps := #[102, 97, 121] }]
def GUS : PySem.Str := { cps := #[103, 117, 115] }
abbrev dK (ns : List PySem.Str) (kk : List (List Int)) : D := .dct (ns.map D.str) (kk.map tI)
def lk (ns : List PySem.Str) (kk : List (List Int)) (x : PySem.Str) : List Int := kk.getD (ns.idxOf x) []
theorem dget_lk : ∀ {ns : List PySem.Str} {kk : List (List Int)} {x : PySem.Str}, ns.length = kk.length → x ∈ ns → dGet (ns.map D.str) (kk.map tI) (.str x) = some (tI (lk ns kk x))
  | [], _, x, _, h => nomatch h
  | n :: ns, [], x, h, _ => by simp at h
  | n :: ns, k :: kk, x, h, hx => by
    simp only [List.map_cons, dGet]
    by_cases e : n = x
    · subst e
      rw [if_pos rfl]
      simp [lk]
    · rw [if_neg (by simp [e]), dget_lk (by simpa using h) ((List.mem_cons.mp hx).resolve_left fun z => e z.symm)]
      have : (n :: ns).idxOf x = ns.idxOf x + 1 := by
        have hb : (n == x) = false := by simpa using e
        rw [List.idxOf_cons, hb]; rfl
      simp [lk, this]
theorem getK {ns : List PySem.Str} {kk : List (List Int)} {x : PySem.Str} (h : ns.length = kk.length) (hx : x ∈ ns) : getIx (dK ns kk) (.str x) = some (.v (tI (lk ns kk x))) := by
  simp only [getIx, if_pos (show keyD (.str x) = true from rfl), dget_lk h hx, Option.map_some]
theorem lk_mem {ns : List PySem.Str} {kk : List (List Int)} {x : PySem.Str} (h : ns.length = kk.length) (hx : x ∈ ns) : lk ns kk x ∈ kk := by
  have : ns.idxOf x < kk.length := by rw [← h]; exact List.idxOf_lt_length_of_mem hx
  unfold lk
  rw [List.getD_eq_getElem?_getD, List.getElem?_eq_getElem this, Option.getD_some]
  exact List.getElem_mem _
theorem putK' {ns : List PySem.Str} {kk : List (List Int)} {x : PySem.Str} {k : List Int} (hx : x ∉ ns) (hl : ns.length ≤ 100) : setIx (dK ns kk) (.str x) (tI k) = some (dK (ns ++ [x]) (kk ++ [k])) := by
  have hsl : PySem.sizeLine = 16777216 := by decide
  have ha : dAny (ns.map D.str) (.str x) = false := by
    unfold dAny
    rw [List.any_eq_false]
    intro y hy
    obtain ⟨z, hz, rfl⟩ := List.mem_map.mp hy
    rw [decide_eq_true_iff]
    intro e
    injection e with e
    exact hx (e ▸ hz)
  show (if keyD (.str x) = true ∧ (ns.map D.str).length < PySem.sizeLine then _ else _) = _
  rw [if_pos ⟨rfl, by rw [List.length_map, hsl]; omega⟩, ha, if_neg (by decide)]
  show some (D.dct _ _) = some (D.dct ((ns ++ [x]).map D.str) ((kk ++ [k]).map tI))
  rw [List.map_append, List.map_append]
  rfl
theorem nm_nodup : (NM ++ [GUS]).Nodup := by decide
theorem nm_ok : ∀ x ∈ NM ++ [GUS], PySem.PyData.strOk x = true := by decide +kernel
structure KyP (n : Nat) (ns : List PySem.Str) (kk : List (List Int)) : Prop where
  l : ns.length = kk.length
  m : ns.length ≤ 6
  s : ∀ x ∈ ns, PySem.PyData.strOk x = true
  k : ∀ k ∈ kk, k.length = n
theorem keys_ok {cf : Cf} (W : DrawOk' cf 8) (hio : cf.io 12 = some 0) (hk : ∀ (ns : List Int) (a b0 c : Int) (n b : Nat), n ≤ 5 → 0 < b → b ≤ 6 → Op (cf.C 12 [.bw (pool ns a b0 c), .sh (.int (n : Nat)), .sh (.int (b : Nat))]) fun r => ∃ ks b1 c1, r = (.v (tI ks), some (pool ns a b1 c1)) ∧ ks.length = n ∧ ∀ k ∈ ks, 0 ≤ k ∧ k < b)
    (ns : List Int) (a b0 c : Int) (n b : Nat) (hn : n ≤ 5) (hb0 : 0 < b) (hb : b ≤ 6) : Op (runFn cf f__law_keys [.bw (pool ns a b0 c), .sh (.int (n : Nat)), .sh (.int (b : Nat)), .sh (.int 5)]) fun r => ∃ nm kk b1 c1, r = (.f (dK nm kk), some (pool ns a b1 c1)) ∧ KyP n nm kk ∧ nm.length ≤ 5 ∧ GUS ∉ nm := by
  have hsl : PySem.sizeLine = 16777216 := by decide
  rw [wp_run rfl rfl]
  show Wp cf f__law_keys.body [.bw _, .sh _, .sh _, .sh _, .un, .un, .un] _
  unfold f__law_keys
  rw [wp_set]
  simp -implicitDefEqProofs only [wipe, restore, List.foldl_cons, List.foldl_nil, List.getD_cons_zero, List.getD_cons_succ, lpI_nx, lpI_ct, lpI_bk, lpI_rt, shaped_int, shaped_bl, shaped_non, deq_ii, deq_bb, Bool.and_self, Bool.and_true, Bool.true_and, Int.cast_ofNat_Int, Nat.reducePow, Nat.reduceLeDiff, Int.zero_add, Int.add_zero, aft_nx, aft_rt, aft_bk, aft_ct, af_nx, af_rt, af_bk, af_ct, decide_eq_true_eq, eval, evals, evalsT, evalsA, evalO, evalC, evalI, dictI, test, op_bind, op_map, op_some, op_none, op_ite, if_false_right, pk, take, pks, binop, cmpop, truth, setIx, rangeOf, big, revOf, store, put, puts, putG, setOwn, ownOf, lstAt, bltF, lenF, lenOf, intF, absF, gcdF, isiF, isTy, listF, tupleF, dictF, mutF, appendF, isBw_0, isBw_s, nb_sh, nb_ow, nb_un, nb_bw, settle, storesR, bindA, back, lent, List.getElem?_cons_zero, List.getElem?_cons_succ, List.set_cons_zero, List.set_cons_succ, List.length_cons, List.length_nil, List.map_cons, List.map_nil, List.append_nil, List.nil_append, List.cons_append, and_self, and_true, true_and, if_true, if_false, ite_true, ite_false, reduceIte, Option.bind_some, Option.map_some, decide_true, decide_false, Bool.not_true, Bool.not_false, Bool.false_eq_true, Option.some.injEq, Nat.reduceLT, Nat.reduceAdd, Nat.zero_add, Nat.add_one_lt_add_one_iff, Nat.lt_add_left_iff_pos, Nat.lt_add_one, Nat.zero_lt_succ, Int.reduceLT, Int.reduceLE, Int.reduceNeg, Int.reducePow, Int.reduceToNat, Int.reduceMul, Int.reduceSub,  Int.reduceAdd, forall_const, ne_eq, not_true_eq_false, not_false_eq_true, W.io]
  refine ⟨by decide, (W.ok _ _ _ _ 5 (by decide) (by decide)).mono ?_⟩
  rintro _ ⟨v, b1, c1, v0, v1, rfl⟩
  obtain ⟨j, hj, hj5⟩ : ∃ j : Nat, 1 + v = (j : Int) ∧ j ≤ 5 := ⟨(1 + v).toNat, by omega, by omega⟩
  clear v0 v1
  have hcut : cut (NM.map D.str) none (some (j : Int)) = (NM.take j).map D.str := by
    rw [cut_to (by show j ≤ 6; omega), List.map_take]
  have hnm : NM.map D.str = [.str { cps := #[97, 110, 110] }, .str { cps := #[98, 111, 98] }, .str { cps := #[99, 97, 116] }, .str { cps := #[100, 97, 110] }, .str { cps := #[101, 118, 101] }, .str { cps := #[102, 97, 121] }] := rfl
  rw [hnm] at hcut
  simp -implicitDefEqProofs only [wipe, restore, List.foldl_cons, List.foldl_nil, List.getD_cons_zero, List.getD_cons_succ, lpI_nx, lpI_ct, lpI_bk, lpI_rt, shaped_int, shaped_bl, shaped_non, deq_ii, deq_bb, Bool.and_self, Bool.and_true, Bool.true_and, Int.cast_ofNat_Int, Nat.reducePow, Nat.reduceLeDiff, Int.zero_add, Int.add_zero, aft_nx, aft_rt, aft_bk, aft_ct, af_nx, af_rt, af_bk, af_ct, decide_eq_true_eq, eval, evals, evalsT, evalsA, evalO, evalC, evalI, dictI, test, op_bind, op_map, op_some, op_none, op_ite, if_false_right, pk, take, pks, binop, cmpop, truth, setIx, rangeOf, big, revOf, store, put, puts, putG, setOwn, ownOf, lstAt, bltF, lenF, lenOf, intF, absF, gcdF, isiF, isTy, listF, tupleF, dictF, mutF, appendF, isBw_0, isBw_s, nb_sh, nb_ow, nb_un, nb_bw, settle, storesR, bindA, back, lent, List.getElem?_cons_zero, List.getElem?_cons_succ, List.set_cons_zero, List.set_cons_succ, List.length_cons, List.length_nil, List.map_cons, List.map_nil, List.append_nil, List.nil_append, List.cons_append, and_self, and_true, true_and, if_true, if_false, ite_true, ite_false, reduceIte, Option.bind_some, Option.map_some, decide_true, decide_false, Bool.not_true, Bool.not_false, Bool.false_eq_true, Option.some.injEq, Nat.reduceLT, Nat.reduceAdd, Nat.zero_add, Nat.add_one_lt_add_one_iff, Nat.lt_add_left_iff_pos, Nat.lt_add_one, Nat.zero_lt_succ, Int.reduceLT, Int.reduceLE, Int.reduceNeg, Int.reducePow, Int.reduceToNat, Int.reduceMul, Int.reduceSub,  Int.reduceAdd, forall_const, ne_eq, not_true_eq_false, not_false_eq_true, hj, sliceOf, hcut]
  rw [wp_set]
  simp -implicitDefEqProofs only [wipe, restore, List.foldl_cons, List.foldl_nil, List.getD_cons_zero, List.getD_cons_succ, lpI_nx, lpI_ct, lpI_bk, lpI_rt, shaped_int, shaped_bl, shaped_non, deq_ii, deq_bb, Bool.and_self, Bool.and_true, Bool.true_and, Int.cast_ofNat_Int, Nat.reducePow, Nat.reduceLeDiff, Int.zero_add, Int.add_zero, aft_nx, aft_rt, aft_bk, aft_ct, af_nx, af_rt, af_bk, af_ct, decide_eq_true_eq, eval, evals, evalsT, evalsA, evalO, evalC, evalI, dictI, test, op_bind, op_map, op_some, op_none, op_ite, if_false_right, pk, take, pks, binop, cmpop, truth, setIx, rangeOf, big, revOf, store, put, puts, putG, setOwn, ownOf, lstAt, bltF, lenF, lenOf, intF, absF, gcdF, isiF, isTy, listF, tupleF, dictF, mutF, appendF, isBw_0, isBw_s, nb_sh, nb_ow, nb_un, nb_bw, settle, storesR, bindA, back, lent, List.getElem?_cons_zero, List.getElem?_cons_succ, List.set_cons_zero, List.set_cons_succ, List.length_cons, List.length_nil, List.map_cons, List.map_nil, List.append_nil, List.nil_append, List.cons_append, and_self, and_true, true_and, if_true, if_false, ite_true, ite_false, reduceIte, Option.bind_some, Option.map_some, decide_true, decide_false, Bool.not_true, Bool.not_false, Bool.false_eq_true, Option.some.injEq, Nat.reduceLT, Nat.reduceAdd, Nat.zero_add, Nat.add_one_lt_add_one_iff, Nat.lt_add_left_iff_pos, Nat.lt_add_one, Nat.zero_lt_succ, Int.reduceLT, Int.reduceLE, Int.reduceNeg, Int.reducePow, Int.reduceToNat, Int.reduceMul, Int.reduceSub,  Int.reduceAdd, forall_const, ne_eq, not_true_eq_false, not_false_eq_true]
  rw [wp_for]
  simp -implicitDefEqProofs only [wipe, restore, List.foldl_cons, List.foldl_nil, List.getD_cons_zero, List.getD_cons_succ, lpI_nx, lpI_ct, lpI_bk, lpI_rt, shaped_int, shaped_bl, shaped_non, deq_ii, deq_bb, Bool.and_self, Bool.and_true, Bool.true_and, Int.cast_ofNat_Int, Nat.reducePow, Nat.reduceLeDiff, Int.zero_add, Int.add_zero, aft_nx, aft_rt, aft_bk, aft_ct, af_nx, af_rt, af_bk, af_ct, decide_eq_true_eq, eval, evals, evalsT, evalsA, evalO, evalC, evalI, dictI, test, op_bind, op_map, op_some, op_none, op_ite, if_false_right, pk, take, pks, binop, cmpop, truth, setIx, rangeOf, big, revOf, store, put, puts, putG, setOwn, ownOf, lstAt, bltF, lenF, lenOf, intF, absF, gcdF, isiF, isTy, listF, tupleF, dictF, mutF, appendF, isBw_0, isBw_s, nb_sh, nb_ow, nb_un, nb_bw, settle, storesR, bindA, back, lent, List.getElem?_cons_zero, List.getElem?_cons_succ, List.set_cons_zero, List.set_cons_succ, List.length_cons, List.length_nil, List.map_cons, List.map_nil, List.append_nil, List.nil_append, List.cons_append, and_self, and_true, true_and, if_true, if_false, ite_true, ite_false, reduceIte, Option.bind_some, Option.map_some, decide_true, decide_false, Bool.not_true, Bool.not_false, Bool.false_eq_true, Option.some.injEq, Nat.reduceLT, Nat.reduceAdd, Nat.zero_add, Nat.add_one_lt_add_one_iff, Nat.lt_add_left_iff_pos, Nat.lt_add_one, Nat.zero_lt_succ, Int.reduceLT, Int.reduceLE, Int.reduceNeg, Int.reducePow, Int.reduceToNat, Int.reduceMul, Int.reduceSub,  Int.reduceAdd, forall_const, ne_eq, not_true_eq_false, not_false_eq_true, itemsOf]
  have hlen : (NM.take j).length ≤ 5 := by rw [List.length_take]; omega
  have hmem : ∀ i (h : i < (NM.take j).length), (NM.take j)[i] ∉ (NM.take j).take i := fun i h hm => by
    have hnd : (NM.take j).Nodup := ((List.take_sublist j NM).trans (List.sublist_append_left NM [GUS])).nodup nm_nodup
    obtain ⟨q, hq, e⟩ := List.mem_take_iff_getElem.mp hm
    have := (List.getElem_inj hnd).mp e
    omega
  have hsub : ∀ x ∈ NM.take j, x ∈ NM := fun x hx => List.mem_of_mem_take hx
  generalize NM.take j = N at *
  refine lp_idx (fun i e => ∃ kk b1 c1 s6, e = [.bw (pool ns a b1 c1), .sh (.int (n : Nat)), .sh (.int (b : Nat)), .sh (.int 5), .sh (.lst (N.map D.str)), .ow (dK (N.take i) kk), s6] ∧ nb s6 = true ∧ kk.length = i ∧ ∀ k ∈ kk, k.length = n) ?_ ?_ _ ⟨[], b1, c1, .un, rfl, rfl, rfl, fun _ h => nomatch h⟩
  · rintro i hi e ⟨kk, b1, c1, s6, rfl, n6, hkl, hkn⟩
    have hi' := hi
    rw [List.length_map] at hi'
    simp only [List.getElem_map]
    simp -implicitDefEqProofs only [wipe, restore, List.foldl_cons, List.foldl_nil, List.getD_cons_zero, List.getD_cons_succ, lpI_nx, lpI_ct, lpI_bk, lpI_rt, shaped_int, shaped_bl, shaped_non, deq_ii, deq_bb, Bool.and_self, Bool.and_true, Bool.true_and, Int.cast_ofNat_Int, Nat.reducePow, Nat.reduceLeDiff, Int.zero_add, Int.add_zero, aft_nx, aft_rt, aft_bk, aft_ct, af_nx, af_rt, af_bk, af_ct, decide_eq_true_eq, eval, evals, evalsT, evalsA, evalO, evalC, evalI, dictI, test, op_bind, op_map, op_some, op_none, op_ite, if_false_right, pk, take, pks, binop, cmpop, truth, setIx, rangeOf, big, revOf, store, put, puts, putG, setOwn, ownOf, lstAt, bltF, lenF, lenOf, intF, absF, gcdF, isiF, isTy, listF, tupleF, dictF, mutF, appendF, isBw_0, isBw_s, nb_sh, nb_ow, nb_un, nb_bw, settle, storesR, bindA, back, lent, List.getElem?_cons_zero, List.getElem?_cons_succ, List.set_cons_zero, List.set_cons_succ, List.length_cons, List.length_nil, List.map_cons, List.map_nil, List.append_nil, List.nil_append, List.cons_append, and_self, and_true, true_and, if_true, if_false, ite_true, ite_false, reduceIte, Option.bind_some, Option.map_some, decide_true, decide_false, Bool.not_true, Bool.not_false, Bool.false_eq_true, Option.some.injEq, Nat.reduceLT, Nat.reduceAdd, Nat.zero_add, Nat.add_one_lt_add_one_iff, Nat.lt_add_left_iff_pos, Nat.lt_add_one, Nat.zero_lt_succ, Int.reduceLT, Int.reduceLE, Int.reduceNeg, Int.reducePow, Int.reduceToNat, Int.reduceMul, Int.reduceSub,  Int.reduceAdd, forall_const, ne_eq, not_true_eq_false, not_false_eq_true, n6]
    rw [wp_sti]
    simp -implicitDefEqProofs only [wipe, restore, List.foldl_cons, List.foldl_nil, List.getD_cons_zero, List.getD_cons_succ, lpI_nx, lpI_ct, lpI_bk, lpI_rt, shaped_int, shaped_bl, shaped_non, deq_ii, deq_bb, Bool.and_self, Bool.and_true, Bool.true_and, Int.cast_ofNat_Int, Nat.reducePow, Nat.reduceLeDiff, Int.zero_add, Int.add_zero, aft_nx, aft_rt, aft_bk, aft_ct, af_nx, af_rt, af_bk, af_ct, decide_eq_true_eq, eval, evals, evalsT, evalsA, evalO, evalC, evalI, dictI, test, op_bind, op_map, op_some, op_none, op_ite, if_false_right, pk, take, pks, binop, cmpop, truth, rangeOf, big, revOf, store, put, puts, putG, setOwn, ownOf, lstAt, bltF, lenF, lenOf, intF, absF, gcdF, isiF, isTy, listF, tupleF, dictF, mutF, appendF, isBw_0, isBw_s, nb_sh, nb_ow, nb_un, nb_bw, settle, storesR, bindA, back, lent, List.getElem?_cons_zero, List.getElem?_cons_succ, List.set_cons_zero, List.set_cons_succ, List.length_cons, List.length_nil, List.map_cons, List.map_nil, List.append_nil, List.nil_append, List.cons_append, and_self, and_true, true_and, if_true, if_false, ite_true, ite_false, reduceIte, Option.bind_some, Option.map_some, decide_true, decide_false, Bool.not_true, Bool.not_false, Bool.false_eq_true, Option.some.injEq, Nat.reduceLT, Nat.reduceAdd, Nat.zero_add, Nat.add_one_lt_add_one_iff, Nat.lt_add_left_iff_pos, Nat.lt_add_one, Nat.zero_lt_succ, Int.reduceLT, Int.reduceLE, Int.reduceNeg, Int.reducePow, Int.reduceToNat, Int.reduceMul, Int.reduceSub,  Int.reduceAdd, forall_const, ne_eq, not_true_eq_false, not_false_eq_true, hio]
    refine (hk ns a b1 c1 n b hn hb0 hb).mono ?_
    rintro _ ⟨ks, b2, c2, rfl, hks, _⟩
    have hp := putK' (kk := kk) (k := ks) (hmem i hi') (by rw [List.length_take]; omega)
    simp -implicitDefEqProofs only [wipe, restore, List.foldl_cons, List.foldl_nil, List.getD_cons_zero, List.getD_cons_succ, lpI_nx, lpI_ct, lpI_bk, lpI_rt, shaped_int, shaped_bl, shaped_non, deq_ii, deq_bb, Bool.and_self, Bool.and_true, Bool.true_and, Int.cast_ofNat_Int, Nat.reducePow, Nat.reduceLeDiff, Int.zero_add, Int.add_zero, aft_nx, aft_rt, aft_bk, aft_ct, af_nx, af_rt, af_bk, af_ct, decide_eq_true_eq, eval, evals, evalsT, evalsA, evalO, evalC, evalI, dictI, test, op_bind, op_map, op_some, op_none, op_ite, if_false_right, pk, take, pks, binop, cmpop, truth, rangeOf, big, revOf, store, put, puts, putG, setOwn, ownOf, lstAt, bltF, lenF, lenOf, intF, absF, gcdF, isiF, isTy, listF, tupleF, dictF, mutF, appendF, isBw_0, isBw_s, nb_sh, nb_ow, nb_un, nb_bw, settle, storesR, bindA, back, lent, List.getElem?_cons_zero, List.getElem?_cons_succ, List.set_cons_zero, List.set_cons_succ, List.length_cons, List.length_nil, List.map_cons, List.map_nil, List.append_nil, List.nil_append, List.cons_append, and_self, and_true, true_and, if_true, if_false, ite_true, ite_false, reduceIte, Option.bind_some, Option.map_some, decide_true, decide_false, Bool.not_true, Bool.not_false, Bool.false_eq_true, Option.some.injEq, Nat.reduceLT, Nat.reduceAdd, Nat.zero_add, Nat.add_one_lt_add_one_iff, Nat.lt_add_left_iff_pos, Nat.lt_add_one, Nat.zero_lt_succ, Int.reduceLT, Int.reduceLE, Int.reduceNeg, Int.reducePow, Int.reduceToNat, Int.reduceMul, Int.reduceSub,  Int.reduceAdd, forall_const, ne_eq, not_true_eq_false, not_false_eq_true, hp]
    rw [wp_nil, lpI_nx]
    refine ⟨kk ++ [ks], b2, c2, _, by rw [List.take_succ_eq_append_getElem hi'], rfl, by rw [List.length_append, hkl]; rfl, fun k hk => ?_⟩
    rcases List.mem_append.mp hk with hk | hk
    · exact hkn k hk
    · rw [List.mem_singleton.mp hk]; exact hks
  · rintro e ⟨kk, b1, c1, s6, rfl, n6, hkl, hkn⟩
    rw [List.length_map] at hkl
    rw [List.length_map, List.take_of_length_le (Nat.le_refl _), aft_nx, wp_ret]
    simp -implicitDefEqProofs only [wipe, restore, List.foldl_cons, List.foldl_nil, List.getD_cons_zero, List.getD_cons_succ, lpI_nx, lpI_ct, lpI_bk, lpI_rt, shaped_int, shaped_bl, shaped_non, deq_ii, deq_bb, Bool.and_self, Bool.and_true, Bool.true_and, Int.cast_ofNat_Int, Nat.reducePow, Nat.reduceLeDiff, Int.zero_add, Int.add_zero, aft_nx, aft_rt, aft_bk, aft_ct, af_nx, af_rt, af_bk, af_ct, decide_eq_true_eq, eval, evals, evalsT, evalsA, evalO, evalC, evalI, dictI, test, op_bind, op_map, op_some, op_none, op_ite, if_false_right, pk, take, pks, binop, cmpop, truth, setIx, rangeOf, big, revOf, store, put, puts, putG, setOwn, ownOf, lstAt, bltF, lenF, lenOf, intF, absF, gcdF, isiF, isTy, listF, tupleF, dictF, mutF, appendF, isBw_0, isBw_s, nb_sh, nb_ow, nb_un, nb_bw, settle, storesR, bindA, back, lent, List.getElem?_cons_zero, List.getElem?_cons_succ, List.set_cons_zero, List.set_cons_succ, List.length_cons, List.length_nil, List.map_cons, List.map_nil, List.append_nil, List.nil_append, List.cons_append, and_self, and_true, true_and, if_true, if_false, ite_true, ite_false, reduceIte, Option.bind_some, Option.map_some, decide_true, decide_false, Bool.not_true, Bool.not_false, Bool.false_eq_true, Option.some.injEq, Nat.reduceLT, Nat.reduceAdd, Nat.zero_add, Nat.add_one_lt_add_one_iff, Nat.lt_add_left_iff_pos, Nat.lt_add_one, Nat.zero_lt_succ, Int.reduceLT, Int.reduceLE, Int.reduceNeg, Int.reducePow, Int.reduceToNat, Int.reduceMul, Int.reduceSub,  Int.reduceAdd, forall_const, ne_eq, not_true_eq_false, not_false_eq_true, outF, outR, outIo, wipe, restore, List.foldl_cons, List.foldl_nil, List.getD_cons_zero, List.getD_cons_succ, lpI_nx, lpI_ct, lpI_bk, lpI_rt, shaped_int, shaped_bl, shaped_non, deq_ii, deq_bb, Bool.and_self, Bool.and_true, Bool.true_and, Int.cast_ofNat_Int, Nat.reducePow, Nat.reduceLeDiff, Int.zero_add, Int.add_zero, aft_nx, aft_rt, aft_bk, aft_ct, af_nx, af_rt, af_bk, af_ct, decide_eq_true_eq, eval, evals, evalsT, evalsA, evalO, evalC, evalI, dictI, test, op_bind, op_map, op_some, op_none, op_ite, if_false_right, pk, take, pks, binop, cmpop, truth, setIx, rangeOf, big, revOf, store, put, puts, putG, setOwn, ownOf, lstAt, bltF, lenF, lenOf, intF, absF, gcdF, isiF, isTy, listF, tupleF, dictF, mutF, appendF, isBw_0, isBw_s, nb_sh, nb_ow, nb_un, nb_bw, settle, storesR, bindA, back, lent, List.getElem?_cons_zero, List.getElem?_cons_succ, List.set_cons_zero, List.set_cons_succ, List.length_cons, List.length_nil, List.map_cons, List.map_nil, List.append_nil, List.nil_append, List.cons_append, and_self, and_true, true_and, if_true, if_false, ite_true, ite_false, reduceIte, Option.bind_some, Option.map_some, decide_true, decide_false, Bool.not_true, Bool.not_false, Bool.false_eq_true, Option.some.injEq, Nat.reduceLT, Nat.reduceAdd, Nat.zero_add, Nat.add_one_lt_add_one_iff, Nat.lt_add_left_iff_pos, Nat.lt_add_one, Nat.zero_lt_succ, Int.reduceLT, Int.reduceLE, Int.reduceNeg, Int.reducePow, Int.reduceToNat, Int.reduceMul, Int.reduceSub,  Int.reduceAdd, forall_const, ne_eq, not_true_eq_false, not_false_eq_true]
    refine ⟨N, kk, b1, c1, rfl, ⟨hkl.symm, by omega, fun x hx => nm_ok x (List.mem_append_left _ (hsub x hx)), hkn⟩, hlen, fun hg => ?_⟩
    have := hsub _ hg
    revert this
    decide
/-! who opens -/
def FN (Ls : List (List Int)) (ns : List PySem.Str) (kk : List (List Int)) : List PySem.Str := ns.filter fun x => opn Ls (lk ns kk x)
def fnD (Ls : List (List Int)) (ns : List PySem.Str) (kk : List (List Int)) : D → Option D
  | .str x => if opn Ls (lk ns kk x) = true then some (.str x) else none
  | _ => none
theorem fm_fnD (Ls : List (List Int)) (ns : List PySem.Str) (kk : List (List Int)) : ∀ l : List PySem.Str, (l.map D.str).filterMap (fnD Ls ns kk) = (l.filter fun x => opn Ls (lk ns kk x)).map D.str
  | [] => rfl
  | x :: l => by
    have ih := fm_fnD Ls ns kk l
    rw [List.map_cons]
    by_cases z : opn Ls (lk ns kk x) = true
    · rw [List.filterMap_cons_some (b := .str x) (by simp [fnD, z]), List.filter_cons, if_pos z, ih]; rfl
    · rw [List.filterMap_cons_none (by simp [fnD, z]), List.filter_cons, if_neg z, ih]
theorem shp_strs {l : List PySem.Str} (h : ∀ x ∈ l, PySem.PyData.strOk x = true) : ∀ d ∈ l.map D.str, shp d = true ∧ deep d ≤ 0 := fun d hd => by
  obtain ⟨x, hx, rfl⟩ := List.mem_map.mp hd
  exact ⟨by simpa only [shp] using h x hx, by simp [deep]⟩
theorem sorted_str {l : List PySem.Str} (h : ∀ x ∈ l, PySem.PyData.strOk x = true) : sortedF [.lst (l.map .str)] = some (.f (.lst (sortB dle (l.map .str)))) := by
  have h1 : ((l.map D.str).all isTup1 || (l.map D.str).all noTup) = true := by
    rw [Bool.or_eq_true]
    refine .inr ?_
    rw [List.all_eq_true]
    intro d hd
    obtain ⟨x, _, rfl⟩ := List.mem_map.mp hd
    rfl
  have h2 : ((l.map D.str).all fun a => (l.map D.str).all fun b => alk a b) = true := by
    rw [List.all_eq_true]
    intro d hd
    obtain ⟨x, _, rfl⟩ := List.mem_map.mp hd
    rw [List.all_eq_true]
    intro d hd
    obtain ⟨y, _, rfl⟩ := List.mem_map.mp hd
    rfl
  have h3 : shpL (l.map D.str) = true := shpL_of fun d hd => (shp_strs h d hd).1
  have h4 : deepL (l.map D.str) ≤ 60 := deepL_of fun d hd => Nat.le_trans (shp_strs h d hd).2 (by decide)
  have h5 : sortable (l.map D.str) = true := by
    unfold sortable
    rw [h1, h2, h3, decide_eq_true h4]
    rfl
  simp only [sortedF, h5, if_true]
theorem FN_sub {Ls : List (List Int)} {ns : List PySem.Str} {kk : List (List Int)} : ∀ x ∈ FN Ls ns kk, x ∈ ns := fun x hx => (List.mem_filter.mp hx).1
theorem FN_pl {Ls : List (List Int)} {n : Nat} {ns : List PySem.Str} {kk : List (List Int)} (h : KyP n ns kk) : Pl 3 (.lst (sortB dle ((FN Ls ns kk).map .str))) := by
  have hm := h.m
  have hl : (FN Ls ns kk).length ≤ ns.length := List.length_filter_le _ _
  simp only [Pl, len_sortB, List.length_map]
  refine ⟨by omega, fun d hd => ?_⟩
  rw [mem_sortB] at hd
  obtain ⟨x, hx, rfl⟩ := List.mem_map.mp hd
  exact h.s x (FN_sub x hx)
theorem oby_ok {cf : Cf} (hio : cf.io 0 = none) (ho : ∀ (Ls : List (List Int)) (ks : List Int), Ls.length = ks.length → ks.length ≤ 1000 → Op (cf.C 0 [.sh (lockD Ls), .sh (tI ks)]) fun r => r = (.v (.bl (opn Ls ks)), none))
    (Ls : List (List Int)) (hL : LkP Ls) (ns : List PySem.Str) (kk : List (List Int)) (hk : KyP Ls.length ns kk) : Op (runFn cf f_opened_by [.sh (lockD Ls), .sh (dK ns kk)]) fun r => r = (.f (.lst (sortB dle ((FN Ls ns kk).map .str))), none) := by
  have hsl : PySem.sizeLine = 16777216 := by decide
  have hso := sorted_str (l := FN Ls ns kk) fun x hx => hk.s x (FN_sub x hx)
  have hl : (FN Ls ns kk).length ≤ ns.length := List.length_filter_le _ _
  have hm := hk.m
  rw [wp_run rfl rfl]
  show Wp cf f_opened_by.body [.sh _, .sh _, .un] _
  unfold f_opened_by
  rw [wp_ret]
  simp -implicitDefEqProofs only [wipe, restore, List.foldl_cons, List.foldl_nil, List.getD_cons_zero, List.getD_cons_succ, lpI_nx, lpI_ct, lpI_bk, lpI_rt, shaped_int, shaped_bl, shaped_non, deq_ii, deq_bb, Bool.and_self, Bool.and_true, Bool.true_and, Int.cast_ofNat_Int, Nat.reducePow, Nat.reduceLeDiff, Int.zero_add, Int.add_zero, aft_nx, aft_rt, aft_bk, aft_ct, af_nx, af_rt, af_bk, af_ct, decide_eq_true_eq, eval, evals, evalsT, evalsA, evalO, evalC, evalI, dictI, test, op_bind, op_map, op_some, op_none, op_ite, if_false_right, pk, take, pks, binop, cmpop, truth, setIx, rangeOf, big, revOf, store, put, puts, putG, setOwn, ownOf, lstAt, bltF, lenF, lenOf, intF, absF, gcdF, isiF, isTy, listF, tupleF, dictF, mutF, appendF, isBw_0, isBw_s, nb_sh, nb_ow, nb_un, nb_bw, settle, storesR, bindA, back, lent, List.getElem?_cons_zero, List.getElem?_cons_succ, List.set_cons_zero, List.set_cons_succ, List.length_cons, List.length_nil, List.map_cons, List.map_nil, List.append_nil, List.nil_append, List.cons_append, and_self, and_true, true_and, if_true, if_false, ite_true, ite_false, reduceIte, Option.bind_some, Option.map_some, decide_true, decide_false, Bool.not_true, Bool.not_false, Bool.false_eq_true, Option.some.injEq, Nat.reduceLT, Nat.reduceAdd, Nat.zero_add, Nat.add_one_lt_add_one_iff, Nat.lt_add_left_iff_pos, Nat.lt_add_one, Nat.zero_lt_succ, Int.reduceLT, Int.reduceLE, Int.reduceNeg, Int.reducePow, Int.reduceToNat, Int.reduceMul, Int.reduceSub,  Int.reduceAdd, forall_const, ne_eq, not_true_eq_false, not_false_eq_true]
  refine (lc_pure (fnD Ls ns kk) _ (fun y hy => ?_)).mono ?_
  · obtain ⟨x, hx, rfl⟩ := List.mem_map.mp hy
    have g := getK hk.l hx
    have hlen := hk.k _ (lk_mem hk.l hx)
    have h4 := hL.n4
    simp -implicitDefEqProofs only [wipe, restore, List.foldl_cons, List.foldl_nil, List.getD_cons_zero, List.getD_cons_succ, lpI_nx, lpI_ct, lpI_bk, lpI_rt, shaped_int, shaped_bl, shaped_non, deq_ii, deq_bb, Bool.and_self, Bool.and_true, Bool.true_and, Int.cast_ofNat_Int, Nat.reducePow, Nat.reduceLeDiff, Int.zero_add, Int.add_zero, aft_nx, aft_rt, aft_bk, aft_ct, af_nx, af_rt, af_bk, af_ct, decide_eq_true_eq, eval, evals, evalsT, evalsA, evalO, evalC, evalI, dictI, test, op_bind, op_map, op_some, op_none, op_ite, if_false_right, pk, take, pks, binop, cmpop, truth, setIx, rangeOf, big, revOf, store, put, puts, putG, setOwn, ownOf, lstAt, bltF, lenF, lenOf, intF, absF, gcdF, isiF, isTy, listF, tupleF, dictF, mutF, appendF, isBw_0, isBw_s, nb_sh, nb_ow, nb_un, nb_bw, settle, storesR, bindA, back, lent, List.getElem?_cons_zero, List.getElem?_cons_succ, List.set_cons_zero, List.set_cons_succ, List.length_cons, List.length_nil, List.map_cons, List.map_nil, List.append_nil, List.nil_append, List.cons_append, and_self, and_true, true_and, if_true, if_false, ite_true, ite_false, reduceIte, Option.bind_some, Option.map_some, decide_true, decide_false, Bool.not_true, Bool.not_false, Bool.false_eq_true, Option.some.injEq, Nat.reduceLT, Nat.reduceAdd, Nat.zero_add, Nat.add_one_lt_add_one_iff, Nat.lt_add_left_iff_pos, Nat.lt_add_one, Nat.zero_lt_succ, Int.reduceLT, Int.reduceLE, Int.reduceNeg, Int.reducePow, Int.reduceToNat, Int.reduceMul, Int.reduceSub,  Int.reduceAdd, forall_const, ne_eq, not_true_eq_false, not_false_eq_true, g, hio]
    refine (ho Ls (lk ns kk x) hlen.symm (by omega)).mono ?_
    rintro _ rfl
    by_cases z : opn Ls (lk ns kk x) = true
    · simp -implicitDefEqProofs only [wipe, restore, List.foldl_cons, List.foldl_nil, List.getD_cons_zero, List.getD_cons_succ, lpI_nx, lpI_ct, lpI_bk, lpI_rt, shaped_int, shaped_bl, shaped_non, deq_ii, deq_bb, Bool.and_self, Bool.and_true, Bool.true_and, Int.cast_ofNat_Int, Nat.reducePow, Nat.reduceLeDiff, Int.zero_add, Int.add_zero, aft_nx, aft_rt, aft_bk, aft_ct, af_nx, af_rt, af_bk, af_ct, decide_eq_true_eq, eval, evals, evalsT, evalsA, evalO, evalC, evalI, dictI, test, op_bind, op_map, op_some, op_none, op_ite, if_false_right, pk, take, pks, binop, cmpop, truth, setIx, rangeOf, big, revOf, store, put, puts, putG, setOwn, ownOf, lstAt, bltF, lenF, lenOf, intF, absF, gcdF, isiF, isTy, listF, tupleF, dictF, mutF, appendF, isBw_0, isBw_s, nb_sh, nb_ow, nb_un, nb_bw, settle, storesR, bindA, back, lent, List.getElem?_cons_zero, List.getElem?_cons_succ, List.set_cons_zero, List.set_cons_succ, List.length_cons, List.length_nil, List.map_cons, List.map_nil, List.append_nil, List.nil_append, List.cons_append, and_self, and_true, true_and, if_true, if_false, ite_true, ite_false, reduceIte, Option.bind_some, Option.map_some, decide_true, decide_false, Bool.not_true, Bool.not_false, Bool.false_eq_true, Option.some.injEq, Nat.reduceLT, Nat.reduceAdd, Nat.zero_add, Nat.add_one_lt_add_one_iff, Nat.lt_add_left_iff_pos, Nat.lt_add_one, Nat.zero_lt_succ, Int.reduceLT, Int.reduceLE, Int.reduceNeg, Int.reducePow, Int.reduceToNat, Int.reduceMul, Int.reduceSub,  Int.reduceAdd, forall_const, ne_eq, not_true_eq_false, not_false_eq_true, z, fnD]
    · rw [Bool.not_eq_true] at z
      simp -implicitDefEqProofs only [wipe, restore, List.foldl_cons, List.foldl_nil, List.getD_cons_zero, List.getD_cons_succ, lpI_nx, lpI_ct, lpI_bk, lpI_rt, shaped_int, shaped_bl, shaped_non, deq_ii, deq_bb, Bool.and_self, Bool.and_true, Bool.true_and, Int.cast_ofNat_Int, Nat.reducePow, Nat.reduceLeDiff, Int.zero_add, Int.add_zero, aft_nx, aft_rt, aft_bk, aft_ct, af_nx, af_rt, af_bk, af_ct, decide_eq_true_eq, eval, evals, evalsT, evalsA, evalO, evalC, evalI, dictI, test, op_bind, op_map, op_some, op_none, op_ite, if_false_right, pk, take, pks, binop, cmpop, truth, setIx, rangeOf, big, revOf, store, put, puts, putG, setOwn, ownOf, lstAt, bltF, lenF, lenOf, intF, absF, gcdF, isiF, isTy, listF, tupleF, dictF, mutF, appendF, isBw_0, isBw_s, nb_sh, nb_ow, nb_un, nb_bw, settle, storesR, bindA, back, lent, List.getElem?_cons_zero, List.getElem?_cons_succ, List.set_cons_zero, List.set_cons_succ, List.length_cons, List.length_nil, List.map_cons, List.map_nil, List.append_nil, List.nil_append, List.cons_append, and_self, and_true, true_and, if_true, if_false, ite_true, ite_false, reduceIte, Option.bind_some, Option.map_some, decide_true, decide_false, Bool.not_true, Bool.not_false, Bool.false_eq_true, Option.some.injEq, Nat.reduceLT, Nat.reduceAdd, Nat.zero_add, Nat.add_one_lt_add_one_iff, Nat.lt_add_left_iff_pos, Nat.lt_add_one, Nat.zero_lt_succ, Int.reduceLT, Int.reduceLE, Int.reduceNeg, Int.reducePow, Int.reduceToNat, Int.reduceMul, Int.reduceSub,  Int.reduceAdd, forall_const, ne_eq, not_true_eq_false, not_false_eq_true, z, fnD]
  · rintro _ rfl
    rw [fm_fnD, show (ns.filter fun x => opn Ls (lk ns kk x)) = FN Ls ns kk from rfl]
    simp -implicitDefEqProofs only [wipe, restore, List.foldl_cons, List.foldl_nil, List.getD_cons_zero, List.getD_cons_succ, lpI_nx, lpI_ct, lpI_bk, lpI_rt, shaped_int, shaped_bl, shaped_non, deq_ii, deq_bb, Bool.and_self, Bool.and_true, Bool.true_and, Int.cast_ofNat_Int, Nat.reducePow, Nat.reduceLeDiff, Int.zero_add, Int.add_zero, aft_nx, aft_rt, aft_bk, aft_ct, af_nx, af_rt, af_bk, af_ct, decide_eq_true_eq, eval, evals, evalsT, evalsA, evalO, evalC, evalI, dictI, test, op_bind, op_map, op_some, op_none, op_ite, if_false_right, pk, take, pks, binop, cmpop, truth, setIx, rangeOf, big, revOf, store, put, puts, putG, setOwn, ownOf, lstAt, bltF, lenF, lenOf, intF, absF, gcdF, isiF, isTy, listF, tupleF, dictF, mutF, appendF, isBw_0, isBw_s, nb_sh, nb_ow, nb_un, nb_bw, settle, storesR, bindA, back, lent, List.getElem?_cons_zero, List.getElem?_cons_succ, List.set_cons_zero, List.set_cons_succ, List.length_cons, List.length_nil, List.map_cons, List.map_nil, List.append_nil, List.nil_append, List.cons_append, and_self, and_true, true_and, if_true, if_false, ite_true, ite_false, reduceIte, Option.bind_some, Option.map_some, decide_true, decide_false, Bool.not_true, Bool.not_false, Bool.false_eq_true, Option.some.injEq, Nat.reduceLT, Nat.reduceAdd, Nat.zero_add, Nat.add_one_lt_add_one_iff, Nat.lt_add_left_iff_pos, Nat.lt_add_one, Nat.zero_lt_succ, Int.reduceLT, Int.reduceLE, Int.reduceNeg, Int.reducePow, Int.reduceToNat, Int.reduceMul, Int.reduceSub,  Int.reduceAdd, forall_const, ne_eq, not_true_eq_false, not_false_eq_true, List.length_map, hsl, hso, outF, outR, outIo, wipe, restore, List.foldl_cons, List.foldl_nil, List.getD_cons_zero, List.getD_cons_succ, lpI_nx, lpI_ct, lpI_bk, lpI_rt, shaped_int, shaped_bl, shaped_non, deq_ii, deq_bb, Bool.and_self, Bool.and_true, Bool.true_and, Int.cast_ofNat_Int, Nat.reducePow, Nat.reduceLeDiff, Int.zero_add, Int.add_zero, aft_nx, aft_rt, aft_bk, aft_ct, af_nx, af_rt, af_bk, af_ct, decide_eq_true_eq, eval, evals, evalsT, evalsA, evalO, evalC, evalI, dictI, test, op_bind, op_map, op_some, op_none, op_ite, if_false_right, pk, take, pks, binop, cmpop, truth, setIx, rangeOf, big, revOf, store, put, puts, putG, setOwn, ownOf, lstAt, bltF, lenF, lenOf, intF, absF, gcdF, isiF, isTy, listF, tupleF, dictF, mutF, appendF, isBw_0, isBw_s, nb_sh, nb_ow, nb_un, nb_bw, settle, storesR, bindA, back, lent, List.getElem?_cons_zero, List.getElem?_cons_succ, List.set_cons_zero, List.set_cons_succ, List.length_cons, List.length_nil, List.map_cons, List.map_nil, List.append_nil, List.nil_append, List.cons_append, and_self, and_true, true_and, if_true, if_false, ite_true, ite_false, reduceIte, Option.bind_some, Option.map_some, decide_true, decide_false, Bool.not_true, Bool.not_false, Bool.false_eq_true, Option.some.injEq, Nat.reduceLT, Nat.reduceAdd, Nat.zero_add, Nat.add_one_lt_add_one_iff, Nat.lt_add_left_iff_pos, Nat.lt_add_one, Nat.zero_lt_succ, Int.reduceLT, Int.reduceLE, Int.reduceNeg, Int.reducePow, Int.reduceToNat, Int.reduceMul, Int.reduceSub,  Int.reduceAdd, forall_const, ne_eq, not_true_eq_false, not_false_eq_true]
    omega
structure Lw (cf : Cf) : Prop where
  p : PoolOk cf 6
  n : NextOk cf 7
  d : DrawOk' cf 8
  pk : PickOk cf 14
  i0 : cf.io 0 = none
  i1 : cf.io 1 = none
  i2 : cf.io 2 = none
  i3 : cf.io 3 = none
  i9 : cf.io 9 = some 0
  i10 : cf.io 10 = none
  i11 : cf.io 11 = none
  i13 : cf.io 13 = some 0
  opens : ∀ (Ls : List (List Int)) (ks : List Int), Ls.length = ks.length → ks.length ≤ 1000 → Op (cf.C 0 [.sh (lockD Ls), .sh (tI ks)]) fun r => r = (.v (.bl (opn Ls ks)), none)
  pins : ∀ Ls, LkP Ls → Op (cf.C 1 [.sh (lockD Ls)]) fun r => r = (.v (.int ((Ls.map fun l => (l.length : Int)).sum - (Ls.length : Nat))), none)
  okeys : ∀ Ls, LkP Ls → Op (cf.C 2 [.sh (lockD Ls)]) fun r => r = (.f (lT (DU Ls)), none)
  oby : ∀ Ls, LkP Ls → ∀ ns kk, KyP Ls.length ns kk → Op (cf.C 3 [.sh (lockD Ls), .sh (dK ns kk)]) fun r => r = (.f (.lst (sortB dle ((FN Ls ns kk).map .str))), none)
  lock : ∀ (ns : List Int) (a b0 c : Int) (n b : Nat), n ≤ 5 → 0 < b → b ≤ 6 → Op (cf.C 9 [.bw (pool ns a b0 c), .sh (.int (n : Nat)), .sh (.int (b : Nat))]) fun r => ∃ Ls b1 c1, r = (.f (lockD Ls), some (pool ns a b1 c1)) ∧ Ls.length = n ∧ ∀ l ∈ Ls, Ch b l ∧ l ≠ []
  same : ∀ d : D, Pl 3 d → Op (cf.C 10 [.sh d, .sh d]) IsTrue
  lkeys : ∀ Ls, LkP Ls → Op (cf.C 11 [.sh (lockD Ls)]) fun r => r = (.f (lT (DU Ls)), none)
  keys : ∀ (ns : List Int) (a b0 c : Int) (n b : Nat), n ≤ 5 → 0 < b → b ≤ 6 → Op (cf.C 13 [.bw (pool ns a b0 c), .sh (.int (n : Nat)), .sh (.int (b : Nat)), .sh (.int 5)]) fun r => ∃ nm kk b1 c1, r = (.f (dK nm kk), some (pool ns a b1 c1)) ∧ KyP n nm kk ∧ nm.length ≤ 5 ∧ GUS ∉ nm
theorem opn_heads : ∀ Ls : List (List Int), (∀ l ∈ Ls, l ≠ []) → opn Ls (Ls.map fun l => l.headD 0) = true
  | [], _ => rfl
  | l :: Ls, h => by
    obtain ⟨x, r, rfl⟩ := List.exists_cons_of_ne_nil (h l (List.mem_cons_self ..))
    simp only [List.map_cons, opn, opn_heads Ls fun l hl => h l (List.mem_cons_of_mem _ hl), List.headD_cons, Bool.and_true]
    simp
theorem id_lists : ∀ Ls : List (List Int), (Ls.map chD).filterMap (fun d => some d) = Ls.map chD := fun Ls => by rw [filterMap_some, List.map_id']
def dr : Nat → Ss → Ss
  | 0, s => s
  | n + 1, .cons _ s => dr n s
  | _, .nil => .nil
def hd : Ss → Sx
  | .cons s _ => s
  | .nil => .bad
def bd : Sx → Ss
  | .for _ _ b => b
  | _ => .nil
theorem turn_ok {cf : Cf} (W : Lw cf) (ns : List Int) (a b0 c : Int) (t : D) (s3 s4 s5 s6 s7 s8 : Sl) (n3 : nb s3 = true) (n4 : nb s4 = true) (n5 : nb s5 = true) (n6 : nb s6 = true) (n7 : nb s7 = true) (n8 : nb s8 = true) (Q : Fl × Env → Prop)
    (hQ : ∀ a b0 c s3 s4 s5 s6 s7 s8, nb s3 = true → nb s4 = true → nb s5 = true → nb s6 = true → nb s7 = true → nb s8 = true → Q (.nx, [.sh (.scr ns), .ow (pool ns a b0 c), .sh t, s3, s4, s5, s6, s7, s8, .un])) :
    Wp cf (bd (hd (dr 1 f_law.body))) [.sh (.scr ns), .ow (pool ns a b0 c), .sh t, s3, s4, s5, s6, s7, s8, .un] Q := by
  have hsl : PySem.sizeLine = 16777216 := by decide
  unfold f_law
  simp only [dr, hd, bd]
  rw [wp_exp]
  simp -implicitDefEqProofs only [wipe, restore, List.foldl_cons, List.foldl_nil, List.getD_cons_zero, List.getD_cons_succ, lpI_nx, lpI_ct, lpI_bk, lpI_rt, shaped_int, shaped_bl, shaped_non, deq_ii, deq_bb, Bool.and_self, Bool.and_true, Bool.true_and, Int.cast_ofNat_Int, Nat.reducePow, Nat.reduceLeDiff, Int.zero_add, Int.add_zero, aft_nx, aft_rt, aft_bk, aft_ct, af_nx, af_rt, af_bk, af_ct, decide_eq_true_eq, eval, evals, evalsT, evalsA, evalO, evalC, evalI, dictI, test, op_bind, op_map, op_some, op_none, op_ite, if_false_right, pk, take, pks, binop, cmpop, truth, setIx, rangeOf, big, revOf, store, put, puts, putG, setOwn, ownOf, lstAt, bltF, lenF, lenOf, intF, absF, gcdF, isiF, isTy, listF, tupleF, dictF, mutF, appendF, isBw_0, isBw_s, nb_sh, nb_ow, nb_un, nb_bw, settle, storesR, bindA, back, lent, List.getElem?_cons_zero, List.getElem?_cons_succ, List.set_cons_zero, List.set_cons_succ, List.length_cons, List.length_nil, List.map_cons, List.map_nil, List.append_nil, List.nil_append, List.cons_append, and_self, and_true, true_and, if_true, if_false, ite_true, ite_false, reduceIte, Option.bind_some, Option.map_some, decide_true, decide_false, Bool.not_true, Bool.not_false, Bool.false_eq_true, Option.some.injEq, Nat.reduceLT, Nat.reduceAdd, Nat.zero_add, Nat.add_one_lt_add_one_iff, Nat.lt_add_left_iff_pos, Nat.lt_add_one, Nat.zero_lt_succ, Int.reduceLT, Int.reduceLE, Int.reduceNeg, Int.reducePow, Int.reduceToNat, Int.reduceMul, Int.reduceSub,  Int.reduceAdd, forall_const, ne_eq, not_true_eq_false, not_false_eq_true, W.n.io]
  refine (W.n.ok ns a b0 c).mono ?_
  rintro _ ⟨b1, rfl⟩
  simp -implicitDefEqProofs only [wipe, restore, List.foldl_cons, List.foldl_nil, List.getD_cons_zero, List.getD_cons_succ, lpI_nx, lpI_ct, lpI_bk, lpI_rt, shaped_int, shaped_bl, shaped_non, deq_ii, deq_bb, Bool.and_self, Bool.and_true, Bool.true_and, Int.cast_ofNat_Int, Nat.reducePow, Nat.reduceLeDiff, Int.zero_add, Int.add_zero, aft_nx, aft_rt, aft_bk, aft_ct, af_nx, af_rt, af_bk, af_ct, decide_eq_true_eq, eval, evals, evalsT, evalsA, evalO, evalC, evalI, dictI, test, op_bind, op_map, op_some, op_none, op_ite, if_false_right, pk, take, pks, binop, cmpop, truth, setIx, rangeOf, big, revOf, store, put, puts, putG, setOwn, ownOf, lstAt, bltF, lenF, lenOf, intF, absF, gcdF, isiF, isTy, listF, tupleF, dictF, mutF, appendF, isBw_0, isBw_s, nb_sh, nb_ow, nb_un, nb_bw, settle, storesR, bindA, back, lent, List.getElem?_cons_zero, List.getElem?_cons_succ, List.set_cons_zero, List.set_cons_succ, List.length_cons, List.length_nil, List.map_cons, List.map_nil, List.append_nil, List.nil_append, List.cons_append, and_self, and_true, true_and, if_true, if_false, ite_true, ite_false, reduceIte, Option.bind_some, Option.map_some, decide_true, decide_false, Bool.not_true, Bool.not_false, Bool.false_eq_true, Option.some.injEq, Nat.reduceLT, Nat.reduceAdd, Nat.zero_add, Nat.add_one_lt_add_one_iff, Nat.lt_add_left_iff_pos, Nat.lt_add_one, Nat.zero_lt_succ, Int.reduceLT, Int.reduceLE, Int.reduceNeg, Int.reducePow, Int.reduceToNat, Int.reduceMul, Int.reduceSub,  Int.reduceAdd, forall_const, ne_eq, not_true_eq_false, not_false_eq_true]
  rw [wp_set]
  simp -implicitDefEqProofs only [wipe, restore, List.foldl_cons, List.foldl_nil, List.getD_cons_zero, List.getD_cons_succ, lpI_nx, lpI_ct, lpI_bk, lpI_rt, shaped_int, shaped_bl, shaped_non, deq_ii, deq_bb, Bool.and_self, Bool.and_true, Bool.true_and, Int.cast_ofNat_Int, Nat.reducePow, Nat.reduceLeDiff, Int.zero_add, Int.add_zero, aft_nx, aft_rt, aft_bk, aft_ct, af_nx, af_rt, af_bk, af_ct, decide_eq_true_eq, eval, evals, evalsT, evalsA, evalO, evalC, evalI, dictI, test, op_bind, op_map, op_some, op_none, op_ite, if_false_right, pk, take, pks, binop, cmpop, truth, setIx, rangeOf, big, revOf, store, put, puts, putG, setOwn, ownOf, lstAt, bltF, lenF, lenOf, intF, absF, gcdF, isiF, isTy, listF, tupleF, dictF, mutF, appendF, isBw_0, isBw_s, nb_sh, nb_ow, nb_un, nb_bw, settle, storesR, bindA, back, lent, List.getElem?_cons_zero, List.getElem?_cons_succ, List.set_cons_zero, List.set_cons_succ, List.length_cons, List.length_nil, List.map_cons, List.map_nil, List.append_nil, List.nil_append, List.cons_append, and_self, and_true, true_and, if_true, if_false, ite_true, ite_false, reduceIte, Option.bind_some, Option.map_some, decide_true, decide_false, Bool.not_true, Bool.not_false, Bool.false_eq_true, Option.some.injEq, Nat.reduceLT, Nat.reduceAdd, Nat.zero_add, Nat.add_one_lt_add_one_iff, Nat.lt_add_left_iff_pos, Nat.lt_add_one, Nat.zero_lt_succ, Int.reduceLT, Int.reduceLE, Int.reduceNeg, Int.reducePow, Int.reduceToNat, Int.reduceMul, Int.reduceSub,  Int.reduceAdd, forall_const, ne_eq, not_true_eq_false, not_false_eq_true, W.d.io]
  refine (W.d.ok _ _ _ _ 4 (by decide) (by decide)).mono ?_
  rintro _ ⟨v, b2, c2, v0, v1, rfl⟩
  obtain ⟨n, hn, hn0, hn4⟩ : ∃ k : Nat, 1 + v = ((k : Nat) : Int) ∧ 0 < k ∧ k ≤ 4 := ⟨(1 + v).toNat, by omega, by omega, by omega⟩
  clear v0 v1
  simp -implicitDefEqProofs only [wipe, restore, List.foldl_cons, List.foldl_nil, List.getD_cons_zero, List.getD_cons_succ, lpI_nx, lpI_ct, lpI_bk, lpI_rt, shaped_int, shaped_bl, shaped_non, deq_ii, deq_bb, Bool.and_self, Bool.and_true, Bool.true_and, Int.cast_ofNat_Int, Nat.reducePow, Nat.reduceLeDiff, Int.zero_add, Int.add_zero, aft_nx, aft_rt, aft_bk, aft_ct, af_nx, af_rt, af_bk, af_ct, decide_eq_true_eq, eval, evals, evalsT, evalsA, evalO, evalC, evalI, dictI, test, op_bind, op_map, op_some, op_none, op_ite, if_false_right, pk, take, pks, binop, cmpop, truth, setIx, rangeOf, big, revOf, store, put, puts, putG, setOwn, ownOf, lstAt, bltF, lenF, lenOf, intF, absF, gcdF, isiF, isTy, listF, tupleF, dictF, mutF, appendF, isBw_0, isBw_s, nb_sh, nb_ow, nb_un, nb_bw, settle, storesR, bindA, back, lent, List.getElem?_cons_zero, List.getElem?_cons_succ, List.set_cons_zero, List.set_cons_succ, List.length_cons, List.length_nil, List.map_cons, List.map_nil, List.append_nil, List.nil_append, List.cons_append, and_self, and_true, true_and, if_true, if_false, ite_true, ite_false, reduceIte, Option.bind_some, Option.map_some, decide_true, decide_false, Bool.not_true, Bool.not_false, Bool.false_eq_true, Option.some.injEq, Nat.reduceLT, Nat.reduceAdd, Nat.zero_add, Nat.add_one_lt_add_one_iff, Nat.lt_add_left_iff_pos, Nat.lt_add_one, Nat.zero_lt_succ, Int.reduceLT, Int.reduceLE, Int.reduceNeg, Int.reducePow, Int.reduceToNat, Int.reduceMul, Int.reduceSub,  Int.reduceAdd, forall_const, ne_eq, not_true_eq_false, not_false_eq_true, hn, n3]
  rw [wp_set]
  simp -implicitDefEqProofs only [wipe, restore, List.foldl_cons, List.foldl_nil, List.getD_cons_zero, List.getD_cons_succ, lpI_nx, lpI_ct, lpI_bk, lpI_rt, shaped_int, shaped_bl, shaped_non, deq_ii, deq_bb, Bool.and_self, Bool.and_true, Bool.true_and, Int.cast_ofNat_Int, Nat.reducePow, Nat.reduceLeDiff, Int.zero_add, Int.add_zero, aft_nx, aft_rt, aft_bk, aft_ct, af_nx, af_rt, af_bk, af_ct, decide_eq_true_eq, eval, evals, evalsT, evalsA, evalO, evalC, evalI, dictI, test, op_bind, op_map, op_some, op_none, op_ite, if_false_right, pk, take, pks, binop, cmpop, truth, setIx, rangeOf, big, revOf, store, put, puts, putG, setOwn, ownOf, lstAt, bltF, lenF, lenOf, intF, absF, gcdF, isiF, isTy, listF, tupleF, dictF, mutF, appendF, isBw_0, isBw_s, nb_sh, nb_ow, nb_un, nb_bw, settle, storesR, bindA, back, lent, List.getElem?_cons_zero, List.getElem?_cons_succ, List.set_cons_zero, List.set_cons_succ, List.length_cons, List.length_nil, List.map_cons, List.map_nil, List.append_nil, List.nil_append, List.cons_append, and_self, and_true, true_and, if_true, if_false, ite_true, ite_false, reduceIte, Option.bind_some, Option.map_some, decide_true, decide_false, Bool.not_true, Bool.not_false, Bool.false_eq_true, Option.some.injEq, Nat.reduceLT, Nat.reduceAdd, Nat.zero_add, Nat.add_one_lt_add_one_iff, Nat.lt_add_left_iff_pos, Nat.lt_add_one, Nat.zero_lt_succ, Int.reduceLT, Int.reduceLE, Int.reduceNeg, Int.reducePow, Int.reduceToNat, Int.reduceMul, Int.reduceSub,  Int.reduceAdd, forall_const, ne_eq, not_true_eq_false, not_false_eq_true, W.d.io]
  refine (W.d.ok _ _ _ _ 4 (by decide) (by decide)).mono ?_
  rintro _ ⟨v, b3, c3, v0, v1, rfl⟩
  obtain ⟨b, hb, hb0, hb5⟩ : ∃ k : Nat, 2 + v = ((k : Nat) : Int) ∧ 0 < k ∧ k ≤ 5 := ⟨(2 + v).toNat, by omega, by omega, by omega⟩
  clear v0 v1
  simp -implicitDefEqProofs only [wipe, restore, List.foldl_cons, List.foldl_nil, List.getD_cons_zero, List.getD_cons_succ, lpI_nx, lpI_ct, lpI_bk, lpI_rt, shaped_int, shaped_bl, shaped_non, deq_ii, deq_bb, Bool.and_self, Bool.and_true, Bool.true_and, Int.cast_ofNat_Int, Nat.reducePow, Nat.reduceLeDiff, Int.zero_add, Int.add_zero, aft_nx, aft_rt, aft_bk, aft_ct, af_nx, af_rt, af_bk, af_ct, decide_eq_true_eq, eval, evals, evalsT, evalsA, evalO, evalC, evalI, dictI, test, op_bind, op_map, op_some, op_none, op_ite, if_false_right, pk, take, pks, binop, cmpop, truth, setIx, rangeOf, big, revOf, store, put, puts, putG, setOwn, ownOf, lstAt, bltF, lenF, lenOf, intF, absF, gcdF, isiF, isTy, listF, tupleF, dictF, mutF, appendF, isBw_0, isBw_s, nb_sh, nb_ow, nb_un, nb_bw, settle, storesR, bindA, back, lent, List.getElem?_cons_zero, List.getElem?_cons_succ, List.set_cons_zero, List.set_cons_succ, List.length_cons, List.length_nil, List.map_cons, List.map_nil, List.append_nil, List.nil_append, List.cons_append, and_self, and_true, true_and, if_true, if_false, ite_true, ite_false, reduceIte, Option.bind_some, Option.map_some, decide_true, decide_false, Bool.not_true, Bool.not_false, Bool.false_eq_true, Option.some.injEq, Nat.reduceLT, Nat.reduceAdd, Nat.zero_add, Nat.add_one_lt_add_one_iff, Nat.lt_add_left_iff_pos, Nat.lt_add_one, Nat.zero_lt_succ, Int.reduceLT, Int.reduceLE, Int.reduceNeg, Int.reducePow, Int.reduceToNat, Int.reduceMul, Int.reduceSub,  Int.reduceAdd, forall_const, ne_eq, not_true_eq_false, not_false_eq_true, hb, n4]
  rw [wp_set]
  simp -implicitDefEqProofs only [wipe, restore, List.foldl_cons, List.foldl_nil, List.getD_cons_zero, List.getD_cons_succ, lpI_nx, lpI_ct, lpI_bk, lpI_rt, shaped_int, shaped_bl, shaped_non, deq_ii, deq_bb, Bool.and_self, Bool.and_true, Bool.true_and, Int.cast_ofNat_Int, Nat.reducePow, Nat.reduceLeDiff, Int.zero_add, Int.add_zero, aft_nx, aft_rt, aft_bk, aft_ct, af_nx, af_rt, af_bk, af_ct, decide_eq_true_eq, eval, evals, evalsT, evalsA, evalO, evalC, evalI, dictI, test, op_bind, op_map, op_some, op_none, op_ite, if_false_right, pk, take, pks, binop, cmpop, truth, setIx, rangeOf, big, revOf, store, put, puts, putG, setOwn, ownOf, lstAt, bltF, lenF, lenOf, intF, absF, gcdF, isiF, isTy, listF, tupleF, dictF, mutF, appendF, isBw_0, isBw_s, nb_sh, nb_ow, nb_un, nb_bw, settle, storesR, bindA, back, lent, List.getElem?_cons_zero, List.getElem?_cons_succ, List.set_cons_zero, List.set_cons_succ, List.length_cons, List.length_nil, List.map_cons, List.map_nil, List.append_nil, List.nil_append, List.cons_append, and_self, and_true, true_and, if_true, if_false, ite_true, ite_false, reduceIte, Option.bind_some, Option.map_some, decide_true, decide_false, Bool.not_true, Bool.not_false, Bool.false_eq_true, Option.some.injEq, Nat.reduceLT, Nat.reduceAdd, Nat.zero_add, Nat.add_one_lt_add_one_iff, Nat.lt_add_left_iff_pos, Nat.lt_add_one, Nat.zero_lt_succ, Int.reduceLT, Int.reduceLE, Int.reduceNeg, Int.reducePow, Int.reduceToNat, Int.reduceMul, Int.reduceSub,  Int.reduceAdd, forall_const, ne_eq, not_true_eq_false, not_false_eq_true, W.i9]
  refine (W.lock ns (a + 1) b3 c3 n b (by omega) hb0 (by omega)).mono ?_
  rintro _ ⟨Ls, b4, c4, rfl, hLn, hLs⟩
  have hL : LkP Ls := ⟨by omega, by omega, fun l hl => by
    have hc := (hLs l hl).1
    have := ch_len l 0 (b : Int) hc.up (fun x hx => ⟨hc.lo x hx, hc.hi x hx⟩) (by omega)
    omega⟩
  have hl4 := hL.n4
  have hDl := hL.len
  subst hLn
  simp -implicitDefEqProofs only [wipe, restore, List.foldl_cons, List.foldl_nil, List.getD_cons_zero, List.getD_cons_succ, lpI_nx, lpI_ct, lpI_bk, lpI_rt, shaped_int, shaped_bl, shaped_non, deq_ii, deq_bb, Bool.and_self, Bool.and_true, Bool.true_and, Int.cast_ofNat_Int, Nat.reducePow, Nat.reduceLeDiff, Int.zero_add, Int.add_zero, aft_nx, aft_rt, aft_bk, aft_ct, af_nx, af_rt, af_bk, af_ct, decide_eq_true_eq, eval, evals, evalsT, evalsA, evalO, evalC, evalI, dictI, test, op_bind, op_map, op_some, op_none, op_ite, if_false_right, pk, take, pks, binop, cmpop, truth, setIx, rangeOf, big, revOf, store, put, puts, putG, setOwn, ownOf, lstAt, bltF, lenF, lenOf, intF, absF, gcdF, isiF, isTy, listF, tupleF, dictF, mutF, appendF, isBw_0, isBw_s, nb_sh, nb_ow, nb_un, nb_bw, settle, storesR, bindA, back, lent, List.getElem?_cons_zero, List.getElem?_cons_succ, List.set_cons_zero, List.set_cons_succ, List.length_cons, List.length_nil, List.map_cons, List.map_nil, List.append_nil, List.nil_append, List.cons_append, and_self, and_true, true_and, if_true, if_false, ite_true, ite_false, reduceIte, Option.bind_some, Option.map_some, decide_true, decide_false, Bool.not_true, Bool.not_false, Bool.false_eq_true, Option.some.injEq, Nat.reduceLT, Nat.reduceAdd, Nat.zero_add, Nat.add_one_lt_add_one_iff, Nat.lt_add_left_iff_pos, Nat.lt_add_one, Nat.zero_lt_succ, Int.reduceLT, Int.reduceLE, Int.reduceNeg, Int.reducePow, Int.reduceToNat, Int.reduceMul, Int.reduceSub,  Int.reduceAdd, forall_const, ne_eq, not_true_eq_false, not_false_eq_true, n5]
  have hpl : Pl 3 (lT (DU Ls)) := by
    simp only [Pl, List.length_map]
    refine ⟨by omega, fun d hd => ?_⟩
    obtain ⟨k, hk, rfl⟩ := List.mem_map.mp hd
    exact Pl.tints (n := 1) (by have := (hL.key ((DU_mem Ls k).mp hk)).2; omega)
  refine wp_ifE (env' := [.sh (.scr ns), .ow (pool ns (a + 1) b4 c4), .sh t, .sh (.int (Ls.length : Nat)), .sh (.int (b : Nat)), .sh (lockD Ls), s6, s7, s8, .un]) False ?_ (fun h => h.elim) (fun _ => ?_)
  · simp -implicitDefEqProofs only [wipe, restore, List.foldl_cons, List.foldl_nil, List.getD_cons_zero, List.getD_cons_succ, lpI_nx, lpI_ct, lpI_bk, lpI_rt, shaped_int, shaped_bl, shaped_non, deq_ii, deq_bb, Bool.and_self, Bool.and_true, Bool.true_and, Int.cast_ofNat_Int, Nat.reducePow, Nat.reduceLeDiff, Int.zero_add, Int.add_zero, aft_nx, aft_rt, aft_bk, aft_ct, af_nx, af_rt, af_bk, af_ct, decide_eq_true_eq, eval, evals, evalsT, evalsA, evalO, evalC, evalI, dictI, test, op_bind, op_map, op_some, op_none, op_ite, if_false_right, pk, take, pks, binop, cmpop, truth, setIx, rangeOf, big, revOf, store, put, puts, putG, setOwn, ownOf, lstAt, bltF, lenF, lenOf, intF, absF, gcdF, isiF, isTy, listF, tupleF, dictF, mutF, appendF, isBw_0, isBw_s, nb_sh, nb_ow, nb_un, nb_bw, settle, storesR, bindA, back, lent, List.getElem?_cons_zero, List.getElem?_cons_succ, List.set_cons_zero, List.set_cons_succ, List.length_cons, List.length_nil, List.map_cons, List.map_nil, List.append_nil, List.nil_append, List.cons_append, and_self, and_true, true_and, if_true, if_false, ite_true, ite_false, reduceIte, Option.bind_some, Option.map_some, decide_true, decide_false, Bool.not_true, Bool.not_false, Bool.false_eq_true, Option.some.injEq, Nat.reduceLT, Nat.reduceAdd, Nat.zero_add, Nat.add_one_lt_add_one_iff, Nat.lt_add_left_iff_pos, Nat.lt_add_one, Nat.zero_lt_succ, Int.reduceLT, Int.reduceLE, Int.reduceNeg, Int.reducePow, Int.reduceToNat, Int.reduceMul, Int.reduceSub,  Int.reduceAdd, forall_const, ne_eq, not_true_eq_false, not_false_eq_true, W.i10, W.i1, itemsOf]
    refine (lc_pure (fun d => some d) _ (fun y hy => ?_)).mono ?_
    · obtain ⟨l, hl, rfl⟩ := List.mem_map.mp hy
      simp -implicitDefEqProofs only [wipe, restore, List.foldl_cons, List.foldl_nil, List.getD_cons_zero, List.getD_cons_succ, lpI_nx, lpI_ct, lpI_bk, lpI_rt, shaped_int, shaped_bl, shaped_non, deq_ii, deq_bb, Bool.and_self, Bool.and_true, Bool.true_and, Int.cast_ofNat_Int, Nat.reducePow, Nat.reduceLeDiff, Int.zero_add, Int.add_zero, aft_nx, aft_rt, aft_bk, aft_ct, af_nx, af_rt, af_bk, af_ct, decide_eq_true_eq, eval, evals, evalsT, evalsA, evalO, evalC, evalI, dictI, test, op_bind, op_map, op_some, op_none, op_ite, if_false_right, pk, take, pks, binop, cmpop, truth, setIx, rangeOf, big, revOf, store, put, puts, putG, setOwn, ownOf, lstAt, bltF, lenF, lenOf, intF, absF, gcdF, isiF, isTy, listF, tupleF, dictF, mutF, appendF, isBw_0, isBw_s, nb_sh, nb_ow, nb_un, nb_bw, settle, storesR, bindA, back, lent, List.getElem?_cons_zero, List.getElem?_cons_succ, List.set_cons_zero, List.set_cons_succ, List.length_cons, List.length_nil, List.map_cons, List.map_nil, List.append_nil, List.nil_append, List.cons_append, and_self, and_true, true_and, if_true, if_false, ite_true, ite_false, reduceIte, Option.bind_some, Option.map_some, decide_true, decide_false, Bool.not_true, Bool.not_false, Bool.false_eq_true, Option.some.injEq, Nat.reduceLT, Nat.reduceAdd, Nat.zero_add, Nat.add_one_lt_add_one_iff, Nat.lt_add_left_iff_pos, Nat.lt_add_one, Nat.zero_lt_succ, Int.reduceLT, Int.reduceLE, Int.reduceNeg, Int.reducePow, Int.reduceToNat, Int.reduceMul, Int.reduceSub,  Int.reduceAdd, forall_const, ne_eq, not_true_eq_false, not_false_eq_true]
    rintro _ rfl
    rw [id_lists]
    simp -implicitDefEqProofs only [wipe, restore, List.foldl_cons, List.foldl_nil, List.getD_cons_zero, List.getD_cons_succ, lpI_nx, lpI_ct, lpI_bk, lpI_rt, shaped_int, shaped_bl, shaped_non, deq_ii, deq_bb, Bool.and_self, Bool.and_true, Bool.true_and, Int.cast_ofNat_Int, Nat.reducePow, Nat.reduceLeDiff, Int.zero_add, Int.add_zero, aft_nx, aft_rt, aft_bk, aft_ct, af_nx, af_rt, af_bk, af_ct, decide_eq_true_eq, eval, evals, evalsT, evalsA, evalO, evalC, evalI, dictI, test, op_bind, op_map, op_some, op_none, op_ite, if_false_right, pk, take, pks, binop, cmpop, truth, setIx, rangeOf, big, revOf, store, put, puts, putG, setOwn, ownOf, lstAt, bltF, lenF, lenOf, intF, absF, gcdF, isiF, isTy, listF, tupleF, dictF, mutF, appendF, isBw_0, isBw_s, nb_sh, nb_ow, nb_un, nb_bw, settle, storesR, bindA, back, lent, List.getElem?_cons_zero, List.getElem?_cons_succ, List.set_cons_zero, List.set_cons_succ, List.length_cons, List.length_nil, List.map_cons, List.map_nil, List.append_nil, List.nil_append, List.cons_append, and_self, and_true, true_and, if_true, if_false, ite_true, ite_false, reduceIte, Option.bind_some, Option.map_some, decide_true, decide_false, Bool.not_true, Bool.not_false, Bool.false_eq_true, Option.some.injEq, Nat.reduceLT, Nat.reduceAdd, Nat.zero_add, Nat.add_one_lt_add_one_iff, Nat.lt_add_left_iff_pos, Nat.lt_add_one, Nat.zero_lt_succ, Int.reduceLT, Int.reduceLE, Int.reduceNeg, Int.reducePow, Int.reduceToNat, Int.reduceMul, Int.reduceSub,  Int.reduceAdd, forall_const, ne_eq, not_true_eq_false, not_false_eq_true, List.length_map, hsl, W.i1]
    refine ⟨by omega, (W.pins Ls hL).mono ?_⟩
    rintro _ rfl
    simp -implicitDefEqProofs only [wipe, restore, List.foldl_cons, List.foldl_nil, List.getD_cons_zero, List.getD_cons_succ, lpI_nx, lpI_ct, lpI_bk, lpI_rt, shaped_int, shaped_bl, shaped_non, deq_ii, deq_bb, Bool.and_self, Bool.and_true, Bool.true_and, Int.cast_ofNat_Int, Nat.reducePow, Nat.reduceLeDiff, Int.zero_add, Int.add_zero, aft_nx, aft_rt, aft_bk, aft_ct, af_nx, af_rt, af_bk, af_ct, decide_eq_true_eq, eval, evals, evalsT, evalsA, evalO, evalC, evalI, dictI, test, op_bind, op_map, op_some, op_none, op_ite, if_false_right, pk, take, pks, binop, cmpop, truth, setIx, rangeOf, big, revOf, store, put, puts, putG, setOwn, ownOf, lstAt, bltF, lenF, lenOf, intF, absF, gcdF, isiF, isTy, listF, tupleF, dictF, mutF, appendF, isBw_0, isBw_s, nb_sh, nb_ow, nb_un, nb_bw, settle, storesR, bindA, back, lent, List.getElem?_cons_zero, List.getElem?_cons_succ, List.set_cons_zero, List.set_cons_succ, List.length_cons, List.length_nil, List.map_cons, List.map_nil, List.append_nil, List.nil_append, List.cons_append, and_self, and_true, true_and, if_true, if_false, ite_true, ite_false, reduceIte, Option.bind_some, Option.map_some, decide_true, decide_false, Bool.not_true, Bool.not_false, Bool.false_eq_true, Option.some.injEq, Nat.reduceLT, Nat.reduceAdd, Nat.zero_add, Nat.add_one_lt_add_one_iff, Nat.lt_add_left_iff_pos, Nat.lt_add_one, Nat.zero_lt_succ, Int.reduceLT, Int.reduceLE, Int.reduceNeg, Int.reducePow, Int.reduceToNat, Int.reduceMul, Int.reduceSub,  Int.reduceAdd, forall_const, ne_eq, not_true_eq_false, not_false_eq_true, itemsOf]
    refine (lc_pure lenD _ (fun y hy => ?_)).mono ?_
    · obtain ⟨l, hl, rfl⟩ := List.mem_map.mp hy
      simp -implicitDefEqProofs only [wipe, restore, List.foldl_cons, List.foldl_nil, List.getD_cons_zero, List.getD_cons_succ, lpI_nx, lpI_ct, lpI_bk, lpI_rt, shaped_int, shaped_bl, shaped_non, deq_ii, deq_bb, Bool.and_self, Bool.and_true, Bool.true_and, Int.cast_ofNat_Int, Nat.reducePow, Nat.reduceLeDiff, Int.zero_add, Int.add_zero, aft_nx, aft_rt, aft_bk, aft_ct, af_nx, af_rt, af_bk, af_ct, decide_eq_true_eq, eval, evals, evalsT, evalsA, evalO, evalC, evalI, dictI, test, op_bind, op_map, op_some, op_none, op_ite, if_false_right, pk, take, pks, binop, cmpop, truth, setIx, rangeOf, big, revOf, store, put, puts, putG, setOwn, ownOf, lstAt, bltF, lenF, lenOf, intF, absF, gcdF, isiF, isTy, listF, tupleF, dictF, mutF, appendF, isBw_0, isBw_s, nb_sh, nb_ow, nb_un, nb_bw, settle, storesR, bindA, back, lent, List.getElem?_cons_zero, List.getElem?_cons_succ, List.set_cons_zero, List.set_cons_succ, List.length_cons, List.length_nil, List.map_cons, List.map_nil, List.append_nil, List.nil_append, List.cons_append, and_self, and_true, true_and, if_true, if_false, ite_true, ite_false, reduceIte, Option.bind_some, Option.map_some, decide_true, decide_false, Bool.not_true, Bool.not_false, Bool.false_eq_true, Option.some.injEq, Nat.reduceLT, Nat.reduceAdd, Nat.zero_add, Nat.add_one_lt_add_one_iff, Nat.lt_add_left_iff_pos, Nat.lt_add_one, Nat.zero_lt_succ, Int.reduceLT, Int.reduceLE, Int.reduceNeg, Int.reducePow, Int.reduceToNat, Int.reduceMul, Int.reduceSub,  Int.reduceAdd, forall_const, ne_eq, not_true_eq_false, not_false_eq_true, List.length_map, lenD]
    rintro _ rfl
    rw [fm_lenD]
    simp -implicitDefEqProofs only [wipe, restore, List.foldl_cons, List.foldl_nil, List.getD_cons_zero, List.getD_cons_succ, lpI_nx, lpI_ct, lpI_bk, lpI_rt, shaped_int, shaped_bl, shaped_non, deq_ii, deq_bb, Bool.and_self, Bool.and_true, Bool.true_and, Int.cast_ofNat_Int, Nat.reducePow, Nat.reduceLeDiff, Int.zero_add, Int.add_zero, aft_nx, aft_rt, aft_bk, aft_ct, af_nx, af_rt, af_bk, af_ct, decide_eq_true_eq, eval, evals, evalsT, evalsA, evalO, evalC, evalI, dictI, test, op_bind, op_map, op_some, op_none, op_ite, if_false_right, pk, take, pks, binop, cmpop, truth, setIx, rangeOf, big, revOf, store, put, puts, putG, setOwn, ownOf, lstAt, bltF, lenF, lenOf, intF, absF, gcdF, isiF, isTy, listF, tupleF, dictF, mutF, appendF, isBw_0, isBw_s, nb_sh, nb_ow, nb_un, nb_bw, settle, storesR, bindA, back, lent, List.getElem?_cons_zero, List.getElem?_cons_succ, List.set_cons_zero, List.set_cons_succ, List.length_cons, List.length_nil, List.map_cons, List.map_nil, List.append_nil, List.nil_append, List.cons_append, and_self, and_true, true_and, if_true, if_false, ite_true, ite_false, reduceIte, Option.bind_some, Option.map_some, decide_true, decide_false, Bool.not_true, Bool.not_false, Bool.false_eq_true, Option.some.injEq, Nat.reduceLT, Nat.reduceAdd, Nat.zero_add, Nat.add_one_lt_add_one_iff, Nat.lt_add_left_iff_pos, Nat.lt_add_one, Nat.zero_lt_succ, Int.reduceLT, Int.reduceLE, Int.reduceNeg, Int.reducePow, Int.reduceToNat, Int.reduceMul, Int.reduceSub,  Int.reduceAdd, forall_const, ne_eq, not_true_eq_false, not_false_eq_true, sum_I, List.length_map, hsl, W.i10]
    refine ⟨by omega, (W.same _ Pl.int).mono ?_⟩
    rintro _ rfl
    simp -implicitDefEqProofs only [wipe, restore, List.foldl_cons, List.foldl_nil, List.getD_cons_zero, List.getD_cons_succ, lpI_nx, lpI_ct, lpI_bk, lpI_rt, shaped_int, shaped_bl, shaped_non, deq_ii, deq_bb, Bool.and_self, Bool.and_true, Bool.true_and, Int.cast_ofNat_Int, Nat.reducePow, Nat.reduceLeDiff, Int.zero_add, Int.add_zero, aft_nx, aft_rt, aft_bk, aft_ct, af_nx, af_rt, af_bk, af_ct, decide_eq_true_eq, eval, evals, evalsT, evalsA, evalO, evalC, evalI, dictI, test, op_bind, op_map, op_some, op_none, op_ite, if_false_right, pk, take, pks, binop, cmpop, truth, setIx, rangeOf, big, revOf, store, put, puts, putG, setOwn, ownOf, lstAt, bltF, lenF, lenOf, intF, absF, gcdF, isiF, isTy, listF, tupleF, dictF, mutF, appendF, isBw_0, isBw_s, nb_sh, nb_ow, nb_un, nb_bw, settle, storesR, bindA, back, lent, List.getElem?_cons_zero, List.getElem?_cons_succ, List.set_cons_zero, List.set_cons_succ, List.length_cons, List.length_nil, List.map_cons, List.map_nil, List.append_nil, List.nil_append, List.cons_append, and_self, and_true, true_and, if_true, if_false, ite_true, ite_false, reduceIte, Option.bind_some, Option.map_some, decide_true, decide_false, Bool.not_true, Bool.not_false, Bool.false_eq_true, Option.some.injEq, Nat.reduceLT, Nat.reduceAdd, Nat.zero_add, Nat.add_one_lt_add_one_iff, Nat.lt_add_left_iff_pos, Nat.lt_add_one, Nat.zero_lt_succ, Int.reduceLT, Int.reduceLE, Int.reduceNeg, Int.reducePow, Int.reduceToNat, Int.reduceMul, Int.reduceSub,  Int.reduceAdd, forall_const, ne_eq, not_true_eq_false, not_false_eq_true]
  rw [wp_nil, aft_nx, wp_set]
  simp -implicitDefEqProofs only [wipe, restore, List.foldl_cons, List.foldl_nil, List.getD_cons_zero, List.getD_cons_succ, lpI_nx, lpI_ct, lpI_bk, lpI_rt, shaped_int, shaped_bl, shaped_non, deq_ii, deq_bb, Bool.and_self, Bool.and_true, Bool.true_and, Int.cast_ofNat_Int, Nat.reducePow, Nat.reduceLeDiff, Int.zero_add, Int.add_zero, aft_nx, aft_rt, aft_bk, aft_ct, af_nx, af_rt, af_bk, af_ct, decide_eq_true_eq, eval, evals, evalsT, evalsA, evalO, evalC, evalI, dictI, test, op_bind, op_map, op_some, op_none, op_ite, if_false_right, pk, take, pks, binop, cmpop, truth, setIx, rangeOf, big, revOf, store, put, puts, putG, setOwn, ownOf, lstAt, bltF, lenF, lenOf, intF, absF, gcdF, isiF, isTy, listF, tupleF, dictF, mutF, appendF, isBw_0, isBw_s, nb_sh, nb_ow, nb_un, nb_bw, settle, storesR, bindA, back, lent, List.getElem?_cons_zero, List.getElem?_cons_succ, List.set_cons_zero, List.set_cons_succ, List.length_cons, List.length_nil, List.map_cons, List.map_nil, List.append_nil, List.nil_append, List.cons_append, and_self, and_true, true_and, if_true, if_false, ite_true, ite_false, reduceIte, Option.bind_some, Option.map_some, decide_true, decide_false, Bool.not_true, Bool.not_false, Bool.false_eq_true, Option.some.injEq, Nat.reduceLT, Nat.reduceAdd, Nat.zero_add, Nat.add_one_lt_add_one_iff, Nat.lt_add_left_iff_pos, Nat.lt_add_one, Nat.zero_lt_succ, Int.reduceLT, Int.reduceLE, Int.reduceNeg, Int.reducePow, Int.reduceToNat, Int.reduceMul, Int.reduceSub,  Int.reduceAdd, forall_const, ne_eq, not_true_eq_false, not_false_eq_true, W.i11]
  refine (W.lkeys Ls hL).mono ?_
  rintro _ rfl
  simp -implicitDefEqProofs only [wipe, restore, List.foldl_cons, List.foldl_nil, List.getD_cons_zero, List.getD_cons_succ, lpI_nx, lpI_ct, lpI_bk, lpI_rt, shaped_int, shaped_bl, shaped_non, deq_ii, deq_bb, Bool.and_self, Bool.and_true, Bool.true_and, Int.cast_ofNat_Int, Nat.reducePow, Nat.reduceLeDiff, Int.zero_add, Int.add_zero, aft_nx, aft_rt, aft_bk, aft_ct, af_nx, af_rt, af_bk, af_ct, decide_eq_true_eq, eval, evals, evalsT, evalsA, evalO, evalC, evalI, dictI, test, op_bind, op_map, op_some, op_none, op_ite, if_false_right, pk, take, pks, binop, cmpop, truth, setIx, rangeOf, big, revOf, store, put, puts, putG, setOwn, ownOf, lstAt, bltF, lenF, lenOf, intF, absF, gcdF, isiF, isTy, listF, tupleF, dictF, mutF, appendF, isBw_0, isBw_s, nb_sh, nb_ow, nb_un, nb_bw, settle, storesR, bindA, back, lent, List.getElem?_cons_zero, List.getElem?_cons_succ, List.set_cons_zero, List.set_cons_succ, List.length_cons, List.length_nil, List.map_cons, List.map_nil, List.append_nil, List.nil_append, List.cons_append, and_self, and_true, true_and, if_true, if_false, ite_true, ite_false, reduceIte, Option.bind_some, Option.map_some, decide_true, decide_false, Bool.not_true, Bool.not_false, Bool.false_eq_true, Option.some.injEq, Nat.reduceLT, Nat.reduceAdd, Nat.zero_add, Nat.add_one_lt_add_one_iff, Nat.lt_add_left_iff_pos, Nat.lt_add_one, Nat.zero_lt_succ, Int.reduceLT, Int.reduceLE, Int.reduceNeg, Int.reducePow, Int.reduceToNat, Int.reduceMul, Int.reduceSub,  Int.reduceAdd, forall_const, ne_eq, not_true_eq_false, not_false_eq_true, n6]
  refine wp_ifE (env' := [.sh (.scr ns), .ow (pool ns (a + 1) b4 c4), .sh t, .sh (.int (Ls.length : Nat)), .sh (.int (b : Nat)), .sh (lockD Ls), .sh (lT (DU Ls)), s7, s8, .un]) False ?_ (fun h => h.elim) (fun _ => ?_)
  · simp -implicitDefEqProofs only [wipe, restore, List.foldl_cons, List.foldl_nil, List.getD_cons_zero, List.getD_cons_succ, lpI_nx, lpI_ct, lpI_bk, lpI_rt, shaped_int, shaped_bl, shaped_non, deq_ii, deq_bb, Bool.and_self, Bool.and_true, Bool.true_and, Int.cast_ofNat_Int, Nat.reducePow, Nat.reduceLeDiff, Int.zero_add, Int.add_zero, aft_nx, aft_rt, aft_bk, aft_ct, af_nx, af_rt, af_bk, af_ct, decide_eq_true_eq, eval, evals, evalsT, evalsA, evalO, evalC, evalI, dictI, test, op_bind, op_map, op_some, op_none, op_ite, if_false_right, pk, take, pks, binop, cmpop, truth, setIx, rangeOf, big, revOf, store, put, puts, putG, setOwn, ownOf, lstAt, bltF, lenF, lenOf, intF, absF, gcdF, isiF, isTy, listF, tupleF, dictF, mutF, appendF, isBw_0, isBw_s, nb_sh, nb_ow, nb_un, nb_bw, settle, storesR, bindA, back, lent, List.getElem?_cons_zero, List.getElem?_cons_succ, List.set_cons_zero, List.set_cons_succ, List.length_cons, List.length_nil, List.map_cons, List.map_nil, List.append_nil, List.nil_append, List.cons_append, and_self, and_true, true_and, if_true, if_false, ite_true, ite_false, reduceIte, Option.bind_some, Option.map_some, decide_true, decide_false, Bool.not_true, Bool.not_false, Bool.false_eq_true, Option.some.injEq, Nat.reduceLT, Nat.reduceAdd, Nat.zero_add, Nat.add_one_lt_add_one_iff, Nat.lt_add_left_iff_pos, Nat.lt_add_one, Nat.zero_lt_succ, Int.reduceLT, Int.reduceLE, Int.reduceNeg, Int.reducePow, Int.reduceToNat, Int.reduceMul, Int.reduceSub,  Int.reduceAdd, forall_const, ne_eq, not_true_eq_false, not_false_eq_true, W.i10, W.i2, itemsOf]
    refine (lc_pure (fun d => some d) _ (fun y hy => ?_)).mono ?_
    · obtain ⟨l, hl, rfl⟩ := List.mem_map.mp hy
      simp -implicitDefEqProofs only [wipe, restore, List.foldl_cons, List.foldl_nil, List.getD_cons_zero, List.getD_cons_succ, lpI_nx, lpI_ct, lpI_bk, lpI_rt, shaped_int, shaped_bl, shaped_non, deq_ii, deq_bb, Bool.and_self, Bool.and_true, Bool.true_and, Int.cast_ofNat_Int, Nat.reducePow, Nat.reduceLeDiff, Int.zero_add, Int.add_zero, aft_nx, aft_rt, aft_bk, aft_ct, af_nx, af_rt, af_bk, af_ct, decide_eq_true_eq, eval, evals, evalsT, evalsA, evalO, evalC, evalI, dictI, test, op_bind, op_map, op_some, op_none, op_ite, if_false_right, pk, take, pks, binop, cmpop, truth, setIx, rangeOf, big, revOf, store, put, puts, putG, setOwn, ownOf, lstAt, bltF, lenF, lenOf, intF, absF, gcdF, isiF, isTy, listF, tupleF, dictF, mutF, appendF, isBw_0, isBw_s, nb_sh, nb_ow, nb_un, nb_bw, settle, storesR, bindA, back, lent, List.getElem?_cons_zero, List.getElem?_cons_succ, List.set_cons_zero, List.set_cons_succ, List.length_cons, List.length_nil, List.map_cons, List.map_nil, List.append_nil, List.nil_append, List.cons_append, and_self, and_true, true_and, if_true, if_false, ite_true, ite_false, reduceIte, Option.bind_some, Option.map_some, decide_true, decide_false, Bool.not_true, Bool.not_false, Bool.false_eq_true, Option.some.injEq, Nat.reduceLT, Nat.reduceAdd, Nat.zero_add, Nat.add_one_lt_add_one_iff, Nat.lt_add_left_iff_pos, Nat.lt_add_one, Nat.zero_lt_succ, Int.reduceLT, Int.reduceLE, Int.reduceNeg, Int.reducePow, Int.reduceToNat, Int.reduceMul, Int.reduceSub,  Int.reduceAdd, forall_const, ne_eq, not_true_eq_false, not_false_eq_true]
    rintro _ rfl
    rw [id_lists]
    simp -implicitDefEqProofs only [wipe, restore, List.foldl_cons, List.foldl_nil, List.getD_cons_zero, List.getD_cons_succ, lpI_nx, lpI_ct, lpI_bk, lpI_rt, shaped_int, shaped_bl, shaped_non, deq_ii, deq_bb, Bool.and_self, Bool.and_true, Bool.true_and, Int.cast_ofNat_Int, Nat.reducePow, Nat.reduceLeDiff, Int.zero_add, Int.add_zero, aft_nx, aft_rt, aft_bk, aft_ct, af_nx, af_rt, af_bk, af_ct, decide_eq_true_eq, eval, evals, evalsT, evalsA, evalO, evalC, evalI, dictI, test, op_bind, op_map, op_some, op_none, op_ite, if_false_right, pk, take, pks, binop, cmpop, truth, setIx, rangeOf, big, revOf, store, put, puts, putG, setOwn, ownOf, lstAt, bltF, lenF, lenOf, intF, absF, gcdF, isiF, isTy, listF, tupleF, dictF, mutF, appendF, isBw_0, isBw_s, nb_sh, nb_ow, nb_un, nb_bw, settle, storesR, bindA, back, lent, List.getElem?_cons_zero, List.getElem?_cons_succ, List.set_cons_zero, List.set_cons_succ, List.length_cons, List.length_nil, List.map_cons, List.map_nil, List.append_nil, List.nil_append, List.cons_append, and_self, and_true, true_and, if_true, if_false, ite_true, ite_false, reduceIte, Option.bind_some, Option.map_some, decide_true, decide_false, Bool.not_true, Bool.not_false, Bool.false_eq_true, Option.some.injEq, Nat.reduceLT, Nat.reduceAdd, Nat.zero_add, Nat.add_one_lt_add_one_iff, Nat.lt_add_left_iff_pos, Nat.lt_add_one, Nat.zero_lt_succ, Int.reduceLT, Int.reduceLE, Int.reduceNeg, Int.reducePow, Int.reduceToNat, Int.reduceMul, Int.reduceSub,  Int.reduceAdd, forall_const, ne_eq, not_true_eq_false, not_false_eq_true, List.length_map, hsl, W.i2]
    refine ⟨by omega, (W.okeys Ls hL).mono ?_⟩
    rintro _ rfl
    simp -implicitDefEqProofs only [wipe, restore, List.foldl_cons, List.foldl_nil, List.getD_cons_zero, List.getD_cons_succ, lpI_nx, lpI_ct, lpI_bk, lpI_rt, shaped_int, shaped_bl, shaped_non, deq_ii, deq_bb, Bool.and_self, Bool.and_true, Bool.true_and, Int.cast_ofNat_Int, Nat.reducePow, Nat.reduceLeDiff, Int.zero_add, Int.add_zero, aft_nx, aft_rt, aft_bk, aft_ct, af_nx, af_rt, af_bk, af_ct, decide_eq_true_eq, eval, evals, evalsT, evalsA, evalO, evalC, evalI, dictI, test, op_bind, op_map, op_some, op_none, op_ite, if_false_right, pk, take, pks, binop, cmpop, truth, setIx, rangeOf, big, revOf, store, put, puts, putG, setOwn, ownOf, lstAt, bltF, lenF, lenOf, intF, absF, gcdF, isiF, isTy, listF, tupleF, dictF, mutF, appendF, isBw_0, isBw_s, nb_sh, nb_ow, nb_un, nb_bw, settle, storesR, bindA, back, lent, List.getElem?_cons_zero, List.getElem?_cons_succ, List.set_cons_zero, List.set_cons_succ, List.length_cons, List.length_nil, List.map_cons, List.map_nil, List.append_nil, List.nil_append, List.cons_append, and_self, and_true, true_and, if_true, if_false, ite_true, ite_false, reduceIte, Option.bind_some, Option.map_some, decide_true, decide_false, Bool.not_true, Bool.not_false, Bool.false_eq_true, Option.some.injEq, Nat.reduceLT, Nat.reduceAdd, Nat.zero_add, Nat.add_one_lt_add_one_iff, Nat.lt_add_left_iff_pos, Nat.lt_add_one, Nat.zero_lt_succ, Int.reduceLT, Int.reduceLE, Int.reduceNeg, Int.reducePow, Int.reduceToNat, Int.reduceMul, Int.reduceSub,  Int.reduceAdd, forall_const, ne_eq, not_true_eq_false, not_false_eq_true, W.i10]
    refine (W.same _ hpl).mono ?_
    rintro _ rfl
    simp -implicitDefEqProofs only [wipe, restore, List.foldl_cons, List.foldl_nil, List.getD_cons_zero, List.getD_cons_succ, lpI_nx, lpI_ct, lpI_bk, lpI_rt, shaped_int, shaped_bl, shaped_non, deq_ii, deq_bb, Bool.and_self, Bool.and_true, Bool.true_and, Int.cast_ofNat_Int, Nat.reducePow, Nat.reduceLeDiff, Int.zero_add, Int.add_zero, aft_nx, aft_rt, aft_bk, aft_ct, af_nx, af_rt, af_bk, af_ct, decide_eq_true_eq, eval, evals, evalsT, evalsA, evalO, evalC, evalI, dictI, test, op_bind, op_map, op_some, op_none, op_ite, if_false_right, pk, take, pks, binop, cmpop, truth, setIx, rangeOf, big, revOf, store, put, puts, putG, setOwn, ownOf, lstAt, bltF, lenF, lenOf, intF, absF, gcdF, isiF, isTy, listF, tupleF, dictF, mutF, appendF, isBw_0, isBw_s, nb_sh, nb_ow, nb_un, nb_bw, settle, storesR, bindA, back, lent, List.getElem?_cons_zero, List.getElem?_cons_succ, List.set_cons_zero, List.set_cons_succ, List.length_cons, List.length_nil, List.map_cons, List.map_nil, List.append_nil, List.nil_append, List.cons_append, and_self, and_true, true_and, if_true, if_false, ite_true, ite_false, reduceIte, Option.bind_some, Option.map_some, decide_true, decide_false, Bool.not_true, Bool.not_false, Bool.false_eq_true, Option.some.injEq, Nat.reduceLT, Nat.reduceAdd, Nat.zero_add, Nat.add_one_lt_add_one_iff, Nat.lt_add_left_iff_pos, Nat.lt_add_one, Nat.zero_lt_succ, Int.reduceLT, Int.reduceLE, Int.reduceNeg, Int.reducePow, Int.reduceToNat, Int.reduceMul, Int.reduceSub,  Int.reduceAdd, forall_const, ne_eq, not_true_eq_false, not_false_eq_true]
  rw [wp_nil, aft_nx, wp_exp]
  simp -implicitDefEqProofs only [wipe, restore, List.foldl_cons, List.foldl_nil, List.getD_cons_zero, List.getD_cons_succ, lpI_nx, lpI_ct, lpI_bk, lpI_rt, shaped_int, shaped_bl, shaped_non, deq_ii, deq_bb, Bool.and_self, Bool.and_true, Bool.true_and, Int.cast_ofNat_Int, Nat.reducePow, Nat.reduceLeDiff, Int.zero_add, Int.add_zero, aft_nx, aft_rt, aft_bk, aft_ct, af_nx, af_rt, af_bk, af_ct, decide_eq_true_eq, eval, evals, evalsT, evalsA, evalO, evalC, evalI, dictI, test, op_bind, op_map, op_some, op_none, op_ite, if_false_right, pk, take, pks, binop, cmpop, truth, setIx, rangeOf, big, revOf, store, put, puts, putG, setOwn, ownOf, lstAt, bltF, lenF, lenOf, intF, absF, gcdF, isiF, isTy, listF, tupleF, dictF, mutF, appendF, isBw_0, isBw_s, nb_sh, nb_ow, nb_un, nb_bw, settle, storesR, bindA, back, lent, List.getElem?_cons_zero, List.getElem?_cons_succ, List.set_cons_zero, List.set_cons_succ, List.length_cons, List.length_nil, List.map_cons, List.map_nil, List.append_nil, List.nil_append, List.cons_append, and_self, and_true, true_and, if_true, if_false, ite_true, ite_false, reduceIte, Option.bind_some, Option.map_some, decide_true, decide_false, Bool.not_true, Bool.not_false, Bool.false_eq_true, Option.some.injEq, Nat.reduceLT, Nat.reduceAdd, Nat.zero_add, Nat.add_one_lt_add_one_iff, Nat.lt_add_left_iff_pos, Nat.lt_add_one, Nat.zero_lt_succ, Int.reduceLT, Int.reduceLE, Int.reduceNeg, Int.reducePow, Int.reduceToNat, Int.reduceMul, Int.reduceSub,  Int.reduceAdd, forall_const, ne_eq, not_true_eq_false, not_false_eq_true, W.n.io]
  refine (W.n.ok ns _ _ _).mono ?_
  rintro _ ⟨b5, rfl⟩
  simp -implicitDefEqProofs only [wipe, restore, List.foldl_cons, List.foldl_nil, List.getD_cons_zero, List.getD_cons_succ, lpI_nx, lpI_ct, lpI_bk, lpI_rt, shaped_int, shaped_bl, shaped_non, deq_ii, deq_bb, Bool.and_self, Bool.and_true, Bool.true_and, Int.cast_ofNat_Int, Nat.reducePow, Nat.reduceLeDiff, Int.zero_add, Int.add_zero, aft_nx, aft_rt, aft_bk, aft_ct, af_nx, af_rt, af_bk, af_ct, decide_eq_true_eq, eval, evals, evalsT, evalsA, evalO, evalC, evalI, dictI, test, op_bind, op_map, op_some, op_none, op_ite, if_false_right, pk, take, pks, binop, cmpop, truth, setIx, rangeOf, big, revOf, store, put, puts, putG, setOwn, ownOf, lstAt, bltF, lenF, lenOf, intF, absF, gcdF, isiF, isTy, listF, tupleF, dictF, mutF, appendF, isBw_0, isBw_s, nb_sh, nb_ow, nb_un, nb_bw, settle, storesR, bindA, back, lent, List.getElem?_cons_zero, List.getElem?_cons_succ, List.set_cons_zero, List.set_cons_succ, List.length_cons, List.length_nil, List.map_cons, List.map_nil, List.append_nil, List.nil_append, List.cons_append, and_self, and_true, true_and, if_true, if_false, ite_true, ite_false, reduceIte, Option.bind_some, Option.map_some, decide_true, decide_false, Bool.not_true, Bool.not_false, Bool.false_eq_true, Option.some.injEq, Nat.reduceLT, Nat.reduceAdd, Nat.zero_add, Nat.add_one_lt_add_one_iff, Nat.lt_add_left_iff_pos, Nat.lt_add_one, Nat.zero_lt_succ, Int.reduceLT, Int.reduceLE, Int.reduceNeg, Int.reducePow, Int.reduceToNat, Int.reduceMul, Int.reduceSub,  Int.reduceAdd, forall_const, ne_eq, not_true_eq_false, not_false_eq_true]
  rw [wp_set]
  simp -implicitDefEqProofs only [wipe, restore, List.foldl_cons, List.foldl_nil, List.getD_cons_zero, List.getD_cons_succ, lpI_nx, lpI_ct, lpI_bk, lpI_rt, shaped_int, shaped_bl, shaped_non, deq_ii, deq_bb, Bool.and_self, Bool.and_true, Bool.true_and, Int.cast_ofNat_Int, Nat.reducePow, Nat.reduceLeDiff, Int.zero_add, Int.add_zero, aft_nx, aft_rt, aft_bk, aft_ct, af_nx, af_rt, af_bk, af_ct, decide_eq_true_eq, eval, evals, evalsT, evalsA, evalO, evalC, evalI, dictI, test, op_bind, op_map, op_some, op_none, op_ite, if_false_right, pk, take, pks, binop, cmpop, truth, setIx, rangeOf, big, revOf, store, put, puts, putG, setOwn, ownOf, lstAt, bltF, lenF, lenOf, intF, absF, gcdF, isiF, isTy, listF, tupleF, dictF, mutF, appendF, isBw_0, isBw_s, nb_sh, nb_ow, nb_un, nb_bw, settle, storesR, bindA, back, lent, List.getElem?_cons_zero, List.getElem?_cons_succ, List.set_cons_zero, List.set_cons_succ, List.length_cons, List.length_nil, List.map_cons, List.map_nil, List.append_nil, List.nil_append, List.cons_append, and_self, and_true, true_and, if_true, if_false, ite_true, ite_false, reduceIte, Option.bind_some, Option.map_some, decide_true, decide_false, Bool.not_true, Bool.not_false, Bool.false_eq_true, Option.some.injEq, Nat.reduceLT, Nat.reduceAdd, Nat.zero_add, Nat.add_one_lt_add_one_iff, Nat.lt_add_left_iff_pos, Nat.lt_add_one, Nat.zero_lt_succ, Int.reduceLT, Int.reduceLE, Int.reduceNeg, Int.reducePow, Int.reduceToNat, Int.reduceMul, Int.reduceSub,  Int.reduceAdd, forall_const, ne_eq, not_true_eq_false, not_false_eq_true, W.i13]
  refine (W.keys ns _ _ _ Ls.length b (by omega) hb0 (by omega)).mono ?_
  rintro _ ⟨nm, kk, b6, c6, rfl, hk, hk5, hg⟩
  simp -implicitDefEqProofs only [wipe, restore, List.foldl_cons, List.foldl_nil, List.getD_cons_zero, List.getD_cons_succ, lpI_nx, lpI_ct, lpI_bk, lpI_rt, shaped_int, shaped_bl, shaped_non, deq_ii, deq_bb, Bool.and_self, Bool.and_true, Bool.true_and, Int.cast_ofNat_Int, Nat.reducePow, Nat.reduceLeDiff, Int.zero_add, Int.add_zero, aft_nx, aft_rt, aft_bk, aft_ct, af_nx, af_rt, af_bk, af_ct, decide_eq_true_eq, eval, evals, evalsT, evalsA, evalO, evalC, evalI, dictI, test, op_bind, op_map, op_some, op_none, op_ite, if_false_right, pk, take, pks, binop, cmpop, truth, setIx, rangeOf, big, revOf, store, put, puts, putG, setOwn, ownOf, lstAt, bltF, lenF, lenOf, intF, absF, gcdF, isiF, isTy, listF, tupleF, dictF, mutF, appendF, isBw_0, isBw_s, nb_sh, nb_ow, nb_un, nb_bw, settle, storesR, bindA, back, lent, List.getElem?_cons_zero, List.getElem?_cons_succ, List.set_cons_zero, List.set_cons_succ, List.length_cons, List.length_nil, List.map_cons, List.map_nil, List.append_nil, List.nil_append, List.cons_append, and_self, and_true, true_and, if_true, if_false, ite_true, ite_false, reduceIte, Option.bind_some, Option.map_some, decide_true, decide_false, Bool.not_true, Bool.not_false, Bool.false_eq_true, Option.some.injEq, Nat.reduceLT, Nat.reduceAdd, Nat.zero_add, Nat.add_one_lt_add_one_iff, Nat.lt_add_left_iff_pos, Nat.lt_add_one, Nat.zero_lt_succ, Int.reduceLT, Int.reduceLE, Int.reduceNeg, Int.reducePow, Int.reduceToNat, Int.reduceMul, Int.reduceSub,  Int.reduceAdd, forall_const, ne_eq, not_true_eq_false, not_false_eq_true, n7]
  refine wp_join (fun e => ∃ nm kk b' c', KyP Ls.length nm kk ∧ e = [.sh (.scr ns), .ow (pool ns (a + 1 + 1) b' c'), .sh t, .sh (.int (Ls.length : Nat)), .sh (.int (b : Nat)), .sh (lockD Ls), .sh (lT (DU Ls)), .ow (dK nm kk), s8, .un]) ?_ ?_
  · rw [wp_ite]
    simp -implicitDefEqProofs only [wipe, restore, List.foldl_cons, List.foldl_nil, List.getD_cons_zero, List.getD_cons_succ, lpI_nx, lpI_ct, lpI_bk, lpI_rt, shaped_int, shaped_bl, shaped_non, deq_ii, deq_bb, Bool.and_self, Bool.and_true, Bool.true_and, Int.cast_ofNat_Int, Nat.reducePow, Nat.reduceLeDiff, Int.zero_add, Int.add_zero, aft_nx, aft_rt, aft_bk, aft_ct, af_nx, af_rt, af_bk, af_ct, decide_eq_true_eq, eval, evals, evalsT, evalsA, evalO, evalC, evalI, dictI, test, op_bind, op_map, op_some, op_none, op_ite, if_false_right, pk, take, pks, binop, cmpop, truth, setIx, rangeOf, big, revOf, store, put, puts, putG, setOwn, ownOf, lstAt, bltF, lenF, lenOf, intF, absF, gcdF, isiF, isTy, listF, tupleF, dictF, mutF, appendF, isBw_0, isBw_s, nb_sh, nb_ow, nb_un, nb_bw, settle, storesR, bindA, back, lent, List.getElem?_cons_zero, List.getElem?_cons_succ, List.set_cons_zero, List.set_cons_succ, List.length_cons, List.length_nil, List.map_cons, List.map_nil, List.append_nil, List.nil_append, List.cons_append, and_self, and_true, true_and, if_true, if_false, ite_true, ite_false, reduceIte, Option.bind_some, Option.map_some, decide_true, decide_false, Bool.not_true, Bool.not_false, Bool.false_eq_true, Option.some.injEq, Nat.reduceLT, Nat.reduceAdd, Nat.zero_add, Nat.add_one_lt_add_one_iff, Nat.lt_add_left_iff_pos, Nat.lt_add_one, Nat.zero_lt_succ, Int.reduceLT, Int.reduceLE, Int.reduceNeg, Int.reducePow, Int.reduceToNat, Int.reduceMul, Int.reduceSub,  Int.reduceAdd, forall_const, ne_eq, not_true_eq_false, not_false_eq_true, W.d.io]
    refine (W.d.ok _ _ _ _ 2 (by decide) (by decide)).mono ?_
    rintro _ ⟨v, b7, c7, v0, v1, rfl⟩
    clear v0 v1
    by_cases z : v = 0
    · simp -implicitDefEqProofs only [wipe, restore, List.foldl_cons, List.foldl_nil, List.getD_cons_zero, List.getD_cons_succ, lpI_nx, lpI_ct, lpI_bk, lpI_rt, shaped_int, shaped_bl, shaped_non, deq_ii, deq_bb, Bool.and_self, Bool.and_true, Bool.true_and, Int.cast_ofNat_Int, Nat.reducePow, Nat.reduceLeDiff, Int.zero_add, Int.add_zero, aft_nx, aft_rt, aft_bk, aft_ct, af_nx, af_rt, af_bk, af_ct, decide_eq_true_eq, eval, evals, evalsT, evalsA, evalO, evalC, evalI, dictI, test, op_bind, op_map, op_some, op_none, op_ite, if_false_right, pk, take, pks, binop, cmpop, truth, setIx, rangeOf, big, revOf, store, put, puts, putG, setOwn, ownOf, lstAt, bltF, lenF, lenOf, intF, absF, gcdF, isiF, isTy, listF, tupleF, dictF, mutF, appendF, isBw_0, isBw_s, nb_sh, nb_ow, nb_un, nb_bw, settle, storesR, bindA, back, lent, List.getElem?_cons_zero, List.getElem?_cons_succ, List.set_cons_zero, List.set_cons_succ, List.length_cons, List.length_nil, List.map_cons, List.map_nil, List.append_nil, List.nil_append, List.cons_append, and_self, and_true, true_and, if_true, if_false, ite_true, ite_false, reduceIte, Option.bind_some, Option.map_some, decide_true, decide_false, Bool.not_true, Bool.not_false, Bool.false_eq_true, Option.some.injEq, Nat.reduceLT, Nat.reduceAdd, Nat.zero_add, Nat.add_one_lt_add_one_iff, Nat.lt_add_left_iff_pos, Nat.lt_add_one, Nat.zero_lt_succ, Int.reduceLT, Int.reduceLE, Int.reduceNeg, Int.reducePow, Int.reduceToNat, Int.reduceMul, Int.reduceSub,  Int.reduceAdd, forall_const, ne_eq, not_true_eq_false, not_false_eq_true, z]
      rw [wp_sti]
      simp -implicitDefEqProofs only [wipe, restore, List.foldl_cons, List.foldl_nil, List.getD_cons_zero, List.getD_cons_succ, lpI_nx, lpI_ct, lpI_bk, lpI_rt, shaped_int, shaped_bl, shaped_non, deq_ii, deq_bb, Bool.and_self, Bool.and_true, Bool.true_and, Int.cast_ofNat_Int, Nat.reducePow, Nat.reduceLeDiff, Int.zero_add, Int.add_zero, aft_nx, aft_rt, aft_bk, aft_ct, af_nx, af_rt, af_bk, af_ct, decide_eq_true_eq, eval, evals, evalsT, evalsA, evalO, evalC, evalI, dictI, test, op_bind, op_map, op_some, op_none, op_ite, if_false_right, pk, take, pks, binop, cmpop, truth, rangeOf, big, revOf, store, put, puts, putG, setOwn, ownOf, lstAt, bltF, lenF, lenOf, intF, absF, gcdF, isiF, isTy, listF, tupleF, dictF, mutF, appendF, isBw_0, isBw_s, nb_sh, nb_ow, nb_un, nb_bw, settle, storesR, bindA, back, lent, List.getElem?_cons_zero, List.getElem?_cons_succ, List.set_cons_zero, List.set_cons_succ, List.length_cons, List.length_nil, List.map_cons, List.map_nil, List.append_nil, List.nil_append, List.cons_append, and_self, and_true, true_and, if_true, if_false, ite_true, ite_false, reduceIte, Option.bind_some, Option.map_some, decide_true, decide_false, Bool.not_true, Bool.not_false, Bool.false_eq_true, Option.some.injEq, Nat.reduceLT, Nat.reduceAdd, Nat.zero_add, Nat.add_one_lt_add_one_iff, Nat.lt_add_left_iff_pos, Nat.lt_add_one, Nat.zero_lt_succ, Int.reduceLT, Int.reduceLE, Int.reduceNeg, Int.reducePow, Int.reduceToNat, Int.reduceMul, Int.reduceSub,  Int.reduceAdd, forall_const, ne_eq, not_true_eq_false, not_false_eq_true, W.pk.io]
      have hpos : 0 < ((DU Ls).map tI).length := by
        rw [List.length_map]
        exact List.length_pos_of_mem ((DU_mem Ls _).mpr (opn_heads Ls fun l hl => (hLs l hl).2))
      refine (W.pk.ok ns _ _ _ ((DU Ls).map tI) hpos (by rw [List.length_map]; omega)).mono ?_
      rintro _ ⟨x, b8, c8, hx, rfl⟩
      obtain ⟨g, hgm, rfl⟩ := List.mem_map.mp hx
      have hgo := (DU_mem Ls g).mp hgm
      have hp := putK' (kk := kk) (k := g) hg (by omega)
      rw [show GUS = { cps := #[103, 117, 115] } from rfl] at hp
      simp -implicitDefEqProofs only [wipe, restore, List.foldl_cons, List.foldl_nil, List.getD_cons_zero, List.getD_cons_succ, lpI_nx, lpI_ct, lpI_bk, lpI_rt, shaped_int, shaped_bl, shaped_non, deq_ii, deq_bb, Bool.and_self, Bool.and_true, Bool.true_and, Int.cast_ofNat_Int, Nat.reducePow, Nat.reduceLeDiff, Int.zero_add, Int.add_zero, aft_nx, aft_rt, aft_bk, aft_ct, af_nx, af_rt, af_bk, af_ct, decide_eq_true_eq, eval, evals, evalsT, evalsA, evalO, evalC, evalI, dictI, test, op_bind, op_map, op_some, op_none, op_ite, if_false_right, pk, take, pks, binop, cmpop, truth, rangeOf, big, revOf, store, put, puts, putG, setOwn, ownOf, lstAt, bltF, lenF, lenOf, intF, absF, gcdF, isiF, isTy, listF, tupleF, dictF, mutF, appendF, isBw_0, isBw_s, nb_sh, nb_ow, nb_un, nb_bw, settle, storesR, bindA, back, lent, List.getElem?_cons_zero, List.getElem?_cons_succ, List.set_cons_zero, List.set_cons_succ, List.length_cons, List.length_nil, List.map_cons, List.map_nil, List.append_nil, List.nil_append, List.cons_append, and_self, and_true, true_and, if_true, if_false, ite_true, ite_false, reduceIte, Option.bind_some, Option.map_some, decide_true, decide_false, Bool.not_true, Bool.not_false, Bool.false_eq_true, Option.some.injEq, Nat.reduceLT, Nat.reduceAdd, Nat.zero_add, Nat.add_one_lt_add_one_iff, Nat.lt_add_left_iff_pos, Nat.lt_add_one, Nat.zero_lt_succ, Int.reduceLT, Int.reduceLE, Int.reduceNeg, Int.reducePow, Int.reduceToNat, Int.reduceMul, Int.reduceSub,  Int.reduceAdd, forall_const, ne_eq, not_true_eq_false, not_false_eq_true, hp]
      rw [wp_nil, aft_nx, wp_nil, af_nx]
      refine ⟨nm ++ [GUS], kk ++ [g], b8, c8, ⟨by rw [List.length_append, List.length_append, hk.l]; rfl, by rw [List.length_append, List.length_singleton]; omega, fun x hx => ?_, fun k hkm => ?_⟩, rfl⟩
      · rcases List.mem_append.mp hx with hx | hx
        · exact hk.s x hx
        · exact nm_ok x (List.mem_append_right _ hx)
      · rcases List.mem_append.mp hkm with hkm | hkm
        · exact hk.k k hkm
        · rw [List.mem_singleton.mp hkm]; exact opn_length hgo
    · simp -implicitDefEqProofs only [wipe, restore, List.foldl_cons, List.foldl_nil, List.getD_cons_zero, List.getD_cons_succ, lpI_nx, lpI_ct, lpI_bk, lpI_rt, shaped_int, shaped_bl, shaped_non, deq_ii, deq_bb, Bool.and_self, Bool.and_true, Bool.true_and, Int.cast_ofNat_Int, Nat.reducePow, Nat.reduceLeDiff, Int.zero_add, Int.add_zero, aft_nx, aft_rt, aft_bk, aft_ct, af_nx, af_rt, af_bk, af_ct, decide_eq_true_eq, eval, evals, evalsT, evalsA, evalO, evalC, evalI, dictI, test, op_bind, op_map, op_some, op_none, op_ite, if_false_right, pk, take, pks, binop, cmpop, truth, setIx, rangeOf, big, revOf, store, put, puts, putG, setOwn, ownOf, lstAt, bltF, lenF, lenOf, intF, absF, gcdF, isiF, isTy, listF, tupleF, dictF, mutF, appendF, isBw_0, isBw_s, nb_sh, nb_ow, nb_un, nb_bw, settle, storesR, bindA, back, lent, List.getElem?_cons_zero, List.getElem?_cons_succ, List.set_cons_zero, List.set_cons_succ, List.length_cons, List.length_nil, List.map_cons, List.map_nil, List.append_nil, List.nil_append, List.cons_append, and_self, and_true, true_and, if_true, if_false, ite_true, ite_false, reduceIte, Option.bind_some, Option.map_some, decide_true, decide_false, Bool.not_true, Bool.not_false, Bool.false_eq_true, Option.some.injEq, Nat.reduceLT, Nat.reduceAdd, Nat.zero_add, Nat.add_one_lt_add_one_iff, Nat.lt_add_left_iff_pos, Nat.lt_add_one, Nat.zero_lt_succ, Int.reduceLT, Int.reduceLE, Int.reduceNeg, Int.reducePow, Int.reduceToNat, Int.reduceMul, Int.reduceSub,  Int.reduceAdd, forall_const, ne_eq, not_true_eq_false, not_false_eq_true, z]
      rw [wp_nil, aft_nx, wp_nil, af_nx]
      exact ⟨nm, kk, b7, c7, hk, rfl⟩
  clear hk hk5 hg
  rintro e ⟨nm, kk, b7, c7, hk, rfl⟩
  have hkm := hk.m
  have hsh := hL.shaped
  have hin := DU_any Ls
  have hkey : ∀ x ∈ nm, shaped (tI (lk nm kk x)) = true := fun x hx => shp_tI (by rw [hk.k _ (lk_mem hk.l hx)]; omega)
  have hget : ∀ x ∈ nm, getIx (dK nm kk) (.str x) = some (.v (tI (lk nm kk x))) := fun x hx => getK hk.l hx
  refine wp_join (fun e => ∃ s8, e = [.sh (.scr ns), .ow (pool ns (a + 1 + 1) b7 c7), .sh t, .sh (.int (Ls.length : Nat)), .sh (.int (b : Nat)), .sh (lockD Ls), .sh (lT (DU Ls)), .sh (dK nm kk), s8, .un] ∧ nb s8 = true) ?_ ?_
  · rw [wp_for]
    simp -implicitDefEqProofs only [wipe, restore, List.foldl_cons, List.foldl_nil, List.getD_cons_zero, List.getD_cons_succ, lpI_nx, lpI_ct, lpI_bk, lpI_rt, shaped_int, shaped_bl, shaped_non, deq_ii, deq_bb, Bool.and_self, Bool.and_true, Bool.true_and, Int.cast_ofNat_Int, Nat.reducePow, Nat.reduceLeDiff, Int.zero_add, Int.add_zero, aft_nx, aft_rt, aft_bk, aft_ct, af_nx, af_rt, af_bk, af_ct, decide_eq_true_eq, eval, evals, evalsT, evalsA, evalO, evalC, evalI, dictI, test, op_bind, op_map, op_some, op_none, op_ite, if_false_right, pk, take, pks, binop, cmpop, truth, setIx, rangeOf, big, revOf, store, put, puts, putG, setOwn, ownOf, lstAt, bltF, lenF, lenOf, intF, absF, gcdF, isiF, isTy, listF, tupleF, dictF, mutF, appendF, isBw_0, isBw_s, nb_sh, nb_ow, nb_un, nb_bw, settle, storesR, bindA, back, lent, List.getElem?_cons_zero, List.getElem?_cons_succ, List.set_cons_zero, List.set_cons_succ, List.length_cons, List.length_nil, List.map_cons, List.map_nil, List.append_nil, List.nil_append, List.cons_append, and_self, and_true, true_and, if_true, if_false, ite_true, ite_false, reduceIte, Option.bind_some, Option.map_some, decide_true, decide_false, Bool.not_true, Bool.not_false, Bool.false_eq_true, Option.some.injEq, Nat.reduceLT, Nat.reduceAdd, Nat.zero_add, Nat.add_one_lt_add_one_iff, Nat.lt_add_left_iff_pos, Nat.lt_add_one, Nat.zero_lt_succ, Int.reduceLT, Int.reduceLE, Int.reduceNeg, Int.reducePow, Int.reduceToNat, Int.reduceMul, Int.reduceSub,  Int.reduceAdd, forall_const, ne_eq, not_true_eq_false, not_false_eq_true]
    refine lp_idx (fun i e => ∃ s8, e = [.sh (.scr ns), .ow (pool ns (a + 1 + 1) b7 c7), .sh t, .sh (.int (Ls.length : Nat)), .sh (.int (b : Nat)), .sh (lockD Ls), .sh (lT (DU Ls)), .sh (dK nm kk), s8, .un] ∧ nb s8 = true) ?_ ?_ _ ⟨s8, rfl, n8⟩
    · rintro i hi e ⟨s8, rfl, n8⟩
      have hi' := hi
      rw [List.length_map] at hi'
      simp only [List.getElem_map]
      have hm := List.getElem_mem hi'
      generalize nm[i] = x at *
      have g := hget x hm
      have hlen := hk.k _ (lk_mem hk.l hm)
      have hk1 := hkey x hm
      have hi1 := hin (lk nm kk x)
      simp -implicitDefEqProofs only [wipe, restore, List.foldl_cons, List.foldl_nil, List.getD_cons_zero, List.getD_cons_succ, lpI_nx, lpI_ct, lpI_bk, lpI_rt, shaped_int, shaped_bl, shaped_non, deq_ii, deq_bb, Bool.and_self, Bool.and_true, Bool.true_and, Int.cast_ofNat_Int, Nat.reducePow, Nat.reduceLeDiff, Int.zero_add, Int.add_zero, aft_nx, aft_rt, aft_bk, aft_ct, af_nx, af_rt, af_bk, af_ct, decide_eq_true_eq, eval, evals, evalsT, evalsA, evalO, evalC, evalI, dictI, test, op_bind, op_map, op_some, op_none, op_ite, if_false_right, pk, take, pks, binop, cmpop, truth, setIx, rangeOf, big, revOf, store, put, puts, putG, setOwn, ownOf, lstAt, bltF, lenF, lenOf, intF, absF, gcdF, isiF, isTy, listF, tupleF, dictF, mutF, appendF, isBw_0, isBw_s, nb_sh, nb_ow, nb_un, nb_bw, settle, storesR, bindA, back, lent, List.getElem?_cons_zero, List.getElem?_cons_succ, List.set_cons_zero, List.set_cons_succ, List.length_cons, List.length_nil, List.map_cons, List.map_nil, List.append_nil, List.nil_append, List.cons_append, and_self, and_true, true_and, if_true, if_false, ite_true, ite_false, reduceIte, Option.bind_some, Option.map_some, decide_true, decide_false, Bool.not_true, Bool.not_false, Bool.false_eq_true, Option.some.injEq, Nat.reduceLT, Nat.reduceAdd, Nat.zero_add, Nat.add_one_lt_add_one_iff, Nat.lt_add_left_iff_pos, Nat.lt_add_one, Nat.zero_lt_succ, Int.reduceLT, Int.reduceLE, Int.reduceNeg, Int.reducePow, Int.reduceToNat, Int.reduceMul, Int.reduceSub,  Int.reduceAdd, forall_const, ne_eq, not_true_eq_false, not_false_eq_true, n8]
      refine wp_if False ?_ (fun h => h.elim) (fun _ => ?_)
      · simp -implicitDefEqProofs only [wipe, restore, List.foldl_cons, List.foldl_nil, List.getD_cons_zero, List.getD_cons_succ, lpI_nx, lpI_ct, lpI_bk, lpI_rt, shaped_int, shaped_bl, shaped_non, deq_ii, deq_bb, Bool.and_self, Bool.and_true, Bool.true_and, Int.cast_ofNat_Int, Nat.reducePow, Nat.reduceLeDiff, Int.zero_add, Int.add_zero, aft_nx, aft_rt, aft_bk, aft_ct, af_nx, af_rt, af_bk, af_ct, decide_eq_true_eq, eval, evals, evalsT, evalsA, evalO, evalC, evalI, dictI, test, op_bind, op_map, op_some, op_none, op_ite, if_false_right, pk, take, pks, binop, cmpop, truth, setIx, rangeOf, big, revOf, store, put, puts, putG, setOwn, ownOf, lstAt, bltF, lenF, lenOf, intF, absF, gcdF, isiF, isTy, listF, tupleF, dictF, mutF, appendF, isBw_0, isBw_s, nb_sh, nb_ow, nb_un, nb_bw, settle, storesR, bindA, back, lent, List.getElem?_cons_zero, List.getElem?_cons_succ, List.set_cons_zero, List.set_cons_succ, List.length_cons, List.length_nil, List.map_cons, List.map_nil, List.append_nil, List.nil_append, List.cons_append, and_self, and_true, true_and, if_true, if_false, ite_true, ite_false, reduceIte, Option.bind_some, Option.map_some, decide_true, decide_false, Bool.not_true, Bool.not_false, Bool.false_eq_true, Option.some.injEq, Nat.reduceLT, Nat.reduceAdd, Nat.zero_add, Nat.add_one_lt_add_one_iff, Nat.lt_add_left_iff_pos, Nat.lt_add_one, Nat.zero_lt_succ, Int.reduceLT, Int.reduceLE, Int.reduceNeg, Int.reducePow, Int.reduceToNat, Int.reduceMul, Int.reduceSub,  Int.reduceAdd, forall_const, ne_eq, not_true_eq_false, not_false_eq_true, g, W.i10, W.i0]
        refine (W.opens Ls (lk nm kk x) hlen.symm (by omega)).mono ?_
        rintro _ rfl
        simp -implicitDefEqProofs only [wipe, restore, List.foldl_cons, List.foldl_nil, List.getD_cons_zero, List.getD_cons_succ, lpI_nx, lpI_ct, lpI_bk, lpI_rt, shaped_int, shaped_bl, shaped_non, deq_ii, deq_bb, Bool.and_self, Bool.and_true, Bool.true_and, Int.cast_ofNat_Int, Nat.reducePow, Nat.reduceLeDiff, Int.zero_add, Int.add_zero, aft_nx, aft_rt, aft_bk, aft_ct, af_nx, af_rt, af_bk, af_ct, decide_eq_true_eq, eval, evals, evalsT, evalsA, evalO, evalC, evalI, dictI, test, op_bind, op_map, op_some, op_none, op_ite, if_false_right, pk, take, pks, binop, cmpop, truth, setIx, rangeOf, big, revOf, store, put, puts, putG, setOwn, ownOf, lstAt, bltF, lenF, lenOf, intF, absF, gcdF, isiF, isTy, listF, tupleF, dictF, mutF, appendF, isBw_0, isBw_s, nb_sh, nb_ow, nb_un, nb_bw, settle, storesR, bindA, back, lent, List.getElem?_cons_zero, List.getElem?_cons_succ, List.set_cons_zero, List.set_cons_succ, List.length_cons, List.length_nil, List.map_cons, List.map_nil, List.append_nil, List.nil_append, List.cons_append, and_self, and_true, true_and, if_true, if_false, ite_true, ite_false, reduceIte, Option.bind_some, Option.map_some, decide_true, decide_false, Bool.not_true, Bool.not_false, Bool.false_eq_true, Option.some.injEq, Nat.reduceLT, Nat.reduceAdd, Nat.zero_add, Nat.add_one_lt_add_one_iff, Nat.lt_add_left_iff_pos, Nat.lt_add_one, Nat.zero_lt_succ, Int.reduceLT, Int.reduceLE, Int.reduceNeg, Int.reducePow, Int.reduceToNat, Int.reduceMul, Int.reduceSub,  Int.reduceAdd, forall_const, ne_eq, not_true_eq_false, not_false_eq_true, g, hk1, hsh, hi1, W.i10]
        refine (W.same _ Pl.bl).mono ?_
        rintro _ rfl
        simp -implicitDefEqProofs only [wipe, restore, List.foldl_cons, List.foldl_nil, List.getD_cons_zero, List.getD_cons_succ, lpI_nx, lpI_ct, lpI_bk, lpI_rt, shaped_int, shaped_bl, shaped_non, deq_ii, deq_bb, Bool.and_self, Bool.and_true, Bool.true_and, Int.cast_ofNat_Int, Nat.reducePow, Nat.reduceLeDiff, Int.zero_add, Int.add_zero, aft_nx, aft_rt, aft_bk, aft_ct, af_nx, af_rt, af_bk, af_ct, decide_eq_true_eq, eval, evals, evalsT, evalsA, evalO, evalC, evalI, dictI, test, op_bind, op_map, op_some, op_none, op_ite, if_false_right, pk, take, pks, binop, cmpop, truth, setIx, rangeOf, big, revOf, store, put, puts, putG, setOwn, ownOf, lstAt, bltF, lenF, lenOf, intF, absF, gcdF, isiF, isTy, listF, tupleF, dictF, mutF, appendF, isBw_0, isBw_s, nb_sh, nb_ow, nb_un, nb_bw, settle, storesR, bindA, back, lent, List.getElem?_cons_zero, List.getElem?_cons_succ, List.set_cons_zero, List.set_cons_succ, List.length_cons, List.length_nil, List.map_cons, List.map_nil, List.append_nil, List.nil_append, List.cons_append, and_self, and_true, true_and, if_true, if_false, ite_true, ite_false, reduceIte, Option.bind_some, Option.map_some, decide_true, decide_false, Bool.not_true, Bool.not_false, Bool.false_eq_true, Option.some.injEq, Nat.reduceLT, Nat.reduceAdd, Nat.zero_add, Nat.add_one_lt_add_one_iff, Nat.lt_add_left_iff_pos, Nat.lt_add_one, Nat.zero_lt_succ, Int.reduceLT, Int.reduceLE, Int.reduceNeg, Int.reducePow, Int.reduceToNat, Int.reduceMul, Int.reduceSub,  Int.reduceAdd, forall_const, ne_eq, not_true_eq_false, not_false_eq_true]
      rw [wp_nil, aft_nx, wp_nil, lpI_nx]
      exact ⟨_, rfl, rfl⟩
    · rintro e ⟨s8, rfl, n8⟩
      rw [aft_nx, wp_nil, af_nx]
      exact ⟨_, rfl, n8⟩
  rintro e ⟨s8, rfl, n8⟩
  have hl : (FN Ls nm kk).length ≤ nm.length := List.length_filter_le _ _
  have hso := sorted_str (l := FN Ls nm kk) fun x hx => hk.s x (FN_sub x hx)
  refine wp_if False ?_ (fun h => h.elim) (fun _ => ?_)
  · simp -implicitDefEqProofs only [wipe, restore, List.foldl_cons, List.foldl_nil, List.getD_cons_zero, List.getD_cons_succ, lpI_nx, lpI_ct, lpI_bk, lpI_rt, shaped_int, shaped_bl, shaped_non, deq_ii, deq_bb, Bool.and_self, Bool.and_true, Bool.true_and, Int.cast_ofNat_Int, Nat.reducePow, Nat.reduceLeDiff, Int.zero_add, Int.add_zero, aft_nx, aft_rt, aft_bk, aft_ct, af_nx, af_rt, af_bk, af_ct, decide_eq_true_eq, eval, evals, evalsT, evalsA, evalO, evalC, evalI, dictI, test, op_bind, op_map, op_some, op_none, op_ite, if_false_right, pk, take, pks, binop, cmpop, truth, setIx, rangeOf, big, revOf, store, put, puts, putG, setOwn, ownOf, lstAt, bltF, lenF, lenOf, intF, absF, gcdF, isiF, isTy, listF, tupleF, dictF, mutF, appendF, isBw_0, isBw_s, nb_sh, nb_ow, nb_un, nb_bw, settle, storesR, bindA, back, lent, List.getElem?_cons_zero, List.getElem?_cons_succ, List.set_cons_zero, List.set_cons_succ, List.length_cons, List.length_nil, List.map_cons, List.map_nil, List.append_nil, List.nil_append, List.cons_append, and_self, and_true, true_and, if_true, if_false, ite_true, ite_false, reduceIte, Option.bind_some, Option.map_some, decide_true, decide_false, Bool.not_true, Bool.not_false, Bool.false_eq_true, Option.some.injEq, Nat.reduceLT, Nat.reduceAdd, Nat.zero_add, Nat.add_one_lt_add_one_iff, Nat.lt_add_left_iff_pos, Nat.lt_add_one, Nat.zero_lt_succ, Int.reduceLT, Int.reduceLE, Int.reduceNeg, Int.reducePow, Int.reduceToNat, Int.reduceMul, Int.reduceSub,  Int.reduceAdd, forall_const, ne_eq, not_true_eq_false, not_false_eq_true, W.i10, W.i3]
    refine (W.oby Ls hL nm kk hk).mono ?_
    rintro _ rfl
    simp -implicitDefEqProofs only [wipe, restore, List.foldl_cons, List.foldl_nil, List.getD_cons_zero, List.getD_cons_succ, lpI_nx, lpI_ct, lpI_bk, lpI_rt, shaped_int, shaped_bl, shaped_non, deq_ii, deq_bb, Bool.and_self, Bool.and_true, Bool.true_and, Int.cast_ofNat_Int, Nat.reducePow, Nat.reduceLeDiff, Int.zero_add, Int.add_zero, aft_nx, aft_rt, aft_bk, aft_ct, af_nx, af_rt, af_bk, af_ct, decide_eq_true_eq, eval, evals, evalsT, evalsA, evalO, evalC, evalI, dictI, test, op_bind, op_map, op_some, op_none, op_ite, if_false_right, pk, take, pks, binop, cmpop, truth, setIx, rangeOf, big, revOf, store, put, puts, putG, setOwn, ownOf, lstAt, bltF, lenF, lenOf, intF, absF, gcdF, isiF, isTy, listF, tupleF, dictF, mutF, appendF, isBw_0, isBw_s, nb_sh, nb_ow, nb_un, nb_bw, settle, storesR, bindA, back, lent, List.getElem?_cons_zero, List.getElem?_cons_succ, List.set_cons_zero, List.set_cons_succ, List.length_cons, List.length_nil, List.map_cons, List.map_nil, List.append_nil, List.nil_append, List.cons_append, and_self, and_true, true_and, if_true, if_false, ite_true, ite_false, reduceIte, Option.bind_some, Option.map_some, decide_true, decide_false, Bool.not_true, Bool.not_false, Bool.false_eq_true, Option.some.injEq, Nat.reduceLT, Nat.reduceAdd, Nat.zero_add, Nat.add_one_lt_add_one_iff, Nat.lt_add_left_iff_pos, Nat.lt_add_one, Nat.zero_lt_succ, Int.reduceLT, Int.reduceLE, Int.reduceNeg, Int.reducePow, Int.reduceToNat, Int.reduceMul, Int.reduceSub,  Int.reduceAdd, forall_const, ne_eq, not_true_eq_false, not_false_eq_true, n8]
    refine (lc_pure (fnD Ls nm kk) _ (fun y hy => ?_)).mono ?_
    · obtain ⟨x, hx, rfl⟩ := List.mem_map.mp hy
      have g := hget x hx
      have hk1 := hkey x hx
      have hi1 := hin (lk nm kk x)
      by_cases z : opn Ls (lk nm kk x) = true
      · simp -implicitDefEqProofs only [wipe, restore, List.foldl_cons, List.foldl_nil, List.getD_cons_zero, List.getD_cons_succ, lpI_nx, lpI_ct, lpI_bk, lpI_rt, shaped_int, shaped_bl, shaped_non, deq_ii, deq_bb, Bool.and_self, Bool.and_true, Bool.true_and, Int.cast_ofNat_Int, Nat.reducePow, Nat.reduceLeDiff, Int.zero_add, Int.add_zero, aft_nx, aft_rt, aft_bk, aft_ct, af_nx, af_rt, af_bk, af_ct, decide_eq_true_eq, eval, evals, evalsT, evalsA, evalO, evalC, evalI, dictI, test, op_bind, op_map, op_some, op_none, op_ite, if_false_right, pk, take, pks, binop, cmpop, truth, setIx, rangeOf, big, revOf, store, put, puts, putG, setOwn, ownOf, lstAt, bltF, lenF, lenOf, intF, absF, gcdF, isiF, isTy, listF, tupleF, dictF, mutF, appendF, isBw_0, isBw_s, nb_sh, nb_ow, nb_un, nb_bw, settle, storesR, bindA, back, lent, List.getElem?_cons_zero, List.getElem?_cons_succ, List.set_cons_zero, List.set_cons_succ, List.length_cons, List.length_nil, List.map_cons, List.map_nil, List.append_nil, List.nil_append, List.cons_append, and_self, and_true, true_and, if_true, if_false, ite_true, ite_false, reduceIte, Option.bind_some, Option.map_some, decide_true, decide_false, Bool.not_true, Bool.not_false, Bool.false_eq_true, Option.some.injEq, Nat.reduceLT, Nat.reduceAdd, Nat.zero_add, Nat.add_one_lt_add_one_iff, Nat.lt_add_left_iff_pos, Nat.lt_add_one, Nat.zero_lt_succ, Int.reduceLT, Int.reduceLE, Int.reduceNeg, Int.reducePow, Int.reduceToNat, Int.reduceMul, Int.reduceSub,  Int.reduceAdd, forall_const, ne_eq, not_true_eq_false, not_false_eq_true, g, hk1, hsh, hi1, z, fnD]
      · rw [Bool.not_eq_true] at z
        simp -implicitDefEqProofs only [wipe, restore, List.foldl_cons, List.foldl_nil, List.getD_cons_zero, List.getD_cons_succ, lpI_nx, lpI_ct, lpI_bk, lpI_rt, shaped_int, shaped_bl, shaped_non, deq_ii, deq_bb, Bool.and_self, Bool.and_true, Bool.true_and, Int.cast_ofNat_Int, Nat.reducePow, Nat.reduceLeDiff, Int.zero_add, Int.add_zero, aft_nx, aft_rt, aft_bk, aft_ct, af_nx, af_rt, af_bk, af_ct, decide_eq_true_eq, eval, evals, evalsT, evalsA, evalO, evalC, evalI, dictI, test, op_bind, op_map, op_some, op_none, op_ite, if_false_right, pk, take, pks, binop, cmpop, truth, setIx, rangeOf, big, revOf, store, put, puts, putG, setOwn, ownOf, lstAt, bltF, lenF, lenOf, intF, absF, gcdF, isiF, isTy, listF, tupleF, dictF, mutF, appendF, isBw_0, isBw_s, nb_sh, nb_ow, nb_un, nb_bw, settle, storesR, bindA, back, lent, List.getElem?_cons_zero, List.getElem?_cons_succ, List.set_cons_zero, List.set_cons_succ, List.length_cons, List.length_nil, List.map_cons, List.map_nil, List.append_nil, List.nil_append, List.cons_append, and_self, and_true, true_and, if_true, if_false, ite_true, ite_false, reduceIte, Option.bind_some, Option.map_some, decide_true, decide_false, Bool.not_true, Bool.not_false, Bool.false_eq_true, Option.some.injEq, Nat.reduceLT, Nat.reduceAdd, Nat.zero_add, Nat.add_one_lt_add_one_iff, Nat.lt_add_left_iff_pos, Nat.lt_add_one, Nat.zero_lt_succ, Int.reduceLT, Int.reduceLE, Int.reduceNeg, Int.reducePow, Int.reduceToNat, Int.reduceMul, Int.reduceSub,  Int.reduceAdd, forall_const, ne_eq, not_true_eq_false, not_false_eq_true, g, hk1, hsh, hi1, z, fnD]
    rintro _ rfl
    rw [fm_fnD, show (nm.filter fun x => opn Ls (lk nm kk x)) = FN Ls nm kk from rfl]
    simp -implicitDefEqProofs only [wipe, restore, List.foldl_cons, List.foldl_nil, List.getD_cons_zero, List.getD_cons_succ, lpI_nx, lpI_ct, lpI_bk, lpI_rt, shaped_int, shaped_bl, shaped_non, deq_ii, deq_bb, Bool.and_self, Bool.and_true, Bool.true_and, Int.cast_ofNat_Int, Nat.reducePow, Nat.reduceLeDiff, Int.zero_add, Int.add_zero, aft_nx, aft_rt, aft_bk, aft_ct, af_nx, af_rt, af_bk, af_ct, decide_eq_true_eq, eval, evals, evalsT, evalsA, evalO, evalC, evalI, dictI, test, op_bind, op_map, op_some, op_none, op_ite, if_false_right, pk, take, pks, binop, cmpop, truth, setIx, rangeOf, big, revOf, store, put, puts, putG, setOwn, ownOf, lstAt, bltF, lenF, lenOf, intF, absF, gcdF, isiF, isTy, listF, tupleF, dictF, mutF, appendF, isBw_0, isBw_s, nb_sh, nb_ow, nb_un, nb_bw, settle, storesR, bindA, back, lent, List.getElem?_cons_zero, List.getElem?_cons_succ, List.set_cons_zero, List.set_cons_succ, List.length_cons, List.length_nil, List.map_cons, List.map_nil, List.append_nil, List.nil_append, List.cons_append, and_self, and_true, true_and, if_true, if_false, ite_true, ite_false, reduceIte, Option.bind_some, Option.map_some, decide_true, decide_false, Bool.not_true, Bool.not_false, Bool.false_eq_true, Option.some.injEq, Nat.reduceLT, Nat.reduceAdd, Nat.zero_add, Nat.add_one_lt_add_one_iff, Nat.lt_add_left_iff_pos, Nat.lt_add_one, Nat.zero_lt_succ, Int.reduceLT, Int.reduceLE, Int.reduceNeg, Int.reducePow, Int.reduceToNat, Int.reduceMul, Int.reduceSub,  Int.reduceAdd, forall_const, ne_eq, not_true_eq_false, not_false_eq_true, List.length_map, hsl, hso, W.i10]
    refine ⟨by omega, (W.same _ (FN_pl hk)).mono ?_⟩
    rintro _ rfl
    simp -implicitDefEqProofs only [wipe, restore, List.foldl_cons, List.foldl_nil, List.getD_cons_zero, List.getD_cons_succ, lpI_nx, lpI_ct, lpI_bk, lpI_rt, shaped_int, shaped_bl, shaped_non, deq_ii, deq_bb, Bool.and_self, Bool.and_true, Bool.true_and, Int.cast_ofNat_Int, Nat.reducePow, Nat.reduceLeDiff, Int.zero_add, Int.add_zero, aft_nx, aft_rt, aft_bk, aft_ct, af_nx, af_rt, af_bk, af_ct, decide_eq_true_eq, eval, evals, evalsT, evalsA, evalO, evalC, evalI, dictI, test, op_bind, op_map, op_some, op_none, op_ite, if_false_right, pk, take, pks, binop, cmpop, truth, setIx, rangeOf, big, revOf, store, put, puts, putG, setOwn, ownOf, lstAt, bltF, lenF, lenOf, intF, absF, gcdF, isiF, isTy, listF, tupleF, dictF, mutF, appendF, isBw_0, isBw_s, nb_sh, nb_ow, nb_un, nb_bw, settle, storesR, bindA, back, lent, List.getElem?_cons_zero, List.getElem?_cons_succ, List.set_cons_zero, List.set_cons_succ, List.length_cons, List.length_nil, List.map_cons, List.map_nil, List.append_nil, List.nil_append, List.cons_append, and_self, and_true, true_and, if_true, if_false, ite_true, ite_false, reduceIte, Option.bind_some, Option.map_some, decide_true, decide_false, Bool.not_true, Bool.not_false, Bool.false_eq_true, Option.some.injEq, Nat.reduceLT, Nat.reduceAdd, Nat.zero_add, Nat.add_one_lt_add_one_iff, Nat.lt_add_left_iff_pos, Nat.lt_add_one, Nat.zero_lt_succ, Int.reduceLT, Int.reduceLE, Int.reduceNeg, Int.reducePow, Int.reduceToNat, Int.reduceMul, Int.reduceSub,  Int.reduceAdd, forall_const, ne_eq, not_true_eq_false, not_false_eq_true]
  rw [wp_nil, aft_nx, wp_nil]
  exact hQ _ _ _ _ _ _ _ _ _ rfl rfl rfl rfl rfl n8
theorem law_ok {cf : Cf} (W : Lw cf) (ns : List Int) : Op (runFn cf f_law [.sh (.scr ns)]) fun r => r = (.v (.bl true), none) := by
  have htn := fun a b0 c t s3 s4 s5 s6 s7 s8 => turn_ok W ns a b0 c t s3 s4 s5 s6 s7 s8
  rw [wp_run rfl rfl]
  show Wp cf f_law.body [.sh (.scr ns), .un, .un, .un, .un, .un, .un, .un, .un, .un] _
  unfold f_law at htn ⊢
  simp only [dr, hd, bd] at htn
  rw [wp_set]
  simp -implicitDefEqProofs only [wipe, restore, List.foldl_cons, List.foldl_nil, List.getD_cons_zero, List.getD_cons_succ, lpI_nx, lpI_ct, lpI_bk, lpI_rt, shaped_int, shaped_bl, shaped_non, deq_ii, deq_bb, Bool.and_self, Bool.and_true, Bool.true_and, Int.cast_ofNat_Int, Nat.reducePow, Nat.reduceLeDiff, Int.zero_add, Int.add_zero, aft_nx, aft_rt, aft_bk, aft_ct, af_nx, af_rt, af_bk, af_ct, decide_eq_true_eq, eval, evals, evalsT, evalsA, evalO, evalC, evalI, dictI, test, op_bind, op_map, op_some, op_none, op_ite, if_false_right, pk, take, pks, binop, cmpop, truth, setIx, rangeOf, big, revOf, store, put, puts, putG, setOwn, ownOf, lstAt, bltF, lenF, lenOf, intF, absF, gcdF, isiF, isTy, listF, tupleF, dictF, mutF, appendF, isBw_0, isBw_s, nb_sh, nb_ow, nb_un, nb_bw, settle, storesR, bindA, back, lent, List.getElem?_cons_zero, List.getElem?_cons_succ, List.set_cons_zero, List.set_cons_succ, List.length_cons, List.length_nil, List.map_cons, List.map_nil, List.append_nil, List.nil_append, List.cons_append, and_self, and_true, true_and, if_true, if_false, ite_true, ite_false, reduceIte, Option.bind_some, Option.map_some, decide_true, decide_false, Bool.not_true, Bool.not_false, Bool.false_eq_true, Option.some.injEq, Nat.reduceLT, Nat.reduceAdd, Nat.zero_add, Nat.add_one_lt_add_one_iff, Nat.lt_add_left_iff_pos, Nat.lt_add_one, Nat.zero_lt_succ, Int.reduceLT, Int.reduceLE, Int.reduceNeg, Int.reducePow, Int.reduceToNat, Int.reduceMul, Int.reduceSub,  Int.reduceAdd, forall_const, ne_eq, not_true_eq_false, not_false_eq_true, W.p.io]
  refine (W.p.ok ns).mono ?_
  rintro _ ⟨b0, rfl⟩
  simp -implicitDefEqProofs only [wipe, restore, List.foldl_cons, List.foldl_nil, List.getD_cons_zero, List.getD_cons_succ, lpI_nx, lpI_ct, lpI_bk, lpI_rt, shaped_int, shaped_bl, shaped_non, deq_ii, deq_bb, Bool.and_self, Bool.and_true, Bool.true_and, Int.cast_ofNat_Int, Nat.reducePow, Nat.reduceLeDiff, Int.zero_add, Int.add_zero, aft_nx, aft_rt, aft_bk, aft_ct, af_nx, af_rt, af_bk, af_ct, decide_eq_true_eq, eval, evals, evalsT, evalsA, evalO, evalC, evalI, dictI, test, op_bind, op_map, op_some, op_none, op_ite, if_false_right, pk, take, pks, binop, cmpop, truth, setIx, rangeOf, big, revOf, store, put, puts, putG, setOwn, ownOf, lstAt, bltF, lenF, lenOf, intF, absF, gcdF, isiF, isTy, listF, tupleF, dictF, mutF, appendF, isBw_0, isBw_s, nb_sh, nb_ow, nb_un, nb_bw, settle, storesR, bindA, back, lent, List.getElem?_cons_zero, List.getElem?_cons_succ, List.set_cons_zero, List.set_cons_succ, List.length_cons, List.length_nil, List.map_cons, List.map_nil, List.append_nil, List.nil_append, List.cons_append, and_self, and_true, true_and, if_true, if_false, ite_true, ite_false, reduceIte, Option.bind_some, Option.map_some, decide_true, decide_false, Bool.not_true, Bool.not_false, Bool.false_eq_true, Option.some.injEq, Nat.reduceLT, Nat.reduceAdd, Nat.zero_add, Nat.add_one_lt_add_one_iff, Nat.lt_add_left_iff_pos, Nat.lt_add_one, Nat.zero_lt_succ, Int.reduceLT, Int.reduceLE, Int.reduceNeg, Int.reducePow, Int.reduceToNat, Int.reduceMul, Int.reduceSub,  Int.reduceAdd, forall_const, ne_eq, not_true_eq_false, not_false_eq_true]
  rw [wp_for]
  have hr3 : rangeOf [.int 3] = some ((List.range 3).map fun (k : Nat) => D.int k) := range_nat (n := 3) (by omega)
  simp -implicitDefEqProofs only [wipe, restore, List.foldl_cons, List.foldl_nil, List.getD_cons_zero, List.getD_cons_succ, lpI_nx, lpI_ct, lpI_bk, lpI_rt, shaped_int, shaped_bl, shaped_non, deq_ii, deq_bb, Bool.and_self, Bool.and_true, Bool.true_and, Int.cast_ofNat_Int, Nat.reducePow, Nat.reduceLeDiff, Int.zero_add, Int.add_zero, aft_nx, aft_rt, aft_bk, aft_ct, af_nx, af_rt, af_bk, af_ct, decide_eq_true_eq, eval, evals, evalsT, evalsA, evalO, evalC, evalI, dictI, test, op_bind, op_map, op_some, op_none, op_ite, if_false_right, pk, take, pks, binop, cmpop, truth, setIx, revOf, store, put, puts, putG, setOwn, ownOf, lstAt, bltF, lenF, lenOf, intF, absF, gcdF, isiF, isTy, listF, tupleF, dictF, mutF, appendF, isBw_0, isBw_s, nb_sh, nb_ow, nb_un, nb_bw, settle, storesR, bindA, back, lent, List.getElem?_cons_zero, List.getElem?_cons_succ, List.set_cons_zero, List.set_cons_succ, List.length_cons, List.length_nil, List.map_cons, List.map_nil, List.append_nil, List.nil_append, List.cons_append, and_self, and_true, true_and, if_true, if_false, ite_true, ite_false, reduceIte, Option.bind_some, Option.map_some, decide_true, decide_false, Bool.not_true, Bool.not_false, Bool.false_eq_true, Option.some.injEq, Nat.reduceLT, Nat.reduceAdd, Nat.zero_add, Nat.add_one_lt_add_one_iff, Nat.lt_add_left_iff_pos, Nat.lt_add_one, Nat.zero_lt_succ, Int.reduceLT, Int.reduceLE, Int.reduceNeg, Int.reducePow, Int.reduceToNat, Int.reduceMul, Int.reduceSub,  Int.reduceAdd, forall_const, ne_eq, not_true_eq_false, not_false_eq_true, hr3]
  refine lp_idx (fun i e => ∃ a b0 c s2 s3 s4 s5 s6 s7 s8, e = [.sh (.scr ns), .ow (pool ns a b0 c), s2, s3, s4, s5, s6, s7, s8, .un] ∧ nb s2 = true ∧ nb s3 = true ∧ nb s4 = true ∧ nb s5 = true ∧ nb s6 = true ∧ nb s7 = true ∧ nb s8 = true) ?_ ?_ _ ⟨_, _, _, .un, .un, .un, .un, .un, .un, .un, rfl, rfl, rfl, rfl, rfl, rfl, rfl, rfl⟩
  · rintro i hi e ⟨a, b0, c, s2, s3, s4, s5, s6, s7, s8, rfl, n2, n3, n4, n5, n6, n7, n8⟩
    simp -implicitDefEqProofs only [wipe, restore, List.foldl_cons, List.foldl_nil, List.getD_cons_zero, List.getD_cons_succ, lpI_nx, lpI_ct, lpI_bk, lpI_rt, shaped_int, shaped_bl, shaped_non, deq_ii, deq_bb, Bool.and_self, Bool.and_true, Bool.true_and, Int.cast_ofNat_Int, Nat.reducePow, Nat.reduceLeDiff, Int.zero_add, Int.add_zero, aft_nx, aft_rt, aft_bk, aft_ct, af_nx, af_rt, af_bk, af_ct, decide_eq_true_eq, eval, evals, evalsT, evalsA, evalO, evalC, evalI, dictI, test, op_bind, op_map, op_some, op_none, op_ite, if_false_right, pk, take, pks, binop, cmpop, truth, setIx, rangeOf, big, revOf, store, put, puts, putG, setOwn, ownOf, lstAt, bltF, lenF, lenOf, intF, absF, gcdF, isiF, isTy, listF, tupleF, dictF, mutF, appendF, isBw_0, isBw_s, nb_sh, nb_ow, nb_un, nb_bw, settle, storesR, bindA, back, lent, List.getElem?_cons_zero, List.getElem?_cons_succ, List.set_cons_zero, List.set_cons_succ, List.length_cons, List.length_nil, List.map_cons, List.map_nil, List.append_nil, List.nil_append, List.cons_append, and_self, and_true, true_and, if_true, if_false, ite_true, ite_false, reduceIte, Option.bind_some, Option.map_some, decide_true, decide_false, Bool.not_true, Bool.not_false, Bool.false_eq_true, Option.some.injEq, Nat.reduceLT, Nat.reduceAdd, Nat.zero_add, Nat.add_one_lt_add_one_iff, Nat.lt_add_left_iff_pos, Nat.lt_add_one, Nat.zero_lt_succ, Int.reduceLT, Int.reduceLE, Int.reduceNeg, Int.reducePow, Int.reduceToNat, Int.reduceMul, Int.reduceSub,  Int.reduceAdd, forall_const, ne_eq, not_true_eq_false, not_false_eq_true, n2]
    exact htn a b0 c _ s3 s4 s5 s6 s7 s8 n3 n4 n5 n6 n7 n8 _ fun a b0 c s3 s4 s5 s6 s7 s8 n3 n4 n5 n6 n7 n8 => ⟨a, b0, c, _, s3, s4, s5, s6, s7, s8, rfl, rfl, n3, n4, n5, n6, n7, n8⟩
  · rintro e ⟨a, b0, c, s2, s3, s4, s5, s6, s7, s8, rfl, _⟩
    rw [aft_nx, wp_ret]
    simp -implicitDefEqProofs only [wipe, restore, List.foldl_cons, List.foldl_nil, List.getD_cons_zero, List.getD_cons_succ, lpI_nx, lpI_ct, lpI_bk, lpI_rt, shaped_int, shaped_bl, shaped_non, deq_ii, deq_bb, Bool.and_self, Bool.and_true, Bool.true_and, Int.cast_ofNat_Int, Nat.reducePow, Nat.reduceLeDiff, Int.zero_add, Int.add_zero, aft_nx, aft_rt, aft_bk, aft_ct, af_nx, af_rt, af_bk, af_ct, decide_eq_true_eq, eval, evals, evalsT, evalsA, evalO, evalC, evalI, dictI, test, op_bind, op_map, op_some, op_none, op_ite, if_false_right, pk, take, pks, binop, cmpop, truth, setIx, rangeOf, big, revOf, store, put, puts, putG, setOwn, ownOf, lstAt, bltF, lenF, lenOf, intF, absF, gcdF, isiF, isTy, listF, tupleF, dictF, mutF, appendF, isBw_0, isBw_s, nb_sh, nb_ow, nb_un, nb_bw, settle, storesR, bindA, back, lent, List.getElem?_cons_zero, List.getElem?_cons_succ, List.set_cons_zero, List.set_cons_succ, List.length_cons, List.length_nil, List.map_cons, List.map_nil, List.append_nil, List.nil_append, List.cons_append, and_self, and_true, true_and, if_true, if_false, ite_true, ite_false, reduceIte, Option.bind_some, Option.map_some, decide_true, decide_false, Bool.not_true, Bool.not_false, Bool.false_eq_true, Option.some.injEq, Nat.reduceLT, Nat.reduceAdd, Nat.zero_add, Nat.add_one_lt_add_one_iff, Nat.lt_add_left_iff_pos, Nat.lt_add_one, Nat.zero_lt_succ, Int.reduceLT, Int.reduceLE, Int.reduceNeg, Int.reducePow, Int.reduceToNat, Int.reduceMul, Int.reduceSub,  Int.reduceAdd, forall_const, ne_eq, not_true_eq_false, not_false_eq_true, outF, outR, outIo, wipe, restore, List.foldl_cons, List.foldl_nil, List.getD_cons_zero, List.getD_cons_succ, lpI_nx, lpI_ct, lpI_bk, lpI_rt, shaped_int, shaped_bl, shaped_non, deq_ii, deq_bb, Bool.and_self, Bool.and_true, Bool.true_and, Int.cast_ofNat_Int, Nat.reducePow, Nat.reduceLeDiff, Int.zero_add, Int.add_zero, aft_nx, aft_rt, aft_bk, aft_ct, af_nx, af_rt, af_bk, af_ct, decide_eq_true_eq, eval, evals, evalsT, evalsA, evalO, evalC, evalI, dictI, test, op_bind, op_map, op_some, op_none, op_ite, if_false_right, pk, take, pks, binop, cmpop, truth, setIx, rangeOf, big, revOf, store, put, puts, putG, setOwn, ownOf, lstAt, bltF, lenF, lenOf, intF, absF, gcdF, isiF, isTy, listF, tupleF, dictF, mutF, appendF, isBw_0, isBw_s, nb_sh, nb_ow, nb_un, nb_bw, settle, storesR, bindA, back, lent, List.getElem?_cons_zero, List.getElem?_cons_succ, List.set_cons_zero, List.set_cons_succ, List.length_cons, List.length_nil, List.map_cons, List.map_nil, List.append_nil, List.nil_append, List.cons_append, and_self, and_true, true_and, if_true, if_false, ite_true, ite_false, reduceIte, Option.bind_some, Option.map_some, decide_true, decide_false, Bool.not_true, Bool.not_false, Bool.false_eq_true, Option.some.injEq, Nat.reduceLT, Nat.reduceAdd, Nat.zero_add, Nat.add_one_lt_add_one_iff, Nat.lt_add_left_iff_pos, Nat.lt_add_one, Nat.zero_lt_succ, Int.reduceLT, Int.reduceLE, Int.reduceNeg, Int.reducePow, Int.reduceToNat, Int.reduceMul, Int.reduceSub,  Int.reduceAdd, forall_const, ne_eq, not_true_eq_false, not_false_eq_true]
def FL : Nat := 1000
theorem h_law (ns : List Int) (hn : ns.length ≤ 63) : ∃ o, callN fns FL 50 15 [.sh (.scr ns)] = some (.v (.bl true), o) := by
  have at_ : ∀ {i : Nat} {fn : Fn} {args : List Sl} {k : Nat} {Q : Rv × Option D → Prop}, fns[i]? = some fn → Op (runFn ⟨callN fns FL k, ioOf fns, FL⟩ fn args) Q → Op (Cf.C ⟨callN fns FL (k + 1), ioOf fns, FL⟩ i args) Q := fun {i fn args k Q} h q => by
    show Op (callN fns FL (k + 1) i args) Q
    rw [callN_at h]; exact q
  have Opn : ∀ k (Ls : List (List Int)) (ks : List Int), Ls.length = ks.length → ks.length ≤ 1000 → Op (Cf.C ⟨callN fns FL (k + 1), ioOf fns, FL⟩ 0 [.sh (lockD Ls), .sh (tI ks)]) fun r => r = (.v (.bl (opn Ls ks)), none) := fun k Ls ks h h2 => at_ (k := k) rfl (opens_ok Ls ks h h2)
  have W : Lw ⟨callN fns FL 49, ioOf fns, FL⟩ := {
    p := ht_pool (m := 4) (r := 5) rfl rfl rfl 46
    n := ht_next (m := 4) (r := 5) rfl rfl rfl 46
    d := ht_draw (m := 4) (r := 5) rfl rfl rfl 46
    pk := ht_pick (m := 4) (r := 5) (d := 8) rfl rfl rfl rfl 45
    i0 := rfl, i1 := rfl, i2 := rfl, i3 := rfl, i9 := rfl, i10 := rfl, i11 := rfl, i13 := rfl
    opens := Opn 48
    pins := fun Ls h => at_ (k := 48) rfl (pins_ok Ls h)
    okeys := fun Ls h => at_ (k := 48) rfl (okeys_ok Ls h)
    oby := fun Ls h ns kk hk => at_ (k := 48) rfl (oby_ok rfl (Opn 47) Ls h ns kk hk)
    lock := fun ns a b0 c n b h1 h2 h3 => at_ (k := 48) rfl (lock_ok (ht_draw (m := 4) (r := 5) rfl rfl rfl 45) ns a b0 c n b h1 h2 h3)
    same := fun d h => by
      show Op (callN fns FL (45 + 3 + 1) 10 [.sh d, .sh d]) IsTrue
      exact sameC_ok (fns := fns) (F := FL) (s := 10) rfl 3 45 d h
    lkeys := fun Ls h => at_ (k := 48) rfl (lkeys_ok Ls h)
    keys := fun ns a b0 c n b h1 h2 h3 => at_ (k := 48) rfl (keys_ok (ht_draw (m := 4) (r := 5) rfl rfl rfl 45) rfl (fun ns a b0 c n b h1 h2 h3 => at_ (k := 47) rfl (key_ok (ht_draw (m := 4) (r := 5) rfl rfl rfl 44) ns a b0 c n b h1 h2 h3)) ns a b0 c n b h1 h2 h3) }
  obtain ⟨r, h1, h2⟩ := at_ (k := 49) (i := 15) rfl (law_ok W ns)
  refine ⟨r.2, ?_⟩
  subst h2
  exact h1

section
open PySem PySem.Spec PyProof.Rows L2
theorem hS : ∀ d ∈ dfs, FnScope d.N d.ps (defScope d.st) := by
  intro d hd; simp only [dfs, List.mem_cons, List.mem_nil_iff, or_false] at hd
  rcases hd with rfl | rfl | rfl | rfl | rfl | rfl | rfl | rfl | rfl | rfl | rfl | rfl | rfl | rfl | rfl | rfl <;> exact ⟨rfl, rfl, rfl, by decide +kernel, rfl, by decide +kernel, by decide +kernel⟩
theorem hB : ∀ d ∈ dfs, ∀ (kV doc pm : Value) (an : Option Addr) (cdv ct : Value) (us : List Value), us.length = d.ps.length → bindArgs (PySem.W.fnOf d.x d.x (defArgs d.st) (defBody d.st) (defScope d.st) .none kV doc pm an cdv ct) ⟨us, []⟩ = pure (d.ps.zip us) := by
  intro d hd; simp only [dfs, List.mem_cons, List.mem_nil_iff, or_false] at hd
  rcases hd with rfl | rfl | rfl | rfl | rfl | rfl | rfl | rfl | rfl | rfl | rfl | rfl | rfl | rfl | rfl | rfl
  · exact fun _ _ _ _ _ _ us hl => match us, hl with | [_, _], _ => rfl
  · exact fun _ _ _ _ _ _ us hl => match us, hl with | [_], _ => rfl
  · exact fun _ _ _ _ _ _ us hl => match us, hl with | [_], _ => rfl
  · exact fun _ _ _ _ _ _ us hl => match us, hl with | [_, _], _ => rfl
  · exact fun _ _ _ _ _ _ us hl => match us, hl with | [_, _], _ => rfl
  · exact fun _ _ _ _ _ _ us hl => match us, hl with | [_, _, _], _ => rfl
  · exact fun _ _ _ _ _ _ us hl => match us, hl with | [_], _ => rfl
  · exact fun _ _ _ _ _ _ us hl => match us, hl with | [_], _ => rfl
  · exact fun _ _ _ _ _ _ us hl => match us, hl with | [_, _], _ => rfl
  · exact fun _ _ _ _ _ _ us hl => match us, hl with | [_, _, _], _ => rfl
  · exact fun _ _ _ _ _ _ us hl => match us, hl with | [_, _], _ => rfl
  · exact fun _ _ _ _ _ _ us hl => match us, hl with | [_], _ => rfl
  · exact fun _ _ _ _ _ _ us hl => match us, hl with | [_, _, _], _ => rfl
  · exact fun _ _ _ _ _ _ us hl => match us, hl with | [_, _, _, _], _ => rfl
  · exact fun _ _ _ _ _ _ us hl => match us, hl with | [_, _], _ => rfl
  · exact fun _ _ _ _ _ _ us hl => match us, hl with | [_], _ => rfl
theorem hf : fns = dfs.map (compFn tab 90) := by kernel_rfl
theorem tx : Tx tab 90 dfs fns := ⟨by kernel_rfl, hf, hS, hB⟩
def loose : List Str := (["opens", "pins", "opening_keys", "opened_by", "_law_mixed", "_law_rest", "_law_pool", "_law_next", "_law_draw", "_law_lock", "_law_same", "_law_all_keys", "_law_key", "_law_keys", "_law_pick"] : List Str)
abbrev R : PySem.W.OpenRow := PySem.W.OpenLaw.row PySem.Challenge.rw_lockwork_k31_locks_and_their_keys
theorem run (w : World) : HandSHeadRun.RunEq R (PySem.W.view R.prog [17]) (hkOf tab dfs) (obOf tab dfs) 4000 loose w := by
  intro os
  kernel_rfl
end
end K31
open PySem PySem.W PySem.Calls PyProof.Rows
theorem PySem.Challenge.cw_lockwork_k31_locks_and_their_keys_holds : PySem.Challenge.rw_lockwork_k31_locks_and_their_keys.Holds := by
  w_on; o_law
  refine HandSHeadRun.head_any (r := OpenLaw.row PySem.Challenge.rw_lockwork_k31_locks_and_their_keys) (q := view (OpenLaw.row PySem.Challenge.rw_lockwork_k31_locks_and_their_keys).prog [17]) (H := Mi.hkOf K31.tab K31.dfs) (ob := Mi.obOf K31.tab K31.dfs) (M := 4000) (loose := K31.loose) (d := (HandSHeadRun.topDef (OpenLaw.row PySem.Challenge.rw_lockwork_k31_locks_and_their_keys).prog 17)) (kwd := []) (Mi.obOf_eq _ _) (by kernel_rfl) (fun s => by kernel_rfl) K31.run (by kernel_rfl) (by kernel_rfl) (by kernel_rfl) (by rfl) (by first | assumption | decide +kernel) (by decide +kernel) ⟨rfl, rfl, rfl, rfl, rfl, by decide +kernel⟩ ?hw ?hc
  case hw => w_witness2
  case hc => exact Mi.law_walk (n := 90) (F := K31.FL) (k := 50) (i := 15) (dl := K31.d_law) K31.tx rfl rfl (by kernel_rfl) rfl (by kernel_rfl) ⟨rfl, by decide, by decide⟩ K31.h_law
