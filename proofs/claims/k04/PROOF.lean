import PyProof.Rows.All
import Wide.All
import OpenK.AllK
import Wide.FinOn
import HandS.ForMost
import HandS.ForExc
import HandS.IsInst
import HandS.Flow
import HandS.Style
import HandS.Conv
import HandS.Zip
import HandS.TupAny
import HandS.TupLe
import HandS.SortInts
import HandS.Wide
import HandS.TupSets
import KE.DataEq
import HandS.Strs
import HandS.Deep
import HandS.CallSlots
import HandS.CallLocal
import HandS.Gcd
import HandS.Defaults
import KE.KStateDown
import HandS.Ends
import HandS.More
import HandS.Head0
import HandS.Head1
import HandS.Head2
import HandS.HeadEnd
import HandS.HeadHook1
import HandS.HeadHook2
import Lean
import PySem.Challenge.RW_bidboards_k04_whole_rings_and_orders
set_option Elab.async false
set_option linter.all false
set_option maxRecDepth 100000
set_option maxHeartbeats 0
namespace Cr
open PySem L2
inductive D where
  | non | bl (b : Bool) | int (i : Int) | str (x : Str)
  | tup (xs : List D) | lst (xs : List D) | rol (xs : List D)
  | dct (kvs : List (Key × D))
  | fn (f : Nat)
  deriving Inhabited
mutual
def D.py : D → PyData
  | .non => .none | .bl b => .bool b | .int i => .int i | .str x => .str x
  | .tup xs => .tuple (D.pys xs) | .lst xs => .list (D.pys xs)
  | .dct _ => .dict [] | .fn _ => .dict [] | .rol _ => .dict []
def D.pys : List D → List PyData
  | [] => [] | x :: xs => x.py :: D.pys xs
end
/-- a slot of a frame: not bound; a value that never changes; a list of the frame's own (b: borrowed of the caller) -/
inductive Sl where
  | non | val (d : D) | own (xs : List D) (b : Bool)
  deriving Inhabited
abbrev Env := List Sl
/-- an expression's result -/
inductive R where
  | val (d : D) | fresh (xs : List D)
def R.toD : R → D
  | .val d => d
  | .fresh xs => .lst xs
inductive Res (α β : Type) where
  | ok (a : α) | exc (c : Nat) (f : Option D) (b : β) | stuck
def Res.bd {α β γ : Type} (x : Res α β) (k : α → Res γ β) : Res γ β := match x with
  | .ok a => k a
  | .exc c f b => .exc c f b
  | .stuck => .stuck
inductive Arg where
  | val (d : D) | mut (xs : List D)
abbrev CallF := Nat → List Arg → Res (R × List Arg) (List Arg)
inductive Opd where
  | val (d : D) | slot (i : Nat) | tmp (xs : List D)
/-- what an operand is when all operands are known -/
def resO (ρ : Env) : Opd → Option D
  | .val d => some d
  | .slot i => match ρ[i]? with
    | some (.val d) => some d
    | some (.own xs _) => some (.lst xs)
    | _ => none
  | .tmp _ => none
def resOs (ρ : Env) : List Opd → Option (List D)
  | [] => some []
  | o :: os => match resO ρ o, resOs ρ os with
    | some d, some ds => some (d :: ds)
    | _, _ => none
inductive Bi where
  | len | tuple | list | all | any | abs | int | str | isi (ty : String)
  | lrange1 | lrange2 | trange1 | sorted | sortedSet | lenSet | sum | max | min | divmod | max2 | min2 | gcd | set
  deriving DecidableEq
inductive Mo where
  | append | pop | popAt | extend
  deriving DecidableEq
inductive Md where
  | index | count
  deriving DecidableEq
inductive T where
  | name (i : Nat) | tup (is : List T) | sub (o : Nat) (k : Int)
mutual
inductive E where
  | var (i : Nat) | cst (d : D) | glo (x : Str) (d : D) | gfn (f : Nat)
  | and (a b : E) | or (a b : E) | not (a : E) | ife (c a b : E)
  | cmp (op : CmpOp) (a b : E) | chn (o1 o2 : CmpOp) (a b c : E)
  | bin (op : Operator) (a b : E) | neg (a : E)
  | tup (es : Es) | lst (es : Es)
  | idx (a i : E) | slc (a lo hi : E) | rev (a : E)
  | call (f : Nat) (es : Es)
  | callk (f : Nat) (es : Es) (pm : List Nat)
  | bi (b : Bi) (es : Es)
  | mo (m : Mo) (o : Nat) (es : Es)
  | callv (n i : Nat) (es : Es)
  | md (m : Md) (o : E) (es : Es)
  | lc (elt : E) (t : T) (s : Sr) (c : E) (own : List Nat)
  | dct (kvs : List (Key × D))
  | mref (i : Nat) | fre (e : E) | nop | bad
inductive Es where
  | nil | cons (e : E) (es : Es)
inductive Sr where
  | seq (e : E) | rng1 (e : E) | rng2 (a b : E) | enum (e : E) | zip (a b : E)
end
def D.truth : D → Option Bool
  | .non => some false
  | .bl b => some b
  | .int i => some (i != 0)
  | .str x => if x.length ≤ sizeLine then some (x.length != 0) else none
  | .tup xs => some (!xs.isEmpty)
  | .lst xs => some (!xs.isEmpty)
  | .rol xs => some (!xs.isEmpty)
  | .dct kvs => some (!kvs.isEmpty)
  | .fn _ => none
def D.isFlat : D → Bool
  | .non | .bl _ | .int _ | .str _ => true
  | _ => false
def D.ints : List D → Option (List Int)
  | [] => some []
  | .int i :: r => (D.ints r).map (i :: ·)
  | _ => none
def D.bls : List D → Option (List Bool)
  | [] => some []
  | .bl i :: r => (D.bls r).map (i :: ·)
  | _ => none
def shallow (a b : PyData) : Bool := a.plain && b.plain && decide (min a.depth b.depth ≤ 64)
def eqR (a b : D) : Option Bool := if shallow a.py b.py then some (PyData.eqv a.py b.py) else none
def inR (a : D) (xs : List D) : Option Bool := if PyData.plainAll (D.pys xs) && a.py.plain && decide (min (PyData.depthAll (D.pys xs)) a.py.depth ≤ 60) then some ((D.pys xs).any fun y => PyData.eqv y a.py) else none
def cmpD (op : CmpOp) (a b : D) : Option Bool := match op with
  | .Eq => eqR a b
  | .NotEq => (eqR a b).map (!·)
  | .Lt => (match a, b with
    | .int i, .int j => some (decide (i < j))
    | .tup xs, .tup ys => (match D.ints xs, D.ints ys with
      | some ns, some ms => some (HT.lexLt ns ms)
      | _, _ => none)
    | _, _ => none)
  | .LtE => (match a, b with
    | .int i, .int j => some (decide (i ≤ j))
    | _, _ => none)
  | .Gt => (match a, b with
    | .int i, .int j => some (decide (j < i))
    | _, _ => none)
  | .GtE => (match a, b with
    | .int i, .int j => some (decide (j ≤ i))
    | _, _ => none)
  | .In => (match b with
    | .lst xs => inR a xs
    | .tup xs => inR a xs
    | _ => none)
  | .NotIn => (match b with
    | .lst xs => (inR a xs).map (!·)
    | .tup xs => (inR a xs).map (!·)
    | _ => none)
  | .Is => (match b with
    | .non => (match a with
      | .non => some true
      | _ => some false)
    | .bl k => (match a with
      | .bl j => some (decide (j = k))
      | _ => none)
    | _ => none)
  | .IsNot => (match b with
    | .non => (match a with
      | .non => some false
      | _ => some true)
    | .bl k => (match a with
      | .bl j => some (!decide (j = k))
      | _ => none)
    | _ => none)
def small64 (i : Int) : Bool := decide (-(2 ^ 64) < i) && decide (i < 2 ^ 64)
def binD (op : Operator) (a b : D) : Option R := match op with
  | .Add => (match a, b with
    | .int i, .int j => some (.val (.int (i + j)))
    | .str x, .str y => if x.length + y.length ≤ sizeLine then some (.val (.str (x ++ y))) else none
    | .lst xs, .lst ys => if xs.length + ys.length ≤ sizeLine then some (.fresh (xs ++ ys)) else none
    | .tup xs, .tup ys => if xs.length + ys.length ≤ sizeLine then some (.val (.tup (xs ++ ys))) else none
    | _, _ => none)
  | .Sub => (match a, b with
    | .int i, .int j => some (.val (.int (i - j)))
    | _, _ => none)
  | .Mult => (match a, b with
    | .int i, .int j => if small64 i || small64 j || decide (i.natAbs.log2 + j.natAbs.log2 < 1000000) then some (.val (.int (i * j))) else none
    | _, _ => none)
  | .FloorDiv => (match a, b with
    | .int i, .int j => if decide (j ≠ 0) && decide (j.natAbs < 1073741824) then some (.val (.int (i.fdiv j))) else if decide (0 < j) && decide (j.natAbs.log2 < 9000) then some (.val (.int (i / j))) else none
    | _, _ => none)
  | .Mod => (match a, b with
    | .int i, .int j => if decide (j ≠ 0) then some (.val (.int (i.fmod j))) else none
    | _, _ => none)
  | .Pow => (match a, b with
    | .int i, .int j => if decide (0 ≤ j) && decide (j ≤ 1000000) && decide (i.natAbs < 2 ^ 64) then some (.val (.int (i ^ j.toNat))) else none
    | _, _ => none)
  | .LShift => (match a, b with
    | .int i, .int j => if decide (0 ≤ j) && decide (j ≤ 1000000) && decide (i.natAbs < 2 ^ 64) then some (.val (.int (i * 2 ^ j.toNat))) else none
    | _, _ => none)
  | _ => none
def idxD (a i : D) : Option D := match a, i with
  | .tup xs, .int j => atI xs j
  | .lst xs, .int j => atI xs j
  | .rol xs, .int j => atI xs j
  | _, _ => none
def cutL {α : Type} (xs : List α) (lo hi : Option Int) : List α := (xs.drop (HT.sIx xs.length 0 lo)).take (HT.sIx xs.length xs.length hi - HT.sIx xs.length 0 lo)
def slcD (a : D) (l h : Option Int) : Option R := match a with
  | .tup xs => some (.val (.tup (cutL xs l h)))
  | .lst xs => some (.fresh (cutL xs l h))
  | .rol xs => some (.fresh (cutL xs l h))
  | _ => none
def revD : D → Option R
  | .tup xs => some (.val (.tup xs.reverse))
  | .lst xs => some (.fresh xs.reverse)
  | .rol xs => some (.fresh xs.reverse)
  | _ => none
def tyNames : List String := ["int", "bool", "str", "tuple", "list", "dict"]
def D.ty : D → Option String
  | .non => some "NoneType" | .bl _ => some "bool" | .int _ => some "int" | .str _ => some "str"
  | .tup _ => some "tuple" | .lst _ => some "list" | .rol _ => some "list" | .dct _ => some "dict" | .fn _ => none
def rngD (a b : Int) : List D := (List.range (b - a).toNat).map fun i => .int (a + (i : Nat))
def RgOkB (a b : Int) : Bool := decide (-(2 ^ 62) ≤ a) && decide (a < 2 ^ 62) && decide (-(2 ^ 62) ≤ b) && decide (b < 2 ^ 62) && decide ((b - a).toNat ≤ 2 ^ 24)
def D.seq? : D → Option (List D)
  | .tup xs => some xs
  | .lst xs => some xs
  | .rol xs => some xs
  | _ => none
def insI (x : Int) : List Int → List Int
  | [] => [x]
  | y :: r => if x ≤ y then x :: y :: r else y :: insI x r
def sortI : List Int → List Int
  | [] => []
  | x :: r => insI x (sortI r)
/-- tuples of ints, each once, in order -/
def insT (x : List Int) : List (List Int) → List (List Int)
  | [] => [x]
  | y :: r => if x = y then y :: r else if HT.lexLt x y then x :: y :: r else y :: insT x r
def sortT : List (List Int) → List (List Int)
  | [] => []
  | x :: r => insT x (sortT r)
def D.tupI : D → Option (List Int)
  | .tup xs => D.ints xs
  | _ => none
def D.tupsI : List D → Option (List (List Int))
  | [] => some []
  | x :: r => match x.tupI, D.tupsI r with
    | some n, some ns => some (n :: ns)
    | _, _ => none
/-- tuples of ints in order, each as often as it stands -/
def insP (x : List Int) : List (List Int) → List (List Int)
  | [] => [x]
  | y :: r => if HT.lexLt y x then y :: insP x r else x :: y :: r
def sortP : List (List Int) → List (List Int)
  | [] => []
  | x :: r => insP x (sortP r)
def pairsOk (ks : List (List Int)) : Bool := decide (ks.length < 64) && ks.all fun k => decide (k.length = 2) && k.all fun i => decide (0 ≤ i) && decide (i < 64)
def maxL (n : Int) : List Int → Int
  | [] => n
  | m :: r => maxL (if n < m then m else n) r
def minL (n : Int) : List Int → Int
  | [] => n
  | m :: r => minL (if m < n then m else n) r
def lenD : List D → Option R
  | [.str x] => if x.length ≤ sizeLine then some (.val (.int x.length)) else none
  | [.tup xs] => some (.val (.int xs.length))
  | [.lst xs] => some (.val (.int xs.length))
  | [.rol xs] => some (.val (.int xs.length))
  | [.dct kvs] => some (.val (.int kvs.length))
  | _ => none
def tupleD : List D → Option R
  | [.tup xs] => some (.val (.tup xs))
  | [.lst xs] => some (.val (.tup xs))
  | _ => none
def listD : List D → Option R
  | [.tup xs] => some (.fresh xs)
  | [.lst xs] => some (.fresh xs)
  | _ => none
def allD : List D → Option R
  | [.lst xs] => (D.bls xs).map fun bs => .val (.bl (bs.all id))
  | _ => none
def anyD : List D → Option R
  | [.lst xs] => (D.bls xs).map fun bs => .val (.bl (bs.any id))
  | _ => none
def absD : List D → Option R
  | [.int i] => some (.val (.int (if i < 0 then -i else i)))
  | _ => none
def intD : List D → Option R
  | [.int i] => some (.val (.int i))
  | [.bl k] => some (.val (.int (if k then 1 else 0)))
  | _ => none
def strD : List D → Option R
  | [.int i] => if i.natAbs.log2 < 1920 then some (.val (.str (toString i : String))) else none
  | _ => none
def isiD (t : String) : List D → Option R
  | [d] => (match d.ty with
    | some u => (kitB u t).map fun r => .val (.bl r)
    | none => none)
  | _ => none
def lrange1D : List D → Option R
  | [.int n] => if RgOkB 0 n then some (.fresh (rngD 0 n)) else none
  | _ => none
def lrange2D : List D → Option R
  | [.int m, .int n] => if RgOkB m n then some (.fresh (rngD m n)) else none
  | _ => none
def trange1D : List D → Option R
  | [.int n] => if RgOkB 0 n then some (.val (.tup (rngD 0 n))) else none
  | _ => none
def sortedD : List D → Option R
  | [d] => (match d.seq? with
    | some xs => (match D.ints xs with
      | some ns => some (.fresh ((sortI ns).map .int))
      | none => (match D.tupsI xs with
        | some ks => if pairsOk ks then some (.fresh ((sortP ks).map fun k => .tup (k.map .int))) else none
        | none => none))
    | none => none)
  | _ => none
def sortedSetD : List D → Option R
  | [d] => (match d.seq? with
    | some xs => (match D.tupsI xs with
      | some ks => if pairsOk ks then some (.fresh ((sortT ks).map fun k => .tup (k.map .int))) else none
      | none => none)
    | none => none)
  | _ => none
def sumD : List D → Option R
  | [.lst xs] => (D.ints xs).map fun ns => .val (.int ns.sum)
  | _ => none
def maxD : List D → Option R
  | [.lst xs] => (match D.ints xs with
    | some (n :: ns) => some (.val (.int (maxL n ns)))
    | _ => none)
  | _ => none
def minD : List D → Option R
  | [.lst xs] => (match D.ints xs with
    | some (n :: ns) => some (.val (.int (minL n ns)))
    | _ => none)
  | _ => none
def divmodD : List D → Option R
  | [.int i, .int j] => if decide (0 < j) && decide (j < 1073741824) then some (.val (.tup [.int (i / j), .int (i % j)])) else none
  | _ => none
def max2D : List D → Option R
  | [.int i, .int j] => some (.val (.int (if j > i then j else i)))
  | _ => none
def min2D : List D → Option R
  | [.int i, .int j] => some (.val (.int (if j < i then j else i)))
  | _ => none
def gcdD : List D → Option R
  | [.int i, .int j] => some (.val (.int ((Nat.gcd i.natAbs j.natAbs : Nat) : Int)))
  | _ => none
/-- the ints, each once -/
def dedI (acc : List Int) : List Int → List Int
  | [] => acc
  | n :: r => dedI (if acc.any (· == n) then acc else acc ++ [n]) r
def lenSetD : List D → Option R
  | [d] => (match d.seq? with
    | some xs => (match D.ints xs with
      | some ns => if ns.length < 1000 then some (.val (.int (dedI [] ns).length)) else none
      | none => none)
    | none => none)
  | _ => none
def biD (b : Bi) : List D → Option R := match b with
  | .len => lenD | .tuple => tupleD | .list => listD | .all => allD | .any => anyD | .abs => absD | .int => intD | .str => strD
  | .isi t => isiD t | .lrange1 => lrange1D | .lrange2 => lrange2D | .trange1 => trange1D | .sorted => sortedD | .sortedSet => sortedSetD
  | .sum => sumD | .max => maxD | .min => minD | .divmod => divmodD | .max2 => max2D | .min2 => min2D
  | .lenSet => lenSetD | .gcd => gcdD | .set => fun _ => none
/-- methods that change a list: what is left, what is told -/
def appD (xs : List D) : List D → Option (D × List D)
  | [d] => if xs.length < sizeLine then some (.non, xs ++ [d]) else none
  | _ => none
def popD (xs : List D) : List D → Option (D × List D)
  | [] => (match xs[xs.length - 1]? with
    | some y => some (y, xs.dropLast)
    | none => none)
  | _ => none
def popAtD (xs : List D) : List D → Option (D × List D)
  | [.int i] => if decide (-(2 ^ 63) ≤ i) && decide (i < 2 ^ 63) then (match seqIndex? i xs.length with
    | some k => (match xs[k]? with
      | some y => some (y, xs.eraseIdx k)
      | none => none)
    | none => none)
    else none
  | _ => none
def extD (xs : List D) : List D → Option (D × List D)
  | [.lst ys] => if xs.length + ys.length ≤ sizeLine then some (.non, xs ++ ys) else none
  | _ => none
def moD (m : Mo) (xs : List D) : List D → Option (D × List D) := match m with
  | .append => appD xs | .pop => popD xs | .popAt => popAtD xs | .extend => extD xs
/-- which of two: a tuple, a list -/
def D.seqK : D → Nat
  | .tup _ => 1
  | .lst _ => 2
  | _ => 0
def idxOfD (x : D) (xs : List D) : Option Nat := xs.findIdx? fun y => PyData.eqv y.py x.py
def indexD (xs : List D) : List D → Option R
  | [x] => if x.isFlat && xs.all D.isFlat then (idxOfD x xs).map fun (i : Nat) => .val (.int (i : Int)) else none
  | _ => none
def mdD (m : Md) (o : D) (ds : List D) : Option R := match m with
  | .index => (match o with
    | .tup xs => indexD xs ds
    | .lst xs => indexD xs ds
    | _ => none)
  | .count => none
/-- an operand: a name is looked at when all operands are known -/
def mkO (e : E) (k : Env → Res (R × Env) Env) (ρ : Env) : Res (Opd × Env) Env := match e with
  | .var i => (match ρ[i]? with
    | some (.val _) => .ok (.slot i, ρ)
    | some (.own _ _) => .ok (.slot i, ρ)
    | _ => .stuck)
  | _ => (k ρ).bd fun (r, ρ') => .ok (.val r.toD, ρ')
def isV : E → Bool
  | .var _ => true
  | _ => false
def mkT (e : E) (k : Env → Res (R × Env) Env) (ρ : Env) : Res (Bool × Env) Env := (mkO e k ρ).bd fun (o, ρ') => match (resO ρ' o).bind D.truth with
  | some b => .ok (b, ρ')
  | none => .stuck
/-- an operand that is kept: a list of the frame's own is frozen -/
def mkD (k : Env → Res (R × Env) Env) (ρ : Env) : Res (D × Env) Env := (k ρ).bd fun (r, ρ') => .ok (r.toD, ρ')
/-- a test's answer that is known to be a bool -/
def bl? : R → Option Bool
  | .val (.bl b) => some b
  | _ => none
def setT : T → D → Env → Option Env
  | .name i, d, ρ => if i < ρ.length then (match ρ[i]? with
    | some (.own _ true) => none
    | _ => some (ρ.set i (.val d))) else none
  | .tup ts, .tup ds, ρ => setTs ts ds ρ
  | .tup _, _, _ => none
  | .sub o k, d, ρ => (match ρ[o]? with
    | some (.own xs b) => (match ixN xs.length k with
      | some j => some (ρ.set o (.own (xs.set j d) b))
      | none => none)
    | _ => none)
where setTs : List T → List D → Env → Option Env
  | [], [], ρ => some ρ
  | t :: ts, d :: ds, ρ => (setT t d ρ).bind (setTs ts ds)
  | _, _, _ => none
def two (x : Res (Opd × Env) Env) (y : Env → Res (Opd × Env) Env) (k : D → D → Option R) : Res (R × Env) Env :=
  x.bd fun (o1, ρ1) => (y ρ1).bd fun (o2, ρ2) => match resO ρ2 o1, resO ρ2 o2 with
    | some d1, some d2 => match k d1 d2 with
      | some r => .ok (r, ρ2)
      | none => .stuck
    | _, _ => .stuck
def one (x : Res (Opd × Env) Env) (k : D → Option R) : Res (R × Env) Env :=
  x.bd fun (o1, ρ1) => match resO ρ1 o1 with
    | some d1 => match k d1 with
      | some r => .ok (r, ρ1)
      | none => .stuck
    | _ => .stuck
/-- a comprehension's own names are forgotten: none of them may be a list of the frame's own -/
def wipeQ (ρ : Env) : List Nat → Option Env
  | [] => some ρ
  | v :: vs => (wipeQ ρ vs).bind fun ρ' => match ρ'[v]? with
    | some (.own _ _) => none
    | _ => some (ρ'.set v .non)
def restR (ρ0 ρ : Env) : List Nat → Env
  | [] => ρ
  | v :: vs => (restR ρ0 ρ vs).set v (ρ0[v]?.getD .non)
def slotsOf : List Opd → List Nat
  | [] => []
  | .slot i :: r => i :: slotsOf r
  | _ :: r => slotsOf r
def nodupB : List Nat → Bool
  | [] => true
  | x :: r => !r.contains x && nodupB r
def argOf (ρ : Env) : Opd → Option Arg
  | .val d => some (.val d)
  | .slot i => (match ρ[i]? with
    | some (.own xs _) => some (.mut xs)
    | _ => none)
  | .tmp xs => some (.mut xs)
def tmps : List Opd → Nat
  | [] => 0
  | .tmp _ :: r => tmps r + 1
  | _ :: r => tmps r
def argsOf (ρ : Env) : List Opd → Option (List Arg)
  | [] => some []
  | o :: os => match argOf ρ o, argsOf ρ os with
    | some d, some ds => some (d :: ds)
    | _, _ => none
def backS (ρ : Env) : List Opd → List Arg → Option Env
  | [], [] => some ρ
  | .val _ :: os, .val _ :: as => backS ρ os as
  | .slot i :: os, .mut ys :: as => (match ρ[i]? with
    | some (.own _ b) => backS (ρ.set i (.own ys b)) os as
    | _ => none)
  | .tmp _ :: os, .mut _ :: as => backS ρ os as
  | _, _ => none
def callR (C : CallF) (f : Nat) (os : List Opd) (ρ : Env) : Res (R × Env) Env := match nodupB (slotsOf os) && decide (tmps os ≤ 1), argsOf ρ os with
  | true, some as => match C f as with
    | .ok (r, bs) => match backS ρ os bs with
      | some ρ' => .ok (r, ρ')
      | none => .stuck
    | .exc c x bs => match backS ρ os bs with
      | some ρ' => .exc c x ρ'
      | none => .stuck
    | .stuck => .stuck
  | _, _ => .stuck
def permL {α : Type} (pm : List Nat) (l : List α) : List α := pm.filterMap (l[·]?)
/-- nothing is raised out of a comprehension -/
def lcGo (t : T) (test : Env → Res (Bool × Env) Env) (elt : Env → Res (R × Env) Env) (own : List Nat) : List D → Env → List D → Res (List D × Env) Env
  | [], ρ, acc => .ok (acc, ρ)
  | x :: xs, ρ, acc => match setT t x ρ with
    | none => .stuck
    | some ρ1 => match test ρ1 with
      | .ok (false, ρ2) => (match wipeQ ρ2 own with
        | some ρ4 => lcGo t test elt own xs ρ4 acc
        | none => .stuck)
      | .ok (true, ρ2) => (match mkD elt ρ2 with
        | .ok (d, ρ3) => (match wipeQ ρ3 own with
          | some ρ4 => if acc.length < sizeLine then lcGo t test elt own xs ρ4 (acc ++ [d]) else .stuck
          | none => .stuck)
        | _ => .stuck)
      | _ => .stuck
def zipD : List D → List D → List D
  | x :: xs, y :: ys => .tup [x, y] :: zipD xs ys
  | _, _ => []
def isNop : E → Bool
  | .nop => true
  | _ => false
/-- a part of a slice -/
def mkP (e : E) (k : Env → Res (R × Env) Env) (ρ : Env) : Res (Option Int × Env) Env := if isNop e = true then .ok (none, ρ) else (mkD k ρ).bd fun (d, ρ') => match d with
  | .int i => .ok (some i, ρ')
  | _ => .stuck
def mkA (e : E) (k : Env → Res (R × Env) Env) (ρ : Env) : Res (Opd × Env) Env := match e with
  | .mref i => (match ρ[i]? with
    | some (.own _ _) => .ok (.slot i, ρ)
    | _ => .stuck)
  | .fre _ => (k ρ).bd fun (r, ρ') => (match r with
    | .fresh xs => .ok (.tmp xs, ρ')
    | _ => .stuck)
  | _ => (mkD k ρ).bd fun (d, ρ') => .ok (.val d, ρ')
def enumD : Nat → List D → List D
  | _, [] => []
  | i, x :: xs => .tup [.int i, x] :: enumD (i + 1) xs
mutual
def ev (C : CallF) : E → Env → Res (R × Env) Env
  | .var i, ρ => (match ρ[i]? with
    | some (.val d) => .ok (.val d, ρ)
    | some (.own xs false) => .ok (.val (.lst xs), ρ.set i (.val (.lst xs)))
    | _ => .stuck)
  | .cst d, ρ => .ok (.val d, ρ)
  | .glo _ d, ρ => .ok (.val d, ρ)
  | .gfn f, ρ => .ok (.val (.fn f), ρ)
  | .and a b, ρ => (mkD (ev C a) ρ).bd fun (x, ρ1) => (match x.truth with
    | some true => ev C b ρ1
    | some false => .ok (.val x, ρ1)
    | none => .stuck)
  | .or a b, ρ => (mkD (ev C a) ρ).bd fun (x, ρ1) => (match x.truth with
    | some false => ev C b ρ1
    | some true => .ok (.val x, ρ1)
    | none => .stuck)
  | .not a, ρ => one (mkO a (ev C a) ρ) fun d => d.truth.map fun k => .val (.bl (!k))
  | .ife c a b, ρ => (mkT c (ev C c) ρ).bd fun (k, ρ1) => if k = true then ev C a ρ1 else ev C b ρ1
  | .cmp op a b, ρ => two (mkO a (ev C a) ρ) (mkO b (ev C b)) fun x y => (cmpD op x y).map fun k => .val (.bl k)
  | .chn o1 o2 a b c, ρ => (mkO a (ev C a) ρ).bd fun (x, ρ1) => (mkO b (ev C b) ρ1).bd fun (y, ρ2) => (match resO ρ2 x, resO ρ2 y with
    | some dx, some dy => (match cmpD o1 dx dy with
      | some true => (mkO c (ev C c) ρ2).bd fun (z, ρ3) => (match resO ρ3 y, resO ρ3 z with
        | some dy', some dz => (match cmpD o2 dy' dz with
          | some k => .ok (.val (.bl k), ρ3)
          | none => .stuck)
        | _, _ => .stuck)
      | some false => .ok (.val (.bl false), ρ2)
      | none => .stuck)
    | _, _ => .stuck)
  | .bin op a b, ρ => two (mkO a (ev C a) ρ) (mkO b (ev C b)) (binD op)
  | .neg a, ρ => one (mkO a (ev C a) ρ) fun d => (match d with
    | .int i => some (.val (.int (-i)))
    | _ => none)
  | .tup es, ρ => (evDs C es ρ).bd fun (ds, ρ1) => if ds.length ≤ sizeLine then .ok (.val (.tup ds), ρ1) else .stuck
  | .lst es, ρ => (evDs C es ρ).bd fun (ds, ρ1) => if ds.length ≤ sizeLine then .ok (.fresh ds, ρ1) else .stuck
  | .idx a i, ρ => two (mkO a (ev C a) ρ) (mkO i (ev C i)) fun x y => (idxD x y).map .val
  | .slc a l h, ρ => (mkO a (ev C a) ρ).bd fun (x, ρ1) => (mkP l (ev C l) ρ1).bd fun (y, ρ2) => (mkP h (ev C h) ρ2).bd fun (z, ρ3) =>
    (match resO ρ3 x with
    | some dx => (match slcD dx y z with
      | some r => .ok (r, ρ3)
      | none => .stuck)
    | none => .stuck)
  | .rev a, ρ => one (mkO a (ev C a) ρ) revD
  | .call f es, ρ => (evAs C es ρ).bd fun (os, ρ1) => callR C f os ρ1
  | .callk f es pm, ρ => (evAs C es ρ).bd fun (os, ρ1) => callR C f (permL pm os) ρ1
  | .bi b es, ρ => (evOs C es ρ).bd fun (os, ρ1) => (match resOs ρ1 os with
    | some ds => (match biD b ds with
      | some r => .ok (r, ρ1)
      | none => .stuck)
    | none => .stuck)
  | .mo m o es, ρ => (match ρ[o]? with
    | some (.own _ _) => (evDs C es ρ).bd fun (ds, ρ1) => (match ρ1[o]? with
      | some (.own xs b) => (match moD m xs ds with
        | some (r, ys) => .ok (.val r, ρ1.set o (.own ys b))
        | none => .stuck)
      | _ => .stuck)
    | _ => .stuck)
  | .md m a es, ρ => (mkO a (ev C a) ρ).bd fun (x, ρ1) => (match resO ρ1 x with
    | some d0 => if d0.seqK = 0 then .stuck else (evOs C es ρ1).bd fun (os, ρ2) => (match resO ρ2 x, resOs ρ2 os with
      | some d, some ds => if d.seqK = d0.seqK then (match mdD m d ds with
        | some r => .ok (r, ρ2)
        | none => .stuck) else .stuck
      | _, _ => .stuck)
    | none => .stuck)
  | .callv n i es, ρ => (match ρ[i]? with
    | some (.val (.fn f)) => if f < n then (evAs C es ρ).bd fun (os, ρ1) => callR C f os ρ1 else .stuck
    | _ => .stuck)
  | .lc elt t s c own, ρ => (evS C s ρ).bd fun (items, ρ1) =>
    (match wipeQ ρ1 own with
    | some ρw => (match lcGo t (fun ρ => if isNop c then .ok (true, ρ) else mkT c (ev C c) ρ) (ev C elt) own items ρw [] with
      | .ok (ds, ρ2) => .ok (.fresh ds, restR ρ1 ρ2 own)
      | _ => .stuck)
    | none => .stuck)
  | .mref _, _ => .stuck
  | .bad, _ => .stuck
  | .dct kvs, ρ => .ok (.val (.dct kvs), ρ)
  | .fre e, ρ => ev C e ρ
  | .nop, ρ => .ok (.val .non, ρ)
def evDs (C : CallF) : Es → Env → Res (List D × Env) Env
  | .nil, ρ => .ok ([], ρ)
  | .cons e es, ρ => (mkD (ev C e) ρ).bd fun (d, ρ1) => (evDs C es ρ1).bd fun (ds, ρ2) => .ok (d :: ds, ρ2)
def evOs (C : CallF) : Es → Env → Res (List Opd × Env) Env
  | .nil, ρ => .ok ([], ρ)
  | .cons e es, ρ => (mkO e (ev C e) ρ).bd fun (d, ρ1) => (evOs C es ρ1).bd fun (ds, ρ2) => .ok (d :: ds, ρ2)
def evAs (C : CallF) : Es → Env → Res (List Opd × Env) Env
  | .nil, ρ => .ok ([], ρ)
  | .cons e es, ρ => (mkA e (ev C e) ρ).bd fun (d, ρ1) => (evAs C es ρ1).bd fun (ds, ρ2) => .ok (d :: ds, ρ2)
def evS (C : CallF) : Sr → Env → Res (List D × Env) Env
  | .seq e, ρ => (mkD (ev C e) ρ).bd fun (d, ρ1) => (match d.seq? with
    | some xs => .ok (xs, ρ1)
    | none => .stuck)
  | .rng1 e, ρ => (mkD (ev C e) ρ).bd fun (d, ρ1) => (match d with
    | .int n => if RgOkB 0 n then .ok (rngD 0 n, ρ1) else .stuck
    | _ => .stuck)
  | .rng2 a b, ρ => (mkD (ev C a) ρ).bd fun (d, ρ1) => (mkD (ev C b) ρ1).bd fun (d', ρ2) => (match d with
    | .int m => (match d' with
      | .int n => if RgOkB m n then .ok (rngD m n, ρ2) else .stuck
      | _ => .stuck)
    | _ => .stuck)
  | .enum e, ρ => (mkD (ev C e) ρ).bd fun (d, ρ1) => (match d with
    | .lst xs => .ok (enumD 0 xs, ρ1)
    | _ => .stuck)
  | .zip a b, ρ => (mkD (ev C a) ρ).bd fun (d, ρ1) => (mkD (ev C b) ρ1).bd fun (d', ρ2) => (match d with
    | .lst xs => (match d' with
      | .lst ys => .ok (zipD xs ys, ρ2)
      | _ => .stuck)
    | .tup xs => (match d' with
      | .tup ys => .ok (zipD xs ys, ρ2)
      | _ => .stuck)
    | _ => .stuck)
end
/-- a test -/
def evT (C : CallF) (e : E) (ρ : Env) : Res (Bool × Env) Env := mkT e (ev C e) ρ
mutual
inductive S where
  | set (i : Nat) (o : Bool) (e : E)
  | set2 (i j : Nat) (oi oj : Bool) (a b : E)
  | asg (t : T) (e : E)
  | sidx (o : Nat) (ix e : E)
  | exp (e : E)
  | ret (e : E)
  | ife (c : E) (a b : Ss)
  | for (t : T) (s : Sr) (b : Ss)
  | whl (c : E) (b : Ss)
  | rais (c : Nat) (e : E)
  | pass
inductive Ss where
  | nil | cons (s : S) (ss : Ss)
end
/-- how a block ends -/
inductive Fl where
  | nx | rt (r : R)
def putS (ρ : Env) (i : Nat) (o : Bool) (r : R) : Option Env := if i < ρ.length then (match ρ[i]? with
  | some (.own _ true) => none
  | _ => (match o, r with
    | true, .fresh xs => some (ρ.set i (.own xs false))
    | _, r => some (ρ.set i (.val r.toD)))) else none
def setIx (xs : List D) (i d : D) : Option (List D) := match i with
  | .int k => (ixN xs.length k).map fun j => xs.set j d
  | _ => none
def forGo (t : T) (body : Env → Res (Fl × Env) Env) : List D → Env → Res (Fl × Env) Env
  | [], ρ => .ok (.nx, ρ)
  | x :: xs, ρ => match setT t x ρ with
    | none => .stuck
    | some ρ1 => (body ρ1).bd fun (f, ρ2) => match f with
      | .nx => forGo t body xs ρ2
      | .rt r => .ok (.rt r, ρ2)
def whlGo (test : Env → Res (Bool × Env) Env) (body : Env → Res (Fl × Env) Env) : Nat → Env → Res (Fl × Env) Env
  | 0, _ => .stuck
  | n + 1, ρ => (test ρ).bd fun (k, ρ1) => if k = true then (body ρ1).bd fun (f, ρ2) => (match f with
      | .nx => whlGo test body n ρ2
      | .rt r => .ok (.rt r, ρ2)) else .ok (.nx, ρ1)
def retE (C : CallF) (e : E) (ρ : Env) : Res (Fl × Env) Env := match e with
  | .var i => (match ρ[i]? with
    | some (.val d) => .ok (.rt (.val d), ρ)
    | some (.own xs false) => .ok (.rt (.fresh xs), ρ.set i .non)
    | _ => .stuck)
  | e => (ev C e ρ).bd fun (r, ρ1) => .ok (.rt r, ρ1)
mutual
def exS (C : CallF) (W : Nat) : S → Env → Res (Fl × Env) Env
  | .set i o e, ρ => (ev C e ρ).bd fun (r, ρ1) => (match putS ρ1 i o r with
    | some ρ2 => .ok (.nx, ρ2)
    | none => .stuck)
  | .set2 i j oi oj a b, ρ => (ev C a ρ).bd fun (r, ρ1) => (ev C b ρ1).bd fun (q, ρ2) => (match putS ρ2 i oi r with
    | some ρ3 => (match putS ρ3 j oj q with
      | some ρ4 => .ok (.nx, ρ4)
      | none => .stuck)
    | none => .stuck)
  | .asg t e, ρ => (mkD (ev C e) ρ).bd fun (d, ρ1) => (match setT t d ρ1 with
    | some ρ2 => .ok (.nx, ρ2)
    | none => .stuck)
  | .sidx o ix e, ρ => (mkD (ev C e) ρ).bd fun (d, ρ1) => (match ρ1[o]? with
    | some (.own _ _) => (mkD (ev C ix) ρ1).bd fun (i, ρ2) => (match ρ2[o]? with
      | some (.own xs b) => (match setIx xs i d with
        | some ys => .ok (.nx, ρ2.set o (.own ys b))
        | none => .stuck)
      | _ => .stuck)
    | _ => .stuck)
  | .exp e, ρ => (ev C e ρ).bd fun (_, ρ1) => .ok (.nx, ρ1)
  | .ret e, ρ => retE C e ρ
  | .ife c a b, ρ => (evT C c ρ).bd fun (k, ρ1) => if k = true then exSs C W a ρ1 else exSs C W b ρ1
  | .for t s b, ρ => (evS C s ρ).bd fun (items, ρ1) => forGo t (exSs C W b) items ρ1
  | .whl c b, ρ => whlGo (evT C c) (exSs C W b) W ρ
  | .rais c e, ρ => (match e with
    | .nop => .exc c none ρ
    | e => (mkD (ev C e) ρ).bd fun (d, ρ1) => .exc c (some d) ρ1)
  | .pass, ρ => .ok (.nx, ρ)
def exSs (C : CallF) (W : Nat) : Ss → Env → Res (Fl × Env) Env
  | .nil, ρ => .ok (.nx, ρ)
  | .cons s ss, ρ => (exS C W s ρ).bd fun (f, ρ1) => (match f with
    | .nx => exSs C W ss ρ1
    | .rt r => .ok (.rt r, ρ1))
end
structure Fd where
  np : Nat
  nl : Nat
  body : Ss
def sl0 : Arg → Sl
  | .val d => .val d
  | .mut xs => .own xs true
def backA : List Arg → Env → Option (List Arg)
  | [], _ => some []
  | .val d :: as, _ :: ρ => (backA as ρ).map (.val d :: ·)
  | .mut _ :: as, .own ys true :: ρ => (backA as ρ).map (.mut ys :: ·)
  | _, _ => none
def runF (C : CallF) (W : Nat) (fd : Fd) (as : List Arg) : Res (R × List Arg) (List Arg) :=
  if as.length = fd.np ∧ fd.np ≤ fd.nl then
    match exSs C W fd.body (as.map sl0 ++ List.replicate (fd.nl - fd.np) .non) with
    | .ok (f, ρ) => (match backA as ρ with
      | some bs => .ok ((match f with
        | .nx => .val .non
        | .rt r => r), bs)
      | none => .stuck)
    | .exc c x ρ => (match backA as ρ with
      | some bs => .exc c x bs
      | none => .stuck)
    | .stuck => .stuck
  else .stuck
def callN (P : Nat → Option Fd) (W : Nat) : Nat → CallF
  | 0, _, _ => .stuck
  | k + 1, f, as => match P f with
    | some fd => runF (callN P W k) W fd as
    | none => .stuck
end Cr
namespace Cr
open PySem PySem.Spec PyProof.Rows L2
/-- what the written part gives: its objects, where the functions stand -/
structure Glo where
  K : PySem.W.Frag
  fa : Nat → Addr
  ca : Nat → Addr
  fld : Nat → Str
/-- a tuple of which no more is asked, and that has no dict -/
def SqN (K : PySem.W.Frag) (H : Hp) (a : Addr) (xs : List V) : Prop :=
  (∃ ob : Obj, H a = some (.frz ob (.tup xs)) ∧ ob.dict = none) ∨
    ∃ (o : Obj) (its : Array Value) (n : Nat), K.lookup a = some o ∧ (o.cls = .type "tuple" ∧ o.dict = none) ∧ o.data = .seq its n ∧ its.size ≤ sizeLine ∧ Vals xs its.toList
theorem SqN.t {K : PySem.W.Frag} {H : Hp} {a : Addr} {xs : List V} (h : SqN K H a xs) : SqT K H a xs := by
  rcases h with ⟨ob, h, _⟩ | ⟨o, its, n, h1, ⟨h2, _⟩, h3⟩
  · exact .inl (.inr ⟨ob, h⟩)
  · exact .inr ⟨o, its, n, h1, h2, h3⟩
mutual
inductive Rep (G : Glo) (F : Hp) : V → D → Prop
  | non : Rep G F .non .non
  | bl (b : Bool) : Rep G F (.bl b) (.bl b)
  | int (i : Int) : Rep G F (.int i) (.int i)
  | str (x : Str) : Rep G F (.str x) (.str x)
  | tup {a : Addr} {vs : List V} {ds : List D} : SqN G.K F a vs → Reps G F vs ds → Rep G F (.ref a) (.tup ds)
  | lst {a : Addr} {vs : List V} {ds : List D} : F a = some (.lst vs) → Reps G F vs ds → Rep G F (.ref a) (.lst ds)
  | rol {a : Addr} {vs : List V} {ds : List D} : SqL G.K F a vs → Reps G F vs ds → Rep G F (.ref a) (.rol ds)
  | dct {a : Addr} {kvs : List (Key × V)} {ds : List (Key × D)} : F a = some (.dK kvs) → RepK G F kvs ds → Rep G F (.ref a) (.dct ds)
  | fn (f : Nat) : Rep G F (.ref (G.fa f)) (.fn f)
inductive Reps (G : Glo) (F : Hp) : List V → List D → Prop
  | nil : Reps G F [] []
  | cons {v : V} {vs : List V} {d : D} {ds : List D} : Rep G F v d → Reps G F vs ds → Reps G F (v :: vs) (d :: ds)
inductive RepK (G : Glo) (F : Hp) : List (Key × V) → List (Key × D) → Prop
  | nil : RepK G F [] []
  | cons {k : Key} {v : V} {vs : List (Key × V)} {d : D} {ds : List (Key × D)} : Rep G F v d → RepK G F vs ds → RepK G F ((k, v) :: vs) ((k, d) :: ds)
end
theorem Same.sqt {K : PySem.W.Frag} {H H' : Hp} {a : Addr} {xs : List V} (e : Same H H') (h : SqT K H a xs) : SqT K H' a xs := by
  rcases h with (h | ⟨o, h⟩) | h
  · exact .inl (.inl (e _ _ h))
  · exact .inl (.inr ⟨o, e _ _ h⟩)
  · exact .inr h
theorem Same.sqn {K : PySem.W.Frag} {H H' : Hp} {a : Addr} {xs : List V} (e : Same H H') (h : SqN K H a xs) : SqN K H' a xs := by
  rcases h with ⟨o, h, n⟩ | h
  · exact .inl ⟨o, e _ _ h, n⟩
  · exact .inr h
theorem Same.rd {H H' : Hp} {a : Addr} {u : HO} (e : Same H H') (h : Rd H a u) : Rd H' a u := by
  rcases h with h | ⟨o, h⟩
  · exact .inl (e _ _ h)
  · exact .inr ⟨o, e _ _ h⟩
section
variable {G : Glo} {F F' : Hp}
mutual
theorem Rep.mono (s : Same F F') : ∀ (d : D) (v : V), Rep G F v d → Rep G F' v d
  | .non, _, h => by cases h; exact .non
  | .bl b, _, h => by cases h; exact .bl b
  | .int i, _, h => by cases h; exact .int i
  | .str x, _, h => by cases h; exact .str x
  | .tup ds, _, h => by
    cases h with
    | tup h1 h2 => exact .tup (Same.sqn s h1) (Reps.mono s ds _ h2)
  | .lst ds, _, h => by
    cases h with
    | lst h1 h2 => exact .lst (s _ _ h1) (Reps.mono s ds _ h2)
  | .rol ds, _, h => by
    cases h with
    | rol h1 h2 => exact .rol (s.seq h1) (Reps.mono s ds _ h2)
  | .dct ds, _, h => by
    cases h with
    | dct h1 h2 => exact .dct (s _ _ h1) (RepK.mono s ds _ h2)
  | .fn f, _, h => by cases h; exact .fn f
theorem Reps.mono (s : Same F F') : ∀ (ds : List D) (vs : List V), Reps G F vs ds → Reps G F' vs ds
  | [], _, h => by cases h; exact .nil
  | d :: ds, _, h => by
    cases h with
    | cons h1 h2 => exact .cons (Rep.mono s d _ h1) (Reps.mono s ds _ h2)
theorem RepK.mono (s : Same F F') : ∀ (ds : List (Key × D)) (vs : List (Key × V)), RepK G F vs ds → RepK G F' vs ds
  | [], _, h => by cases h; exact .nil
  | (k, d) :: ds, _, h => by
    cases h with
    | cons h1 h2 => exact .cons (Rep.mono s d _ h1) (RepK.mono s ds _ h2)
end
mutual
theorem Rep.dp : ∀ (d : D) (v : V), d.py.plain = true → Rep G F v d → Dp G.K F v d.py
  | .non, _, _, h => by cases h; exact .non
  | .bl b, _, _, h => by cases h; exact .bl b
  | .int i, _, _, h => by cases h; exact .int i
  | .str x, _, _, h => by cases h; exact .str x
  | .tup ds, _, p, h => by
    cases h with
    | tup h1 h2 => exact .tup h1.t (Reps.dp ds _ (by simpa [D.py, PyData.plain] using p) h2)
  | .lst ds, _, p, h => by
    cases h with
    | lst h1 h2 => exact .lst (.inl (.inl h1)) (Reps.dp ds _ (by simpa [D.py, PyData.plain] using p) h2)
  | .dct ds, _, p, h => by simp [D.py, PyData.plain] at p
  | .rol ds, _, p, h => by simp [D.py, PyData.plain] at p
  | .fn f, _, p, h => by simp [D.py, PyData.plain] at p
theorem Reps.dp : ∀ (ds : List D) (vs : List V), PyData.plainAll (D.pys ds) = true → Reps G F vs ds → DpAll G.K F vs (D.pys ds)
  | [], _, _, h => by cases h; exact .nil
  | d :: ds, _, p, h => by
    cases h with
    | cons h1 h2 =>
      have p' : d.py.plain = true ∧ PyData.plainAll (D.pys ds) = true := by simpa [D.pys, PyData.plainAll] using p
      exact .cons (Rep.dp d _ p'.1 h1) (Reps.dp ds _ p'.2 h2)
end
theorem Reps.length : ∀ {vs : List V} {ds : List D}, Reps G F vs ds → vs.length = ds.length
  | _, _, .nil => rfl
  | _, _, .cons _ r => by simp [Reps.length r]
theorem Reps.get : ∀ {vs : List V} {ds : List D} {i : Nat} {d : D}, Reps G F vs ds → ds[i]? = some d → ∃ v, vs[i]? = some v ∧ Rep G F v d
  | _, _, _, _, .nil, e => by simp at e
  | _, _, 0, _, .cons h _, e => by simp at e; subst e; exact ⟨_, rfl, h⟩
  | _, _, i + 1, d, .cons _ r, e => by
    obtain ⟨v, h1, h2⟩ := Reps.get (i := i) (d := d) r (by simpa using e)
    exact ⟨v, by simpa using h1, h2⟩
theorem Reps.append : ∀ {vs ws : List V} {ds es : List D}, Reps G F vs ds → Reps G F ws es → Reps G F (vs ++ ws) (ds ++ es)
  | _, _, _, _, .nil, s => s
  | _, _, _, _, .cons h r, s => .cons h (Reps.append r s)
theorem Reps.take : ∀ {vs : List V} {ds : List D} (n : Nat), Reps G F vs ds → Reps G F (vs.take n) (ds.take n)
  | _, _, 0, _ => by simp; exact .nil
  | _, _, _ + 1, .nil => by simp; exact .nil
  | _, _, n + 1, .cons h r => .cons h (Reps.take n r)
theorem Reps.drop : ∀ {vs : List V} {ds : List D} (n : Nat), Reps G F vs ds → Reps G F (vs.drop n) (ds.drop n)
  | _, _, 0, h => by simpa using h
  | _, _, _ + 1, .nil => by simp; exact .nil
  | _, _, n + 1, .cons h r => by simpa using Reps.drop n r
theorem Reps.set {v : V} {d : D} (h : Rep G F v d) : ∀ {vs : List V} {ds : List D} (i : Nat), Reps G F vs ds → Reps G F (vs.set i v) (ds.set i d)
  | _, _, _, .nil => .nil
  | _, _, 0, .cons _ r => .cons h r
  | _, _, i + 1, .cons g r => .cons g (Reps.set h i r)
theorem Reps.eraseIdx : ∀ {vs : List V} {ds : List D} (i : Nat), Reps G F vs ds → Reps G F (vs.eraseIdx i) (ds.eraseIdx i)
  | _, _, _, .nil => .nil
  | _, _, 0, .cons _ r => r
  | _, _, i + 1, .cons g r => .cons g (Reps.eraseIdx i r)
theorem Reps.dropLast {vs : List V} {ds : List D} (h : Reps G F vs ds) : Reps G F vs.dropLast ds.dropLast := by
  rw [List.dropLast_eq_take, List.dropLast_eq_take, h.length]; exact h.take _
theorem Reps.one {vs : List V} {d : D} (h : Reps G F vs [d]) : ∃ v, vs = [v] ∧ Rep G F v d := by
  cases h with
  | cons h1 h2 => cases h2; exact ⟨_, rfl, h1⟩
theorem Reps.two {vs : List V} {d e : D} (h : Reps G F vs [d, e]) : ∃ v w, vs = [v, w] ∧ Rep G F v d ∧ Rep G F w e := by
  cases h with
  | cons h1 h2 =>
    cases h2 with
    | cons h2 h3 => cases h3; exact ⟨_, _, rfl, h1, h2⟩
theorem Reps.ints {vs : List V} : ∀ {ds : List D} {ns : List Int}, D.ints ds = some ns → Reps G F vs ds → vs = ns.map V.int := by
  induction vs with
  | nil => intro ds ns e h; cases h; simp [D.ints] at e; subst e; rfl
  | cons v vs ih =>
    intro ds ns e h
    cases h with
    | cons h1 h2 =>
      cases h1 <;> simp [D.ints] at e
      obtain ⟨ms, e1, rfl⟩ := e
      rw [ih e1 h2]; rfl
theorem Reps.of_ints : ∀ (ns : List Int), Reps G F (ns.map V.int) (ns.map D.int)
  | [] => .nil
  | n :: ns => .cons (.int n) (Reps.of_ints ns)
theorem Reps.bls {vs : List V} : ∀ {ds : List D} {ns : List Bool}, D.bls ds = some ns → Reps G F vs ds → vs = ns.map V.bl := by
  induction vs with
  | nil => intro ds ns e h; cases h; simp [D.bls] at e; subst e; rfl
  | cons v vs ih =>
    intro ds ns e h
    cases h with
    | cons h1 h2 =>
      cases h1 <;> simp [D.bls] at e
      obtain ⟨ms, e1, rfl⟩ := e
      rw [ih e1 h2]; rfl
end
section
variable (G : Glo)
def SlV (F H : Hp) (v : V) : Sl → Prop
  | .non => True
  | .val d => Rep G F v d
  | .own xs _ => ∃ a vs, v = .ref a ∧ H a = some (.lst vs) ∧ F a = none ∧ Reps G F vs xs
def Own (σ : L2.St) (ρ : Env) (a : Addr) : Prop := ∃ (i : Nat) (xs : List D) (b : Bool), ρ[i]? = some (.own xs b) ∧ σ[i]? = some (some (.ref a))
structure Rel (F H : Hp) (σ : L2.St) (ρ : Env) : Prop where
  len : ρ.length = σ.length
  sub : Same F H
  sl : ∀ (i : Nat) (s : Sl), ρ[i]? = some s → s ≠ .non → ∃ v, σ[i]? = some (some v) ∧ SlV G F H v s
  sep : ∀ (i j : Nat) (xs ys : List D) (b c : Bool) (a : Addr), ρ[i]? = some (.own xs b) → ρ[j]? = some (.own ys c) → σ[i]? = some (some (.ref a)) → σ[j]? = some (some (.ref a)) → i = j
/-- what may change from H to H': M; F grows by new things, and by what is M's -/
structure Ext (M : Addr → Prop) (F H F' H' : Hp) : Prop where
  keep : ∀ b o, H b = some o → ¬ M b → H' b = some o
  dom : ∀ b, H b ≠ none → H' b ≠ none
  ff : Same F F'
  nf : ∀ b, F' b ≠ none → F b ≠ none ∨ H b = none ∨ M b
structure Stp (σ : L2.St) (ρ : Env) (F H : Hp) (σ' : L2.St) (ρ' : Env) (F' H' : Hp) : Prop where
  rel : Rel G F' H' σ' ρ'
  ext : Ext (Own σ ρ) F H F' H'
  own : ∀ a, Own σ' ρ' a → Own σ ρ a ∨ H a = none
  bor : ∀ (i : Nat) (xs : List D), ρ[i]? = some (.own xs true) → ∃ ys, ρ'[i]? = some (.own ys true) ∧ σ'[i]? = σ[i]?
/-- a result: a value, or a new list that nobody else knows -/
def RR (H : Hp) (σ' : L2.St) (ρ' : Env) (F' H' : Hp) (v : V) : R → Prop
  | .val d => Rep G F' v d
  | .fresh xs => ∃ a vs, v = .ref a ∧ H' a = some (.lst vs) ∧ F' a = none ∧ ¬ Own σ' ρ' a ∧ H a = none ∧ Reps G F' vs xs
def OR (σ : L2.St) (F' : Hp) (v : V) : Opd → Prop
  | .val d => Rep G F' v d
  | .slot i => σ[i]? = some (some v)
  | .tmp _ => False
end
section
variable {G : Glo} {F F' F'' H H' H'' : Hp} {σ σ' σ'' : L2.St} {ρ ρ' ρ'' : Env} {M : Addr → Prop} {v : V} {r : R}
theorem Ext.refl : Ext M F H F H := ⟨fun _ _ h _ => h, fun _ h => h, fun _ _ h => h, fun _ h => .inl h⟩
theorem Ext.trans {M' : Addr → Prop} (a : Ext M F H F' H') (b : Ext M' F' H' F'' H'') (hm : ∀ x, M' x → M x ∨ H x = none) : Ext M F H F'' H'' := by
  refine ⟨fun x o h n => b.keep x o (a.keep x o h n) fun m => ?_, fun x h => b.dom x (a.dom x h), a.ff.trans b.ff, fun x h => ?_⟩
  · rcases hm x m with m | m
    · exact n m
    · rw [h] at m; cases m
  · rcases b.nf x h with q | q | q
    · exact a.nf x q
    · by_cases hx : H x = none
      · exact .inr (.inl hx)
      · exact absurd q (a.dom x hx)
    · rcases hm x q with m | m
      · exact .inr (.inr m)
      · exact .inr (.inl m)
theorem Ext.wk {M' : Addr → Prop} (a : Ext M F H F' H') (hm : ∀ x, M x → M' x ∨ H x = none) : Ext M' F H F' H' := by
  have z : Ext M' F H F H := Ext.refl
  exact z.trans a hm
theorem Stp.refl (h : Rel G F H σ ρ) : Stp G σ ρ F H σ ρ F H := ⟨h, Ext.refl, fun _ h => .inl h, fun i xs e => ⟨xs, e, rfl⟩⟩
theorem Stp.trans (a : Stp G σ ρ F H σ' ρ' F' H') (b : Stp G σ' ρ' F' H' σ'' ρ'' F'' H'') : Stp G σ ρ F H σ'' ρ'' F'' H'' := by
  refine ⟨b.rel, a.ext.trans b.ext a.own, fun x h => ?_, fun i xs e => ?_⟩
  · rcases b.own x h with q | q
    · exact a.own x q
    · by_cases hx : H x = none
      · exact .inr hx
      · exact absurd q (a.ext.dom x hx)
  · obtain ⟨ys, e1, e2⟩ := a.bor i xs e
    obtain ⟨zs, e3, e4⟩ := b.bor i ys e1
    exact ⟨zs, e3, e4.trans e2⟩
/-- a new thing behind which a step is made -/
theorem Stp.free (a : Stp G σ ρ F H σ' ρ' F' H') {x : Addr} (h : H' x = none) : H x = none := by
  by_cases hx : H x = none
  · exact hx
  · exact absurd h (a.ext.dom x hx)
theorem Rel.ownAt (h : Rel G F H σ ρ) {i : Nat} {xs : List D} {b : Bool} (e : ρ[i]? = some (.own xs b)) : ∃ a vs, σ[i]? = some (some (.ref a)) ∧ H a = some (.lst vs) ∧ F a = none ∧ Reps G F vs xs := by
  obtain ⟨v, e1, a, vs, rfl, q⟩ := h.sl i _ e (by simp)
  exact ⟨a, vs, e1, q⟩
theorem Rel.valAt (h : Rel G F H σ ρ) {i : Nat} {d : D} (e : ρ[i]? = some (.val d)) : ∃ v, σ[i]? = some (some v) ∧ Rep G F v d := h.sl i _ e (by simp)
theorem Own.lst (h : Rel G F H σ ρ) {a : Addr} (o : Own σ ρ a) : ∃ vs, H a = some (.lst vs) ∧ F a = none := by
  obtain ⟨i, xs, b, e1, e2⟩ := o
  obtain ⟨a', vs, e3, e4, e5, _⟩ := h.ownAt e1
  rw [e2] at e3; cases e3
  exact ⟨vs, e4, e5⟩
/-- the heap grows; nothing of the frame changes -/
theorem Rel.grow (h : Rel G F H σ ρ) (k : Same H H') (f : Same F F') (s : Same F' H') (nf : ∀ b, Own σ ρ b → F' b = none) : Rel G F' H' σ ρ := by
  refine ⟨h.len, s, fun i sl e ne => ?_, h.sep⟩
  obtain ⟨v, e1, q⟩ := h.sl i sl e ne
  refine ⟨v, e1, ?_⟩
  cases sl with
  | non => trivial
  | val d => exact Rep.mono f d v q
  | own xs b =>
    obtain ⟨a, vs, rfl, q1, q2, q3⟩ := q
    exact ⟨a, vs, rfl, k _ _ q1, nf a ⟨i, xs, b, e, e1⟩, Reps.mono f xs vs q3⟩
/-- new things are laid at p (not frozen) -/
theorem same_upd {H : Hp} {p : Addr} {o : HO} (h : H p = none) : Same H (upd H p o) := fun b x e => by
  rw [upd_ne (ne_of_none e h)]
  exact e
theorem Stp.lay (h : Rel G F H σ ρ) {p : Addr} {o : HO} (hp : H p = none) : Stp G σ ρ F H σ ρ F (upd H p o) := by
  have k := same_upd (o := o) hp
  refine ⟨h.grow k (fun _ _ q => q) (h.sub.trans k) (fun b q => (Own.lst h q).choose_spec.2), ⟨fun b x e _ => k b x e, fun b q => ?_, fun _ _ q => q, fun _ q => .inl q⟩, fun _ q => .inl q, fun i xs e => ⟨xs, e, rfl⟩⟩
  cases e : H b with
  | none => exact absurd e q
  | some x => rw [k b x e]; simp
/-- .. and frozen -/
theorem Stp.layF (h : Rel G F H σ ρ) {p : Addr} {o : HO} (hp : H p = none) : Stp G σ ρ F H σ ρ (upd F p o) (upd H p o) := by
  have k := same_upd (o := o) hp
  have fp : F p = none := h.sub.free hp
  have kf := same_upd (o := o) fp
  refine ⟨h.grow k kf (fun b x e => ?_) (fun b q => ?_), ⟨fun b x e _ => k b x e, fun b q => ?_, kf, fun b q => ?_⟩, fun _ q => .inl q, fun i xs e => ⟨xs, e, rfl⟩⟩
  · by_cases hb : b = p
    · subst hb; rw [upd_same] at e ⊢; exact e
    · rw [upd_ne hb] at e ⊢; exact h.sub b x e
  · obtain ⟨vs, e1, e2⟩ := Own.lst h q
    have hb : b ≠ p := ne_of_none e1 hp
    rw [upd_ne hb]; exact e2
  · cases e : H b with
    | none => exact absurd e q
    | some x => rw [k b x e]; simp
  · by_cases hb : b = p
    · subst hb; exact .inr (.inl hp)
    · rw [upd_ne hb] at q; exact .inl q
/-- a list that stands new is frozen -/
theorem freeze (s : Stp G σ ρ F H σ' ρ' F' H') (h : RR G H σ' ρ' F' H' v r) : ∃ F2, Stp G σ ρ F H σ' ρ' F2 H' ∧ Same F' F2 ∧ Rep G F2 v r.toD := by
  cases r with
  | val d => exact ⟨F', s, fun _ _ q => q, h⟩
  | fresh xs =>
    obtain ⟨a, vs, rfl, h1, h2, h3, h4, h5⟩ := h
    have kf := same_upd (o := HO.lst vs) h2
    refine ⟨upd F' a (.lst vs), ⟨s.rel.grow (fun _ _ q => q) kf (fun b x e => ?_) (fun b q => ?_), ⟨s.ext.keep, s.ext.dom, s.ext.ff.trans kf, fun b q => ?_⟩, s.own, s.bor⟩, kf, .lst upd_same (Reps.mono kf xs vs h5)⟩
    · by_cases hb : b = a
      · subst hb; rw [upd_same] at e; rw [← e]; exact h1
      · rw [upd_ne hb] at e; exact s.rel.sub b x e
    · have hb : b ≠ a := fun z => h3 (z ▸ q)
      rw [upd_ne hb]; exact (Own.lst s.rel q).choose_spec.2
    · by_cases hb : b = a
      · subst hb; exact .inr (.inl h4)
      · rw [upd_ne hb] at q; exact s.ext.nf b q
theorem freezeX {σ0 : L2.St} (s : Stp G σ0 ρ F H σ' ρ' F' H') (h : RR G H σ' ρ' F' H' v r) : ∃ F2, Stp G σ0 ρ F H σ' ρ' F2 H' ∧ Same F' F2 ∧ Rep G F2 v r.toD ∧ ∀ x, (∀ xs, r = .fresh xs → v ≠ .ref x) → F' x = none → F2 x = none := by
  cases r with
  | val d => exact ⟨F', s, fun _ _ q => q, h, fun _ _ z => z⟩
  | fresh xs =>
    obtain ⟨a, vs, rfl, h1, h2, h3, h4, h5⟩ := h
    have kf := same_upd (o := HO.lst vs) h2
    refine ⟨upd F' a (.lst vs), ⟨s.rel.grow (fun _ _ q => q) kf (fun b x e => ?_) (fun b q => ?_), ⟨s.ext.keep, s.ext.dom, s.ext.ff.trans kf, fun b q => ?_⟩, s.own, s.bor⟩, kf, .lst upd_same (Reps.mono kf xs vs h5), fun x hx z => ?_⟩
    · by_cases hb : b = a
      · subst hb; rw [upd_same] at e; rw [← e]; exact h1
      · rw [upd_ne hb] at e; exact s.rel.sub b x e
    · have hb : b ≠ a := fun z => h3 (z ▸ q)
      rw [upd_ne hb]; exact (Own.lst s.rel q).choose_spec.2
    · by_cases hb : b = a
      · subst hb; exact .inr (.inl h4)
      · rw [upd_ne hb] at q; exact s.ext.nf b q
    · have hb : x ≠ a := fun e => hx xs rfl (by rw [e])
      rw [upd_ne hb]; exact z
/-- a frozen slot -/
theorem freezeS (h : Rel G F H σ ρ) {i : Nat} {xs : List D} (e : ρ[i]? = some (.own xs false)) : ∃ F2 v, σ[i]? = some (some v) ∧ Stp G σ ρ F H σ (ρ.set i (.val (.lst xs))) F2 H ∧ Rep G F2 v (.lst xs) := by
  obtain ⟨a, vs, e1, h1, h2, h3⟩ := h.ownAt e
  have kf := same_upd (o := HO.lst vs) h2
  have hi : i < ρ.length := (List.getElem?_eq_some_iff.mp e).1
  have rp : Rep G (upd F a (.lst vs)) (.ref a) (.lst xs) := .lst upd_same (Reps.mono kf xs vs h3)
  have ownOld : ∀ b, Own σ (ρ.set i (.val (.lst xs))) b → Own σ ρ b ∧ b ≠ a := by
    rintro b ⟨j, ys, c, q1, q2⟩
    by_cases hj : i = j
    · subst hj; rw [List.getElem?_set_self hi] at q1; cases q1
    · rw [List.getElem?_set_ne hj] at q1
      exact ⟨⟨j, ys, c, q1, q2⟩, fun z => hj (h.sep i j xs ys false c a e q1 e1 (z ▸ q2))⟩
  refine ⟨upd F a (.lst vs), .ref a, e1, ⟨⟨by rw [List.length_set]; exact h.len, fun b x q => ?_, fun j s q ne => ?_, fun j k ys zs c c' b q1 q2 q3 q4 => ?_⟩, ⟨fun _ _ q _ => q, fun _ q => q, kf, fun b q => ?_⟩, fun b q => .inl (ownOld b q).1, fun j ys q => ?_⟩, rp⟩
  · by_cases hb : b = a
    · subst hb; rw [upd_same] at q; rw [← q]; exact h1
    · rw [upd_ne hb] at q; exact h.sub b x q
  · by_cases hj : i = j
    · subst hj
      rw [List.getElem?_set_self hi] at q; cases q
      exact ⟨_, e1, rp⟩
    · rw [List.getElem?_set_ne hj] at q
      obtain ⟨v, q1, q2⟩ := h.sl j s q ne
      refine ⟨v, q1, ?_⟩
      cases s with
      | non => trivial
      | val d => exact Rep.mono kf d v q2
      | own ys c =>
        obtain ⟨b, ws, rfl, w1, w2, w3⟩ := q2
        have hb : b ≠ a := fun z => hj (h.sep i j xs ys false c a e q e1 (z ▸ q1))
        exact ⟨b, ws, rfl, w1, by rw [upd_ne hb]; exact w2, Reps.mono kf ys ws w3⟩
  · have q1' : i ≠ j := fun z => by subst z; rw [List.getElem?_set_self hi] at q1; cases q1
    have q2' : i ≠ k := fun z => by subst z; rw [List.getElem?_set_self hi] at q2; cases q2
    rw [List.getElem?_set_ne q1'] at q1
    rw [List.getElem?_set_ne q2'] at q2
    exact h.sep j k ys zs c c' b q1 q2 q3 q4
  · by_cases hb : b = a
    · subst hb; exact .inr (.inr ⟨i, xs, false, e, e1⟩)
    · rw [upd_ne hb] at q; exact .inl q
  · have q' : i ≠ j := fun z => by subst z; rw [e] at q; cases q
    exact ⟨ys, by rw [List.getElem?_set_ne q']; exact q, rfl⟩
/-- the contents of an own slot change -/
theorem Stp.chg (h : Rel G F H σ ρ) {i : Nat} {xs ys : List D} {b : Bool} {a : Addr} {ws : List V} (e : ρ[i]? = some (.own xs b)) (e1 : σ[i]? = some (some (.ref a))) (hr : Reps G F ws ys) :
    Stp G σ ρ F H σ (ρ.set i (.own ys b)) F (upd H a (.lst ws)) := by
  obtain ⟨a', vs, e1', h1, h2, h3⟩ := h.ownAt e
  rw [e1] at e1'; cases e1'
  have hi : i < ρ.length := (List.getElem?_eq_some_iff.mp e).1
  have own' : ∀ c, Own σ (ρ.set i (.own ys b)) c → Own σ ρ c := by
    rintro c ⟨j, zs, d, q1, q2⟩
    by_cases hj : i = j
    · subst hj; exact ⟨i, xs, b, e, q2⟩
    · rw [List.getElem?_set_ne hj] at q1; exact ⟨j, zs, d, q1, q2⟩
  refine ⟨⟨by rw [List.length_set]; exact h.len, fun c x q => ?_, fun j s q ne => ?_, fun j k ys' zs c c' d q1 q2 q3 q4 => ?_⟩, ⟨fun c x q n => ?_, fun c q => ?_, fun _ _ q => q, fun c q => .inl q⟩, fun c q => .inl (own' c q), fun j zs q => ?_⟩
  · have hc : c ≠ a := ne_of_none q h2
    rw [upd_ne hc]; exact h.sub c x q
  · by_cases hj : i = j
    · subst hj
      rw [List.getElem?_set_self hi] at q; cases q
      exact ⟨_, e1, a, ws, rfl, upd_same, h2, hr⟩
    · rw [List.getElem?_set_ne hj] at q
      obtain ⟨v, q1, q2⟩ := h.sl j s q ne
      refine ⟨v, q1, ?_⟩
      cases s with
      | non => trivial
      | val d => exact q2
      | own zs c =>
        obtain ⟨d, us, rfl, w1, w2, w3⟩ := q2
        have hd : d ≠ a := fun z => hj (h.sep i j xs zs b c a e q e1 (z ▸ q1))
        exact ⟨d, us, rfl, by rw [upd_ne hd]; exact w1, w2, w3⟩
  · have back : ∀ (j : Nat) (zs : List D) (c : Bool), (ρ.set i (.own ys b))[j]? = some (.own zs c) → ∃ zs' c', ρ[j]? = some (.own zs' c') := fun j zs c q => by
      by_cases hj : i = j
      · subst hj; exact ⟨_, _, e⟩
      · rw [List.getElem?_set_ne hj] at q; exact ⟨_, _, q⟩
    obtain ⟨_, _, r1⟩ := back j _ _ q1
    obtain ⟨_, _, r2⟩ := back k _ _ q2
    exact h.sep j k _ _ _ _ d r1 r2 q3 q4
  · have hc : c ≠ a := fun z => n (z ▸ ⟨i, xs, b, e, e1⟩)
    rw [upd_ne hc]; exact q
  · by_cases hc : c = a
    · subst hc; rw [upd_same]; simp
    · rw [upd_ne hc]; exact q
  · by_cases hj : i = j
    · subst hj
      rw [e] at q; cases q
      exact ⟨ys, by rw [List.getElem?_set_self hi], rfl⟩
    · exact ⟨zs, by rw [List.getElem?_set_ne hj]; exact q, rfl⟩
/-- a value whose outermost list may be one of the frame's own -/
def RepT (G : Glo) (F H : Hp) (v : V) (d : D) : Prop := Rep G F v d ∨ ∃ (xs : List D) (a : Addr) (vs : List V), d = .lst xs ∧ v = .ref a ∧ H a = some (.lst vs) ∧ Reps G F vs xs
theorem RepT.rep {d : D} (s : Same F H) (h : RepT G F H v d) : Rep G H v d := by
  rcases h with h | ⟨xs, a, vs, rfl, rfl, h1, h2⟩
  · exact Rep.mono s d v h
  · exact .lst h1 (Reps.mono s xs vs h2)
theorem RepT.lst {xs : List D} (s : Same F H) (h : RepT G F H v (.lst xs)) : ∃ (a : Addr) (vs : List V), v = .ref a ∧ H a = some (.lst vs) ∧ Reps G F vs xs := by
  rcases h with h | ⟨_, a, vs, e, rfl, h1, h2⟩
  · cases h with
    | lst h1 h2 => exact ⟨_, _, rfl, s _ _ h1, h2⟩
  · cases e; exact ⟨a, vs, rfl, h1, h2⟩
theorem RepT.val {d : D} (h : RepT G F H v d) (hn : ∀ xs, d ≠ .lst xs) : Rep G F v d := by
  rcases h with h | ⟨xs, a, vs, rfl, _⟩
  · exact h
  · exact absurd rfl (hn xs)
/-- an operand that is known in the end -/
theorem OR.res (h : Rel G F H σ ρ) {o : Opd} {d : D} (q : OR G σ F v o) (e : resO ρ o = some d) : RepT G F H v d := by
  cases o with
  | val d' => cases e; exact .inl q
  | slot i =>
    have q : σ[i]? = some (some v) := q
    simp only [resO] at e
    split at e
    · rename_i d' e'
      cases e
      obtain ⟨w, e1, e2⟩ := h.valAt e'
      rw [q] at e1; cases e1
      exact .inl e2
    · rename_i xs b e'
      cases e
      obtain ⟨a, vs, e1, e2, e3, e4⟩ := h.ownAt e'
      rw [q] at e1; cases e1
      exact .inr ⟨xs, a, vs, rfl, rfl, e2, e4⟩
    · cases e
  | tmp _ => exact False.elim q
theorem OR.mono (s : Same F F') {o : Opd} (q : OR G σ F v o) : OR G σ F' v o := by
  cases o with
  | val d => exact Rep.mono s d v q
  | slot i => exact q
  | tmp _ => exact q
theorem RR.mono (s : Stp G σ ρ F H σ' ρ' F' H') {H0 : Hp} (q : RR G H0 σ ρ F H v r) : RR G H0 σ' ρ' F' H' v r := by
  cases r with
  | val d => exact Rep.mono s.ext.ff d v q
  | fresh xs =>
    obtain ⟨a, vs, rfl, h1, h2, h3, h4, h5⟩ := q
    refine ⟨a, vs, rfl, s.ext.keep a _ h1 h3, ?_, fun z => ?_, h4, Reps.mono s.ext.ff xs vs h5⟩
    · cases e : F' a with
      | none => rfl
      | some x =>
        rcases s.ext.nf a (by rw [e]; simp) with z | z | z
        · exact absurd h2 z
        · rw [h1] at z; cases z
        · exact absurd z h3
    · rcases s.own a z with z | z
      · exact h3 z
      · rw [h1] at z; cases z
end
end Cr
namespace Cr
open PySem PySem.Spec PyProof.Rows L2
theorem RepK.isEmpty {G : Glo} {F : Hp} : ∀ {kvs : List (Key × V)} {ds : List (Key × D)}, RepK G F kvs ds → kvs.isEmpty = ds.isEmpty
  | _, _, .nil => rfl
  | _, _, .cons _ _ => rfl
theorem Reps.isEmpty {G : Glo} {F : Hp} : ∀ {kvs : List V} {ds : List D}, Reps G F kvs ds → kvs.isEmpty = ds.isEmpty
  | _, _, .nil => rfl
  | _, _, .cons _ _ => rfl
/-- how an exception lies -/
def ExR (G : Glo) (F H : Hp) (c : Nat) (x : Option D) (cls : Value) (d : Option Addr) : Prop :=
  cls = .ref (G.ca c) ∧ match x with
  | none => d = none
  | some y => ∃ a v, d = some a ∧ H a = some (.xd [(G.fld c, v)]) ∧ Rep G F v y
section
variable (G : Glo) (W : WX)
/-- what a reading asks, told the evaluator's answer -/
def Ask {α : Type} (σ : L2.St) (ρ : Env) (F H : Hp) (x : Res (α × Env) Env) (k : α → Env → Hp → Hp → Prop) : Prop := match x with
  | .ok (a, ρ') => ∀ F' H', Stp G σ ρ F H σ ρ' F' H' → k a ρ' F' H'
  | .exc c y ρ' => ∀ F' H', Stp G σ ρ F H σ ρ' F' H' → ∀ cls d, ExR G F' H' c y cls d → W cls d σ H'
  | .stuck => False
end
section
variable {G : Glo} {W : WX} {α β : Type} {σ : L2.St} {ρ : Env} {F H : Hp}
theorem Ask.bd {x : Res (α × Env) Env} {f : α × Env → Res (β × Env) Env} {k : β → Env → Hp → Hp → Prop} (h : Ask G W σ ρ F H (x.bd f) k) :
    Ask G W σ ρ F H x fun a ρ1 F1 H1 => Ask G W σ ρ1 F1 H1 (f (a, ρ1)) k := by
  cases x with
  | ok p =>
    obtain ⟨a, ρ1⟩ := p
    intro F1 H1 s1
    have h' : Ask G W σ ρ F H (f (a, ρ1)) k := h
    unfold Ask at h' ⊢
    split at h'
    · rename_i b ρ2 e
      exact fun F2 H2 s2 => h' F2 H2 (s1.trans s2)
    · exact fun F2 H2 s2 cls d q => h' F2 H2 (s1.trans s2) cls d q
    · exact h'
  | exc c y b => exact h
  | stuck => exact h
theorem Ask.imp {x : Res (α × Env) Env} {k k' : α → Env → Hp → Hp → Prop} (h : Ask G W σ ρ F H x k) (f : ∀ a ρ' F' H', Stp G σ ρ F H σ ρ' F' H' → k a ρ' F' H' → k' a ρ' F' H') : Ask G W σ ρ F H x k' := by
  unfold Ask at h ⊢
  split at h
  · exact fun F' H' s => f _ _ _ _ s (h F' H' s)
  · exact h
  · exact h
theorem Ask.ok {a : α} {k : α → Env → Hp → Hp → Prop} (h : Ask G W σ ρ F H (.ok (a, ρ)) k) (r : Rel G F H σ ρ) : k a ρ F H := h F H (Stp.refl r)
theorem RR.back {σ' : L2.St} {ρ' : Env} {F' H' H0 F0 : Hp} {σ0 : L2.St} {ρ0 : Env} {v : V} {r : R} (s : Stp G σ0 ρ0 F0 H0 σ ρ F H) (q : RR G H σ' ρ' F' H' v r) : RR G H0 σ' ρ' F' H' v r := by
  cases r with
  | val d => exact q
  | fresh xs =>
    obtain ⟨a, vs, rfl, h1, h2, h3, h4, h5⟩ := q
    exact ⟨a, vs, rfl, h1, h2, h3, s.free h4, h5⟩
end
section
variable (G : Glo) (C : CallF) (W : WX)
def rE (e : E) : TE := fun σ H Q => ∃ F ρ, Rel G F H σ ρ ∧ Ask G W σ ρ F H (ev C e ρ) fun r ρ' F' H' => ∀ v, RR G H σ ρ' F' H' v r → Q v H'
def rD (e : E) : TE := fun σ H Q => ∃ F ρ, Rel G F H σ ρ ∧ Ask G W σ ρ F H (mkD (ev C e) ρ) fun d ρ' F' H' => ∀ v, Rep G F' v d → Q v H'
def rO (e : E) : TE := fun σ H Q => ∃ F ρ, Rel G F H σ ρ ∧ Ask G W σ ρ F H (mkO e (ev C e) ρ) fun o ρ' F' H' => ∀ v, OR G σ F' v o → Q v H'
def rT (e : E) : TT := fun σ H Q => ∃ F ρ, Rel G F H σ ρ ∧ Ask G W σ ρ F H (evT C e ρ) fun b ρ' F' H' => Q b H'
def rDs (es : Es) : TA := fun σ H Q => ∃ F ρ, Rel G F H σ ρ ∧ Ask G W σ ρ F H (evDs C es ρ) fun ds ρ' F' H' => ∀ vs, Reps G F' vs ds → Q vs H'
def ORs (σ : L2.St) (F : Hp) : List V → List Opd → Prop
  | [], [] => True
  | v :: vs, o :: os => OR G σ F v o ∧ ORs σ F vs os
  | _, _ => False
def rOs (es : Es) : TA := fun σ H Q => ∃ F ρ, Rel G F H σ ρ ∧ Ask G W σ ρ F H (evOs C es ρ) fun os ρ' F' H' => ∀ vs, ORs G σ F' vs os → Q vs H'
structure Snd (X : Cx) (e : Expr) (E : E) : Prop where
  v : PE X e (rE G C W E)
  o : PE X e (rO G C W E)
  t : PT X e (rT G C W E)
end
theorem pewk {X : Cx} {e : Expr} {t t' : TE} (h : PE X e t) (f : ∀ σ H Q, t' σ H Q → t σ H Q) : PE X e t' := ⟨fun pins s σ H Q I q => h.run pins s σ H Q I (f σ H Q q)⟩
theorem ptwk {X : Cx} {e : Expr} {t t' : TT} (h : PT X e t) (f : ∀ σ H Q, t' σ H Q → t σ H Q) : PT X e t' := ⟨fun pins s σ H Q I q => h.run pins s σ H Q I (f σ H Q q)⟩
theorem pawk {X : Cx} {e : List Expr} {t t' : TA} (h : PA X e t) (f : ∀ σ H Q, t' σ H Q → t σ H Q) : PA X e t' := ⟨fun pos pins s σ H Q I q => h.run pos pins s σ H Q I (f σ H Q q)⟩
theorem psswk {X : Cx} {e : List Stmt} {t t' : TS} (h : PSs X e t) (f : ∀ D σ H, t' D σ H → t D σ H) : PSs X e t' := ⟨fun pins s σ H D I q => h.run pins s σ H D I (f D σ H q)⟩
theorem pswk {X : Cx} {e : Stmt} {t t' : TS} (h : PS X e t) (f : ∀ D σ H, t' D σ H → t D σ H) : PS X e t' := ⟨fun pins s σ H D I q => h.run pins s σ H D I (f D σ H q)⟩
section
variable {G : Glo} {C : CallF} {W : WX} {X : Cx} {e a b c : Expr} {A B Cc : E} {pos : Pos}
theorem rD_of {σ : L2.St} {H : Hp} {Q : VK} (h : rD G C W A σ H Q) : rE G C W A σ H Q := by
  obtain ⟨F, ρ, hr, h⟩ := h
  refine ⟨F, ρ, hr, ?_⟩
  unfold mkD at h
  cases e : ev C A ρ with
  | ok p =>
    obtain ⟨r, ρ'⟩ := p
    rw [e] at h
    intro F' H' s v q
    obtain ⟨F2, s2, _, rp⟩ := freeze s q
    exact h F2 H' s2 v rp
  | exc c y b => rw [e] at h; exact h
  | stuck => rw [e] at h; exact h
theorem Snd.d (h : Snd G C W X e A) : PE X e (rD G C W A) := pewk h.v fun _ _ _ q => rD_of q
theorem mkO_not {k : Env → Res (R × Env) Env} (hv : isV A = false) (ρ : Env) : mkO A k ρ = (k ρ).bd fun (r, ρ') => .ok (.val r.toD, ρ') := by
  cases A <;> first | rfl | simp [isV] at hv
theorem rO_of (hv : isV A = false) {σ : L2.St} {H : Hp} {Q : VK} (h : rO G C W A σ H Q) : rD G C W A σ H Q := by
  obtain ⟨F, ρ, hr, h⟩ := h
  refine ⟨F, ρ, hr, ?_⟩
  rw [mkO_not hv] at h
  unfold mkD
  cases e : ev C A ρ with
  | ok p => rw [e] at h; exact h
  | exc c y b => rw [e] at h; exact h
  | stuck => rw [e] at h; exact h
theorem tru_of {K : PySem.W.Frag} {H : Hp} {G : Glo} (hK : K = G.K) {v : V} {d : D} {k : Bool} (h : Rep G H v d) (e : d.truth = some k) : TruV K v H k := by
  subst hK
  cases h with
  | non => cases e; rfl
  | bl b => cases e; rfl
  | int i => cases e; rfl
  | str x =>
    have e' : (if x.length ≤ sizeLine then some (x.length != 0) else none) = some k := e
    by_cases hx : x.length ≤ sizeLine
    · rw [if_pos hx] at e'
      cases e'
      exact ⟨hx, by cases x.length <;> rfl⟩
    · rw [if_neg hx] at e'; cases e'
  | tup h1 h2 => cases e; exact .inr (.inl ⟨_, h1.t, by rw [h2.isEmpty]⟩)
  | lst h1 h2 => cases e; exact .inl ⟨_, .inl (.inl h1), by rw [h2.isEmpty]⟩
  | rol h1 h2 => cases e; exact .inl ⟨_, h1, by rw [h2.isEmpty]⟩
  | dct h1 h2 => cases e; exact .inr (.inr ⟨_, h1, by rw [h2.isEmpty]⟩)
  | fn f => cases e
/-- an expression whose test is its value's truth -/
theorem Snd.plain (hv : PE X e (rE G C W A)) (ho : PE X e (rO G C W A)) (hK : X.K = G.K) 
    (he : ∀ whole, isTrue e X.env whole = (do let v ← whole; standAt e.pos; holding [v] (truthy v))) : Snd G C W X e A := by
  refine ⟨hv, ho, ptwk (pt_truth ho he) fun σ H Q h => ?_⟩
  obtain ⟨F, ρ, hr, h⟩ := h
  refine ⟨F, ρ, hr, ?_⟩
  unfold evT at h
  refine Ask.imp (Ask.bd h) fun o ρ' F' H' s k v q => ?_
  have k' : Ask G W σ ρ' F' H' (match (resO ρ' o).bind D.truth with
    | some b => .ok (b, ρ')
    | none => .stuck) fun b ρ'' F'' H'' => Q b H'' := k
  split at k'
  · rename_i b e'
    obtain ⟨d, e1, e2⟩ := Option.bind_eq_some_iff.mp e'
    exact ⟨b, tru_of hK (RepT.rep s.rel.sub (OR.res s.rel q e1)) e2, k'.ok s.rel⟩
  · exact k'.elim
theorem Snd.mk1 (hv : PE X e (rE G C W A)) (hn : isV A = false) (hK : X.K = G.K) 
    (he : ∀ whole, isTrue e X.env whole = (do let v ← whole; standAt e.pos; holding [v] (truthy v))) : Snd G C W X e A :=
  Snd.plain hv (pewk (pewk hv fun _ _ _ q => rD_of q) fun _ _ _ q => rO_of hn q) hK he
theorem snd_var {i : Nat} {x : Str} (hN : X.N[i]? = some x) (hv : Vis X.env.scope x) (hK : X.K = G.K) (hd : (x == ("__debug__" : Str)) = false) (hcd : (x == ("__classdict__" : Str)) = false) : Snd G C W X (.Name x pos) (.var i) := by
  have p := pe_var (X := X) (pos := pos) hN hv hd hcd
  refine Snd.plain (pewk p fun σ H Q h => ?_) (pewk p fun σ H Q h => ?_) hK (fun _ => rfl)
  · obtain ⟨F, ρ, hr, h⟩ := h
    simp only [ev] at h
    split at h
    · rename_i d e
      obtain ⟨v, e1, e2⟩ := hr.valAt e
      exact ⟨v, e1, h F H (Stp.refl hr) v e2⟩
    · rename_i xs e
      obtain ⟨F2, v, e1, s, rp⟩ := freezeS hr e
      exact ⟨v, e1, h F2 H s v rp⟩
    · exact h.elim
  · obtain ⟨F, ρ, hr, h⟩ := h
    simp only [mkO] at h
    split at h
    · rename_i d e
      obtain ⟨v, e1, e2⟩ := hr.valAt e
      exact ⟨v, e1, h F H (Stp.refl hr) v e1⟩
    · rename_i xs b e
      obtain ⟨a, vs, e1, _⟩ := hr.ownAt e
      exact ⟨_, e1, h F H (Stp.refl hr) _ e1⟩
    · exact h.elim
theorem snd_con {d : D} {v : V} (p : PE X e (tC v)) (hd : ∀ F, Rep G F v d) (hE : ∀ ρ, ev C A ρ = .ok (.val d, ρ)) (hn : isV A = false) (hK : X.K = G.K) 
    (he : ∀ whole, isTrue e X.env whole = (do let v ← whole; standAt e.pos; holding [v] (truthy v))) : Snd G C W X e A := by
  refine Snd.mk1 (pewk p fun σ H Q h => ?_) hn hK he
  obtain ⟨F, ρ, hr, h⟩ := h
  rw [hE] at h
  exact h F H (Stp.refl hr) v (hd F)
theorem snd_int {i : Int} {k : Nat} (hK : X.K = G.K) : Snd G C W X (.Constant (.int i) k pos) (.cst (.int i)) := snd_con pe_int (fun _ => .int i) (fun _ => rfl) rfl hK fun _ => rfl
theorem snd_bl {i : Bool} {k : Nat} (hK : X.K = G.K) : Snd G C W X (.Constant (.bool i) k pos) (.cst (.bl i)) := snd_con pe_bl (fun _ => .bl i) (fun _ => rfl) rfl hK fun _ => rfl
theorem snd_non {k : Nat} (hK : X.K = G.K) : Snd G C W X (.Constant .none k pos) (.cst .non) := snd_con pe_non (fun _ => .non) (fun _ => rfl) rfl hK fun _ => rfl
theorem snd_str {x : Str} {k : Nat} (hK : X.K = G.K) : Snd G C W X (.Constant (.str x) k pos) (.cst (.str x)) := snd_con pe_str (fun _ => .str x) (fun _ => rfl) rfl hK fun _ => rfl
theorem snd_glo {x : Str} {d : D} {v : V} {u : Value} (hg : Gl X x) (hm : X.mg x = some u) (r : RelV v u) (hd : ∀ F, Rep G F v d) (hdb : (x == ("__debug__" : Str)) = false) (hK : X.K = G.K) : Snd G C W X (.Name x pos) (.glo x d) :=
  snd_con (pe_glob hg hm r hdb) hd (fun _ => rfl) rfl hK fun _ => rfl
theorem snd_gfn {x : Str} {f : Nat} (hg : Gl X x) (hm : X.mg x = some (.ref (G.fa f))) (hdb : (x == ("__debug__" : Str)) = false) (hK : X.K = G.K) : Snd G C W X (.Name x pos) (.gfn f) :=
  snd_con (pe_glob (v := .ref (G.fa f)) hg hm rfl hdb) (fun _ => .fn f) (fun _ => rfl) rfl hK fun _ => rfl
/-- an operator's rule gives what the evaluator says -/
def OpS (G : Glo) (X : Cx) (r : R2) (k : D → D → Option R) : Prop := ∀ (σ : L2.St) (ρ : Env) (F H : Hp) (v u : V) (x y : D) (z : R) (Q : VK), Rel G F H σ ρ → RepT G F H v x → RepT G F H u y → k x y = some z →
  (∀ w F' H', Stp G σ ρ F H σ ρ F' H' → RR G H σ ρ F' H' w z → Q w H') → r v u H Q
theorem two_wk {k : D → D → Option R} {r : R2} (hs : OpS G X r k) {σ : L2.St} {H : Hp} {Q : VK}
    (h : ∃ F ρ, Rel G F H σ ρ ∧ Ask G W σ ρ F H (two (mkO A (ev C A) ρ) (mkO B (ev C B)) k) fun r ρ' F' H' => ∀ v, RR G H σ ρ' F' H' v r → Q v H') : tOp r (rO G C W A) (rO G C W B) σ H Q := by
  obtain ⟨F, ρ, hr, h⟩ := h
  refine ⟨F, ρ, hr, Ask.imp (Ask.bd h) fun o1 ρ1 F1 H1 s1 h1 v q1 => ⟨F1, ρ1, s1.rel, Ask.imp (Ask.bd h1) fun o2 ρ2 F2 H2 s2 h2 u q2 => ?_⟩⟩
  have h2' : Ask G W σ ρ2 F2 H2 (match resO ρ2 o1, resO ρ2 o2 with
    | some d1, some d2 => match k d1 d2 with
      | some r => .ok (r, ρ2)
      | none => .stuck
    | _, _ => .stuck) fun r ρ' F' H' => ∀ v, RR G H σ ρ' F' H' v r → Q v H' := h2
  split at h2'
  · rename_i d1 d2 e1 e2
    split at h2'
    · rename_i z ez
      have s12 := s1.trans s2
      exact hs σ ρ2 F2 H2 v u d1 d2 z Q s2.rel (OR.res s2.rel (OR.mono s2.ext.ff q1) e1) (OR.res s2.rel q2 e2) ez fun w F' H' s' rr => h2' F' H' s' w (RR.back s12 rr)
    · exact h2'.elim
  · exact h2'.elim
def UnS (G : Glo) (X : Cx) (r : V → Hp → VK → Prop) (k : D → Option R) : Prop := ∀ (σ : L2.St) (ρ : Env) (F H : Hp) (v : V) (x : D) (z : R) (Q : VK), Rel G F H σ ρ → RepT G F H v x → k x = some z →
  (∀ w F' H', Stp G σ ρ F H σ ρ F' H' → RR G H σ ρ F' H' w z → Q w H') → r v H Q
theorem one_wk {k : D → Option R} {r : V → Hp → VK → Prop} (hs : UnS G X r k) {σ : L2.St} {H : Hp} {Q : VK}
    (h : ∃ F ρ, Rel G F H σ ρ ∧ Ask G W σ ρ F H (one (mkO A (ev C A) ρ) k) fun r ρ' F' H' => ∀ v, RR G H σ ρ' F' H' v r → Q v H') : tUn r (rO G C W A) σ H Q := by
  obtain ⟨F, ρ, hr, h⟩ := h
  refine ⟨F, ρ, hr, Ask.imp (Ask.bd h) fun o1 ρ1 F1 H1 s1 h1 v q1 => ?_⟩
  have h2' : Ask G W σ ρ1 F1 H1 (match resO ρ1 o1 with
    | some d1 => match k d1 with
      | some r => .ok (r, ρ1)
      | none => .stuck
    | _ => .stuck) fun r ρ' F' H' => ∀ v, RR G H σ ρ' F' H' v r → Q v H' := h1
  split at h2'
  · rename_i d1 e1
    split at h2'
    · rename_i z ez
      exact hs σ ρ1 F1 H1 v d1 z Q s1.rel (OR.res s1.rel q1 e1) ez fun w F' H' s' rr => h2' F' H' s' w (RR.back s1 rr)
    · exact h2'.elim
  · exact h2'.elim
theorem snd_bin {op : Operator} {r : R2} (ho : OpR X (binaryOp op) r) (hs : OpS G X r (binD op)) (ha : Snd G C W X a A) (hb : Snd G C W X b B) (hK : X.K = G.K) : Snd G C W X (.BinOp a op b pos) (.bin op A B) :=
  Snd.mk1 (pewk (pe_op ho ha.o hb.o) fun σ H Q h => two_wk hs (by simpa only [rE, ev] using h)) rfl hK fun _ => rfl
end
end Cr
namespace Cr
open PySem PySem.Spec PyProof.Rows L2
/-- a new tuple of vs stands somewhere -/
def NewT (H : Hp) (vs : List V) (Q : VK) : Prop := ∀ (p : Addr) (ob : Obj), ob.dict = none → H p = none → Q (.ref p) (upd H p (.frz ob (.tup vs)))
section
variable {X : Cx} {pins : List (Addr × Obj)} {σ : L2.St} {H : Hp} {s : Shared} {Q : VK} {es : List Expr} {t : TA} {pos p : Pos} {e : Expr} {te : L2.St → Hp → (Int → Int → Hp → Prop) → Prop}
theorem tup_laid {vs : List V} {its : List Value} {n tk : Nat} (J : Inv X pins σ H s) (rv : Vals vs its) (hz : vs.length ≤ sizeLine) (q : NewT H vs Q) :
    EP X pins σ Q (.ref s.heap.objs.size) { s with heap := s.heap.push { cls := .type "tuple", data := .seq its.toArray n }, toks := tk } := by
  have g : (s.heap.push { cls := .type "tuple", data := .seq its.toArray n }).get? s.heap.objs.size = some { cls := .type "tuple", data := .seq its.toArray n } := Heap.get?_push_size _ rfl
  have J' := J.laid (t' := tk) (a := s.heap.objs.size) (o := .frz { cls := .type "tuple", data := .seq its.toArray n } (.tup vs)) (fun b u z => Heap.get?_push_of_some _ z) (Nat.le_refl _) ⟨g, hz, its, rv, ⟨_, g, rfl, n, rfl⟩⟩
  exact ⟨.ref _, _, J', rfl, q _ _ rfl (J.hok.fresh (Nat.le_refl _))⟩
def tTupN (t : TA) : TE := fun σ H Q => t σ H fun xs H1 => xs.length ≤ sizeLine ∧ NewT H1 xs Q
theorem pe_tupN {k : Nat} (h : PA X es t) : PE X (.Tuple es k pos) (tTupN t) := ⟨fun pins s σ H Q I hq =>
  wpAny_Tuple_spliced (thn (h.run pos pins s σ H _ I hq) fun us s1 ⟨xs, H1, J, rv, hz, q⟩ => ⟨by have := rv.length; omega, tup_laid (tk := s1.toks) J rv hz q⟩)⟩
/-- tuple(..) -/
def rTupleN (K : PySem.W.Frag) : List V → Hp → VK → Prop := fun xs H Q => ∃ l ys, xs = [V.ref l] ∧ ((SqL K H l ys ∧ NewT H ys Q) ∨ (SqT K H l ys ∧ Q (.ref l) H))
theorem call_tupleN : CallR X (.type "tuple") (rTupleN X.K) := by
  intro pins s σ H xs us Q I r ⟨l, ys, ex, h⟩
  subst ex
  obtain ⟨u, eu, ru⟩ := vals1 r
  subst eu
  cases ru
  rcases h with ⟨hl, q⟩ | ⟨ht, q⟩
  · obtain ⟨its, rv, pl, hz⟩ := I.list hl
    have hlen := rv.length
    exact call_tuple_list pl.isList (fun h' kp => tup_laid (tk := s.toks) (s := { s with heap := h' }) (I.kept (t' := s.toks) kp) rv hz q) (by rw [List.size_toArray]; omega)
  · obtain ⟨its, _, pl, _⟩ := I.tuple ht
    exact call_tuple_same pl ⟨.ref l, H, I, rfl, q⟩
/-- tuple(range(..)) -/
def tTupRgN (te : L2.St → Hp → (Int → Int → Hp → Prop) → Prop) : TE := fun σ H Q => te σ H fun a b H1 => RgOk a b ∧ NewT H1 (rgV a b) Q
theorem pe_tupRgN (hc : X.calm = true) (hg : Gl X "tuple") (hm : X.mg "tuple" = none) (he : PRg X e te) (na : starEach [e] X.env = (false, eval e X.env) :: starEach [] X.env := by rfl) : PE X (.Call (.Name "tuple" p) [e] [] pos) (tTupRgN te) := by
  refine ⟨fun pins s σ H Q I h => Call_ (ld_blt I hg hm boot_tuple (PyProof.Rows.callWith_type1 (args_cons (thn (he pins s σ H _ I h) fun x s1 hh => args_nil ?_) na) na))⟩
  obtain ⟨r, a, b, u1, u2, u3, H1, ex, hr, J, ⟨b1, b2, b3, b4, b5⟩, q⟩ := hh
  subst ex
  refine call_tuple_range (n := (b - a).toNat) (J.ok.hd hc) hr (small_one b1 b2 b3 b4) (rangeSize_nat a b) b5 fun h' tk acc hk hi => ?_
  have z := tup_laid (tk := tk) (n := 0) (s := { s1 with heap := h', toks := tk }) (J.kept hk) (vals_rg hi) (by rw [rgV_length, sizeLine_eq]; omega) q
  rw [Array.toArray_toList] at z
  exact z
/-- divmod -/
def rDmN : List V → Hp → VK → Prop := fun xs H Q => ∃ i j, xs = [V.int i, V.int j] ∧ CDiv i j ∧ NewT H [V.int (i / j), V.int (i % j)] Q
theorem call_dmN : CallR X (.builtin "divmod") rDmN := by
  intro pins s σ H xs us Q I r ⟨i, j, ex, ⟨h1, h2⟩, q⟩
  subst ex
  obtain ⟨u, u', eu, ⟨t1, e1⟩, ⟨t2, e2⟩⟩ := vals2 r
  subst eu e1 e2
  refine divmod_int (by omega) ?_ (.inl (PyProof.noPylong_small (by omega)))
  rw [Int.fdiv_eq_ediv_of_nonneg i (by omega), Int.fmod_eq_emod_of_nonneg i (by omega)]
  exact tup_laid (s := { s with toks := s.toks + 1 + 1 }) (tk := s.toks + 1 + 1) (I.tok _) (its := [.int (i / j) s.toks, .int (i % j) (s.toks + 1)]) (vs := [V.int (i / j), V.int (i % j)]) (.cons ⟨_, rfl⟩ (.cons ⟨_, rfl⟩ .nil)) (Nat.le_of_ble_eq_true rfl) q
/-- t + u -/
def rCatN (K : PySem.W.Frag) : R2 := fun x y H Q => ∃ a b xs ys, x = .ref a ∧ y = .ref b ∧ SqT K H a xs ∧ SqT K H b ys ∧ xs.length + ys.length ≤ sizeLine ∧
  (xs = [] → Q (.ref b) H) ∧ (xs ≠ [] → ys = [] → Q (.ref a) H) ∧ (xs ≠ [] → ys ≠ [] → NewT H (xs ++ ys) Q)
theorem op_catN : OpR X (binaryOp .Add) (rCatN X.K) := by
  intro pins s σ H x y v u Q I rx ry ⟨a, b, xs, ys, ex, ey, ha, hb, hz, q0, q1, q2⟩
  subst ex ey
  cases rx
  cases ry
  obtain ⟨i1, r1, p1, _⟩ := I.tuple ha
  obtain ⟨i2, r2, p2, _⟩ := I.tuple hb
  by_cases hx : xs = []
  · subst hx
    cases r1
    exact cat_tup0 p1 p2 ⟨.ref b, H, I, rfl, q0 rfl⟩
  · have hlen1 := r1.length
    have hlen2 := r2.length
    refine HT.cat_tup p1 p2 (fun z => hx (r1.nil_iff.mp z)) (fun z => ⟨.ref a, H, I, rfl, q1 hx (r2.nil_iff.mp z)⟩) (fun z => ?_) (by omega)
    exact tup_laid (tk := s.toks) I (r1.append r2) (by rw [List.length_append]; exact hz) (q2 hx fun w => z (r2.nil_iff.mpr w))
/-- t[l:h] -/
def rSlN (K : PySem.W.Frag) : V → Option Int → Option Int → Hp → VK → Prop := fun x lo hi H Q => ∃ a xs, x = .ref a ∧ SqT K H a xs ∧
  (HT.sIx xs.length 0 lo = 0 ∧ HT.sIx xs.length xs.length hi = xs.length → Q (.ref a) H) ∧ (¬ (HT.sIx xs.length 0 lo = 0 ∧ HT.sIx xs.length xs.length hi = xs.length) → NewT H (cutV xs lo hi) Q)
theorem sl_tupN : SlR X (rSlN X.K) := by
  intro pins s σ H x v vl vu lo hi sl Q I rx hs pl pu ⟨a, xs, ex, hx, q1, q2⟩
  subst ex
  cases rx
  obtain ⟨its, rv, ht, hz⟩ := I.tuple hx
  have hsize : its.toArray.size = xs.length := by have := rv.length; rw [List.size_toArray]; omega
  refine ⟨"tuple", _, PyProof.Rows.slot_tuple_getitem.lookup, ht.typeIs, ?_⟩
  by_cases hw : HT.sIx xs.length 0 lo = 0 ∧ HT.sIx xs.length xs.length hi = xs.length
  · exact getItem_tuple_whole ht hs pl pu (by rw [hsize]; exact hw) ⟨.ref a, H, I, rfl, q1 hw⟩
  · refine HT.getItem_tuple_cut ht hs pl pu (by rw [hsize]; exact hw) ?_ (by omega)
    rw [hsize]
    exact tup_laid (tk := s.toks) I ((rv.drop (HT.sIx xs.length 0 lo)).take (HT.sIx xs.length xs.length hi - HT.sIx xs.length 0 lo)) (Nat.le_trans (cutV_length xs lo hi) hz) (q2 hw)
end
end Cr
namespace Cr
open PySem PySem.Spec PyProof.Rows L2
section
variable {G : Glo} {C : CallF} {W : WX} {X : Cx} {e a b c : Expr} {A B Cc : E} {pos : Pos} {σ : L2.St} {ρ : Env} {F H : Hp} {Q : VK}
/-- new objects: a value, a list -/
theorem fin_tup {vs : List V} {ds : List D} (hr : Rel G F H σ ρ) (q : ∀ w F' H', Stp G σ ρ F H σ ρ F' H' → RR G H σ ρ F' H' w (.val (.tup ds)) → Q w H') (hv : Reps G F vs ds) : NewT H vs Q := fun p ob hd hp => by
  have s := Stp.layF hr (o := HO.frz ob (.tup vs)) hp
  exact q _ _ _ s (.tup (.inl ⟨ob, upd_same, hd⟩) (Reps.mono s.ext.ff ds vs hv))
theorem fin_lst {vs : List V} {ds : List D} (hr : Rel G F H σ ρ) (q : ∀ w F' H', Stp G σ ρ F H σ ρ F' H' → RR G H σ ρ F' H' w (.fresh ds) → Q w H') (hv : Reps G F vs ds) {p : Addr} (hp : H p = none) : Q (.ref p) (upd H p (.lst vs)) := by
  have s := Stp.lay hr (o := HO.lst vs) hp
  refine q _ _ _ s ⟨p, vs, rfl, upd_same, hr.sub.free hp, fun o => ?_, hp, hv⟩
  obtain ⟨us, e1, _⟩ := Own.lst hr o
  rw [hp] at e1; cases e1
theorem fin_v {d : D} {w : V} (hr : Rel G F H σ ρ) (q : ∀ w F' H', Stp G σ ρ F H σ ρ F' H' → RR G H σ ρ F' H' w (.val d) → Q w H') (h : Rep G F w d) : Q w H := q w F H (Stp.refl hr) h
def OpR2 (X : Cx) (op : Operator) (r : R2) : Prop := OpR X (binaryOp op) r
theorem int_of {v : V} {i : Int} (h : RepT G F H v (.int i)) : v = .int i := by
  have := h.val (fun _ z => by cases z)
  cases this; rfl
theorem bl_of {v : V} {i : Bool} (h : RepT G F H v (.bl i)) : v = .bl i := by
  have := h.val (fun _ z => by cases z)
  cases this; rfl
theorem str_of {v : V} {i : Str} (h : RepT G F H v (.str i)) : v = .str i := by
  have := h.val (fun _ z => by cases z)
  cases this; rfl
theorem non_of {v : V} (h : RepT G F H v .non) : v = .non := by
  have := h.val (fun _ z => by cases z)
  cases this; rfl
theorem tupn_of {v : V} {ds : List D} (h : RepT G F H v (.tup ds)) : ∃ a vs, v = .ref a ∧ SqN G.K F a vs ∧ Reps G F vs ds := by
  have := h.val (fun _ z => by cases z)
  cases this with
  | tup h1 h2 => exact ⟨_, _, rfl, h1, h2⟩
theorem tup_of {v : V} {ds : List D} (h : RepT G F H v (.tup ds)) : ∃ a vs, v = .ref a ∧ SqT G.K F a vs ∧ Reps G F vs ds := by
  have := h.val (fun _ z => by cases z)
  cases this with
  | tup h1 h2 => exact ⟨_, _, rfl, h1.t, h2⟩
theorem rol_of {v : V} {ds : List D} (h : RepT G F H v (.rol ds)) : ∃ a vs, v = .ref a ∧ SqL G.K F a vs ∧ Reps G F vs ds := by
  have := h.val (fun _ z => by cases z)
  cases this with
  | rol h1 h2 => exact ⟨_, _, rfl, h1, h2⟩
theorem nil_iff {vs : List V} {ds : List D} (h : Reps G F vs ds) : vs = [] ↔ ds = [] := by
  cases h <;> simp
abbrev addR (K : PySem.W.Frag) : R2 := fun x y H Q => (∃ i j, x = .int i ∧ y = .int j ∧ Q (.int (i + j)) H) ∨ (∃ i j, x = .str i ∧ y = .str j ∧ i.length + j.length ≤ sizeLine ∧ Q (.str (i ++ j)) H) ∨ rCat x y H Q ∨ rCatN K x y H Q
theorem op_addA : OpR X (binaryOp .Add) (addR X.K) := OpR.or op_add (OpR.or op_add_str (OpR.or op_cat op_catN))
theorem ops_add (hK : X.K = G.K) : OpS G X (addR X.K) (binD .Add) := by
  intro σ ρ F H v u x y z Q hr hx hy e q
  rw [hK]
  cases x <;> cases y <;> simp only [binD] at e <;> try cases e
  · rw [int_of hx, int_of hy]
    exact .inl ⟨_, _, rfl, rfl, fin_v hr q (.int _)⟩
  · rw [str_of hx, str_of hy]
    split at e
    · cases e
      exact .inr (.inl ⟨_, _, rfl, rfl, by assumption, fin_v hr q (.str _)⟩)
    · cases e
  · split at e
    · cases e
      rename_i xs ys hz
      obtain ⟨a, vs, rfl, h1, h2⟩ := tupn_of hx
      obtain ⟨b, ws, rfl, h3, h4⟩ := tupn_of hy
      refine .inr (.inr (.inr ⟨a, b, vs, ws, rfl, rfl, (Same.sqn hr.sub h1).t, (Same.sqn hr.sub h3).t, by rw [h2.length, h4.length]; exact hz, fun e => ?_, fun _ e => ?_, fun _ _ => fin_tup hr q (h2.append h4)⟩))
      · have e' := (nil_iff h2).mp e
        subst e'
        exact fin_v hr q (.tup h3 h4)
      · have e' := (nil_iff h4).mp e
        subst e'
        rw [List.append_nil] at q
        exact fin_v hr q (.tup h1 h2)
    · cases e
  · split at e
    · cases e
      rename_i xs ys hz
      obtain ⟨a, vs, rfl, h1, h2⟩ := hx.lst hr.sub
      obtain ⟨b, ws, rfl, h3, h4⟩ := hy.lst hr.sub
      exact .inr (.inr (.inl ⟨a, b, vs, ws, rfl, rfl, h1, h3, by rw [h2.length, h4.length]; exact hz, fun p hp => fin_lst hr q (h2.append h4) hp⟩))
    · cases e
theorem ops_sub : OpS G X (rI0 fun i j => .int (i - j)) (binD .Sub) := by
  intro σ ρ F H v u x y z Q hr hx hy e q
  cases x <;> cases y <;> simp only [binD] at e <;> try cases e
  rw [int_of hx, int_of hy]
  exact ⟨_, _, rfl, rfl, fin_v hr q (.int _)⟩
abbrev mulR : R2 := fun x y H Q => rI CMul (fun i j => .int (i * j)) x y H Q ∨ rI CMulW (fun i j => .int (i * j)) x y H Q
theorem op_mulA : OpR X (binaryOp .Mult) mulR := OpR.or op_mul op_mulW
theorem ops_mul : OpS G X mulR (binD .Mult) := by
  intro σ ρ F H v u x y z Q hr hx hy e q
  cases x <;> cases y <;> simp only [binD] at e <;> try cases e
  rename_i i j
  rw [int_of hx, int_of hy]
  split at e
  · cases e
    rename_i h
    simp only [Bool.or_eq_true, small64, Bool.and_eq_true, decide_eq_true_eq] at h
    rcases h with (h | h) | h
    · exact .inl ⟨_, _, rfl, rfl, .inl h, fin_v hr q (.int _)⟩
    · exact .inl ⟨_, _, rfl, rfl, .inr h, fin_v hr q (.int _)⟩
    · exact .inr ⟨_, _, rfl, rfl, h, fin_v hr q (.int _)⟩
  · cases e
abbrev fdivR : R2 := fun x y H Q => rI CDivN (fun i j => .int (i.fdiv j)) x y H Q ∨ rI CDivW (fun i j => .int (i / j)) x y H Q
theorem op_fdivA : OpR X (binaryOp .FloorDiv) fdivR := OpR.or op_fdivN op_fdivW
theorem ops_fdiv : OpS G X fdivR (binD .FloorDiv) := by
  intro σ ρ F H v u x y z Q hr hx hy e q
  cases x <;> cases y <;> simp only [binD] at e <;> try cases e
  rename_i i j
  rw [int_of hx, int_of hy]
  split at e
  · cases e
    rename_i h
    simp only [Bool.and_eq_true, decide_eq_true_eq] at h
    exact .inl ⟨_, _, rfl, rfl, h, fin_v hr q (.int _)⟩
  · split at e
    · cases e
      rename_i h
      simp only [Bool.and_eq_true, decide_eq_true_eq] at h
      exact .inr ⟨_, _, rfl, rfl, h, fin_v hr q (.int _)⟩
    · cases e
theorem ops_mod : OpS G X (rI (fun _ j => j ≠ 0) fun i j => .int (i.fmod j)) (binD .Mod) := by
  intro σ ρ F H v u x y z Q hr hx hy e q
  cases x <;> cases y <;> simp only [binD] at e <;> try cases e
  rw [int_of hx, int_of hy]
  split at e
  · cases e
    rename_i h
    simp only [Bool.and_eq_true, decide_eq_true_eq] at h
    exact ⟨_, _, rfl, rfl, h, fin_v hr q (.int _)⟩
  · cases e
theorem ops_pow : OpS G X (rI CPow fun i j => .int (i ^ j.toNat)) (binD .Pow) := by
  intro σ ρ F H v u x y z Q hr hx hy e q
  cases x <;> cases y <;> simp only [binD] at e <;> try cases e
  rw [int_of hx, int_of hy]
  split at e
  · cases e
    rename_i h
    simp only [Bool.and_eq_true, decide_eq_true_eq] at h
    exact ⟨_, _, rfl, rfl, ⟨h.1.1, h.1.2, h.2⟩, fin_v hr q (.int _)⟩
  · cases e
theorem ops_shl : OpS G X (rI CPow fun i j => .int (i * 2 ^ j.toNat)) (binD .LShift) := by
  intro σ ρ F H v u x y z Q hr hx hy e q
  cases x <;> cases y <;> simp only [binD] at e <;> try cases e
  rw [int_of hx, int_of hy]
  split at e
  · cases e
    rename_i h
    simp only [Bool.and_eq_true, decide_eq_true_eq] at h
    exact ⟨_, _, rfl, rfl, ⟨h.1.1, h.1.2, h.2⟩, fin_v hr q (.int _)⟩
  · cases e
def wrapB (k : D → D → Option Bool) : D → D → Option R := fun x y => (k x y).map fun b => .val (.bl b)
theorem ask_test {k0 : Env → Res (R × Env) Env} {H0 : Hp} {Qb : Bool → Hp → Prop} (hv : isV A = false) (hbl : ∀ r ρ', k0 ρ = .ok (r, ρ') → ∃ k, r = .val (.bl k)) (h : Ask G W σ ρ F H (mkT A k0 ρ) fun b ρ' F' H' => Qb b H') :
    Ask G W σ ρ F H (k0 ρ) fun r ρ' F' H' => ∀ v, RR G H0 σ ρ' F' H' v r → ∃ k, v = .bl k ∧ Qb k H' := by
  unfold mkT at h
  rw [mkO_not hv] at h
  cases e : k0 ρ with
  | ok p =>
    obtain ⟨r, ρ'⟩ := p
    obtain ⟨k, rfl⟩ := hbl r ρ' e
    rw [e] at h
    intro F' H' s v q
    have q' : Rep G F' v (.bl k) := q
    cases q'
    exact ⟨k, rfl, h F' H' s⟩
  | exc c y b => rw [e] at h; exact h
  | stuck => rw [e] at h; exact h
theorem two_bl {x : Res (Opd × Env) Env} {y : Env → Res (Opd × Env) Env} {k : D → D → Option Bool} {r : R} {ρ' : Env} (h : two x y (wrapB k) = .ok (r, ρ')) : ∃ b, r = .val (.bl b) := by
  unfold two at h
  cases x with
  | ok p =>
    obtain ⟨o1, ρ1⟩ := p
    have h : ((y ρ1).bd fun (o2, ρ2) => match resO ρ2 o1, resO ρ2 o2 with
    | some d1, some d2 => match wrapB k d1 d2 with
      | some r => .ok (r, ρ2)
      | none => .stuck
    | _, _ => .stuck) = Res.ok (r, ρ') := h
    cases e : y ρ1 with
    | ok p2 =>
      obtain ⟨o2, ρ2⟩ := p2
      rw [e] at h
      have h : (match resO ρ2 o1, resO ρ2 o2 with
        | some d1, some d2 => match wrapB k d1 d2 with
          | some r => .ok (r, ρ2)
          | none => .stuck
        | _, _ => .stuck : Res (R × Env) Env) = Res.ok (r, ρ') := h
      split at h
      · split at h
        · rename_i z ez
          cases h
          obtain ⟨b, _, hb⟩ := Option.map_eq_some_iff.mp ez
          exact ⟨b, hb.symm⟩
        · cases h
      · cases h
    | exc => rw [e] at h; cases h
    | stuck => rw [e] at h; cases h
  | exc => cases h
  | stuck => cases h
theorem snd_cmp {op : CmpOp} {r : R2} (ho : OpR X (compareOp op) r) (hs : OpS G X r (wrapB (cmpD op))) (ha : Snd G C W X a A) (hb : Snd G C W X b B) (hm : behindInMarks op b = false) : Snd G C W X (.Compare a [op] [b] pos) (.cmp op A B) := by
  have hv : PE X (.Compare a [op] [b] pos) (rE G C W (.cmp op A B)) := pewk (pe_cmpR ho ha.o hb.o hm) fun σ H Q h => two_wk hs h
  refine ⟨hv, pewk (pewk hv fun _ _ _ q => rD_of q) fun _ _ _ q => rO_of rfl q, ptwk (pt_cmpR ho ha.o hb.o hm) fun σ H Q h => ?_⟩
  obtain ⟨F, ρ, hr, h⟩ := h
  exact two_wk (Q := fun x H' => ∃ k, x = .bl k ∧ Q k H') hs ⟨F, ρ, hr, ask_test (A := .cmp op A B) (k0 := ev C (.cmp op A B)) rfl (fun r ρ' e => two_bl e) h⟩
theorem reads_of {pins : List (Addr × Obj)} {s : Shared} {Hh : Hp} (I : Inv X pins σ Hh s) (hK : X.K = G.K) {v : V} {u : Value} {d : D} (h : Rep G Hh v d) (r : RelV v u) (p : d.py.plain = true) : ∃ as, Reads s.heap u d.py as := by
  have q := Rep.dp d v p h
  rw [← hK] at q
  exact Dp.reads I _ _ _ q r
/-- == of data -/
def eqRd (G : Glo) (neg : Bool) : R2 := fun x y H Q => ∃ d e, Rep G H x d ∧ Rep G H y e ∧ shallow d.py e.py = true ∧ Q (.bl (if neg then !PyData.eqv d.py e.py else PyData.eqv d.py e.py)) H
theorem shallow_of {a b : PyData} (h : shallow a b = true) : a.plain = true ∧ b.plain = true ∧ min a.depth b.depth ≤ 64 := by
  simp only [shallow, Bool.and_eq_true, decide_eq_true_eq] at h
  exact ⟨h.1.1, h.1.2, h.2⟩
theorem op_eqC (hK : X.K = G.K) (hu : X.A.units + 64 < cLine) : OpR X (compareOp .Eq) (eqRd G false) := by
  intro pins s σ H x y v u Q I rx ry h
  obtain ⟨d, e, hd, he, hs, q⟩ := h
  obtain ⟨p1, p2, p3⟩ := shallow_of hs
  obtain ⟨as, r1⟩ := reads_of I hK hd rx p1
  obtain ⟨bs, r2⟩ := reads_of I hK he ry p2
  exact SeqAt.eq_plain r1 r2 p1 p2 (by omega) ⟨.bl _, H, I, rfl, q⟩
theorem op_neC (hK : X.K = G.K) (hu : X.A.units + 64 < cLine) : OpR X (compareOp .NotEq) (eqRd G true) := by
  intro pins s σ H x y v u Q I rx ry h
  obtain ⟨d, e, hd, he, hs, q⟩ := h
  obtain ⟨p1, p2, p3⟩ := shallow_of hs
  obtain ⟨as, r1⟩ := reads_of I hK hd rx p1
  obtain ⟨bs, r2⟩ := reads_of I hK he ry p2
  exact SeqAt.ne_plain r1 r2 p1 p2 (by omega) ⟨.bl _, H, I, rfl, q⟩
theorem ops_eq : OpS G X (eqRd G false) (wrapB (cmpD .Eq)) := by
  intro σ ρ F H v u x y z Q hr hx hy e q
  simp only [wrapB, cmpD, eqR] at e
  split at e
  · cases e
    exact ⟨x, y, hx.rep hr.sub, hy.rep hr.sub, by assumption, fin_v hr q (.bl _)⟩
  · cases e
theorem ops_ne : OpS G X (eqRd G true) (wrapB (cmpD .NotEq)) := by
  intro σ ρ F H v u x y z Q hr hx hy e q
  simp only [wrapB, cmpD, eqR] at e
  split at e
  · cases e
    exact ⟨x, y, hx.rep hr.sub, hy.rep hr.sub, by assumption, fin_v hr q (.bl _)⟩
  · cases e
/-- in a list, a tuple -/
def inRd (G : Glo) (neg : Bool) : R2 := fun x y H Q => ∃ d xs, Rep G H x d ∧ (Rep G H y (.lst xs) ∨ Rep G H y (.tup xs)) ∧ ∃ k, inR d xs = some k ∧ Q (.bl (if neg then !k else k)) H
theorem inR_of {d : D} {xs : List D} {k : Bool} (h : inR d xs = some k) : PyData.plainAll (D.pys xs) = true ∧ d.py.plain = true ∧ min (PyData.depthAll (D.pys xs)) d.py.depth ≤ 60 ∧ k = (D.pys xs).any fun y => PyData.eqv y d.py := by
  unfold inR at h
  split at h
  · rename_i hc
    simp only [Bool.and_eq_true, decide_eq_true_eq] at hc
    cases h
    exact ⟨hc.1.1, hc.1.2, hc.2, rfl⟩
  · cases h
theorem op_inC (hK : X.K = G.K) (hu : X.A.units + 64 < cLine) : OpR X (compareOp .In) (inRd G false) := by
  intro pins s σ H x y v u Q I rx ry h
  obtain ⟨d, xs, hd, he, k, hk, q⟩ := h
  obtain ⟨p1, p2, p3, rfl⟩ := inR_of hk
  obtain ⟨as, r1⟩ := reads_of I hK hd rx p2
  rcases he with he | he
  · obtain ⟨bs, r2⟩ := reads_of I hK he ry (by simpa [D.py, PyData.plain] using p1)
    exact SeqAt.in_list_data r2 r1 p1 p2 (by omega) ⟨.bl _, H, I, rfl, q⟩
  · obtain ⟨bs, r2⟩ := reads_of I hK he ry (by simpa [D.py, PyData.plain] using p1)
    exact SeqAt.in_tuple_data r2 r1 p1 p2 (by omega) ⟨.bl _, H, I, rfl, q⟩
theorem op_niC (hK : X.K = G.K) (hu : X.A.units + 64 < cLine) : OpR X (compareOp .NotIn) (inRd G true) := by
  intro pins s σ H x y v u Q I rx ry h
  obtain ⟨d, xs, hd, he, k, hk, q⟩ := h
  obtain ⟨p1, p2, p3, rfl⟩ := inR_of hk
  obtain ⟨as, r1⟩ := reads_of I hK hd rx p2
  rcases he with he | he
  · obtain ⟨bs, r2⟩ := reads_of I hK he ry (by simpa [D.py, PyData.plain] using p1)
    exact SeqAt.notIn_list_data r2 r1 p1 p2 (by omega) ⟨.bl _, H, I, rfl, q⟩
  · obtain ⟨bs, r2⟩ := reads_of I hK he ry (by simpa [D.py, PyData.plain] using p1)
    exact SeqAt.notIn_tuple_data r2 r1 p1 p2 (by omega) ⟨.bl _, H, I, rfl, q⟩
theorem ops_in : OpS G X (inRd G false) (wrapB (cmpD .In)) := by
  intro σ ρ F H v u x y z Q hr hx hy e q
  simp only [wrapB] at e
  cases y <;> simp only [cmpD] at e <;> try cases e
  all_goals
    obtain ⟨k, hk, e2⟩ := Option.map_eq_some_iff.mp e
    subst e2
    first
      | exact ⟨x, _, hx.rep hr.sub, .inl (hy.rep hr.sub), k, hk, fin_v hr q (.bl _)⟩
      | exact ⟨x, _, hx.rep hr.sub, .inr (hy.rep hr.sub), k, hk, fin_v hr q (.bl _)⟩
theorem ops_ni : OpS G X (inRd G true) (wrapB (cmpD .NotIn)) := by
  intro σ ρ F H v u x y z Q hr hx hy e q
  simp only [wrapB] at e
  cases y <;> simp only [cmpD] at e <;> try cases e
  all_goals
    obtain ⟨k, hk, e2⟩ := Option.map_eq_some_iff.mp e
    obtain ⟨k', hk', e3⟩ := Option.map_eq_some_iff.mp hk
    subst e2 e3
    first
      | exact ⟨x, _, hx.rep hr.sub, .inl (hy.rep hr.sub), k', hk', fin_v hr q (.bl _)⟩
      | exact ⟨x, _, hx.rep hr.sub, .inr (hy.rep hr.sub), k', hk', fin_v hr q (.bl _)⟩
abbrev ltR (K : PySem.W.Frag) : R2 := fun x y H Q => rI0 (fun i j => .bl (decide (i < j))) x y H Q ∨ rLtT K x y H Q
theorem op_ltA (hu : X.A.units + 64 < cLine) : OpR X (compareOp .Lt) (ltR X.K) := OpR.or op_lt (op_ltT (by omega))
theorem ops_lt (hK : X.K = G.K) : OpS G X (ltR X.K) (wrapB (cmpD .Lt)) := by
  intro σ ρ F H v u x y z Q hr hx hy e q
  rw [hK]
  simp only [wrapB] at e
  cases x <;> cases y <;> simp only [cmpD] at e <;> try cases e
  · rw [int_of hx, int_of hy]
    exact .inl ⟨_, _, rfl, rfl, fin_v hr q (.bl _)⟩
  · obtain ⟨k, hk, e2⟩ := Option.map_eq_some_iff.mp e
    subst e2
    split at hk
    · rename_i ns ms e1 e2
      cases hk
      obtain ⟨a, vs, rfl, h1, h2⟩ := tup_of hx
      obtain ⟨b, ws, rfl, h3, h4⟩ := tup_of hy
      have q1 := Reps.ints e1 h2
      have q2 := Reps.ints e2 h4
      subst q1 q2
      exact .inr ⟨a, b, ns, ms, rfl, rfl, Same.sqt hr.sub h1, Same.sqt hr.sub h3, fin_v hr q (.bl _)⟩
    · cases hk
theorem ops_le : OpS G X (rI0 fun i j => .bl (decide (i ≤ j))) (wrapB (cmpD .LtE)) := by
  intro σ ρ F H v u x y z Q hr hx hy e q
  simp only [wrapB] at e
  cases x <;> cases y <;> simp only [cmpD] at e <;> try cases e
  rw [int_of hx, int_of hy]
  exact ⟨_, _, rfl, rfl, fin_v hr q (.bl _)⟩
theorem ops_gt : OpS G X (rI0 fun i j => .bl (decide (j < i))) (wrapB (cmpD .Gt)) := by
  intro σ ρ F H v u x y z Q hr hx hy e q
  simp only [wrapB] at e
  cases x <;> cases y <;> simp only [cmpD] at e <;> try cases e
  rw [int_of hx, int_of hy]
  exact ⟨_, _, rfl, rfl, fin_v hr q (.bl _)⟩
theorem ops_ge : OpS G X (rI0 fun i j => .bl (decide (j ≤ i))) (wrapB (cmpD .GtE)) := by
  intro σ ρ F H v u x y z Q hr hx hy e q
  simp only [wrapB] at e
  cases x <;> cases y <;> simp only [cmpD] at e <;> try cases e
  rw [int_of hx, int_of hy]
  exact ⟨_, _, rfl, rfl, fin_v hr q (.bl _)⟩
theorem isnon {v : V} {x : D} (h : RepT G F H v x) : decide (v = .non) = (match x with
      | .non => true
      | _ => false) := by
  rcases h with h | ⟨xs, a, vs, rfl, rfl, _⟩
  · cases h <;> simp
  · simp
abbrev isR : R2 := fun x y H Q => (y = .non ∧ Q (.bl (decide (x = .non))) H) ∨ rIsB x y H Q
abbrev isnR : R2 := fun x y H Q => (y = .non ∧ Q (.bl (!decide (x = .non))) H) ∨ rNotB x y H Q
theorem op_isA : OpR X (compareOp .Is) isR := OpR.or op_isN op_isBl
theorem op_isnA : OpR X (compareOp .IsNot) isnR := OpR.or op_notN op_notBl
theorem ops_is : OpS G X isR (wrapB (cmpD .Is)) := by
  intro σ ρ F H v u x y z Q hr hx hy e q
  simp only [wrapB] at e
  cases y <;> simp only [cmpD] at e <;> try cases e
  · refine .inl ⟨non_of hy, ?_⟩
    rw [isnon hx]
    cases x <;> cases e <;> exact fin_v hr q (.bl _)
  · cases x <;> simp only at e <;> try cases e
    exact .inr ⟨_, _, bl_of hx, bl_of hy, fin_v hr q (.bl _)⟩
theorem ops_isn : OpS G X isnR (wrapB (cmpD .IsNot)) := by
  intro σ ρ F H v u x y z Q hr hx hy e q
  simp only [wrapB] at e
  cases y <;> simp only [cmpD] at e <;> try cases e
  · refine .inl ⟨non_of hy, ?_⟩
    rw [isnon hx]
    cases x <;> cases e <;> exact fin_v hr q (.bl _)
  · cases x <;> simp only at e <;> try cases e
    exact .inr ⟨_, _, bl_of hx, bl_of hy, fin_v hr q (.bl _)⟩
end
end Cr
namespace Cr
open PySem PySem.Spec PyProof.Rows L2
section
variable {G : Glo} {C : CallF} {W : WX} {X : Cx} {e a b c : Expr} {A B Cc : E} {pos : Pos} {σ : L2.St} {ρ : Env} {F H : Hp} {Q : VK}
theorem bd_assoc {α β γ δ : Type} (x : Res α δ) (f : α → Res β δ) (g : β → Res γ δ) : (x.bd f).bd g = x.bd fun a => (f a).bd g := by
  cases x <;> rfl
/-- a test by an operand that is kept -/
def evTD (C : CallF) (A : E) (ρ : Env) : Res (Bool × Env) Env := (mkD (ev C A) ρ).bd fun (d, ρ') => match d.truth with
  | some b => .ok (b, ρ')
  | none => .stuck
theorem evTD_not (hv : isV A = false) (ρ : Env) : mkT A (ev C A) ρ = evTD C A ρ := by
  unfold mkT evTD mkD
  rw [mkO_not hv, bd_assoc, bd_assoc]
  cases ev C A ρ <;> rfl
theorem ask_TD {Qb : Bool → Hp → Prop} (hr : Rel G F H σ ρ) (h : Ask G W σ ρ F H (evTD C A ρ) fun b ρ' F' H' => Qb b H') : Ask G W σ ρ F H (mkT A (ev C A) ρ) fun b ρ' F' H' => Qb b H' := by
  cases hv : isV A with
  | false => rw [evTD_not hv]; exact h
  | true =>
    cases A <;> simp [isV] at hv
    rename_i i
    unfold evTD mkD at h
    unfold mkT
    simp only [mkO, ev] at h ⊢
    split at h
    · rename_i d e'
      have e2 : resO ρ (.slot i) = some d := by simp only [resO, e']
      have h : Ask G W σ ρ F H (match d.truth with
        | some b => .ok (b, ρ)
        | none => .stuck) fun b ρ' F' H' => Qb b H' := h
      rw [e']
      show Ask G W σ ρ F H (match (resO ρ (.slot i)).bind D.truth with
        | some b => .ok (b, ρ)
        | none => .stuck) fun b ρ' F' H' => Qb b H'
      rw [e2]
      exact h
    · rename_i xs e'
      have e2 : resO ρ (.slot i) = some (.lst xs) := by simp only [resO, e']
      rw [e']
      show Ask G W σ ρ F H (match (resO ρ (.slot i)).bind D.truth with
        | some b => .ok (b, ρ)
        | none => .stuck) fun b ρ' F' H' => Qb b H'
      rw [e2]
      intro F' H' s
      obtain ⟨F2, v, e1, s2, rp⟩ := freezeS s.rel e'
      exact h F2 H' (s.trans s2)
    · exact h.elim
/-- a test of an expression from a test by what is kept -/
theorem Snd.td (h : Snd G C W X e A) : PT X e (fun σ H Q => ∃ F ρ, Rel G F H σ ρ ∧ Ask G W σ ρ F H (evTD C A ρ) fun b ρ' F' H' => Q b H') := ptwk h.t fun σ H Q ⟨F, ρ, hr, h⟩ => ⟨F, ρ, hr, ask_TD hr h⟩
theorem snd_not (ha : Snd G C W X a A) (hK : X.K = G.K) : Snd G C W X (.UnaryOp .Not a pos) (.not A) := by
  have hs : UnS G X (fun x H Q => ∃ k, TruV X.K x H k ∧ Q (.bl (!k)) H) (fun d => d.truth.map fun k => .val (.bl (!k))) := by
    intro σ ρ F H v x z Q hr hx e q
    obtain ⟨k, hk, rfl⟩ := Option.map_eq_some_iff.mp e
    exact ⟨k, tru_of hK (hx.rep hr.sub) hk, fin_v hr q (.bl _)⟩
  have hv : PE X (.UnaryOp .Not a pos) (rE G C W (.not A)) := pewk (pe_notT ha.o) fun σ H Q h => one_wk hs h
  refine ⟨hv, pewk (pewk hv fun _ _ _ q => rD_of q) fun _ _ _ q => rO_of rfl q, ptwk (pt_not ha.t) fun σ H Q h => ?_⟩
  obtain ⟨F, ρ, hr, h⟩ := h
  refine ⟨F, ρ, hr, ?_⟩
  have e : evT C (.not A) ρ = (evT C A ρ).bd fun (k, ρ') => .ok (!k, ρ') := by
    show (((mkO A (ev C A) ρ).bd fun (o1, ρ1) => match resO ρ1 o1 with
      | some d1 => match d1.truth.map fun k => R.val (.bl (!k)) with
        | some r => .ok (r, ρ1)
        | none => .stuck
      | _ => .stuck).bd fun (r, ρ') => .ok (Opd.val r.toD, ρ')).bd _ = ((mkO A (ev C A) ρ).bd _).bd _
    rw [bd_assoc, bd_assoc, bd_assoc]
    congr 1
    funext p
    obtain ⟨o, ρ1⟩ := p
    show ((match resO ρ1 o with
      | some d1 => match d1.truth.map fun k => R.val (.bl (!k)) with
        | some r => .ok (r, ρ1)
        | none => .stuck
      | _ => .stuck : Res (R × Env) Env).bd _) = (match (resO ρ1 o).bind D.truth with
        | some b => .ok (b, ρ1)
        | none => .stuck : Res (Bool × Env) Env).bd _
    cases resO ρ1 o with
    | none => rfl
    | some d =>
      show ((match d.truth.map fun k => R.val (.bl (!k)) with
        | some r => .ok (r, ρ1)
        | none => .stuck : Res (R × Env) Env).bd _) = (match d.truth with
        | some b => .ok (b, ρ1)
        | none => .stuck : Res (Bool × Env) Env).bd _
      cases d.truth <;> rfl
  rw [e] at h
  exact Ask.imp (Ask.bd h) fun k ρ' F' H' s q => Ask.ok q s.rel
structure SndB (G : Glo) (C : CallF) (W : WX) (X : Cx) (op : BoolOp) (es : List Expr) (E : E) : Prop where
  v : ∀ pos, PE X (.BoolOp op es pos) (rE G C W E)
  t : ∀ pos, PW X (.BoolOp op es pos) (fun σ H Q => ∃ F ρ, Rel G F H σ ρ ∧ Ask G W σ ρ F H (evTD C E ρ) fun b ρ' F' H' => Q b H')
theorem pwwk {t t' : TT} (h : PW X e t) (f : ∀ σ H Q, t' σ H Q → t σ H Q) : PW X e t' := ⟨fun wh pins s σ H Q I q => h.run wh pins s σ H Q I (f σ H Q q)⟩
theorem sndB_and1 (ha : Snd G C W X a A) : SndB G C W X .And [a] A := ⟨fun _ => pe_one ha.v, fun _ => pw_and1 ha.td⟩
theorem sndB_or1 (ha : Snd G C W X a A) : SndB G C W X .Or [a] A := ⟨fun _ => pe_one ha.v, fun _ => pw_or1 ha.td⟩
theorem evTD_and (ρ : Env) : evTD C (.and A B) ρ = (mkD (ev C A) ρ).bd fun (x, ρ1) => match x.truth with
    | some true => evTD C B ρ1
    | some false => .ok (false, ρ1)
    | none => .stuck := by
  show ((((mkD (ev C A) ρ).bd fun (x, ρ1) => match x.truth with
    | some true => ev C B ρ1
    | some false => .ok (.val x, ρ1)
    | none => .stuck).bd _).bd _) = _
  rw [bd_assoc, bd_assoc]
  congr 1
  funext p
  obtain ⟨x, ρ1⟩ := p
  show (((match x.truth with
    | some true => ev C B ρ1
    | some false => .ok (.val x, ρ1)
    | none => .stuck : Res (R × Env) Env).bd _) : Res (Bool × Env) Env) = (match x.truth with
    | some true => evTD C B ρ1
    | some false => .ok (false, ρ1)
    | none => .stuck : Res (Bool × Env) Env)
  cases hx : x.truth with
  | none => rfl
  | some k =>
    cases k with
    | true =>
      show ((ev C B ρ1).bd _) = evTD C B ρ1
      unfold evTD mkD
      rw [bd_assoc]
    | false =>
      show (match x.truth with
        | some b => .ok (b, ρ1)
        | none => .stuck : Res (Bool × Env) Env) = _
      rw [hx]
theorem evTD_or (ρ : Env) : evTD C (.or A B) ρ = (mkD (ev C A) ρ).bd fun (x, ρ1) => match x.truth with
    | some false => evTD C B ρ1
    | some true => .ok (true, ρ1)
    | none => .stuck := by
  show ((((mkD (ev C A) ρ).bd fun (x, ρ1) => match x.truth with
    | some false => ev C B ρ1
    | some true => .ok (.val x, ρ1)
    | none => .stuck).bd _).bd _) = _
  rw [bd_assoc, bd_assoc]
  congr 1
  funext p
  obtain ⟨x, ρ1⟩ := p
  show (((match x.truth with
    | some false => ev C B ρ1
    | some true => .ok (.val x, ρ1)
    | none => .stuck : Res (R × Env) Env).bd _) : Res (Bool × Env) Env) = (match x.truth with
    | some false => evTD C B ρ1
    | some true => .ok (true, ρ1)
    | none => .stuck : Res (Bool × Env) Env)
  cases hx : x.truth with
  | none => rfl
  | some k =>
    cases k with
    | false =>
      show ((ev C B ρ1).bd _) = evTD C B ρ1
      unfold evTD mkD
      rw [bd_assoc]
    | true =>
      show (match x.truth with
        | some b => .ok (b, ρ1)
        | none => .stuck : Res (Bool × Env) Env) = _
      rw [hx]
theorem sndB_and {es : List Expr} (ha : Snd G C W X a A) (hb : SndB G C W X .And (b :: es) B) (hK : X.K = G.K) : SndB G C W X .And (a :: b :: es) (.and A B) := by
  refine ⟨fun pos => pewk (pe_andT ha.d (hb.v pos)) fun σ H Q h => ?_, fun pos => pwwk (pw_and ha.td (hb.t pos)) fun σ H Q h => ?_⟩
  · obtain ⟨F, ρ, hr, h⟩ := h
    refine ⟨F, ρ, hr, Ask.imp (Ask.bd h) fun x ρ1 F1 H1 s1 h1 v q => ?_⟩
    have h1 : Ask G W σ ρ1 F1 H1 (match x.truth with
      | some true => ev C B ρ1
      | some false => .ok (.val x, ρ1)
      | none => .stuck) fun r ρ' F' H' => ∀ v, RR G H σ ρ' F' H' v r → Q v H' := h1
    cases hx : x.truth with
    | none => rw [hx] at h1; exact h1.elim
    | some k =>
      rw [hx] at h1
      refine ⟨k, tru_of hK (Rep.mono s1.rel.sub _ _ q) hx, ?_⟩
      cases k with
      | true =>
        rw [if_pos rfl]
        exact ⟨F1, ρ1, s1.rel, Ask.imp h1 fun r ρ' F' H' s h v q => h v (RR.back s1 q)⟩
      | false =>
        rw [if_neg (by decide)]
        exact h1.ok s1.rel v q
  · obtain ⟨F, ρ, hr, h⟩ := h
    rw [evTD_and] at h
    refine ⟨F, ρ, hr, ?_⟩
    have h2 := Ask.bd h
    unfold evTD
    cases e : mkD (ev C A) ρ with
    | ok p =>
      obtain ⟨x, ρ1⟩ := p
      rw [e] at h2
      have h3 : ∀ F1 H1, Stp G σ ρ F H σ ρ1 F1 H1 → Ask G W σ ρ1 F1 H1 (match x.truth with
        | some true => evTD C B ρ1
        | some false => .ok (false, ρ1)
        | none => .stuck) fun b ρ' F' H' => Q b H' := h2
      show Ask G W σ ρ F H (match x.truth with
        | some b => .ok (b, ρ1)
        | none => .stuck) _
      cases hx : x.truth with
      | none =>
        have h4 : Ask G W σ ρ F H (match x.truth with
          | some true => evTD C B ρ1
          | some false => .ok (false, ρ1)
          | none => .stuck) fun b ρ' F' H' => Q b H' := by
          have h5 := h
          rw [e] at h5
          exact h5
        rw [hx] at h4
        exact h4
      | some k =>
        intro F1 H1 s1
        have h4 := h3 F1 H1 s1
        rw [hx] at h4
        cases k with
        | true => exact iteT ⟨F1, ρ1, s1.rel, h4⟩
        | false => exact iteF (h4.ok s1.rel)
    | exc c y b => rw [e] at h2; exact h2
    | stuck => rw [e] at h2; exact h2
theorem sndB_or {es : List Expr} (ha : Snd G C W X a A) (hb : SndB G C W X .Or (b :: es) B) (hK : X.K = G.K) : SndB G C W X .Or (a :: b :: es) (.or A B) := by
  refine ⟨fun pos => pewk (pe_orT ha.d (hb.v pos)) fun σ H Q h => ?_, fun pos => pwwk (pw_or ha.td (hb.t pos)) fun σ H Q h => ?_⟩
  · obtain ⟨F, ρ, hr, h⟩ := h
    refine ⟨F, ρ, hr, Ask.imp (Ask.bd h) fun x ρ1 F1 H1 s1 h1 v q => ?_⟩
    have h1 : Ask G W σ ρ1 F1 H1 (match x.truth with
      | some false => ev C B ρ1
      | some true => .ok (.val x, ρ1)
      | none => .stuck) fun r ρ' F' H' => ∀ v, RR G H σ ρ' F' H' v r → Q v H' := h1
    cases hx : x.truth with
    | none => rw [hx] at h1; exact h1.elim
    | some k =>
      rw [hx] at h1
      refine ⟨k, tru_of hK (Rep.mono s1.rel.sub _ _ q) hx, ?_⟩
      cases k with
      | false =>
        rw [if_neg (by decide)]
        exact ⟨F1, ρ1, s1.rel, Ask.imp h1 fun r ρ' F' H' s h v q => h v (RR.back s1 q)⟩
      | true =>
        rw [if_pos rfl]
        exact h1.ok s1.rel v q
  · obtain ⟨F, ρ, hr, h⟩ := h
    rw [evTD_or] at h
    refine ⟨F, ρ, hr, ?_⟩
    have h2 := Ask.bd h
    unfold evTD
    cases e : mkD (ev C A) ρ with
    | ok p =>
      obtain ⟨x, ρ1⟩ := p
      rw [e] at h2
      have h3 : ∀ F1 H1, Stp G σ ρ F H σ ρ1 F1 H1 → Ask G W σ ρ1 F1 H1 (match x.truth with
        | some false => evTD C B ρ1
        | some true => .ok (true, ρ1)
        | none => .stuck) fun b ρ' F' H' => Q b H' := h2
      show Ask G W σ ρ F H (match x.truth with
        | some b => .ok (b, ρ1)
        | none => .stuck) _
      cases hx : x.truth with
      | none =>
        have h4 : Ask G W σ ρ F H (match x.truth with
          | some false => evTD C B ρ1
          | some true => .ok (true, ρ1)
          | none => .stuck) fun b ρ' F' H' => Q b H' := by
          have h5 := h
          rw [e] at h5
          exact h5
        rw [hx] at h4
        exact h4
      | some k =>
        intro F1 H1 s1
        have h4 := h3 F1 H1 s1
        rw [hx] at h4
        cases k with
        | false => exact iteF ⟨F1, ρ1, s1.rel, h4⟩
        | true => exact iteT (h4.ok s1.rel)
    | exc c y b => rw [e] at h2; exact h2
    | stuck => rw [e] at h2; exact h2
theorem SndB.snd {op : BoolOp} {es : List Expr} (h : SndB G C W X op es A) (hv : isV A = false) : Snd G C W X (.BoolOp op es pos) A :=
  ⟨h.v pos, pewk (pewk (h.v pos) fun _ _ _ q => rD_of q) fun _ _ _ q => rO_of hv q, ptwk (h.t pos).pt fun σ H Q ⟨F, ρ, hr, q⟩ => ⟨F, ρ, hr, by unfold evT at q; rw [evTD_not hv] at q; exact q⟩⟩
theorem snd_ife (hc : Snd G C W X c Cc) (ha : Snd G C W X a A) (hb : Snd G C W X b B) : Snd G C W X (.IfExp c a b pos) (.ife Cc A B) := by
  have hv : PE X (.IfExp c a b pos) (rE G C W (.ife Cc A B)) := pewk (pe_ifExp hc.t ha.v hb.v) fun σ H Q h => by
    obtain ⟨F, ρ, hr, h⟩ := h
    refine ⟨F, ρ, hr, Ask.imp (Ask.bd h) fun k ρ1 F1 H1 s1 h1 => ?_⟩
    have h1 : Ask G W σ ρ1 F1 H1 (if k = true then ev C A ρ1 else ev C B ρ1) fun r ρ' F' H' => ∀ v, RR G H σ ρ' F' H' v r → Q v H' := h1
    cases k with
    | true =>
      rw [if_pos rfl] at h1
      show if true = true then rE G C W A σ H1 Q else rE G C W B σ H1 Q
      rw [if_pos rfl]
      exact ⟨F1, ρ1, s1.rel, Ask.imp h1 fun r ρ' F' H' s h v q => h v (RR.back s1 q)⟩
    | false =>
      rw [if_neg (by decide)] at h1
      show if false = true then rE G C W A σ H1 Q else rE G C W B σ H1 Q
      rw [if_neg (by decide)]
      exact ⟨F1, ρ1, s1.rel, Ask.imp h1 fun r ρ' F' H' s h v q => h v (RR.back s1 q)⟩
  refine ⟨hv, pewk (pewk hv fun _ _ _ q => rD_of q) fun _ _ _ q => rO_of rfl q, ⟨fun pins s σ H Q I h => ?_⟩⟩
  obtain ⟨F, ρ, hr, h⟩ := h
  have h : Ask G W σ ρ F H (mkT (.ife Cc A B) (ev C (.ife Cc A B)) ρ) fun b ρ' F' H' => Q b H' := h
  have e : mkT (.ife Cc A B) (ev C (.ife Cc A B)) ρ = (evT C Cc ρ).bd fun (k, ρ1) => if k = true then evTD C A ρ1 else evTD C B ρ1 := by
    rw [evTD_not rfl]
    show (((((evT C Cc ρ).bd fun (k, ρ1) => if k = true then ev C A ρ1 else ev C B ρ1).bd _).bd _) : Res (Bool × Env) Env) = _
    rw [bd_assoc, bd_assoc]
    congr 1
    funext p
    obtain ⟨k, ρ1⟩ := p
    cases k with
    | true =>
      show ((ev C A ρ1).bd _) = evTD C A ρ1
      unfold evTD mkD
      rw [bd_assoc]
    | false =>
      show ((ev C B ρ1).bd _) = evTD C B ρ1
      unfold evTD mkD
      rw [bd_assoc]
  rw [e] at h
  rw [arm_isTrue_IfExp]
  refine wpAny_bind (thn (hc.t.run pins s σ H (fun k H1 => ∃ F ρ, Rel G F H1 σ ρ ∧ Ask G W σ ρ F H1 (if k = true then evTD C A ρ else evTD C B ρ) fun b ρ' F' H' => Q b H') I ⟨F, ρ, hr, Ask.imp (Ask.bd h) fun k ρ1 F1 H1 s1 h1 => ⟨F1, ρ1, s1.rel, h1⟩⟩) fun k s1 ⟨H1, I1, F1, ρ1, hr1, q1⟩ => ?_)
  cases k with
  | true => exact ha.td.run pins s1 σ H1 Q I1 ⟨F1, ρ1, hr1, q1⟩
  | false => exact hb.td.run pins s1 σ H1 Q I1 ⟨F1, ρ1, hr1, q1⟩
theorem snd_neg (ha : Snd G C W X a A) (hK : X.K = G.K) : Snd G C W X (.UnaryOp .USub a pos) (.neg A) := by
  refine Snd.mk1 (pewk (pe_un un_neg ha.o) fun σ H Q h => one_wk (X := X) ?_ h) rfl hK fun _ => rfl
  intro σ ρ F H v x z Q hr hx e q
  cases x <;> cases e
  exact ⟨_, int_of hx, fin_v hr q (.int _)⟩
end
end Cr
namespace Cr
open PySem PySem.Spec PyProof.Rows L2
section
variable {G : Glo} {C : CallF} {W : WX} {X : Cx} {e a b c : Expr} {A B Cc : E} {pos : Pos} {σ : L2.St} {ρ : Env} {F H : Hp} {Q : VK} {es : List Expr} {Es' : Es}
def NoStar : Expr → Bool
  | .Starred .. => false
  | _ => true
theorem star_cons {env : PySem.Env} (h : NoStar e = true) : starEach (e :: es) env = (false, eval e env) :: starEach es env := by
  cases e <;> first | rfl | cases h
theorem star_all {env : PySem.Env} : ∀ {es : List Expr}, es.all NoStar = true → starEach es env = es.map fun e => (false, eval e env)
  | [], _ => rfl
  | e :: es, h => by
    rw [List.all_cons, Bool.and_eq_true] at h
    rw [star_cons h.1, star_all h.2]; rfl
theorem back_all {env : PySem.Env} {pos : Pos} (h : es.all NoStar = true) : (backTo pos (starEach es env)).any (·.1) = false := by
  rw [star_all h]
  unfold backTo
  induction es with
  | nil => rfl
  | cons e es ih =>
    rw [List.all_cons, Bool.and_eq_true] at h
    simpa using ih h.2
structure SndDs (G : Glo) (C : CallF) (W : WX) (X : Cx) (es : List Expr) (E : Es) : Prop where
  p : PA X es (rDs G C W E)
  s : es.all NoStar = true
structure SndOs (G : Glo) (C : CallF) (W : WX) (X : Cx) (es : List Expr) (E : Es) : Prop where
  p : PA X es (rOs G C W E)
  s : es.all NoStar = true
theorem sndDs_nil : SndDs G C W X [] .nil := ⟨pawk pa_nil fun σ H Q ⟨F, ρ, hr, h⟩ => h F H (Stp.refl hr) [] .nil, rfl⟩
theorem sndDs_cons (ha : Snd G C W X a A) (hs : NoStar a = true) (hb : SndDs G C W X es Es') : SndDs G C W X (a :: es) (.cons A Es') := by
  refine ⟨pawk (pa_cons ha.d hb.p (star_cons hs)) fun σ H Q h => ?_, by rw [List.all_cons, hs, hb.s]; rfl⟩
  obtain ⟨F, ρ, hr, h⟩ := h
  refine ⟨F, ρ, hr, Ask.imp (Ask.bd h) fun d ρ1 F1 H1 s1 h1 v q => ⟨F1, ρ1, s1.rel, Ask.imp (Ask.bd h1) fun ds ρ2 F2 H2 s2 h2 vs q2 => ?_⟩⟩
  exact Ask.ok h2 s2.rel (v :: vs) (.cons (Rep.mono s2.ext.ff d v q) q2)
theorem sndOs_nil : SndOs G C W X [] .nil := ⟨pawk pa_nil fun σ H Q ⟨F, ρ, hr, h⟩ => h F H (Stp.refl hr) [] trivial, rfl⟩
theorem sndOs_cons (ha : Snd G C W X a A) (hs : NoStar a = true) (hb : SndOs G C W X es Es') : SndOs G C W X (a :: es) (.cons A Es') := by
  refine ⟨pawk (pa_cons ha.o hb.p (star_cons hs)) fun σ H Q h => ?_, by rw [List.all_cons, hs, hb.s]; rfl⟩
  obtain ⟨F, ρ, hr, h⟩ := h
  refine ⟨F, ρ, hr, Ask.imp (Ask.bd h) fun d ρ1 F1 H1 s1 h1 v q => ⟨F1, ρ1, s1.rel, Ask.imp (Ask.bd h1) fun ds ρ2 F2 H2 s2 h2 vs q2 => ?_⟩⟩
  exact Ask.ok h2 s2.rel (v :: vs) ⟨OR.mono s2.ext.ff q, q2⟩
theorem ORs.res (hr : Rel G F H σ ρ) : ∀ {vs : List V} {os : List Opd} {ds : List D}, ORs G σ F vs os → resOs ρ os = some ds → ∀ P : List V → List D → Prop, P [] [] → (∀ v d vs ds, RepT G F H v d → P vs ds → P (v :: vs) (d :: ds)) → P vs ds
  | [], [], _, _, e, P, p0, _ => by cases e; exact p0
  | v :: vs, o :: os, ds, q, e, P, p0, ps => by
    simp only [resOs] at e
    split at e
    · rename_i d ds' e1 e2
      cases e
      exact ps v d vs ds' (OR.res hr q.1 e1) (ORs.res hr q.2 e2 P p0 ps)
    · cases e
  | [], _ :: _, _, q, _, _, _, _ => q.elim
  | _ :: _, [], _, q, _, _, _, _ => q.elim
inductive RepTs (G : Glo) (F H : Hp) : List V → List D → Prop
  | nil : RepTs G F H [] []
  | cons {v : V} {vs : List V} {d : D} {ds : List D} : RepT G F H v d → RepTs G F H vs ds → RepTs G F H (v :: vs) (d :: ds)
theorem ORs.rep (hr : Rel G F H σ ρ) {vs : List V} {os : List Opd} {ds : List D} (q : ORs G σ F vs os) (e : resOs ρ os = some ds) : RepTs G F H vs ds :=
  ORs.res hr q e (RepTs G F H) .nil fun _ _ _ _ h1 h2 => .cons h1 h2
theorem RepTs.one {vs : List V} {d : D} (h : RepTs G F H vs [d]) : ∃ v, vs = [v] ∧ RepT G F H v d := by
  cases h with
  | cons h1 h2 => cases h2; exact ⟨_, rfl, h1⟩
theorem RepTs.two {vs : List V} {d e : D} (h : RepTs G F H vs [d, e]) : ∃ v w, vs = [v, w] ∧ RepT G F H v d ∧ RepT G F H w e := by
  cases h with
  | cons h1 h2 =>
    cases h2 with
    | cons h2 h3 => cases h3; exact ⟨_, _, rfl, h1, h2⟩
theorem snd_tup {k : Nat} (h : SndDs G C W X es Es') (hK : X.K = G.K) : Snd G C W X (.Tuple es k pos) (.tup Es') := by
  refine Snd.mk1 (pewk (pe_tupN h.p) fun σ H Q h => ?_) rfl hK fun _ => rfl
  obtain ⟨F, ρ, hr, h⟩ := h
  refine ⟨F, ρ, hr, Ask.imp (Ask.bd h) fun ds ρ1 F1 H1 s1 h1 vs q => ?_⟩
  have h1 : Ask G W σ ρ1 F1 H1 (if ds.length ≤ sizeLine then .ok (.val (.tup ds), ρ1) else .stuck) fun r ρ' F' H' => ∀ v, RR G H σ ρ' F' H' v r → Q v H' := h1
  split at h1
  · rename_i hz
    exact ⟨by rw [q.length]; exact hz, fin_tup s1.rel (fun w F' H' s rr => h1 F' H' s w (RR.back s1 rr)) q⟩
  · exact h1.elim
theorem snd_lst (h : SndDs G C W X es Es') (hK : X.K = G.K) : Snd G C W X (.List es pos) (.lst Es') := by
  refine Snd.mk1 (pewk (pe_lst h.p) fun σ H Q h => ?_) rfl hK fun _ => rfl
  obtain ⟨F, ρ, hr, h⟩ := h
  refine ⟨F, ρ, hr, Ask.imp (Ask.bd h) fun ds ρ1 F1 H1 s1 h1 vs q => ?_⟩
  have h1 : Ask G W σ ρ1 F1 H1 (if ds.length ≤ sizeLine then .ok (.fresh ds, ρ1) else .stuck) fun r ρ' F' H' => ∀ v, RR G H σ ρ' F' H' v r → Q v H' := h1
  split at h1
  · rename_i hz
    exact ⟨by rw [q.length]; exact hz, fun p hp => fin_lst s1.rel (fun w F' H' s rr => h1 F' H' s w (RR.back s1 rr)) q hp⟩
  · exact h1.elim
theorem atI_rep {vs : List V} {ds : List D} {j : Int} {d : D} (h : Reps G F vs ds) (e : atI ds j = some d) : ∃ v, atI vs j = some v ∧ Rep G F v d := by
  unfold atI at e ⊢
  rw [h.length]
  cases q : ixN ds.length j with
  | none => rw [q] at e; cases e
  | some k =>
    rw [q] at e
    exact h.get e
abbrev ixR (K : PySem.W.Frag) : R2 := fun x y H Q => rIxL K x y H Q ∨ rIxT K x y H Q
theorem ix_A : IxR X (ixR X.K) := ix_list.or ix_tup
theorem ops_ix (hK : X.K = G.K) : OpS G X (ixR X.K) (fun x y => (idxD x y).map .val) := by
  intro σ ρ F H v u x y z Q hr hx hy e q
  rw [hK]
  obtain ⟨d, e', rfl⟩ := Option.map_eq_some_iff.mp e
  clear e
  cases x <;> cases y <;> simp only [idxD] at e' <;> try cases e'
  · obtain ⟨a, vs, rfl, h1, h2⟩ := tup_of hx
    obtain ⟨w, e1, e2⟩ := atI_rep h2 e'
    exact .inr ⟨a, vs, _, w, rfl, int_of hy, Same.sqt hr.sub h1, e1, fin_v hr q e2⟩
  · obtain ⟨a, vs, rfl, h1, h2⟩ := hx.lst hr.sub
    obtain ⟨w, e1, e2⟩ := atI_rep h2 e'
    exact .inl ⟨a, vs, _, w, rfl, int_of hy, .inl (.inl h1), e1, fin_v hr q e2⟩
  · obtain ⟨a, vs, rfl, h1, h2⟩ := rol_of hx
    obtain ⟨w, e1, e2⟩ := atI_rep h2 e'
    exact .inl ⟨a, vs, _, w, rfl, int_of hy, hr.sub.seq h1, e1, fin_v hr q e2⟩
theorem snd_idx (ha : Snd G C W X a A) (hb : Snd G C W X b B) (hs : PlainIx b) (hK : X.K = G.K) : Snd G C W X (.Subscript a b pos) (.idx A B) :=
  Snd.mk1 (pewk (pe_ix ix_A ha.o hb.o hs) fun σ H Q h => two_wk (ops_ix hK) h) rfl hK fun _ => rfl
def rP (G : Glo) (C : CallF) (W : WX) (e : E) : L2.TO := fun σ H Q => ∃ F ρ, Rel G F H σ ρ ∧ Ask G W σ ρ F H (mkP e (ev C e) ρ) fun o ρ' F' H' => Q o H'
structure SndP (G : Glo) (C : CallF) (W : WX) (X : Cx) (e : Option Expr) (E : E) : Prop where
  p : PO X e (rP G C W E)
theorem powk {e : Option Expr} {t t' : L2.TO} (h : PO X e t) (f : ∀ σ H Q, t' σ H Q → t σ H Q) : PO X e t' := ⟨fun pins s σ H Q I q => h.run pins s σ H Q I (f σ H Q q)⟩
theorem sndP_none : SndP G C W X none .nop := ⟨powk po_none fun σ H Q ⟨F, ρ, hr, h⟩ => h F H (Stp.refl hr)⟩
theorem sndP_some (ha : Snd G C W X a A) (hn : isNop A = false) : SndP G C W X (some a) A := by
  refine ⟨powk (po_some ha.d) fun σ H Q h => ?_⟩
  obtain ⟨F, ρ, hr, h⟩ := h
  unfold mkP at h
  rw [if_neg (by rw [hn]; decide)] at h
  refine ⟨F, ρ, hr, Ask.imp (Ask.bd h) fun d ρ1 F1 H1 s1 h1 v q => ?_⟩
  have h1 : Ask G W σ ρ1 F1 H1 (match d with
    | .int i => .ok (some i, ρ1)
    | _ => .stuck) fun o ρ' F' H' => Q o H' := h1
  split at h1
  · cases q
    exact ⟨_, rfl, h1.ok s1.rel⟩
  · exact h1.elim
abbrev slR (K : PySem.W.Frag) : V → Option Int → Option Int → Hp → VK → Prop := fun x l h H Q => rSlL K x l h H Q ∨ rSlN K x l h H Q
theorem sl_A : SlR X (slR X.K) := sl_list.or sl_tupN
theorem cut_rep {vs : List V} {ds : List D} {lo hi : Option Int} (h : Reps G F vs ds) : Reps G F (cutV vs lo hi) (cutL ds lo hi) := by
  unfold cutV cutL
  rw [h.length]
  exact (h.drop _).take _
theorem cut_all {ds : List D} {lo hi : Option Int} (h : HT.sIx ds.length 0 lo = 0 ∧ HT.sIx ds.length ds.length hi = ds.length) : cutL ds lo hi = ds := by
  unfold cutL
  rw [h.1, h.2]
  simp
theorem snd_slc {l h : Option Expr} {L Hh : E} {p2 : Pos} (ha : Snd G C W X a A) (hl : SndP G C W X l L) (hh : SndP G C W X h Hh) (hK : X.K = G.K) : Snd G C W X (.Subscript a (.Slice l h none p2) pos) (.slc A L Hh) := by
  refine Snd.mk1 (pewk (pe_slice sl_A ha.o hl.p hh.p) fun σ H Q h => ?_) rfl hK fun _ => rfl
  obtain ⟨F, ρ, hr, h⟩ := h
  refine ⟨F, ρ, hr, Ask.imp (Ask.bd h) fun x ρ1 F1 H1 s1 h1 v q1 => ⟨F1, ρ1, s1.rel, Ask.imp (Ask.bd h1) fun y ρ2 F2 H2 s2 h2 => ⟨F2, ρ2, s2.rel, Ask.imp (Ask.bd h2) fun z ρ3 F3 H3 s3 h3 => ?_⟩⟩⟩
  have h3 : Ask G W σ ρ3 F3 H3 (match resO ρ3 x with
    | some dx => (match slcD dx y z with
      | some r => .ok (r, ρ3)
      | none => .stuck)
    | none => .stuck) fun r ρ' F' H' => ∀ v, RR G H σ ρ' F' H' v r → Q v H' := h3
  split at h3
  · rename_i dx ex
    split at h3
    · rename_i r er
      have s13 := s2.trans s3
      have sA := s1.trans s13
      have rt := OR.res s3.rel (OR.mono s13.ext.ff q1) ex
      have fin : ∀ w F' H', Stp G σ ρ3 F3 H3 σ ρ3 F' H' → RR G H3 σ ρ3 F' H' w r → Q w H' := fun w F' H' s rr => h3 F' H' s w (RR.back sA rr)
      rw [hK]
      cases dx <;> simp only [slcD] at er <;> try cases er
      · obtain ⟨a, vs, rfl, k1, k2⟩ := tupn_of rt
        refine .inr ⟨a, vs, rfl, (Same.sqn s3.rel.sub k1).t, fun w => ?_, fun _ => fin_tup s3.rel fin (cut_rep k2)⟩
        rw [k2.length] at w
        refine fin_v s3.rel fin ?_
        rw [cut_all w]
        exact .tup k1 k2
      · obtain ⟨a, vs, rfl, k1, k2⟩ := rt.lst s3.rel.sub
        exact .inl ⟨a, vs, rfl, .inl (.inl k1), fun p hp => fin_lst s3.rel fin (cut_rep k2) hp⟩
      · obtain ⟨a, vs, rfl, k1, k2⟩ := rol_of rt
        exact .inl ⟨a, vs, rfl, s3.rel.sub.seq k1, fun p hp => fin_lst s3.rel fin (cut_rep k2) hp⟩
    · exact h3.elim
  · exact h3.elim
theorem snd_chn {o1 o2 : CmpOp} {r r' : R2} (h1 : OpR X (compareOp o1) r) (h2 : OpR X (compareOp o2) r') (k1 : OpS G X r (wrapB (cmpD o1))) (k2 : OpS G X r' (wrapB (cmpD o2))) (ha : Snd G C W X a A) (hb : Snd G C W X b B) (hc : Snd G C W X c Cc)
    (hm : lastMarks [o1, o2] [b, c] = false) : Snd G C W X (.Compare a [o1, o2] [b, c] pos) (.chn o1 o2 A B Cc) := by
  have key : ∀ {σ : L2.St} {H : Hp} {Q : VK}, rE G C W (.chn o1 o2 A B Cc) σ H Q → tChain r r' (rO G C W A) (rO G C W B) (rO G C W Cc) σ H Q := by
    intro σ H Q h
    obtain ⟨F, ρ, hr, h⟩ := h
    refine ⟨F, ρ, hr, Ask.imp (Ask.bd h) fun x ρ1 F1 H1 s1 g1 v q1 => ⟨F1, ρ1, s1.rel, Ask.imp (Ask.bd g1) fun y ρ2 F2 H2 s2 g2 u q2 => ?_⟩⟩
    have g2 : Ask G W σ ρ2 F2 H2 (match resO ρ2 x, resO ρ2 y with
      | some dx, some dy => (match cmpD o1 dx dy with
        | some true => (mkO Cc (ev C Cc) ρ2).bd fun (z, ρ3) => (match resO ρ3 y, resO ρ3 z with
          | some dy', some dz => (match cmpD o2 dy' dz with
            | some k => .ok (.val (.bl k), ρ3)
            | none => .stuck)
          | _, _ => .stuck)
        | some false => .ok (.val (.bl false), ρ2)
        | none => .stuck)
      | _, _ => .stuck) fun r ρ' F' H' => ∀ v, RR G H σ ρ' F' H' v r → Q v H' := g2
    have s12 := s1.trans s2
    split at g2
    · rename_i dx dy ex ey
      have rx := OR.res s2.rel (OR.mono s2.ext.ff q1) ex
      have ry := OR.res s2.rel q2 ey
      split at g2
      · rename_i ec
        refine k1 σ ρ2 F2 H2 v u dx dy _ _ s2.rel rx ry (by simp only [wrapB, ec]; rfl) fun w F' H' s' rr => ?_
        have rr : Rep G F' w (.bl true) := rr
        cases rr
        refine ⟨true, rfl, iteT ⟨F', ρ2, s'.rel, ?_⟩⟩
        have g3 : Ask G W σ ρ2 F' H' ((mkO Cc (ev C Cc) ρ2).bd fun (z, ρ3) => (match resO ρ3 y, resO ρ3 z with
          | some dy', some dz => (match cmpD o2 dy' dz with
            | some k => .ok (.val (.bl k), ρ3)
            | none => .stuck)
          | _, _ => .stuck)) fun r ρ' F' H' => ∀ v, RR G H σ ρ' F' H' v r → Q v H' := by
          have g := g2
          unfold Ask at g ⊢
          split at g
          · exact fun F'' H'' s'' => g F'' H'' (s'.trans s'')
          · exact fun F'' H'' s'' => g F'' H'' (s'.trans s'')
          · exact g
        refine Ask.imp (Ask.bd g3) fun z ρ3 F3 H3 s3 g4 w q3 => ?_
        have g4 : Ask G W σ ρ3 F3 H3 (match resO ρ3 y, resO ρ3 z with
          | some dy', some dz => (match cmpD o2 dy' dz with
            | some k => .ok (.val (.bl k), ρ3)
            | none => .stuck)
          | _, _ => .stuck) fun r ρ' F' H' => ∀ v, RR G H σ ρ' F' H' v r → Q v H' := g4
        split at g4
        · rename_i dy' dz ey' ez
          split at g4
          · rename_i k ek
            have sB := s12.trans (s'.trans s3)
            exact k2 σ ρ3 F3 H3 u w dy' dz _ _ s3.rel (OR.res s3.rel (OR.mono (s'.trans s3).ext.ff q2) ey') (OR.res s3.rel q3 ez) (by simp only [wrapB, ek]; rfl) fun w' F4 H4 s4 rr => g4 F4 H4 s4 w' (RR.back sB rr)
          · exact g4.elim
        · exact g4.elim
      · rename_i ec
        refine k1 σ ρ2 F2 H2 v u dx dy _ _ s2.rel rx ry (by simp only [wrapB, ec]; rfl) fun w F' H' s' rr => ?_
        have rr : Rep G F' w (.bl false) := rr
        cases rr
        exact ⟨false, rfl, iteF (g2 F' H' s' (.bl false) (.bl false))⟩
      · exact g2.elim
    · exact g2.elim
  have hv : PE X (.Compare a [o1, o2] [b, c] pos) (rE G C W (.chn o1 o2 A B Cc)) := pewk (pe_chain h1 h2 ha.o hb.o hc.o hm) fun σ H Q h => key h
  refine ⟨hv, pewk (pewk hv fun _ _ _ q => rD_of q) fun _ _ _ q => rO_of rfl q, ptwk (pt_chain h1 h2 ha.o hb.o hc.o hm) fun σ H Q h => ?_⟩
  obtain ⟨F, ρ, hr, h⟩ := h
  refine key (Q := fun x H' => ∃ k, x = .bl k ∧ Q k H') ⟨F, ρ, hr, ask_test (A := .chn o1 o2 A B Cc) (k0 := ev C (.chn o1 o2 A B Cc)) rfl (fun rr ρ' e => ?_) h⟩
  have e : ((mkO A (ev C A) ρ).bd fun (x, ρ1) => (mkO B (ev C B) ρ1).bd fun (y, ρ2) => (match resO ρ2 x, resO ρ2 y with
    | some dx, some dy => (match cmpD o1 dx dy with
      | some true => (mkO Cc (ev C Cc) ρ2).bd fun (z, ρ3) => (match resO ρ3 y, resO ρ3 z with
        | some dy', some dz => (match cmpD o2 dy' dz with
          | some k => .ok (.val (.bl k), ρ3)
          | none => .stuck)
        | _, _ => .stuck)
      | some false => .ok (.val (.bl false), ρ2)
      | none => .stuck)
    | _, _ => .stuck)) = (Res.ok (rr, ρ') : Res (R × Env) Env) := e
  cases m1 : mkO A (ev C A) ρ with
  | exc => rw [m1] at e; cases e
  | stuck => rw [m1] at e; cases e
  | ok p =>
    obtain ⟨x, ρ1⟩ := p
    rw [m1] at e
    simp only [Res.bd] at e
    cases m2 : mkO B (ev C B) ρ1 with
    | exc => rw [m2] at e; cases e
    | stuck => rw [m2] at e; cases e
    | ok p =>
      obtain ⟨y, ρ2⟩ := p
      rw [m2] at e
      simp only at e
      split at e
      · split at e
        · cases m3 : mkO Cc (ev C Cc) ρ2 with
          | exc => rw [m3] at e; cases e
          | stuck => rw [m3] at e; cases e
          | ok p =>
            obtain ⟨z, ρ3⟩ := p
            rw [m3] at e
            simp only at e
            split at e
            · split at e
              · cases e; exact ⟨_, rfl⟩
              · cases e
            · cases e
        · cases e; exact ⟨_, rfl⟩
        · cases e
      · cases e
end
end Cr
namespace Cr
open PySem PySem.Spec PyProof.Rows L2
section
variable {prog : Program} {w : World} {A : Around} {E : Value → Shared → Prop} {s : Shared}
theorem places_rev (n : Nat) : Builtin.Slice.slicePlaces ((n : Int) - 1) (-1) (-1) = n := by
  unfold Builtin.Slice.slicePlaces
  rw [if_neg (by decide)]
  split
  · show (((n : Int) - 1 - -1 - 1) / (- -1) + 1).toNat = n
    rw [show (- -1 : Int) = 1 by decide, Int.ediv_one]
    omega
  · show (0 : Int).toNat = n
    omega
theorem sliceApplied_rev {sl : Addr} {vs : Value} {n : Nat} {Q : Int × Int × Nat → Shared → Prop} (hs : s.heap.IsSliceOf sl .none .none vs) (ps : IsPart vs (some (-1)))
    (h : Q ((n : Int) - 1, -1, n) s) : wpAny (model prog w) A (Builtin.Slice.sliceApplied (.ref sl) (pure (n : Int))) Q E s := by
  obtain ⟨os, hos, hcs, hds⟩ := id hs
  unfold Builtin.Slice.sliceApplied Builtin.Slice.sliceFields
  refine wpAny_bind (wpAny_bind (wpAny_field hos hds (x := .none) rfl (wpAny_bind (wpAny_field hos hds (x := .none) rfl (wpAny_bind (wpAny_field hos hds (x := vs) rfl (wpAny_pure ?_)))))))
  refine wpAny_bind (HT.slicePart_ ps ?_)
  show wpAny _ _ (if ((-1 : Int) == 0) = true then _ else _) _ _ s
  rw [if_neg (by decide)]
  refine wpAny_bind (HT.slicePart_ .none (wpAny_bind (HT.slicePart_ .none (wpAny_bind (wpAny_pure ?_)))))
  show wpAny _ _ (pure ((n : Int) - 1, (-1 : Int), Builtin.Slice.slicePlaces ((n : Int) - 1) (-1) (-1))) _ _ s
  rw [places_rev]
  exact wpAny_pure h
theorem pick_rev (xs : Array Value) : ((List.range xs.size).filterMap fun (m : Nat) => xs[(((xs.size : Int) - 1) + (m : Int) * (-1)).toNat]?).toArray = xs.toList.reverse.toArray := by
  congr 1
  have e : ∀ m ∈ List.range xs.size, xs[(((xs.size : Int) - 1) + (m : Int) * (-1)).toNat]? = some (xs.toList.reverse.getD m default) := fun m hm => by
    have hm := List.mem_range.mp hm
    have e1 : (((xs.size : Int) - 1) + (m : Int) * (-1)).toNat = xs.size - 1 - m := by omega
    rw [e1, Array.getElem?_eq_getElem (by omega), List.getD_eq_getElem?_getD, List.getElem?_reverse (by simpa using hm)]
    rw [Array.length_toList, List.getElem?_eq_getElem (by simpa using (by omega : xs.size - 1 - m < xs.size))]
    simp
  rw [show (List.range xs.size).filterMap (fun (m : Nat) => xs[(((xs.size : Int) - 1) + (m : Int) * (-1)).toNat]?) = (List.range xs.size).map fun m => xs.toList.reverse.getD m default from ?_]
  · apply List.ext_getElem?
    intro i
    rw [List.getElem?_map]
    by_cases hi : i < xs.size
    · rw [List.getElem?_range hi, Option.map_some, List.getD_eq_getElem?_getD]
      rw [List.getElem?_eq_getElem (by simpa using hi)]
      rfl
    · rw [List.getElem?_eq_none (l := List.range xs.size) (by simpa using hi), List.getElem?_eq_none (by simpa using hi)]
      rfl
  · generalize List.range xs.size = l at e
    induction l with
    | nil => rfl
    | cons m l ih =>
      rw [List.filterMap_cons, e m List.mem_cons_self, List.map_cons]
      dsimp only
      rw [ih fun k hk => e k (List.mem_cons_of_mem _ hk)]
theorem getItem_tuple_rev {t sl : Addr} {items : Array Value} {vs : Value} {Q : Value → Shared → Prop} (ht : IsTup s.heap t items) (hs : s.heap.IsSliceOf sl .none .none vs) (ps : IsPart vs (some (-1)))
    (h : Q (.ref s.heap.objs.size) { s with heap := s.heap.push { cls := .type "tuple", data := .seq items.toList.reverse.toArray } })
    (hsz : items.size ≤ sizeLine) : wpAny (model prog w) A (getItem (.ref t) (.ref sl)) Q E s := by
  have htake : sizeOk (.seq items.toList.reverse.toArray) := by
    show items.toList.reverse.toArray.size ≤ sizeLine
    rw [List.size_toArray, List.length_reverse, Array.length_toList]
    exact hsz
  obtain ⟨os, hos, hcs, hds⟩ := id hs
  have hTs : s.TypeIs (.ref sl) "slice" := ⟨os, hos, hcs⟩
  unfold getItem
  try with_reducible refine wpAny_holding ?_
  first | refine wpAny_bind (wpAny_pure ?_) | skip
  refine wpAny_bind (wpAny_sequenceKey ht.typeIs (by decide) ?_)
  refine wpAny_bind (wpAny_callSpecial?_slot (name := Str.ofString "__getitem__") ht.typeIs PyProof.Rows.slot_tuple_getitem
    (wpAny_call_entry PyProof.Rows.slot_tuple_getitem ht.typeIs entry_tuple_getitem ?_ (args_tuple_getitem _ _)))
  show wpAny _ _ (Builtin.Tuple.tupleItemsOf (.ref t) >>= _) _ _ s
  refine wpAny_bind (tupleItemsOf_ ht ?_)
  refine wpAny_bind (wpAny_typeOf hTs ?_)
  rw [if_pos (by decide)]
  refine wpAny_bind (sliceApplied_rev hs ps ?_)
  have hno : ¬ ((((items.size : Int) - 1) == 0 && (-1 : Int) == 1 && items.size == items.size) = true) := by
    intro q
    rw [Bool.and_eq_true, Bool.and_eq_true] at q
    exact absurd q.1.2 (by decide)
  show wpAny _ _ (if (((items.size : Int) - 1) == 0 && (-1 : Int) == 1 && items.size == items.size) = true then _ else _) _ _ s
  rw [if_neg hno, pick_rev]
  first
    | exact wpAny_bind (m := Builtin.Tuple.tupleExact _) (wpAny_newObj_type (wpAny_pure ⟨_, rfl, wpAny_pure h⟩) htake)
    | exact wpAny_bind (m := Builtin.Tuple.tupleExact _) (wpAny_newObj_type (wpAny_bind (wpAny_pure (wpAny_pure ⟨_, rfl, wpAny_pure h⟩))) htake)
    | exact wpAny_bind (wpAny_bind (m := Builtin.Tuple.tupleExact _) (wpAny_newObj_type (wpAny_pure (wpAny_pure ⟨_, rfl, wpAny_pure h⟩)) htake))
    | exact wpAny_bind (wpAny_bind (m := Builtin.Tuple.tupleExact _) (wpAny_newObj_type (wpAny_pure ⟨_, rfl, wpAny_pure h⟩) htake))
end
section
variable {X : Cx} {G : Glo} {C : CallF} {W : WX} {a : Expr} {A : E} {pos : Pos}
def tRev (K : PySem.W.Frag) (te : TE) : TE := fun σ H Q => te σ H fun x H1 => (∃ a xs, x = .ref a ∧ SqL K H1 a xs ∧ ∀ p, H1 p = none → Q (.ref p) (upd H1 p (.lst xs.reverse))) ∨ ∃ a xs, x = .ref a ∧ SqT K H1 a xs ∧ NewT H1 xs.reverse Q
theorem pe_rev {e : Expr} {te : TE} {k : Nat} {p1 p2 p3 pos : Pos} (he : PE X e te) : PE X (.Subscript e (.Slice none none (some (.UnaryOp .USub (.Constant (.int 1) k p1) p2)) p3) pos) (tRev X.K te) := by
  refine ⟨fun pins s σ H Q I h => ?_⟩
  refine Subscript_ (thn (he.run pins s σ H _ I h) fun v s1 ⟨x, H1, I1, r1, q1⟩ => ?_)
  have hst : PO X (some (.UnaryOp .USub (.Constant (.int 1) k p1) p2)) (tPart (tUn (rU fun i => .int (-i)) (tC (.int 1)))) := po_some (pe_un un_neg pe_int)
  refine wpAny_Slice (thn (po_none.run pins s1 σ H1 (fun o H2 => o = none ∧ H2 = H1) I1 ⟨rfl, rfl⟩) fun vl s2 ⟨l, H2, I2, pl, el, e2⟩ => ?_)
  subst el e2
  refine thn (po_none.run pins s2 σ H2 (fun o H3 => o = none ∧ H3 = H2) I2 ⟨rfl, rfl⟩) fun vu s3 ⟨u, H3, I3, pu, eu, e3⟩ => ?_
  subst eu e3
  refine thn (hst.run pins s3 σ H3 (fun o H4 => o = some (-1) ∧ H4 = H3) I3 ⟨1, rfl, -1, rfl, rfl, rfl⟩) fun vs s4 ⟨o, H4, I4, ps, eo, e4⟩ => ?_
  subst eo e4
  have I5 : Inv X pins σ H4 { s4 with heap := s4.heap.push { cls := .type "slice", data := .fields #[vl, vu, vs] } } := I4.kept (t' := s4.toks) fun b ob q => Heap.get?_push_of_some _ q
  rcases q1 with ⟨a, xs, ex, hx, q⟩ | ⟨a, xs, ex, hx, q⟩
  · subst ex
    cases r1
    obtain ⟨its, r, ht, hz⟩ := I5.list hx
    have hlen := r.length
    show wpAny (model X.prog X.w) X.A (subscriptTail e (.Slice none none (some (.UnaryOp .USub (.Constant (.int 1) k p1) p2)) p3) (.ref a) (.ref s4.heap.objs.size)) (EP X pins σ Q) X.xe { s4 with heap := s4.heap.push { cls := .type "slice", data := .fields #[vl, vu, vs] } }
    refine tail_any (ops := [.ref a, .ref s4.heap.objs.size]) ht.isList.typeIs (PySem.slot_list_getitem.lookup) ?_ (by with_unfolding_all rfl)
    refine wpAny_getItem_list_slice ht.isList (Heap.IsSliceOf.new _ vl vu vs) pl pu ps (by decide) ?_ (by rw [List.size_toArray]; omega)
    rw [PySem.W.krv_pick]
    refine ⟨.ref _, _, I5.laid (t' := s4.toks) (o := .lst xs.reverse) (fun b ob q => Heap.get?_push_of_some _ q) (Nat.le_refl _) ?_, rfl, q _ (I5.hok.fresh (Nat.le_refl _))⟩
    exact ⟨by rw [List.length_reverse]; exact hz, _, 0, r.reverse, Heap.get?_push_size _ rfl⟩
  · subst ex
    cases r1
    obtain ⟨its, r, ht, hz⟩ := I5.tuple hx
    have hlen : its.toArray.size = xs.length := by rw [List.size_toArray]; exact r.length.symm
    cases pl
    cases pu
    show wpAny (model X.prog X.w) X.A (subscriptTail e (.Slice none none (some (.UnaryOp .USub (.Constant (.int 1) k p1) p2)) p3) (.ref a) (.ref s4.heap.objs.size)) (EP X pins σ Q) X.xe { s4 with heap := s4.heap.push { cls := .type "slice", data := .fields #[.none, .none, vs] } }
    refine tail_any (ops := [.ref a, .ref s4.heap.objs.size]) ht.typeIs (PyProof.Rows.slot_tuple_getitem.lookup) ?_ (by with_unfolding_all rfl)
    refine getItem_tuple_rev ht (Heap.IsSliceOf.new _ .none .none vs) ps ?_ (by rw [hlen]; exact hz)
    exact tup_laid (tk := s4.toks) I5 r.reverse (by rw [List.length_reverse]; exact hz) q
def rIndexT (K : PySem.W.Frag) : V → List V → Hp → VK → Prop := fun x xs H Q => ∃ (a : Addr) (ys : List V) (y : V) (j : Nat) (z : V), x = V.ref a ∧ xs = [y] ∧ SqT K H a ys ∧ flatV y = true ∧ ys.all flatV = true ∧ ys[j]? = some z ∧ eqV z y = true ∧
  (∀ (m : Nat) (z' : V), m < j → ys[m]? = some z' → eqV z' y = false) ∧ Q (.int (j : Nat)) H
theorem mt_indexT : MtR X "tuple.index" (rIndexT X.K) := by
  intro pins s σ H x xs v us Q I rx rxs h
  obtain ⟨a, ys, y, j, z, rfl, rfl, hs, fy, fys, hz, hzj, hno, q⟩ := h
  cases rx
  cases rxs with
  | cons ry rt =>
    rename_i uy ut
    cases rt
    obtain ⟨its, rv, pl, hlen⟩ := I.tuple hs
    obtain ⟨⟨cls, dd, dt, sl⟩, ho, hc, n, hd⟩ := pl
    simp only at hc hd
    subst hc
    subst hd
    obtain ⟨u, hu, ru⟩ := rv.get hz
    obtain ⟨hjl, hje⟩ := List.getElem?_eq_some_iff.mp hu
    have hvl := rv.length
    have hj : j < its.toArray.size := by simpa using hjl
    have hsl := sizeLine_eq
    refine call_meets PySem.F.slot_tuple_index ⟨_, ho, rfl⟩ PySem.F.entry_tuple_index (PySem.F.args_tuple_index_2 _ _)
      (TI.tuple_indexAt a its.toArray n dd sl uy (eqU y) j hj ?_ ?_) ⟨ho, fun u' hu' => mem_eqAt ry fy rv fys u' (by simpa using hu'), ?_⟩
    · have e1 : its.toArray[j] = u := by simpa using hje
      rw [e1, eqU_of ru (flat_at fys hz)]
      exact hzj
    · intro m hm hmj
      have hml : m < its.length := by simpa using hm
      have hmy : m < ys.length := by omega
      have hy' : ys[m]? = some ys[m] := List.getElem?_eq_getElem hmy
      obtain ⟨u2, hu2, ru2⟩ := rv.get hy'
      obtain ⟨_, hme⟩ := List.getElem?_eq_some_iff.mp hu2
      have e2 : its.toArray[m] = u2 := by simpa using hme
      rw [e2, eqU_of ru2 (flat_at fys hy')]
      exact hno m _ hmj hy'
    · exact ⟨.int (j : Nat), H, I.tok _, ⟨_, rfl⟩, q⟩
theorem Reps.rev {F : Hp} : ∀ {vs : List V} {ds : List D}, Reps G F vs ds → Reps G F vs.reverse ds.reverse
  | _, _, .nil => .nil
  | _, _, .cons h1 h2 => by
    rw [List.reverse_cons, List.reverse_cons]
    exact (Reps.rev h2).append (.cons h1 .nil)
theorem snd_rev {k : Nat} {p1 p2 p3 : Pos} (ha : Snd G C W X a A) (hK : X.K = G.K) : Snd G C W X (.Subscript a (.Slice none none (some (.UnaryOp .USub (.Constant (.int 1) k p1) p2)) p3) pos) (.rev A) := by
  refine Snd.mk1 (pewk (pe_rev ha.o) fun σ H Q h => ?_) rfl hK fun _ => rfl
  obtain ⟨F, ρ, hr, h⟩ := h
  refine ⟨F, ρ, hr, Ask.imp (Ask.bd h) fun x ρ1 F1 H1 s1 h1 v q1 => ?_⟩
  have h1 : Ask G W σ ρ1 F1 H1 (match resO ρ1 x with
    | some d1 => (match revD d1 with
      | some r => .ok (r, ρ1)
      | none => .stuck)
    | _ => .stuck) fun r ρ' F' H' => ∀ v, RR G H σ ρ' F' H' v r → Q v H' := h1
  split at h1
  · rename_i dx ex
    split at h1
    · rename_i r er
      have rt := OR.res s1.rel q1 ex
      have fin : ∀ w F' H', Stp G σ ρ1 F1 H1 σ ρ1 F' H' → RR G H1 σ ρ1 F' H' w r → Q w H' := fun w F' H' s rr => h1 F' H' s w (RR.back s1 rr)
      rw [hK]
      cases dx <;> simp only [revD] at er <;> try cases er
      · obtain ⟨a, vs, rfl, k1, k2⟩ := tup_of rt
        exact .inr ⟨a, vs, rfl, Same.sqt s1.rel.sub k1, fin_tup s1.rel fin k2.rev⟩
      · obtain ⟨a, vs, rfl, k1, k2⟩ := rt.lst s1.rel.sub
        exact .inl ⟨a, vs, rfl, .inl (.inl k1), fun p hp => fin_lst s1.rel fin k2.rev hp⟩
      · obtain ⟨a, vs, rfl, k1, k2⟩ := rol_of rt
        exact .inl ⟨a, vs, rfl, s1.rel.sub.seq k1, fun p hp => fin_lst s1.rel fin k2.rev hp⟩
    · exact h1.elim
  · exact h1.elim
end
end Cr
namespace Cr
open PySem PySem.Spec PyProof.Rows L2
theorem insI_perm (x : Int) : ∀ l : List Int, (insI x l).Perm (x :: l)
  | [] => .refl _
  | y :: r => by
    unfold insI
    split
    · exact .refl _
    · exact ((insI_perm x r).cons y).trans (.swap x y r)
theorem sortI_perm : ∀ l : List Int, (sortI l).Perm l
  | [] => .refl _
  | x :: r => (insI_perm x (sortI r)).trans ((sortI_perm r).cons x)
theorem insI_sorted (x : Int) : ∀ l : List Int, l.Pairwise (· ≤ ·) → (insI x l).Pairwise (· ≤ ·)
  | [], _ => by simp [insI]
  | y :: r, h => by
    unfold insI
    rw [List.pairwise_cons] at h
    split
    · rename_i hx
      refine List.pairwise_cons.mpr ⟨fun z hz => ?_, List.pairwise_cons.mpr h⟩
      rcases List.mem_cons.mp hz with rfl | hz
      · exact hx
      · exact Int.le_trans hx (h.1 z hz)
    · refine List.pairwise_cons.mpr ⟨fun z hz => ?_, insI_sorted x r h.2⟩
      rcases List.mem_cons.mp ((insI_perm x r).mem_iff.mp hz) with rfl | hz
      · omega
      · exact h.1 z hz
theorem sortI_sorted : ∀ l : List Int, (sortI l).Pairwise (· ≤ ·)
  | [] => .nil
  | x :: r => insI_sorted x _ (sortI_sorted r)
theorem sortI_eq {l m : List Int} (hp : m.Perm l) (hs : m.Pairwise (· ≤ ·)) : m = sortI l :=
  List.Perm.eq_of_pairwise (fun _ _ _ _ h1 h2 => Int.le_antisymm h1 h2) hs (sortI_sorted l) (hp.trans (sortI_perm l).symm)
theorem lex_irr : ∀ a : List Int, HT.lexLt a a = false
  | [] => rfl
  | x :: r => by rw [HT.lexLt_cons, if_pos rfl]; exact lex_irr r
theorem lex_trans : ∀ {a b c : List Int}, HT.lexLt a b = true → HT.lexLt b c = true → HT.lexLt a c = true
  | [], [], _, h, _ => by cases h
  | [], _ :: _, [], _, h => by cases h
  | [], _ :: _, _ :: _, _, _ => rfl
  | _ :: _, [], _, h, _ => by cases h
  | _ :: _, _ :: _, [], _, h => by cases h
  | x :: a, y :: b, z :: c, h1, h2 => by
    rw [HT.lexLt_cons] at h1 h2 ⊢
    by_cases e1 : x = y
    · rw [if_pos e1] at h1
      by_cases e2 : y = z
      · rw [if_pos e2] at h2
        rw [if_pos (e1.trans e2)]
        exact lex_trans h1 h2
      · rw [if_neg e2] at h2
        rw [if_neg (by omega)]
        simp at h2 ⊢; omega
    · rw [if_neg e1] at h1
      by_cases e2 : y = z
      · rw [if_neg (by omega)]
        simp at h1 ⊢; omega
      · rw [if_neg e2] at h2
        simp at h1 h2
        rw [if_neg (by omega)]
        simp; omega
theorem lex_total : ∀ {a b : List Int}, a ≠ b → HT.lexLt a b = false → HT.lexLt b a = true
  | [], [], h, _ => absurd rfl h
  | [], _ :: _, _, h => by cases h
  | _ :: _, [], _, _ => rfl
  | x :: a, y :: b, h, h1 => by
    rw [HT.lexLt_cons] at h1 ⊢
    by_cases e : x = y
    · rw [if_pos e] at h1
      rw [if_pos e.symm]
      exact lex_total (fun z => h (by rw [e, z])) h1
    · rw [if_neg e] at h1
      rw [if_neg (Ne.symm e)]
      simp at h1 ⊢; omega
abbrev LexL (a b : List Int) : Prop := HT.lexLt a b = true
theorem mem_insT {x z : List Int} : ∀ {l : List (List Int)}, z ∈ insT x l ↔ z = x ∨ z ∈ l
  | [] => by simp [insT]
  | y :: r => by
    unfold insT
    split
    · rename_i e; subst e; simp
    · split
      · simp
      · simp only [List.mem_cons, mem_insT (l := r)]
        constructor
        · rintro (h | h | h) <;> simp [h]
        · rintro (h | h | h) <;> simp [h]
theorem insT_sorted {x : List Int} : ∀ {l : List (List Int)}, l.Pairwise LexL → (insT x l).Pairwise LexL
  | [], _ => by simp [insT]
  | y :: r, h => by
    unfold insT
    split
    · exact h
    · rename_i hne
      rw [List.pairwise_cons] at h
      split
      · rename_i hx
        refine List.pairwise_cons.mpr ⟨fun z hz => ?_, List.pairwise_cons.mpr h⟩
        rcases List.mem_cons.mp hz with rfl | hz
        · exact hx
        · exact lex_trans hx (h.1 z hz)
      · rename_i hx
        refine List.pairwise_cons.mpr ⟨fun z hz => ?_, insT_sorted h.2⟩
        rcases mem_insT.mp hz with rfl | hz
        · exact lex_total hne (by simpa using hx)
        · exact h.1 z hz
theorem sortT_sorted : ∀ l : List (List Int), (sortT l).Pairwise LexL
  | [] => .nil
  | x :: r => insT_sorted (sortT_sorted r)
theorem mem_sortT {z : List Int} : ∀ {l : List (List Int)}, z ∈ sortT l ↔ z ∈ l
  | [] => by simp [sortT]
  | x :: r => by simp [sortT, mem_insT, mem_sortT (l := r)]
theorem lexL_nodup {l : List (List Int)} (h : l.Pairwise LexL) : l.Nodup := h.imp fun {a b} h e => by
  subst e
  have h : HT.lexLt a a = true := h
  rw [lex_irr] at h
  cases h
theorem sortT_eq {l m : List (List Int)} (hm : ∀ z, z ∈ m ↔ z ∈ l) (hs : m.Pairwise LexL) : m = sortT l := by
  refine List.Perm.eq_of_pairwise (le := LexL) (fun a b _ _ h1 h2 => ?_) hs (sortT_sorted l) ?_
  · have := lex_trans h1 h2
    rw [lex_irr] at this
    cases this
  · exact (List.perm_ext_iff_of_nodup (lexL_nodup hs) (lexL_nodup (sortT_sorted l))).mpr fun z => (hm z).trans mem_sortT.symm
theorem maxL_mem : ∀ (l : List Int) (n : Int), maxL n l = n ∨ maxL n l ∈ l
  | [], n => .inl rfl
  | m :: r, n => by
    unfold maxL
    rcases maxL_mem r (if n < m then m else n) with h | h
    · rw [h]
      split
      · exact .inr (List.mem_cons_self ..)
      · exact .inl rfl
    · exact .inr (List.mem_cons_of_mem _ h)
theorem maxL_ge : ∀ (l : List Int) (n : Int), n ≤ maxL n l ∧ ∀ y ∈ l, y ≤ maxL n l
  | [], n => ⟨Int.le_refl _, by simp⟩
  | m :: r, n => by
    unfold maxL
    have h := maxL_ge r (if n < m then m else n)
    refine ⟨Int.le_trans ?_ h.1, fun y hy => ?_⟩
    · split <;> omega
    · rcases List.mem_cons.mp hy with rfl | hy
      · refine Int.le_trans ?_ h.1
        split <;> omega
      · exact h.2 y hy
theorem minL_mem : ∀ (l : List Int) (n : Int), minL n l = n ∨ minL n l ∈ l
  | [], n => .inl rfl
  | m :: r, n => by
    unfold minL
    rcases minL_mem r (if m < n then m else n) with h | h
    · rw [h]
      split
      · exact .inr (List.mem_cons_self ..)
      · exact .inl rfl
    · exact .inr (List.mem_cons_of_mem _ h)
theorem minL_le : ∀ (l : List Int) (n : Int), minL n l ≤ n ∧ ∀ y ∈ l, minL n l ≤ y
  | [], n => ⟨Int.le_refl _, by simp⟩
  | m :: r, n => by
    unfold minL
    have h := minL_le r (if m < n then m else n)
    refine ⟨Int.le_trans h.1 ?_, fun y hy => ?_⟩
    · split <;> omega
    · rcases List.mem_cons.mp hy with rfl | hy
      · refine Int.le_trans h.1 ?_
        split <;> omega
      · exact h.2 y hy
section
variable {G : Glo} {C : CallF} {W : WX} {X : Cx} {e a b c : Expr} {A B Cc : E} {pos p : Pos} {σ : L2.St} {ρ : Env} {F H : Hp} {Q : VK} {es : List Expr} {Es' : Es}
def BiS (G : Glo) (r : List V → Hp → VK → Prop) (b : Bi) : Prop := ∀ (σ : L2.St) (ρ : Env) (F H : Hp) (vs : List V) (ds : List D) (z : R) (Q : VK), Rel G F H σ ρ → RepTs G F H vs ds → biD b ds = some z →
  (∀ w F' H', Stp G σ ρ F H σ ρ F' H' → RR G H σ ρ F' H' w z → Q w H') → r vs H Q
theorem bi_wk {b : Bi} {r : List V → Hp → VK → Prop} (hs : BiS G r b) (h : rE G C W (.bi b Es') σ H Q) : tCB r (rOs G C W Es') σ H Q := by
  obtain ⟨F, ρ, hr, h⟩ := h
  refine ⟨F, ρ, hr, Ask.imp (Ask.bd h) fun os ρ1 F1 H1 s1 h1 vs q => ?_⟩
  have h1 : Ask G W σ ρ1 F1 H1 (match resOs ρ1 os with
    | some ds => (match biD b ds with
      | some r => .ok (r, ρ1)
      | none => .stuck)
    | none => .stuck) fun r ρ' F' H' => ∀ v, RR G H σ ρ' F' H' v r → Q v H' := h1
  split at h1
  · rename_i ds e1
    split at h1
    · rename_i z ez
      exact hs σ ρ1 F1 H1 vs ds z Q s1.rel (ORs.rep s1.rel q e1) ez fun w F' H' s rr => h1 F' H' s w (RR.back s1 rr)
    · exact h1.elim
  · exact h1.elim
theorem snd_biB {x : Str} {id : String} {b : Bi} {r : List V → Hp → VK → Prop} (hc : CallR X (.builtin id) r) (hs : BiS G r b) (hg : Gl X x) (hm : X.mg x = none) (hv : bootBuiltins x = some (.builtin id)) (hn : x ≠ "__name__") (hdb : (x == ("__debug__" : Str)) = false)
    (ha : SndOs G C W X (e :: es) Es') (hK : X.K = G.K) : Snd G C W X (.Call (.Name x p) (e :: es) [] pos) (.bi b Es') := by
  have hs1 := ha.s
  rw [List.all_cons, Bool.and_eq_true] at hs1
  exact Snd.mk1 (pewk (pe_callB hc hg hm hv ha.p hn hdb (star_cons hs1.1) (back_all hs1.2)) fun σ H Q h => bi_wk hs h) rfl hK fun _ => rfl
theorem snd_biT {x : Str} {T : String} {b : Bi} {r : List V → Hp → VK → Prop} (hc : CallR X (.type T) r) (hs : BiS G r b) (hg : Gl X x) (hm : X.mg x = none) (hv : bootBuiltins x = some (.type T)) (hn : x ≠ "__name__") (hdb : (x == ("__debug__" : Str)) = false)
    (ha : SndOs G C W X (e :: es) Es') (hK : X.K = G.K) : Snd G C W X (.Call (.Name x p) (e :: es) [] pos) (.bi b Es') := by
  have hs1 := ha.s
  rw [List.all_cons, Bool.and_eq_true] at hs1
  exact Snd.mk1 (pewk (pe_callTy hc hg hm hv ha.p hn hdb (star_cons hs1.1) (back_all hs1.2)) fun σ H Q h => bi_wk hs h) rfl hK fun _ => rfl
abbrev lenR (K : PySem.W.Frag) : List V → Hp → VK → Prop := fun xs H Q => (∃ x n, xs = [x] ∧ LenV K x H n ∧ Q (.int n) H) ∨ (∃ a kvs, xs = [V.ref a] ∧ H a = some (.dK kvs) ∧ Q (.int kvs.length) H)
theorem cr_lenA : CallR X (.builtin "len") (lenR X.K) := CallR.or call_len call_lenD
theorem RepK.length {kvs : List (Key × V)} {ds : List (Key × D)} (h : RepK G F kvs ds) : kvs.length = ds.length := by
  induction ds generalizing kvs with
  | nil => cases h; rfl
  | cons d ds ih =>
    cases h with
    | cons h1 h2 => simp [ih h2]
theorem bi_len (hK : X.K = G.K) : BiS G (lenR X.K) .len := by
  intro σ ρ F H vs ds z Q hr hd e q
  rw [hK]
  have e : lenD ds = some z := e
  unfold lenD at e
  split at e <;> try (cases e; done)
  · obtain ⟨v, rfl, h⟩ := hd.one
    split at e
    · cases e
      rw [str_of h]
      exact .inl ⟨_, _, rfl, ⟨by assumption, rfl⟩, fin_v hr q (.int _)⟩
    · cases e
  · cases e
    obtain ⟨v, rfl, h⟩ := hd.one
    obtain ⟨a, ws, rfl, k1, k2⟩ := tup_of h
    exact .inl ⟨_, ws.length, rfl, .inr ⟨_, Same.sqt hr.sub k1, rfl⟩, by rw [k2.length]; exact fin_v hr q (.int _)⟩
  · cases e
    obtain ⟨v, rfl, h⟩ := hd.one
    obtain ⟨a, ws, rfl, k1, k2⟩ := h.lst hr.sub
    exact .inl ⟨_, ws.length, rfl, .inl ⟨_, .inl (.inl k1), rfl⟩, by rw [k2.length]; exact fin_v hr q (.int _)⟩
  · cases e
    obtain ⟨v, rfl, h⟩ := hd.one
    obtain ⟨a, ws, rfl, k1, k2⟩ := rol_of h
    exact .inl ⟨_, ws.length, rfl, .inl ⟨_, hr.sub.seq k1, rfl⟩, by rw [k2.length]; exact fin_v hr q (.int _)⟩
  · cases e
    obtain ⟨v, rfl, h⟩ := hd.one
    have h := h.val (fun _ z => by cases z)
    cases h with
    | dct k1 k2 => exact .inr ⟨_, _, rfl, hr.sub _ _ k1, by rw [RepK.length k2]; exact fin_v hr q (.int _)⟩
theorem bi_tuple (hK : X.K = G.K) : BiS G (rTupleN X.K) .tuple := by
  intro σ ρ F H vs ds z Q hr hd e q
  rw [hK]
  have e : tupleD ds = some z := e
  unfold tupleD at e
  split at e <;> try (cases e; done)
  · cases e
    obtain ⟨v, rfl, h⟩ := hd.one
    obtain ⟨a, ws, rfl, k1, k2⟩ := tupn_of h
    exact ⟨_, _, rfl, .inr ⟨(Same.sqn hr.sub k1).t, fin_v hr q (.tup k1 k2)⟩⟩
  · cases e
    obtain ⟨v, rfl, h⟩ := hd.one
    obtain ⟨a, ws, rfl, k1, k2⟩ := h.lst hr.sub
    exact ⟨_, _, rfl, .inl ⟨.inl (.inl k1), fin_tup hr q k2⟩⟩
theorem bi_list (hK : X.K = G.K) : BiS G (fun xs H Q => ∃ p ys, xs = [.ref p] ∧ (SqL X.K H p ys ∨ SqT X.K H p ys) ∧ ∀ l, H l = none → Q (.ref l) (upd H l (.lst ys))) .list := by
  intro σ ρ F H vs ds z Q hr hd e q
  rw [hK]
  have e : listD ds = some z := e
  unfold listD at e
  split at e <;> try (cases e; done)
  · cases e
    obtain ⟨v, rfl, h⟩ := hd.one
    obtain ⟨a, ws, rfl, k1, k2⟩ := tup_of h
    exact ⟨_, _, rfl, .inr (Same.sqt hr.sub k1), fun p hp => fin_lst hr q k2 hp⟩
  · cases e
    obtain ⟨v, rfl, h⟩ := hd.one
    obtain ⟨a, ws, rfl, k1, k2⟩ := h.lst hr.sub
    exact ⟨_, _, rfl, .inl (.inl (.inl k1)), fun p hp => fin_lst hr q k2 hp⟩
theorem bi_all (hK : X.K = G.K) : BiS G (rAll X.K) .all := by
  intro σ ρ F H vs ds z Q hr hd e q
  rw [hK]
  have e : allD ds = some z := e
  unfold allD at e
  split at e <;> try (cases e; done)
  obtain ⟨v, rfl, h⟩ := hd.one
  obtain ⟨bs, e1, rfl⟩ := Option.map_eq_some_iff.mp e
  obtain ⟨a, ws, rfl, k1, k2⟩ := h.lst hr.sub
  have e2 := Reps.bls e1 k2
  subst e2
  exact ⟨_, bs, rfl, .inl (.inl k1), fin_v hr q (.bl _)⟩
theorem bi_any (hK : X.K = G.K) : BiS G (rAny X.K) .any := by
  intro σ ρ F H vs ds z Q hr hd e q
  rw [hK]
  have e : anyD ds = some z := e
  unfold anyD at e
  split at e <;> try (cases e; done)
  obtain ⟨v, rfl, h⟩ := hd.one
  obtain ⟨bs, e1, rfl⟩ := Option.map_eq_some_iff.mp e
  obtain ⟨a, ws, rfl, k1, k2⟩ := h.lst hr.sub
  have e2 := Reps.bls e1 k2
  subst e2
  exact ⟨_, bs, rfl, .inl (.inl k1), fin_v hr q (.bl _)⟩
theorem bi_abs : BiS G (fun xs H Q => ∃ i, xs = [.int i] ∧ Q (.int (if i < 0 then -i else i)) H) .abs := by
  intro σ ρ F H vs ds z Q hr hd e q
  have e : absD ds = some z := e
  unfold absD at e
  split at e <;> try (cases e; done)
  cases e
  obtain ⟨v, rfl, h⟩ := hd.one
  rw [int_of h]
  exact ⟨_, rfl, fin_v hr q (.int _)⟩
theorem bi_int : BiS G (fun xs H Q => (∃ i, xs = [.int i] ∧ Q (.int i) H) ∨ ∃ k, xs = [.bl k] ∧ Q (.int (if k then 1 else 0)) H) .int := by
  intro σ ρ F H vs ds z Q hr hd e q
  have e : intD ds = some z := e
  unfold intD at e
  split at e <;> try (cases e; done)
  · cases e
    obtain ⟨v, rfl, h⟩ := hd.one
    rw [int_of h]
    exact .inl ⟨_, rfl, fin_v hr q (.int _)⟩
  · cases e
    obtain ⟨v, rfl, h⟩ := hd.one
    rw [bl_of h]
    exact .inr ⟨_, rfl, fin_v hr q (.int _)⟩
theorem bi_str : BiS G (fun xs H Q => ∃ i, xs = [.int i] ∧ i.natAbs.log2 < 1920 ∧ Q (.str (toString i)) H) .str := by
  intro σ ρ F H vs ds z Q hr hd e q
  have e : strD ds = some z := e
  unfold strD at e
  split at e <;> try (cases e; done)
  split at e
  · cases e
    obtain ⟨v, rfl, h⟩ := hd.one
    rw [int_of h]
    exact ⟨_, rfl, by assumption, fin_v hr q (.str _)⟩
  · cases e
theorem bi_divmod : BiS G rDmN .divmod := by
  intro σ ρ F H vs ds z Q hr hd e q
  have e : divmodD ds = some z := e
  unfold divmodD at e
  split at e <;> try (cases e; done)
  split at e
  · cases e
    rename_i hc
    simp only [Bool.and_eq_true, decide_eq_true_eq] at hc
    obtain ⟨v, w, rfl, h1, h2⟩ := hd.two
    rw [int_of h1, int_of h2]
    exact ⟨_, _, rfl, hc, fin_tup hr q (.cons (.int _) (.cons (.int _) .nil))⟩
  · cases e
theorem bi_max2 : BiS G (fun xs H Q => ∃ i j, xs = [.int i, .int j] ∧ Q (.int (if j > i then j else i)) H) .max2 := by
  intro σ ρ F H vs ds z Q hr hd e q
  have e : max2D ds = some z := e
  unfold max2D at e
  split at e <;> try (cases e; done)
  cases e
  obtain ⟨v, w, rfl, h1, h2⟩ := hd.two
  rw [int_of h1, int_of h2]
  exact ⟨_, _, rfl, fin_v hr q (.int _)⟩
theorem bi_min2 : BiS G (fun xs H Q => ∃ i j, xs = [.int i, .int j] ∧ Q (.int (if j < i then j else i)) H) .min2 := by
  intro σ ρ F H vs ds z Q hr hd e q
  have e : min2D ds = some z := e
  unfold min2D at e
  split at e <;> try (cases e; done)
  cases e
  obtain ⟨v, w, rfl, h1, h2⟩ := hd.two
  rw [int_of h1, int_of h2]
  exact ⟨_, _, rfl, fin_v hr q (.int _)⟩
theorem bi_sum (hK : X.K = G.K) : BiS G (rSum X.K) .sum := by
  intro σ ρ F H vs ds z Q hr hd e q
  rw [hK]
  have e : sumD ds = some z := e
  unfold sumD at e
  split at e <;> try (cases e; done)
  obtain ⟨v, rfl, h⟩ := hd.one
  obtain ⟨ns, e1, rfl⟩ := Option.map_eq_some_iff.mp e
  obtain ⟨a, ws, rfl, k1, k2⟩ := h.lst hr.sub
  have e2 := Reps.ints e1 k2
  subst e2
  exact ⟨_, ns, rfl, .inl (.inl k1), fin_v hr q (.int _)⟩
theorem bi_max (hK : X.K = G.K) : BiS G (rMax X.K) .max := by
  intro σ ρ F H vs ds z Q hr hd e q
  rw [hK]
  have e : maxD ds = some z := e
  unfold maxD at e
  split at e <;> try (cases e; done)
  obtain ⟨v, rfl, h⟩ := hd.one
  split at e
  · rename_i n ns e1
    cases e
    obtain ⟨a, ws, rfl, k1, k2⟩ := h.lst hr.sub
    have e2 := Reps.ints e1 k2
    subst e2
    refine ⟨_, n :: ns, rfl, .inl (.inl k1), by simp, fun m hm hle => ?_⟩
    have e3 : m = maxL n ns := by
      have g := maxL_ge ns n
      have h1 : m ≤ maxL n ns := by
        rcases List.mem_cons.mp hm with rfl | hm
        · exact g.1
        · exact g.2 m hm
      have h2 : maxL n ns ≤ m := by
        rcases maxL_mem ns n with h | h
        · rw [h]; exact hle _ (List.mem_cons_self ..)
        · exact hle _ (List.mem_cons_of_mem _ h)
      omega
    rw [e3]
    exact fin_v hr q (.int _)
  · cases e
theorem bi_min (hK : X.K = G.K) : BiS G (rMin X.K) .min := by
  intro σ ρ F H vs ds z Q hr hd e q
  rw [hK]
  have e : minD ds = some z := e
  unfold minD at e
  split at e <;> try (cases e; done)
  obtain ⟨v, rfl, h⟩ := hd.one
  split at e
  · rename_i n ns e1
    cases e
    obtain ⟨a, ws, rfl, k1, k2⟩ := h.lst hr.sub
    have e2 := Reps.ints e1 k2
    subst e2
    refine ⟨_, n :: ns, rfl, .inl (.inl k1), by simp, fun m hm hle => ?_⟩
    have e3 : m = minL n ns := by
      have g := minL_le ns n
      have h1 : minL n ns ≤ m := by
        rcases List.mem_cons.mp hm with rfl | hm
        · exact g.1
        · exact g.2 m hm
      have h2 : m ≤ minL n ns := by
        rcases minL_mem ns n with h | h
        · rw [h]; exact hle _ (List.mem_cons_self ..)
        · exact hle _ (List.mem_cons_of_mem _ h)
      omega
    rw [e3]
    exact fin_v hr q (.int _)
  · cases e
theorem ty_of (hr : Rel G F H σ ρ) {v : V} {d : D} {t : String} (h : RepT G F H v d) (e : d.ty = some t) : TyX G.K H v (.type t) := by
  have hsl : ∀ {a : Addr} {vs : List V}, SqL G.K H a vs → TyX G.K H (.ref a) (.type "list") := fun h => by
    rcases h with (h | ⟨o, h⟩) | ⟨o, its, n, k1, k2, _⟩
    · exact .base (.lst h)
    · exact .base (.frz h)
    · exact .kList k1 k2
  have hst : ∀ {a : Addr} {vs : List V}, SqT G.K H a vs → TyX G.K H (.ref a) (.type "tuple") := fun h => by
    rcases h with (h | ⟨o, h⟩) | ⟨o, its, n, k1, k2, _⟩
    · exact .base (.tup h)
    · exact .fTuple h
    · exact .kTuple k1 k2
  rcases h with h | ⟨xs, a, vs, rfl, rfl, h1, h2⟩
  · cases h with
    | non => cases e; exact .base .non
    | bl b => cases e; exact .base (.bl b)
    | int i => cases e; exact .base (.int i)
    | str x => cases e; exact .base (.str x)
    | tup h1 h2 => cases e; exact hst (Same.sqn hr.sub h1).t
    | lst h1 h2 => cases e; exact .base (.lst (hr.sub _ _ h1))
    | rol h1 h2 => cases e; exact hsl (hr.sub.seq h1)
    | dct h1 h2 => cases e; exact .base (.dK (hr.sub _ _ h1))
    | fn f => cases e
  · cases e; exact .base (.lst h1)
theorem snd_isi {x y : Str} {T : String} {p2 : Pos} (ha : Snd G C W X a A) (hs : NoStar a = true) (hg : Gl X x) (hm : X.mg x = none) (hv : bootBuiltins x = some (.builtin "isinstance")) (hn : x ≠ "__name__") (hdb : (x == ("__debug__" : Str)) = false)
    (hg2 : Gl X y) (hm2 : X.mg y = none) (hv2 : bootBuiltins y = some (.type T)) (hn2 : y ≠ "__name__") (hdb2 : (y == ("__debug__" : Str)) = false) (hK : X.K = G.K) :
    Snd G C W X (.Call (.Name x p) [a, .Name y p2] [] pos) (.bi (.isi T) (.cons A .nil)) := by
  refine Snd.mk1 (pewk (pe_callB call_isi hg hm hv (pa_cons ha.o (pa_cons (pe_bltn (v := .ty T) hg2 hm2 hv2 rfl hn2 hdb2) pa_nil) (star_cons hs)) hn hdb (star_cons hs) rfl) fun σ H Q h => ?_) rfl hK fun _ => rfl
  obtain ⟨F, ρ, hr, h⟩ := h
  refine ⟨F, ρ, hr, ?_⟩
  have h2 := Ask.bd h
  have h3 : Ask G W σ ρ F H (mkO A (ev C A) ρ) fun o ρ1 F1 H1 => Ask G W σ ρ1 F1 H1 (match resOs ρ1 [o] with
    | some ds => (match biD (.isi T) ds with
      | some r => .ok (r, ρ1)
      | none => .stuck)
    | none => .stuck) fun r ρ' F' H' => ∀ v, RR G H σ ρ' F' H' v r → Q v H' := by
    refine Ask.imp (Ask.bd h2) fun o ρ1 F1 H1 s1 h1 => ?_
    exact Ask.ok (a := [o]) (k := fun os ρ1 F1 H1 => Ask G W σ ρ1 F1 H1 (match resOs ρ1 os with
    | some ds => (match biD (.isi T) ds with
      | some r => .ok (r, ρ1)
      | none => .stuck)
    | none => .stuck) fun r ρ' F' H' => ∀ v, RR G H σ ρ' F' H' v r → Q v H') h1 s1.rel
  refine Ask.imp h3 fun o ρ1 F1 H1 s1 h1 v q => ?_
  split at h1
  · rename_i ds e1
    split at h1
    · rename_i z ez
      have hq : ORs G σ F1 [v] [o] := ⟨q, trivial⟩
      have rp := ORs.rep s1.rel hq e1
      have ez : isiD T ds = some z := ez
      unfold isiD at ez
      split at ez <;> try (cases ez; done)
      split at ez
      · rename_i u eu
        obtain ⟨r, er, rfl⟩ := Option.map_eq_some_iff.mp ez
        obtain ⟨v', e', rv⟩ := rp.one
        cases e'
        refine ⟨_, _, _, _, r, rfl, .ty T, by rw [hK]; exact ty_of s1.rel rv eu, kit_ty er, ?_⟩
        exact h1 F1 H1 (Stp.refl s1.rel) (.bl r) (.bl r)
      · cases ez
    · exact h1.elim
  · exact h1.elim
end
end Cr
namespace Cr
open PySem PySem.Spec PyProof.Rows L2
section
variable {G : Glo} {C : CallF} {W : WX} {X : Cx} {e a b c : Expr} {A B Cc : E} {pos p q pos2 : Pos} {b' : Bi} {σ : L2.St} {ρ : Env} {F H : Hp} {Q : VK} {es : List Expr} {Es' : Es} {v : V} {d : D}
theorem rgV_rep (m n : Int) : Reps G F (rgV m n) (rngD m n) := by
  unfold rgV rngD
  induction (List.range (n - m).toNat) with
  | nil => exact .nil
  | cons x xs ih => exact .cons (.int _) ih
theorem rgOk_of {m n : Int} (h : RgOkB m n = true) : RgOk m n := by
  unfold RgOkB at h
  simp only [Bool.and_eq_true, decide_eq_true_eq] at h
  exact ⟨h.1.1.1.1, h.1.1.1.2, h.1.1.2, h.1.2, h.2⟩
/-- what one operand, two operands give to a built-in function -/
theorem os_one {f : List D → Option R} (h : rE G C W (.bi b' (.cons A .nil)) σ H Q) (hb : biD b' = f) : rO G C W A σ H fun v H1 => ∃ F1 ρ1 d z, Rel G F1 H1 σ ρ1 ∧ RepT G F1 H1 v d ∧ f [d] = some z ∧ ∀ w F' H', Stp G σ ρ1 F1 H1 σ ρ1 F' H' → RR G H1 σ ρ1 F' H' w z → Q w H' := by
  subst hb
  obtain ⟨F, ρ, hr, h⟩ := h
  refine ⟨F, ρ, hr, Ask.imp (Ask.bd (Ask.bd h)) fun o ρ1 F1 H1 s1 h1 v qv => ?_⟩
  have h1 : Ask G W σ ρ1 F1 H1 (match resOs ρ1 [o] with
    | some ds => (match biD b' ds with
      | some r => .ok (r, ρ1)
      | none => .stuck)
    | none => .stuck) fun r ρ' F' H' => ∀ v, RR G H σ ρ' F' H' v r → Q v H' := Ask.ok (Ask.ok (Ask.bd h1) s1.rel) s1.rel
  split at h1
  · rename_i ds e1
    have hq : ORs G σ F1 [v] [o] := ⟨qv, trivial⟩
    have rp := ORs.rep s1.rel hq e1
    split at h1
    · rename_i z ez
      cases rp with
      | cons r1 r2 =>
        cases r2
        exact ⟨F1, ρ1, _, z, s1.rel, r1, ez, fun w F' H' s rr => h1 F' H' s w (RR.back s1 rr)⟩
    · exact h1.elim
  · exact h1.elim
theorem snd_lrange1 (ha : Snd G C W X a A) (hs : NoStar a = true) (hg : Gl X "range") (hm : X.mg "range" = none) (hg2 : Gl X "list") (hm2 : X.mg "list" = none) (hc : X.calm = true) (hK : X.K = G.K) :
    Snd G C W X (.Call (.Name "list" p) [.Call (.Name "range" q) [a] [] pos2] [] pos) (.bi .lrange1 (.cons A .nil)) := by
  refine Snd.mk1 (pewk (pe_listRg hc hg2 hm2 (prg_1 hg hm ha.o (star_cons hs)) rfl) fun σ H Q h => ?_) rfl hK fun _ => rfl
  obtain ⟨F, ρ, hr, h⟩ := os_one (f := lrange1D) h rfl
  refine ⟨F, ρ, hr, Ask.imp h fun o ρ1 F1 H1 s1 h1 v qv => ?_⟩
  obtain ⟨F2, ρ2, d, z, hr2, r1, e, k⟩ := h1 v qv
  unfold lrange1D at e
  split at e <;> try (cases e; done)
  split at e
  · rename_i hk
    rename_i n hd
    cases e
    cases hd
    rw [int_of r1]
    exact ⟨n, rfl, rgOk_of hk, fun l hl => fin_lst hr2 k (rgV_rep 0 n) hl⟩
  · cases e
theorem snd_trange1 (ha : Snd G C W X a A) (hs : NoStar a = true) (hg : Gl X "range") (hm : X.mg "range" = none) (hg2 : Gl X "tuple") (hm2 : X.mg "tuple" = none) (hc : X.calm = true) (hK : X.K = G.K) :
    Snd G C W X (.Call (.Name "tuple" p) [.Call (.Name "range" q) [a] [] pos2] [] pos) (.bi .trange1 (.cons A .nil)) := by
  refine Snd.mk1 (pewk (pe_tupRgN hc hg2 hm2 (prg_1 hg hm ha.o (star_cons hs)) rfl) fun σ H Q h => ?_) rfl hK fun _ => rfl
  obtain ⟨F, ρ, hr, h⟩ := os_one (f := trange1D) h rfl
  refine ⟨F, ρ, hr, Ask.imp h fun o ρ1 F1 H1 s1 h1 v qv => ?_⟩
  obtain ⟨F2, ρ2, d, z, hr2, r1, e, k⟩ := h1 v qv
  unfold trange1D at e
  split at e <;> try (cases e; done)
  split at e
  · rename_i hk
    rename_i n hd
    cases e
    cases hd
    rw [int_of r1]
    exact ⟨n, rfl, rgOk_of hk, fin_tup hr2 k (rgV_rep 0 n)⟩
  · cases e
end
end Cr
namespace Cr
open PySem PySem.Spec PyProof.Rows L2
section
variable {prog : Program} {w : World} {A : Around} {E : Value → Shared → Prop} {st : Shared}
abbrev seqL (vs : Array Value) : Obj := seqObj "list" vs 0
/-- the heap behind the gathering -/
def gath (h : Heap) (vs : List Value) : Heap := (h.push (seqL #[])).update h.objs.size (Obj.mapSeq (· ++ vs.toArray))
theorem gath_size (h : Heap) (vs : List Value) : (gath h vs).objs.size = h.objs.size + 1 := by
  unfold gath
  rw [Heap.size_update, size_push']
theorem gath_old {h : Heap} {vs : List Value} {b : Addr} {o : Obj} (e : h.get? b = some o) : (gath h vs).get? b = some o := by
  have lt := Heap.lt_size e
  unfold gath
  rw [Heap.get?_update_ne _ _ _ _ (Nat.ne_of_lt lt)]
  exact Heap.get?_push_of_some _ e
theorem gather_tup {t : Addr} {vs : List Value} {Q : List Value → Shared → Prop} (ht : IsTup st.heap t vs.toArray) (hz : vs.length ≤ sizeLine) (hq : Q vs { st with heap := gath st.heap vs }) : wpAny (model prog w) A (collect (.ref t)) Q E st := by
  obtain ⟨ob, g1, g2, k, g3⟩ := id ht
  have g1' : (st.heap.push (seqL #[])).get? t = some ob := Heap.get?_push_of_some _ g1
  have new : (st.heap.push (seqL #[])).get? st.heap.objs.size = some (seqL #[]) := Heap.get?_push_size _ rfl
  have room : ((#[] : Array Value) ++ vs.toArray).size ≤ sizeLine + 1 := by
    simp only [Array.size_append, List.size_toArray, List.length_nil]
    omega
  have is : (Value.type "tuple" == Value.type "tuple") = true := rfl
  unfold collect
  refine wpAny_bind (wpAny_runValue (codeAny_builtin entry_proto_collect' ?_))
  show wpAny _ _ (newList [] >>= fun l => again (.builtin "list.__iadd__" ⟨[l, .ref t], []⟩)) _ _ st
  refine wpAny_bind (wpAny_newList (wpAny_pure ?_))
  refine ⟨Code.quiet_builtin _ (by decide +kernel), codeAny_builtin entry_list_iadd' ?_⟩
  show wpAny _ _ (Builtin.List.listExtendWith (.ref st.heap.objs.size) (.ref t) (.ref st.heap.objs.size)) _ _ ({ st with heap := st.heap.push (seqL #[]) } : Shared)
  unfold Builtin.List.listExtendWith
  refine wpAny_bind (wpAny_typeOf (T := "tuple") ⟨ob, g1', g2⟩ ?_)
  rw [if_pos (by rw [is, Bool.or_true])]
  refine wpAny_bind (listItems_at g1' g3 ?_)
  refine wpAny_bind (listItems_at new rfl ?_)
  rw [if_neg (by simp)]
  refine wpAny_bind (listUpdate_at new rfl ?_ (Nat.zero_le _) room)
  refine wpAny_pure ?_
  show wpAny (model prog w) A (load st.heap.objs.size >>= fun o => match o.data with
      | .seq xs _ => pure xs.toList
      | _ => unsupported "internal:collect") Q E ({ st with heap := gath st.heap vs } : Shared)
  refine wpAny_bind (wpAny_load (get?_update_seq new _) ?_)
  show wpAny _ _ (pure ((#[] : Array Value) ++ vs.toArray).toList) Q E _
  have same : ((#[] : Array Value) ++ vs.toArray).toList = vs := by simp
  rw [same]
  exact wpAny_pure hq
/-- sorted(t): the sort of a new list with the same items -/
theorem sorted_tup {t : Addr} {vs : List Value} {Q : Value → Shared → Prop} (ht : IsTup st.heap t vs.toArray) (hz : vs.length ≤ sizeLine)
    (hs : ∀ (A' : Around) (h1 : Heap) (L : Addr), h1.get? L = some (seqL vs.toArray) → L = st.heap.objs.size + 1 → (∀ b o, st.heap.get? b = some o → b ≠ L ∧ h1.get? b = some o) → h1 = (gath st.heap vs).push (seqL vs.toArray) →
      wpAny (model prog w) A' (Builtin.«list.sort» ⟨[.ref L], []⟩) (fun f s2 => ∃ r, f = .done (.ret r) ∧ Q (.ref L) s2) E { st with heap := h1 }) : wpAny (model prog w) A (call (.builtin "sorted") [.ref t]) Q E st := by
  refine Calls.call_function_entry kind_sorted plain_sorted entry_sorted (args_sorted1 _) ?_
  unfold Builtin.«sorted»
  refine wpAny_bind (m := checkCount "sorted" 1 1 _) (wpAny_pure ?_)
  refine wpAny_bind (gather_tup ht hz ?_)
  refine wpAny_bind (wpAny_newList ?_ hz)
  have new : ((gath st.heap vs).push (seqL vs.toArray)).get? (st.heap.objs.size + 1) = some (seqL vs.toArray) := by
    rw [← gath_size st.heap vs]
    exact Heap.get?_push_size _ rfl
  have keep : ∀ b o, st.heap.get? b = some o → b ≠ st.heap.objs.size + 1 ∧ ((gath st.heap vs).push (seqL vs.toArray)).get? b = some o := fun b o e =>
    ⟨Nat.ne_of_lt (Nat.lt_succ_of_lt (Heap.lt_size e)), Heap.get?_push_of_some _ (gath_old e)⟩
  show wpAny _ _ _ _ _ ({ st with heap := (gath st.heap vs).push (seqL vs.toArray) } : Shared)
  rw [gath_size]
  refine wpAny_bind (wpAny_holding (wpAny_call_entry slot_list_sort ⟨_, new, rfl⟩ entry_list_sort ?_ (args_list_sort _)))
  refine wpAny_mono (hs _ _ _ new rfl keep rfl) (fun f s2 hf => ?_) fun _ _ z => z
  obtain ⟨r, rfl, hq⟩ := hf
  exact ⟨r, rfl, wpAny_pure ⟨_, rfl, hq⟩⟩
end
section
variable {X : Cx}
/-- sorted(t), t a tuple of ints -/
def rTI (K : PySem.W.Frag) : List V → Hp → VK → Prop := fun vs H Q => ∃ (a : Addr) (ns : List Int), vs = [V.ref a] ∧ SqT K H a (ns.map V.int) ∧
  ∀ (ms : List Int) (p : Addr), ms.Perm ns → ms.Pairwise (· ≤ ·) → H p = none → Q (.ref p) (upd H p (.lst (ms.map V.int)))
theorem cr_TI : CallR X (.builtin "sorted") (rTI X.K) := by
  intro pins st σ H vs us Q I r hh
  obtain ⟨a, ns, rfl, hs, q⟩ := hh
  obtain ⟨its, rv, ht, hz⟩ := I.tuple hs
  rw [Vals.ref1 r]
  have iints := rv.ints
  have room : its.length ≤ sizeLine := by rw [← rv.length]; exact hz
  refine sorted_tup ht room fun A' h1 L new eL keep eh => ?_
  subst eL eh
  refine SrtO.list_sort_ord SrtO.swo_int new room (fun two => SrtO.ints_sortable iints two) fun out o1 o2 => ⟨.none, rfl, ?_⟩
  obtain ⟨k1, k2, k3⟩ := SrtO.ints_out iints o1 o2
  obtain ⟨ep, at_⟩ := PyProof.Rows.sortedAll_at st.heap its out.toArray
  have room2 : ((out.map SrtO.iv).map V.int).length ≤ sizeLine := by
    rw [List.length_map, k2.length_eq, ← List.length_map (f := V.int) (as := ns)]
    exact hz
  exact ⟨.ref (st.heap.objs.size + 1), _, I.laid (t' := st.toks) (o := .lst ((out.map SrtO.iv).map V.int)) (fun _ _ => PyProof.Rows.sortedAll_old) (Nat.le_succ _) ⟨room2, out, ep, vals_of_ints k1, at_⟩, rfl, q _ _ k2 k3 (I.hok.fresh (Nat.le_succ _))⟩
/-- sorted(t), t a tuple of fewer than 64 pairs of ints in [0, 64) -/
def rTU (K : PySem.W.Frag) (d : Nat) (B : Int) : List V → Hp → VK → Prop := fun vs H Q => ∃ (a : Addr) (xs : List V), vs = [V.ref a] ∧ SqT K H a xs ∧ xs.length < 64 ∧ (∀ x ∈ xs, ∃ ns, TupI K H x ns ∧ ns.length = d ∧ TS.Bd B ns) ∧
  ∀ (ys : List V) (p : Addr), ys.Perm xs → ys.Pairwise (fun x y => ∀ n m, TupI K H x n → TupI K H y m → TS.code B n ≤ TS.code B m) → H p = none → Q (.ref p) (upd H p (.lst ys))
theorem cr_TU {d : Nat} {B : Int} (hd : 1 ≤ d) : CallR X (.builtin "sorted") (rTU X.K d B) := by
  intro pins st σ H vs us Q I r hh
  obtain ⟨a, xs, rfl, hs, few, hx, q⟩ := hh
  obtain ⟨its, rv, ht, hz⟩ := I.tuple hs
  rw [Vals.ref1 r]
  obtain ⟨e1, e2⟩ := bkV_refs rv fun x m => by
    obtain ⟨ns, h1, _⟩ := hx x m
    obtain ⟨t, e, _⟩ := h1
    exact ⟨t, e⟩
  have few' : its.length < 64 := by rw [← rv.length]; exact few
  have ok : ∀ v ∈ its, ∃ ns, TS.TupInts st.heap v ns ∧ ns.length = d ∧ TS.Bd B ns := fun v hv => by
    obtain ⟨t, rfl⟩ := e2 v hv
    have hm : V.ref t ∈ xs := by
      rw [e1]
      exact List.mem_map.mpr ⟨_, hv, rfl⟩
    obtain ⟨ns, h1, h2, h3⟩ := hx _ hm
    obtain ⟨t', e, h4⟩ := h1
    cases e
    exact ⟨ns, tupI_raw I h4, h2, h3⟩
  refine sorted_tup ht (by rw [← rv.length]; exact hz) fun A' h1 L new eL keep eh => ?_
  have keepT : ∀ b o, st.heap.get? b = some o → o.cls = .type "tuple" → h1.get? b = some o := fun b o e _ => (keep b o e).2
  have ok1 : TS.TupsOk h1 d B its := fun v hv => by
    obtain ⟨ns, t0, z⟩ := ok v hv
    exact ⟨ns, t0.keeps keepT, z⟩
  refine TS.sort_tups (s := { st with heap := h1 }) new few' hd ok1 (fun v => TS.code B (TS.intsOf st.heap v)) (fun v hv ns t => ?_) fun out o1 o2 => ⟨.none, rfl, ?_⟩
  · obtain ⟨ns0, t0, _⟩ := ok v hv
    have e : ns = ns0 := t.ints.symm.trans (t0.keeps keepT).ints
    show TS.code B (TS.intsOf st.heap v) = TS.code B ns
    rw [e, t0.ints]
  · subst eL eh
    obtain ⟨ep, at_⟩ := PyProof.Rows.sortedAll_at st.heap its out
    have refs : ∀ u ∈ out.toList, ∃ a, u = Value.ref a := fun u hu => e2 u (o1.mem_iff.mp hu)
    have pm : (out.toList.map bkV).Perm xs := by
      rw [e1]
      exact o1.map bkV
    have room2 : (out.toList.map bkV).length ≤ sizeLine := by
      rw [pm.length_eq]; exact hz
    refine ⟨.ref (st.heap.objs.size + 1), _, I.laid (t' := st.toks) (o := .lst (out.toList.map bkV)) (fun _ _ => PyProof.Rows.sortedAll_old) (Nat.le_succ _) ⟨room2, out.toList, ep, bkV_vals refs, at_⟩, rfl, q _ _ pm ?_ (I.hok.fresh (Nat.le_succ _))⟩
    rw [List.pairwise_map]
    refine o2.imp fun {u v} huv n m hn hm => ?_
    obtain ⟨t1, g1, g2⟩ := hn
    obtain ⟨t2, g3, g4⟩ := hm
    have i1 : TS.intsOf st.heap u = n := by
      rw [bkV_ref g1]
      exact (tupI_raw I g2).ints
    have i2 : TS.intsOf st.heap v = m := by
      rw [bkV_ref g3]
      exact (tupI_raw I g4).ints
    rw [← i1, ← i2]
    exact huv
end
end Cr
set_option maxHeartbeats 8000000
namespace L2
open PySem PySem.Spec PyProof.Rows
section
variable {P : Program} {w : World} {A : Around} {E : Value → Shared → Prop} {st : Shared}
/-- set(t), t a tuple of tuples of ints -/
theorem cr_set_tup {t : Addr} {its : Array Value} (ks : List (Addr × List Int)) {Q : Value → Shared → Prop} (hh : A.handled = none) (ht : st.heap.IsTuple t its) (hi : its.toList = ks.map fun p => Value.ref p.1)
    (hk : ∀ p ∈ ks, IsT P w st.heap p.2 p.1) (few : ks.length < 64) (un : A.units + 3 < cLine)
    (q : ∀ (h' : Heap) (tk : Nat) L es ep tb, SetTR P w h' st.heap.objs.size L es ep tb → Got ks ks.length L → (∀ b o, st.heap.get? b = some o → h'.get? b = some o) → Q (.ref st.heap.objs.size) { st with heap := h', toks := tk }) :
    wpAny (model P w) A (call (.type "set") [.ref t]) Q E st := by
  have cnt : its.size = ks.length := by
    have z := congrArg List.length hi
    rwa [Array.length_toList, List.length_map] at z
  obtain ⟨c, tl, mro⟩ := F.called_set.mro
  have made := F.called_set.made
  have sub1 := F.called_set.sub
  refine wpAny_call (codeAny_of_tree ?_)
  show wpAny _ _ (callAny (.type "set") _) _ _ _
  refine wpAny_pure ⟨Code.quiet_builtin _ (by decide +kernel), codeAny_builtin F.entry_type_call ?_⟩
  rw [Around.under_plain (weight_type_call_type "set" [.ref t] []) rfl]
  have n1 := F.called_set.notType
  have n2 := F.called_set.canCreate
  have n3 := F.typeCall_set_1 (.ref t)
  repeat (any_goals (first | assumption | wp_step))
  refine codeAny_mono (code_set_led1 (.ref t) (E := E) (Q₁ := fun ob s1 => ob = .ref st.heap.objs.size ∧ s1 = { st with heap := st.heap.push { cls := .type "set", dict := none, data := .set #[] 0 (.fresh 0 0 (!w.params.followText "set-order")) } }) ⟨rfl, rfl⟩) fun r s1 hr => ?_
  rcases r with e | fl
  · exact hr
  rcases fl with _ | _ | _ | ob
  · exact hr.elim
  · exact hr.elim
  · exact hr.elim
  obtain ⟨rfl, rfl⟩ := hr
  have stands : (st.heap.push { cls := .type "set", dict := none, data := .set #[] 0 (.fresh 0 0 (!w.params.followText "set-order")) }).get? st.heap.objs.size = some { cls := .type "set", dict := none, data := .set #[] 0 (.fresh 0 0 (!w.params.followText "set-order")) } := Heap.get?_push_size _ rfl
  have isSet : Shared.TypeIs { st with heap := st.heap.push { cls := .type "set", dict := none, data := .set #[] 0 (.fresh 0 0 (!w.params.followText "set-order")) } } (.ref st.heap.objs.size) "set" := ⟨_, stands, rfl⟩
  have li := F.called_set.init.lookup
  have bi := F.called_set.init.bind (.ref st.heap.objs.size)
  repeat (any_goals (first | assumption | wp_step))
  refine codeAny_mono (codeAny_call_builtin (R := wants (fun r s2 => r = .none ∧ ∃ h' tk L es ep tb, s2 = { st with heap := h', toks := tk } ∧ SetTR P w h' st.heap.objs.size L es ep tb ∧ Got ks ks.length L ∧
      (∀ b o, st.heap.get? b = some o → h'.get? b = some o)) E) F.called_set.init.plain F.entry_set_init (check_set_init_1 isSet ?_)) fun r2 s2 hr2 => ?_
  · obtain ⟨ot, hot, hcl, n, hd⟩ := ht
    obtain ⟨ocls, odict, odata, oslots⟩ := ot
    simp only at hcl hd
    subst hcl; subst hd
    have hot' : (st.heap.push { cls := .type "set", dict := none, data := .set #[] 0 (.fresh 0 0 (!w.params.followText "set-order")) }).get? t = some { cls := .type "tuple", dict := odict, data := .seq its n, slots := oslots } := Heap.get?_push_of_some _ hot
    have s1 := F.sub_tuple_set
    have s2 := F.sub_tuple_frozenset
    have s3 : (Value.type "tuple" == Value.type "dict") = false := by decide
    have isT : (st.heap.push { cls := .type "set", dict := none, data := .set #[] 0 (.fresh 0 0 (!w.params.followText "set-order")) }).IsTuple t its := ⟨_, hot', rfl, n, rfl⟩
    unfold Builtin.«set.__init__» noKeywords Builtin.Frozenset.updateFrom
    generalize hPI : pyIter = PI
    wp_walk
    subst hPI
    refine wpAny_pyIter_tuple isT ?_
    refine wpAny_bind (wpAny_runValue ?_)
    have lt : t < st.heap.objs.size := Heap.lt_size hot
    have h3 : A.in1.in1.in1.handled = none := by simp [hh]
    have apart : t ≠ (st.heap.push { cls := .type "set", dict := none, data := .set #[] 0 (.fresh 0 0 (!w.params.followText "set-order")) }).objs.size := by
      rw [Heap.size_push]
      exact Nat.ne_of_lt (Nat.lt_succ_of_lt lt)
    have away : st.heap.objs.size ∉ [(st.heap.push { cls := .type "set", dict := none, data := .set #[] 0 (.fresh 0 0 (!w.params.followText "set-order")) }).objs.size, t] := by
      rw [Heap.size_push]
      simp only [List.mem_cons, List.mem_singleton, List.not_mem_nil, or_false, not_or]
      exact ⟨Nat.ne_of_lt (Nat.lt_succ_self _), Nat.ne_of_gt lt⟩
    have vals : ∀ (i : Nat) (v : Value), its[i]? = some v → ∃ p, ks[i]? = some p ∧ v = .ref p.1 := fun i v hv => by
      have z : its.toList[i]? = some v := by rw [Array.getElem?_toList]; exact hv
      rw [hi, List.getElem?_map] at z
      obtain ⟨p, e1, e2⟩ := Option.map_eq_some_iff.mp z
      exact ⟨p, e1, e2.symm⟩
    have gone : ∀ b, st.heap.objs.size ≤ b → st.heap.get? b = none := fun b hb => by
      cases z : st.heap.get? b with
      | none => rfl
      | some o => exact absurd (Nat.lt_of_lt_of_le (Heap.lt_size z) hb) (Nat.lt_irrefl _)
    refine set_update_tups ((Walks.tuple h3 _ t apart its).toS) st.heap.objs.size
      away ks cnt few vals st.heap hk (gone _ (Nat.le_refl _)) (fun b hb => gone b (by
        rw [List.mem_singleton.mp hb, Heap.size_push]
        exact Nat.le_succ _)) un (its.size - 0) 0 _ (by omega) (Nat.zero_le _)
      ⟨⟨_, Heap.get?_push_size _ rfl, rfl, rfl⟩, (show Heap.IsTuple (Heap.push _ _) t its from ⟨_, Heap.get?_push_of_some _ hot', rfl, n, rfl⟩)⟩ (fun b o e => Heap.get?_push_of_some _ (Heap.get?_push_of_some _ e)) ?start ?fin
    case start => exact ⟨[], #[], 0, _, setTR_fresh (Heap.get?_push_of_some _ stands), Got.zero ks⟩
    case fin =>
      intro sF L es ep tb mv R g kp
      obtain ⟨hF, gF, dF, tF, oF⟩ := sF
      obtain rfl : gF = st.gens := mv.gens
      obtain rfl : dF = st.drawn := mv.drawn
      obtain rfl : oF = st.os := mv.os
      rw [cnt] at g
      show wpAny _ _ _ _ _ _
      refine wpAny_pure ?_
      show wpAny _ _ (ret Value.none) _ _ _
      exact wpAny_pure ⟨rfl, hF, tF, L, es, ep, tb, rfl, R, g, kp⟩
  · rcases r2 with e | fl
    · exact hr2
    rcases fl with _ | _ | _ | u
    · exact hr2.elim
    · exact hr2.elim
    · exact hr2.elim
    obtain ⟨rfl, h', tk, L, es, ep, tb, rfl, R, g, kp⟩ := hr2
    repeat (any_goals (first | assumption | wp_step))
    exact q _ _ _ _ _ _ R g kp
end
end L2
set_option maxHeartbeats 8000000
namespace L2
open PySem PySem.Spec PyProof.Rows
theorem firstMet_ded (ns : List Int) : firstMet (fun i => ns.getD i 0) ns.length = Cr.dedI [] ns := by
  have key : ∀ (l acc : List Int), l.foldl step_dedup acc = Cr.dedI acc l := by
    intro l
    induction l with
    | nil => intro acc; rfl
    | cons x l ih =>
      intro acc
      show l.foldl step_dedup (step_dedup acc x) = Cr.dedI (if acc.any (· == x) then acc else acc ++ [x]) l
      rw [ih]; rfl
  unfold firstMet
  rw [key]
  congr 1
  apply List.ext_getElem
  · simp
  · intro i h1 h2
    simp only [List.getElem_map, List.getElem_range]
    rw [List.getD_eq_getElem?_getD, List.getElem?_eq_getElem h2]; rfl
section
variable {P : Program} {w : World} {A : Around} {E : Value → Shared → Prop} {st : Shared}
/-- set(t), t a tuple of ints -/
theorem cr_set_tupI {t : Addr} {its : Array Value} {ns : List Int} {Q : Value → Shared → Prop} (hh : A.handled = none) (ht : st.heap.IsTuple t its) (hi : IntsAre its.toList ns) (hb : its.size + 1 < scanBound)
    (q : ∀ (h' : Heap) (tk : Nat), h'.SetOf (intKind P w) st.heap.objs.size (fun k' => (firstMet (fun i => ns.getD i 0) its.size).any (· == k')) (firstMet (fun i => ns.getD i 0) its.size).length →
      (∀ b o, b < st.heap.objs.size → st.heap.get? b = some o → h'.get? b = some o) → Q (.ref st.heap.objs.size) { st with heap := h', toks := tk }) :
    wpAny (model P w) A (call (.type "set") [.ref t]) Q E st := by
  obtain ⟨c, tl, mro⟩ := F.called_set.mro
  have made := F.called_set.made
  have sub1 := F.called_set.sub
  refine wpAny_call (codeAny_of_tree ?_)
  show wpAny _ _ (callAny (.type "set") _) _ _ _
  refine wpAny_pure ⟨Code.quiet_builtin _ (by decide +kernel), codeAny_builtin F.entry_type_call ?_⟩
  rw [Around.under_plain (weight_type_call_type "set" [.ref t] []) rfl]
  have n1 := F.called_set.notType
  have n2 := F.called_set.canCreate
  have n3 := F.typeCall_set_1 (.ref t)
  repeat (any_goals (first | assumption | wp_step))
  refine codeAny_mono (code_set_led1 (.ref t) (E := E) (Q₁ := fun ob s1 => ob = .ref st.heap.objs.size ∧ s1 = { st with heap := st.heap.push { cls := .type "set", dict := none, data := .set #[] 0 (.fresh 0 0 (!w.params.followText "set-order")) } }) ⟨rfl, rfl⟩) fun r s1 hr => ?_
  rcases r with e | fl
  · exact hr
  rcases fl with _ | _ | _ | ob
  · exact hr.elim
  · exact hr.elim
  · exact hr.elim
  obtain ⟨rfl, rfl⟩ := hr
  have stands : (st.heap.push { cls := .type "set", dict := none, data := .set #[] 0 (.fresh 0 0 (!w.params.followText "set-order")) }).get? st.heap.objs.size = some { cls := .type "set", dict := none, data := .set #[] 0 (.fresh 0 0 (!w.params.followText "set-order")) } := Heap.get?_push_size _ rfl
  have isSet : Shared.TypeIs { st with heap := st.heap.push { cls := .type "set", dict := none, data := .set #[] 0 (.fresh 0 0 (!w.params.followText "set-order")) } } (.ref st.heap.objs.size) "set" := ⟨_, stands, rfl⟩
  have li := F.called_set.init.lookup
  have bi := F.called_set.init.bind (.ref st.heap.objs.size)
  repeat (any_goals (first | assumption | wp_step))
  refine codeAny_mono (codeAny_call_builtin (R := wants (fun r s2 => r = .none ∧ ∃ h' tk, s2 = { st with heap := h', toks := tk } ∧
      h'.SetOf (intKind P w) st.heap.objs.size (fun k' => (firstMet (fun i => ns.getD i 0) its.size).any (· == k')) (firstMet (fun i => ns.getD i 0) its.size).length ∧
      (∀ b o, b < st.heap.objs.size → st.heap.get? b = some o → h'.get? b = some o)) E) F.called_set.init.plain F.entry_set_init (check_set_init_1 isSet ?_)) fun r2 s2 hr2 => ?_
  · obtain ⟨ot, hot, hcl, n, hd⟩ := ht
    obtain ⟨ocls, odict, odata, oslots⟩ := ot
    simp only at hcl hd
    subst hcl; subst hd
    have hot' : (st.heap.push { cls := .type "set", dict := none, data := .set #[] 0 (.fresh 0 0 (!w.params.followText "set-order")) }).get? t = some { cls := .type "tuple", dict := odict, data := .seq its n, slots := oslots } := Heap.get?_push_of_some _ hot
    have s1 := F.sub_tuple_set
    have s2 := F.sub_tuple_frozenset
    have s3 : (Value.type "tuple" == Value.type "dict") = false := by decide
    have isT : (st.heap.push { cls := .type "set", dict := none, data := .set #[] 0 (.fresh 0 0 (!w.params.followText "set-order")) }).IsTuple t its := ⟨_, hot', rfl, n, rfl⟩
    unfold Builtin.«set.__init__» noKeywords Builtin.Frozenset.updateFrom
    generalize hPI : pyIter = PI
    wp_walk
    subst hPI
    refine wpAny_pyIter_tuple isT ?_
    refine wpAny_bind (wpAny_runValue ?_)
    have lt : t < st.heap.objs.size := Heap.lt_size hot
    have h3 : A.in1.in1.in1.handled = none := by simp [hh]
    have apart : t ≠ (st.heap.push { cls := .type "set", dict := none, data := .set #[] 0 (.fresh 0 0 (!w.params.followText "set-order")) }).objs.size := by
      rw [Heap.size_push]
      exact Nat.ne_of_lt (Nat.lt_succ_of_lt lt)
    have away : st.heap.objs.size ∉ [(st.heap.push { cls := .type "set", dict := none, data := .set #[] 0 (.fresh 0 0 (!w.params.followText "set-order")) }).objs.size, t] := by
      rw [Heap.size_push]
      simp only [List.mem_cons, List.mem_singleton, List.not_mem_nil, or_false, not_or]
      exact ⟨Nat.ne_of_lt (Nat.lt_succ_self _), Nat.ne_of_gt lt⟩
    have vals : ∀ (i : Nat) (v : Value), its[i]? = some v → ∃ tk, v = .int ((fun i => ns.getD i 0) i) tk := fun i v hv =>
      IntsAre.int_at hi i v (by rw [Array.getElem?_toList]; exact hv)
    refine codeAny_set_update_loopS ((Walks.tuple h3 _ t apart its).toS) st.heap.objs.size
      away (fun i => ns.getD i 0) vals hb (its.size - 0) 0 _ (by omega) (Nat.zero_le _)
      ⟨⟨_, Heap.get?_push_size _ rfl, rfl, rfl⟩, (show Heap.IsTuple (Heap.push _ _) t its from ⟨_, Heap.get?_push_of_some _ hot', rfl, n, rfl⟩)⟩ ?start ?fin
    case start =>
      exact SetOf_congr ((setObjOf_fresh (knd := intKind P w) (!w.params.followText "set-order")).setOf (Heap.get?_push_of_some _ stands) (by unfold scanBound; omega)) (fun _ => rfl) rfl
    case fin =>
      intro sF mv R
      obtain ⟨hF, gF, dF, tF, oF⟩ := sF
      obtain rfl : gF = st.gens := mv.gens
      obtain rfl : dF = st.drawn := mv.drawn
      obtain rfl : oF = st.os := mv.os
      show wpAny _ _ _ _ _ _
      refine wpAny_pure ?_
      show wpAny _ _ (ret Value.none) _ _ _
      refine wpAny_pure ⟨rfl, hF, tF, rfl, R, fun b o lb e => ?_⟩
      have b1 : b ≠ st.heap.objs.size := Nat.ne_of_lt lb
      have b2 : b ≠ (st.heap.push { cls := .type "set", dict := none, data := .set #[] 0 (.fresh 0 0 (!w.params.followText "set-order")) }).objs.size := by
        rw [Heap.size_push]; exact Nat.ne_of_lt (Nat.lt_succ_of_lt lb)
      exact mv.heap b o (by simp only [List.mem_cons, List.mem_singleton, List.not_mem_nil, or_false, not_or]; exact ⟨b1, b2⟩) (Heap.get?_push_of_some _ (Heap.get?_push_of_some _ e))
  · rcases r2 with e | fl
    · exact hr2
    rcases fl with _ | _ | _ | u
    · exact hr2.elim
    · exact hr2.elim
    · exact hr2.elim
    obtain ⟨rfl, h', tk, rfl, R, kp⟩ := hr2
    repeat (any_goals (first | assumption | wp_step))
    exact q _ _ R kp
end
/-- len(set(xs)), ints of a list, a tuple -/
def tLenSetA (K : PySem.W.Frag) (ta : TE) : TE := fun σ H Q => ta σ H fun x H1 => ∃ (l : Addr) (ns : List Int), x = V.ref l ∧ (SqL K H1 l (ns.map V.int) ∨ SqT K H1 l (ns.map V.int)) ∧ ns.length < 1000 ∧ Q (.int ((Cr.dedI [] ns).length : Nat)) H1
theorem pe_lenSetA {X : Cx} {a : Expr} {ta : TE} {p p2 q pos : Pos} (hc : X.calm = true) (hg : Gl X "len") (hm : X.mg "len" = none) (hg2 : Gl X "set") (hm2 : X.mg "set" = none) (ha : PE X a ta)
    (na : starEach [a] X.env = (false, eval a X.env) :: starEach [] X.env := by rfl) : PE X (.Call (.Name "len" p) [.Call (.Name "set" p2) [a] [] q] [] pos) (tLenSetA X.K ta) := by
  refine ⟨fun pins st σ H Q I h => Call_ (ld_blt I hg hm PySem.boot_len (PyProof.Rows.callWith_builtin1 (PyProof.Rows.args_cons ?_ rfl) rfl rfl))⟩
  refine Call_ (ld_blt I hg2 hm2 PyProof.Rows.boot_set (PyProof.Rows.callWith_type1 (PyProof.Rows.args_cons (thn (ha.run pins st σ H _ I h) fun v s1 hh => PyProof.Rows.args_nil ?_) na) na rfl))
  obtain ⟨x, H1, I1, r1, l, ns, ex, hq, few, q1⟩ := hh
  subst ex
  cases r1
  have fin : ∀ (its : List Value), Vals (ns.map V.int) its → ∀ (h' : Heap) (tk : Nat), h'.SetOf (intKind X.prog X.w) s1.heap.objs.size (fun k' => (firstMet (fun i => ns.getD i 0) its.toArray.size).any (· == k')) (firstMet (fun i => ns.getD i 0) its.toArray.size).length →
      (∀ b o, b < s1.heap.objs.size → s1.heap.get? b = some o → h'.get? b = some o) → wpAny (model X.prog X.w) X.A (call (.builtin "len") [.ref s1.heap.objs.size]) (EP X pins σ Q) X.xe { s1 with heap := h', toks := tk } := fun its rv h' tk hS hk => by
    have sz : its.toArray.size = ns.length := by have := rv.length; rw [List.length_map] at this; rw [List.size_toArray]; omega
    rw [sz, firstMet_ded] at hS
    have le := firstMet_length_le (fun i => ns.getD i 0) ns.length
    rw [firstMet_ded] at le
    obtain ⟨o, es, ep, t, ho, hex, hd, _, _, _, hf, hn⟩ := hS
    have I2 : Inv X pins σ H1 { s1 with heap := h', toks := tk } := I1.kept fun b o e => hk b o (Heap.lt_size e) e
    exact call_len_set ho hex hd hf (by rw [hn] <;> omega) ⟨.int _, H1, I2.tok _, ⟨_, by rw [hn]⟩, q1⟩
  rcases hq with hq | hq
  · obtain ⟨its, rv, pl, _⟩ := I1.list hq
    have sz : its.toArray.size = ns.length := by have := rv.length; rw [List.length_map] at this; rw [List.size_toArray]; omega
    exact call_set_list (I1.ok.hd hc) pl.isList (ns := ns) (by simpa using rv.ints) (by rw [sz]; unfold scanBound; omega) fun h' tk hS hk => PyProof.Rows.args_nil (fin its rv h' tk hS hk)
  · obtain ⟨its, rv, pl, _⟩ := I1.tuple hq
    have sz : its.toArray.size = ns.length := by have := rv.length; rw [List.length_map] at this; rw [List.size_toArray]; omega
    exact cr_set_tupI (I1.ok.hd hc) (show s1.heap.IsTuple l its.toArray from pl) (ns := ns) (by simpa using rv.ints) (by rw [sz]; unfold scanBound; omega) fun h' tk hS hk => PyProof.Rows.args_nil (fin its rv h' tk hS hk)
end L2
namespace Cr
open PySem PySem.Spec PyProof.Rows L2
theorem insP_perm (x : List Int) : ∀ l : List (List Int), (insP x l).Perm (x :: l)
  | [] => .refl _
  | y :: r => by
    unfold insP
    split
    · exact ((insP_perm x r).cons y).trans (.swap x y r)
    · exact .refl _
theorem sortP_perm : ∀ l : List (List Int), (sortP l).Perm l
  | [] => .refl _
  | x :: r => (insP_perm x (sortP r)).trans ((sortP_perm r).cons x)
abbrev LexN (a b : List Int) : Prop := HT.lexLt b a = false
theorem lexN_trans {a b c : List Int} (h1 : LexN a b) (h2 : LexN b c) : LexN a c := by
  unfold LexN at *
  cases h : HT.lexLt c a with
  | false => rfl
  | true =>
    by_cases e : a = b
    · subst e; rw [h] at h2; cases h2
    · have := lex_total (fun z => e z.symm) h1
      rw [lex_trans h this] at h2
      cases h2
theorem insP_sorted (x : List Int) : ∀ l : List (List Int), l.Pairwise LexN → (insP x l).Pairwise LexN
  | [], _ => by simp [insP]
  | y :: r, h => by
    unfold insP
    rw [List.pairwise_cons] at h
    split
    · rename_i hx
      refine List.pairwise_cons.mpr ⟨fun z hz => ?_, insP_sorted x r h.2⟩
      rcases List.mem_cons.mp ((insP_perm x r).mem_iff.mp hz) with rfl | hz
      · show HT.lexLt z y = false
        cases q : HT.lexLt z y with
        | false => rfl
        | true =>
          have := lex_trans hx q
          rw [lex_irr] at this; cases this
      · exact h.1 z hz
    · rename_i hx
      refine List.pairwise_cons.mpr ⟨fun z hz => ?_, List.pairwise_cons.mpr h⟩
      have hxy : LexN x y := by simpa using hx
      rcases List.mem_cons.mp hz with rfl | hz
      · exact hxy
      · exact lexN_trans hxy (h.1 z hz)
theorem sortP_sorted : ∀ l : List (List Int), (sortP l).Pairwise LexN
  | [] => .nil
  | x :: r => insP_sorted x _ (sortP_sorted r)
theorem sortP_eq {l m : List (List Int)} (hp : m.Perm l) (hs : m.Pairwise LexN) : m = sortP l := by
  refine List.Perm.eq_of_pairwise (le := LexN) (fun a b _ _ h1 h2 => ?_) hs (sortP_sorted l) (hp.trans (sortP_perm l).symm)
  by_cases e : a = b
  · exact e
  · have z : HT.lexLt a b = true := lex_total (fun z => e z.symm) h1
    have h2 : HT.lexLt a b = false := h2
    rw [z] at h2; cases h2
theorem pair_of {k : List Int} (h : k.length = 2) : ∃ x y, k = [x, y] := by
  match k, h with
  | [x, y], _ => exact ⟨x, y, rfl⟩
theorem lexLt2 {x y x' y' : Int} : HT.lexLt [x, y] [x', y'] = true ↔ x < x' ∨ (x = x' ∧ y < y') := by
  rw [HT.lexLt_cons]
  by_cases h : x = x'
  · rw [if_pos h, HT.lexLt_cons]
    by_cases h2 : y = y'
    · rw [if_pos h2]
      have : HT.lexLt [] [] = false := rfl
      rw [this]
      constructor
      · intro z; cases z
      · intro z; omega
    · rw [if_neg h2, decide_eq_true_eq]; omega
  · rw [if_neg h, decide_eq_true_eq]; omega
theorem pairs_all {ks : List (List Int)} (h : pairsOk ks = true) : ks.length < 64 ∧ ∀ k ∈ ks, k.length = 2 ∧ TS.Bd 64 k := by
  unfold pairsOk at h
  simp only [Bool.and_eq_true, decide_eq_true_eq, List.all_eq_true] at h
  exact ⟨h.1, fun k hk => ⟨(h.2 k hk).1, fun i hi => (h.2 k hk).2 i hi⟩⟩
section
variable {G : Glo} {C : CallF} {W : WX} {X : Cx} {e a b c : Expr} {A B Cc : E} {pos p q pos2 : Pos} {σ : L2.St} {ρ : Env} {F H : Hp} {Q : VK} {es : List Expr} {Es' : Es} {v : V} {d : D}
theorem tupI_rep {d : D} {v : V} {k : List Int} (h : Rep G F v d) (e : d.tupI = some k) : ∃ a, v = .ref a ∧ SqN G.K F a (k.map V.int) ∧ d = .tup (k.map .int) := by
  cases d <;> simp only [D.tupI] at e <;> try cases e
  rename_i xs
  cases h with
  | tup h1 h2 =>
    have e2 := Reps.ints e h2
    subst e2
    refine ⟨_, rfl, h1, ?_⟩
    congr 1
    clear h1 h2
    induction xs generalizing k with
    | nil => cases e; rfl
    | cons x xs ih =>
      cases x <;> simp only [D.ints] at e <;> try cases e
      obtain ⟨m, e1, rfl⟩ := Option.map_eq_some_iff.mp e
      rw [List.map_cons, ← ih e1]
/-- tuples of ints with their places -/
theorem tupsI_rep : ∀ {xs : List D} {vs : List V} {ks : List (List Int)}, D.tupsI xs = some ks → Reps G F vs xs → ∃ L : List (Addr × List Int), vs = L.map (fun p => V.ref p.1) ∧ ks = L.map (·.2) ∧ ∀ p ∈ L, SqN G.K F p.1 (p.2.map V.int)
  | [], vs, ks, e, h => by
    cases e; cases h
    exact ⟨[], rfl, rfl, fun p hp => by cases hp⟩
  | x :: xs, vs, ks, e, h => by
    unfold D.tupsI at e
    split at e
    · rename_i k ms e1 e2
      cases e
      cases h with
      | cons h1 h2 =>
        obtain ⟨a, rfl, s, _⟩ := tupI_rep h1 e1
        obtain ⟨L, rfl, rfl, hL⟩ := tupsI_rep e2 h2
        exact ⟨(a, k) :: L, rfl, rfl, fun p hp => by
          rcases List.mem_cons.mp hp with rfl | hp
          · exact s
          · exact hL p hp⟩
    · cases e
theorem reps_tups {L : List (Addr × List Int)} (h : ∀ p ∈ L, SqN G.K F p.1 (p.2.map V.int)) : Reps G F (L.map fun p => V.ref p.1) ((L.map (·.2)).map fun k => D.tup (k.map .int)) := by
  induction L with
  | nil => exact .nil
  | cons p L ih =>
    exact .cons (.tup (h p List.mem_cons_self) (Reps.of_ints p.2)) (ih fun q hq => h q (List.mem_cons_of_mem _ hq))
theorem seq_rep (hr : Rel G F H σ ρ) {d : D} {xs : List D} (h : RepT G F H v d) (e : d.seq? = some xs) : ∃ a vs, v = .ref a ∧ (SqL G.K H a vs ∨ SqT G.K H a vs) ∧ Reps G F vs xs := by
  cases d <;> simp only [D.seq?] at e <;> cases e
  · obtain ⟨a, vs, rfl, h1, h2⟩ := tup_of h
    exact ⟨a, vs, rfl, .inr (Same.sqt hr.sub h1), h2⟩
  · obtain ⟨a, vs, rfl, h1, h2⟩ := h.lst hr.sub
    exact ⟨a, vs, rfl, .inl (.inl (.inl h1)), h2⟩
  · obtain ⟨a, vs, rfl, h1, h2⟩ := rol_of h
    exact ⟨a, vs, rfl, .inl (hr.sub.seq h1), h2⟩
abbrev sortR (K : PySem.W.Frag) : List V → Hp → VK → Prop := fun vs H Q => (rSortedI K vs H Q ∨ rTI K vs H Q) ∨ (rSortU K 2 64 vs H Q ∨ rTU K 2 64 vs H Q)
theorem cr_sortA : CallR X (.builtin "sorted") (sortR X.K) := CallR.or (CallR.or cr_sortedI cr_TI) (CallR.or (cr_sortT (by decide)) (cr_TU (by decide)))
theorem perm_lift {α β : Type} {f : α → β} {ys zs : List β} (h : ys.Perm zs) : ∀ L : List α, zs = L.map f → ∃ L' : List α, L'.Perm L ∧ ys = L'.map f := by
  induction h with
  | nil =>
    intro L e
    cases L with
    | nil => exact ⟨[], .refl _, rfl⟩
    | cons p L => cases e
  | cons x h ih =>
    intro L e
    cases L with
    | nil => cases e
    | cons p L =>
      rw [List.map_cons] at e
      obtain ⟨e1, e2⟩ := List.cons.inj e
      obtain ⟨L', h1, h2⟩ := ih L e2
      exact ⟨p :: L', h1.cons p, by rw [List.map_cons, e1, h2]⟩
  | swap x y l =>
    intro L e
    match L, e with
    | p :: q :: L, e =>
      rw [List.map_cons, List.map_cons] at e
      obtain ⟨e1, e2⟩ := List.cons.inj e
      obtain ⟨e3, e4⟩ := List.cons.inj e2
      exact ⟨q :: p :: L, .swap p q L, by rw [List.map_cons, List.map_cons, e1, e3, e4]⟩
  | trans h1 h2 ih1 ih2 =>
    intro L e
    obtain ⟨L1, p1, e1⟩ := ih2 L e
    obtain ⟨L2, p2, e2⟩ := ih1 L1 e1
    exact ⟨L2, p2.trans p1, e2⟩
theorem code_lex {k m : List Int} (h1 : k.length = 2) (h2 : TS.Bd 64 k) (h3 : m.length = 2) (h4 : TS.Bd 64 m) (h : TS.code 64 k ≤ TS.code 64 m) : LexN k m := by
  obtain ⟨x, y, rfl⟩ := pair_of h1
  obtain ⟨x', y', rfl⟩ := pair_of h3
  rw [code_pair, code_pair] at h
  have bx := h2 x (by simp)
  have b1 := h2 y (by simp)
  have b2 := h4 x' (by simp)
  have b3 := h4 y' (by simp)
  unfold LexN
  cases q : HT.lexLt [x', y'] [x, y] with
  | false => rfl
  | true =>
    rcases lexLt2.mp q with z | z <;> omega
theorem lexN_lt {a b : List Int} (h : LexN a b) (n : a ≠ b) : LexL a b := lex_total (fun z => n z.symm) h
theorem bi_sortA (hK : X.K = G.K) : BiS G (sortR X.K) .sorted := by
  intro σ ρ F H vs ds z Q hr hd e q
  rw [hK]
  replace e : sortedD ds = some z := e
  unfold sortedD at e
  split at e <;> try (cases e; done)
  obtain ⟨v, rfl, h⟩ := hd.one
  split at e <;> try (cases e; done)
  rename_i xs exs
  obtain ⟨a, ws, rfl, k1, k2⟩ := seq_rep hr h exs
  split at e
  · rename_i ns e1
    cases e
    have e2 := Reps.ints e1 k2
    subst e2
    rcases k1 with k1 | k1
    · refine .inl (.inl ⟨_, ns, rfl, k1, fun ms p hp hs hn => ?_⟩)
      rw [sortI_eq hp hs]
      exact fin_lst hr q (Reps.of_ints _) hn
    · refine .inl (.inr ⟨_, ns, rfl, k1, fun ms p hp hs hn => ?_⟩)
      rw [sortI_eq hp hs]
      exact fin_lst hr q (Reps.of_ints _) hn
  · split at e <;> try (cases e; done)
    rename_i ks e1
    split at e <;> try (cases e; done)
    rename_i hok
    cases e
    obtain ⟨few, all⟩ := pairs_all hok
    obtain ⟨L, rfl, rfl, hL⟩ := tupsI_rep e1 k2
    have hLH : ∀ p ∈ L, SqT G.K H p.1 (p.2.map V.int) := fun p hp => Same.sqt hr.sub (hL p hp).t
    have hall : ∀ p ∈ L, p.2.length = 2 ∧ TS.Bd 64 p.2 := fun p hp => all p.2 (List.mem_map_of_mem hp)
    have hx : ∀ x ∈ L.map (fun p => V.ref p.1), ∃ ns, TupI G.K H x ns ∧ ns.length = 2 ∧ TS.Bd 64 ns := fun x hx => by
      obtain ⟨p, hp, rfl⟩ := List.mem_map.mp hx
      exact ⟨p.2, ⟨p.1, rfl, hLH p hp⟩, hall p hp⟩
    have fin : ∀ (ys : List V) (p : Addr), ys.Perm (L.map fun p => V.ref p.1) → ys.Pairwise (fun x y => ∀ n m, TupI G.K H x n → TupI G.K H y m → TS.code 64 n ≤ TS.code 64 m) → H p = none → Q (.ref p) (upd H p (.lst ys)) := fun ys p hp hs hn => by
      obtain ⟨L', p1, rfl⟩ := perm_lift hp L rfl
      have e2 : L'.map (·.2) = sortP (L.map (·.2)) := by
        refine sortP_eq (p1.map _) ?_
        rw [List.pairwise_map] at hs ⊢
        refine List.Pairwise.imp_of_mem (fun {u w} hu hw hc => ?_) hs
        have iu := p1.mem_iff.mp hu
        have iw := p1.mem_iff.mp hw
        exact code_lex (hall u iu).1 (hall u iu).2 (hall w iw).1 (hall w iw).2 (hc u.2 w.2 ⟨u.1, rfl, hLH u iu⟩ ⟨w.1, rfl, hLH w iw⟩)
      rw [← e2] at q
      exact fin_lst hr q (reps_tups fun p hp => hL p (p1.mem_iff.mp hp)) hn
    have few2 : (L.map fun p => V.ref p.1).length < 64 := by rw [List.length_map] at few ⊢; exact few
    rcases k1 with k1 | k1
    · exact .inr (.inl ⟨_, _, rfl, k1, few2, hx, fin⟩)
    · exact .inr (.inr ⟨_, _, rfl, k1, few2, hx, fin⟩)
def rSetTt (K : PySem.W.Frag) (P : Program) (w : World) : List V → Hp → VK → Prop := fun xs H Q => ∃ (l : Addr) (ks : List (Addr × List Int)), xs = [V.ref l] ∧ SqT K H l (ks.map fun p => V.ref p.1) ∧ (∀ p ∈ ks, SqT K H p.1 (p.2.map V.int)) ∧ ks.length < 64 ∧
  ∀ a L, H a = none → (∀ p ∈ L, p ∈ ks) → (∀ p ∈ ks, p.2 ∈ L.map (·.2)) → Q (.ref a) (upd H a (SetTO P w a L))
theorem cr_setTt (hc : X.calm = true) (hu : X.A.units + 64 < cLine) : CallR X (.type "set") (rSetTt X.K X.prog X.w) := by
  intro pins st σ H xs us Q I r hh
  obtain ⟨l, ks, rfl, hl, hk, hf, q⟩ := hh
  rw [Vals.ref1 r]
  obtain ⟨its, rv, pl, _⟩ := I.tuple hl
  refine cr_set_tup (P := X.prog) (w := X.w) ks (I.ok.hd hc) (show st.heap.IsTuple l its.toArray from pl) (by simpa using refs_of_vals rv) (fun p hp => I.isT (hk p hp)) hf (by omega) fun h' tk L es ep t R g k => ?_
  have hn : H st.heap.objs.size = none := I.hok.fresh (Nat.le_refl _)
  exact ⟨.ref st.heap.objs.size, upd H st.heap.objs.size (SetTO X.prog X.w st.heap.objs.size L), I.laid (t' := tk) k (Nat.le_refl _) (setTO_new R.t0), rfl, q _ L hn (fun p hp => List.mem_of_mem_take (g.sub p hp)) fun p hp => g.all p (by rw [List.take_length]; exact hp)⟩
theorem snd_sortedSet (ha : Snd G C W X a A) (hs : NoStar a = true) (hg : Gl X "set") (hm : X.mg "set" = none) (hg2 : Gl X "sorted") (hm2 : X.mg "sorted" = none) (hc : X.calm = true) (hu : X.A.units + 64 < cLine) (hK : X.K = G.K) :
    Snd G C W X (.Call (.Name "sorted" p) [.Call (.Name "set" q) [a] [] pos2] [] pos) (.bi .sortedSet (.cons A .nil)) := by
  have inner := pe_callTy (pos := pos2) (p := q) (CallR.or (cr_setOfT hc hu) (cr_setTt hc hu)) hg hm rfl (pa_cons ha.o pa_nil (star_cons hs)) (by decide) (by decide) (star_cons hs) rfl
  refine Snd.mk1 (pewk (pe_callB (cr_sortedT hc) hg2 hm2 rfl (pa_cons inner pa_nil rfl) (by decide) (by decide) rfl rfl) fun σ H Q h => ?_) rfl hK fun _ => rfl
  obtain ⟨F, ρ, hr, h⟩ := os_one (f := sortedSetD) h rfl
  refine ⟨F, ρ, hr, Ask.imp h fun o ρ1 F1 H1 s1 h1 v qv => ?_⟩
  obtain ⟨F2, ρ2, d, z, hr2, r1, e, k⟩ := h1 v qv
  simp only [sortedSetD] at e
  split at e <;> try (cases e; done)
  rename_i xs exs
  split at e <;> try (cases e; done)
  rename_i ks e1
  split at e <;> try (cases e; done)
  rename_i hok
  cases e
  obtain ⟨few, all⟩ := pairs_all hok
  obtain ⟨a1, ws, rfl, k1, k2⟩ := seq_rep hr2 r1 exs
  obtain ⟨L, rfl, rfl, hL⟩ := tupsI_rep e1 k2
  rw [hK]
  have hLH : ∀ p ∈ L, SqT G.K H1 p.1 (p.2.map V.int) := fun p hp => Same.sqt hr2.sub (hL p hp).t
  have few2 : L.length < 64 := by rw [List.length_map] at few; exact few
  have fin : ∀ (s : Addr) (M : List (Addr × List Int)), H1 s = none → (∀ p ∈ M, p ∈ L) → (∀ p ∈ L, p.2 ∈ M.map (·.2)) → rSortedT G.K X.prog X.w [V.ref s] (upd H1 s (SetTO X.prog X.w s M)) Q := fun s M hs0 m1 m2 => by
    have st := Stp.lay (o := SetTO X.prog X.w s M) hr2 hs0
    refine ⟨s, M, 2, 64, rfl, upd_same, fun p hp => Same.sqt (same_upd hs0) (hLH p (m1 p hp)), by decide, fun p hp => all p.2 (List.mem_map_of_mem (m1 p hp)), fun L' t pm nd _ pw ht => ?_⟩
    have e2 : L'.map (·.2) = sortT (L.map (·.2)) := by
      refine sortT_eq (fun z => ⟨fun hz => ?_, fun hz => ?_⟩) ?_
      · obtain ⟨p, hp, rfl⟩ := List.mem_map.mp hz
        exact List.mem_map_of_mem (m1 p (pm.mem_iff.mp hp))
      · obtain ⟨p, hp, rfl⟩ := List.mem_map.mp hz
        obtain ⟨p', hp', e'⟩ := List.mem_map.mp (m2 p hp)
        exact List.mem_map.mpr ⟨p', pm.mem_iff.mpr hp', e'⟩
      · have nd' : L'.Pairwise fun u w => u.2 ≠ w.2 := List.pairwise_map.mp nd
        rw [List.pairwise_map]
        refine List.Pairwise.imp_of_mem (fun {u w} hu hw hc => ?_) (List.pairwise_and_iff.mpr ⟨pw, nd'⟩)
        have iu := m1 u (pm.mem_iff.mp hu)
        have iw := m1 w (pm.mem_iff.mp hw)
        have au := all u.2 (List.mem_map_of_mem iu)
        have aw := all w.2 (List.mem_map_of_mem iw)
        exact lexN_lt (code_lex au.1 au.2 aw.1 aw.2 hc.1) hc.2
    refine fin_lst st.rel (fun w F' H' s' rr => k w F' H' (st.trans s') (RR.back st rr)) (ds := (sortT (L.map (·.2))).map fun k => D.tup (k.map .int)) ?_ ht
    rw [← e2]
    exact reps_tups fun p hp => hL p (m1 p (pm.mem_iff.mp hp))
  rcases k1 with k1 | k1
  · exact .inl ⟨a1, L, rfl, k1, hLH, few2, fun s M h0 m1 m2 => fin s M h0 m1 m2⟩
  · exact .inr ⟨a1, L, rfl, k1, hLH, few2, fun s M h0 m1 m2 => fin s M h0 m1 m2⟩
end
end Cr
namespace Cr
open PySem PySem.Spec PyProof.Rows L2
section
variable {G : Glo} {C : CallF} {W : WX} {X : Cx} {e a b c : Expr} {A B Cc : E} {pos p : Pos} {σ σ' : L2.St} {ρ ρ' : Env} {F F' H H' : Hp} {Q : VK} {es : List Expr} {Es' : Es} {v : V} {d : D}
/-- a value; or (w) a tuple that is taken apart at once -/
def RepW (G : Glo) (w : Bool) (F : Hp) (v : V) (d : D) : Prop := Rep G F v d ∨ (w = true ∧ ∃ (ds : List D) (a : Addr) (vs : List V), d = .tup ds ∧ v = .ref a ∧ SqT G.K F a vs ∧ Reps G F vs ds)
def Sr.weak : Sr → Bool
  | .enum _ | .zip _ _ => true
  | _ => false
def T.isT : T → Bool
  | .tup _ => true
  | _ => false
theorem RepW.to {w w' : Bool} (h : RepW G w F v d) (e : w = true → w' = true) : RepW G w' F v d := by
  rcases h with h | ⟨q, h⟩
  · exact .inl h
  · exact .inr ⟨e q, h⟩
def WalkJ (G : Glo) (w : Bool) (J : It) (F : Hp) (items : List D) : Prop := ∀ F1 H1, Same F F1 → Same F1 H1 → ∀ i,
  (∀ d, items[i]? = some d → J.go i H1 ∧ ∀ x H', J.yld i H1 x H' → ∀ σ ρ, Rel G F1 H1 σ ρ → ∃ F2, Stp G σ ρ F1 H1 σ ρ F2 H' ∧ RepW G w F2 x d) ∧ (items.length ≤ i → J.stop i H1)
theorem walk_seq {w : Bool} {J : It} {vs : List V} {ds : List D} {P : Hp → List V → Prop} (hr : Reps G F vs ds) (hp : ∀ H, Same F H → P H vs)
    (hgo : ∀ i H x, P H vs → vs[i]? = some x → J.go i H) (hy : ∀ i H x H', P H vs → J.yld i H x H' → H' = H ∧ vs[i]? = some x) (hst : ∀ i H, P H vs → vs.length ≤ i → J.stop i H) : WalkJ G w J F ds := by
  intro F1 H1 s1 s2 i
  have q := hp H1 (s1.trans s2)
  refine ⟨fun d e => ?_, fun hl => hst i H1 q (by rw [hr.length]; exact hl)⟩
  obtain ⟨x, e1, r1⟩ := hr.get e
  refine ⟨hgo i H1 x q e1, fun y H' hyl σ ρ hrel => ?_⟩
  obtain ⟨rfl, e2⟩ := hy i H1 y H' q hyl
  rw [e1] at e2; cases e2
  exact ⟨F1, Stp.refl hrel, .inl (Rep.mono s1 d x r1)⟩
theorem walk_sql {a : Addr} {vs : List V} {ds : List D} (h : SqL G.K F a vs) (hr : Reps G F vs ds) : WalkJ G false (Itl G.K a) F ds :=
  walk_seq (P := fun H vs => SqL G.K H a vs) hr (fun H s => s.seq h) (fun i H x q e => ⟨vs, x, q, e⟩) (fun i H x H' q y => ⟨y.1, y.2 vs q⟩) fun i H q l => ⟨vs, q, l⟩
theorem walk_sqt {a : Addr} {vs : List V} {ds : List D} (h : SqT G.K F a vs) (hr : Reps G F vs ds) : WalkJ G false (Itt G.K a) F ds :=
  walk_seq (P := fun H vs => SqT G.K H a vs) hr (fun H s => Same.sqt s h) (fun i H x q e => ⟨vs, x, q, e⟩) (fun i H x H' q y => ⟨y.1, y.2 vs q⟩) fun i H q l => ⟨vs, q, l⟩
theorem rngD_length (m n : Int) : (rngD m n).length = (n - m).toNat := by simp [rngD]
theorem rngD_get {m n : Int} {i : Nat} {d : D} (h : (rngD m n)[i]? = some d) : i < (n - m).toNat ∧ d = .int (m + i) := by
  unfold rngD at h
  rw [List.getElem?_map] at h
  cases q : (List.range (n - m).toNat)[i]? with
  | none => rw [q] at h; cases h
  | some k =>
    rw [q] at h
    obtain ⟨hk, e⟩ := List.getElem?_eq_some_iff.mp q
    simp at e hk
    subst e
    cases h
    exact ⟨by omega, rfl⟩
theorem walk_rng (m n : Int) : WalkJ G false (Itr m (n - m).toNat) F (rngD m n) := by
  intro F1 H1 s1 s2 i
  refine ⟨fun d e => ?_, fun hl => by rw [rngD_length] at hl; exact hl⟩
  obtain ⟨h1, rfl⟩ := rngD_get e
  refine ⟨h1, fun x H' y σ ρ hr => ?_⟩
  obtain ⟨rfl, rfl⟩ := y
  exact ⟨F1, Stp.refl hr, .inl (.int _)⟩
theorem new_tup {vs : List V} {ds : List D} {q : Addr} (hr : Rel G F H σ ρ) (h : Reps G F vs ds) (hq : H q = none) : ∃ F2, Stp G σ ρ F H σ ρ F2 (upd H q (.tup vs)) ∧ RepW G true F2 (.ref q) (.tup ds) := by
  have fq : F q = none := hr.sub.free hq
  exact ⟨_, Stp.layF (o := .tup vs) hr hq, .inr ⟨rfl, ds, q, vs, rfl, rfl, .inl (.inl upd_same), Reps.mono (same_upd fq) ds vs h⟩⟩
theorem enumD_get : ∀ {xs : List D} {k i : Nat} {d : D}, (enumD k xs)[i]? = some d → ∃ x, xs[i]? = some x ∧ d = .tup [.int ((k + i : Nat) : Int), x]
  | [], k, i, d, h => by simp [enumD] at h
  | x :: xs, k, 0, d, h => by simp [enumD] at h; exact ⟨x, rfl, by simp [h]⟩
  | x :: xs, k, i + 1, d, h => by
    obtain ⟨y, h1, h2⟩ := enumD_get (xs := xs) (k := k + 1) (i := i) (by simpa [enumD] using h)
    exact ⟨y, by simpa using h1, by rw [h2]; congr 3; omega⟩
theorem enumD_length : ∀ (xs : List D) (k : Nat), (enumD k xs).length = xs.length
  | [], _ => rfl
  | x :: xs, k => by simp [enumD, enumD_length xs]
theorem walk_enum {a : Addr} {vs : List V} {ds : List D} (h : SqL G.K F a vs) (hr : Reps G F vs ds) : WalkJ G true (Ite G.K a) F (enumD 0 ds) := by
  intro F1 H1 s1 s2 i
  have q : SqL G.K H1 a vs := (s1.trans s2).seq h
  refine ⟨fun d e => ?_, fun hl => ⟨vs, q, by rw [hr.length, ← enumD_length ds 0]; exact hl⟩⟩
  obtain ⟨x, e1, rfl⟩ := enumD_get e
  obtain ⟨y, e2, r2⟩ := hr.get e1
  refine ⟨⟨vs, y, q, e2⟩, fun w H' yl σ ρ hrel => ?_⟩
  obtain ⟨T, z, rfl, hT, rfl, hz⟩ := yl
  have e3 := hz vs q
  rw [e2] at e3; cases e3
  rw [Nat.zero_add]
  exact new_tup hrel (.cons (.int _) (.cons (Rep.mono s1 x y r2) .nil)) hT
theorem zipD_get : ∀ {xs ys : List D} {i : Nat} {d : D}, (zipD xs ys)[i]? = some d → ∃ x y, xs[i]? = some x ∧ ys[i]? = some y ∧ d = .tup [x, y]
  | [], _, i, d, h => by simp [zipD] at h
  | _ :: _, [], i, d, h => by simp [zipD] at h
  | x :: xs, y :: ys, 0, d, h => by simp [zipD] at h; exact ⟨x, y, rfl, rfl, h.symm⟩
  | x :: xs, y :: ys, i + 1, d, h => by
    obtain ⟨u, w, h1, h2, h3⟩ := zipD_get (xs := xs) (ys := ys) (i := i) (by simpa [zipD] using h)
    exact ⟨u, w, by simpa using h1, by simpa using h2, h3⟩
theorem zipD_length : ∀ (xs ys : List D), (zipD xs ys).length = min xs.length ys.length
  | [], _ => by simp [zipD]
  | _ :: _, [] => by simp [zipD]
  | x :: xs, y :: ys => by simp [zipD, zipD_length xs ys] <;> omega
theorem walk_zip {J : It} {vs ws : List V} {ds es : List D} {P : Hp → Prop} (hr : Reps G F vs ds) (hr2 : Reps G F ws es) (hp : ∀ H, Same F H → P H)
    (hgo : ∀ i H x y, P H → vs[i]? = some x → ws[i]? = some y → J.go i H) (hy : ∀ i H v H', P H → J.yld i H v H' → ∃ T x y, v = .ref T ∧ H T = none ∧ H' = upd H T (.tup [x, y]) ∧ vs[i]? = some x ∧ ws[i]? = some y)
    (hst : ∀ i H, P H → (vs.length ≤ i ∨ ws.length ≤ i) → J.stop i H) : WalkJ G true J F (zipD ds es) := by
  intro F1 H1 s1 s2 i
  have q := hp H1 (s1.trans s2)
  refine ⟨fun d e => ?_, fun hl => hst i H1 q (by rw [zipD_length] at hl; rw [hr.length, hr2.length]; omega)⟩
  obtain ⟨x, y, e1, e2, rfl⟩ := zipD_get e
  obtain ⟨x', f1, r1⟩ := hr.get e1
  obtain ⟨y', f2, r2⟩ := hr2.get e2
  refine ⟨hgo i H1 x' y' q f1 f2, fun w H' yl σ ρ hrel => ?_⟩
  obtain ⟨T, x2, y2, rfl, hT, rfl, g1, g2⟩ := hy i H1 w H' q yl
  rw [f1] at g1; cases g1
  rw [f2] at g2; cases g2
  exact new_tup hrel (.cons (Rep.mono s1 x _ r1) (.cons (Rep.mono s1 y _ r2) .nil)) hT
theorem walk_zipL {a b : Addr} {vs ws : List V} {ds es : List D} (h : SqL G.K F a vs) (h2 : SqL G.K F b ws) (hr : Reps G F vs ds) (hr2 : Reps G F ws es) : WalkJ G true (Itz G.K a b) F (zipD ds es) :=
  walk_zip (P := fun H => SqL G.K H a vs ∧ SqL G.K H b ws) hr hr2 (fun H s => ⟨s.seq h, s.seq h2⟩) (fun i H x y q e1 e2 => ⟨vs, ws, x, y, q.1, q.2, e1, e2⟩)
    (fun i H v H' q yl => by
      obtain ⟨T, x, y, h1, h2, h3, h4, h5⟩ := yl
      exact ⟨T, x, y, h1, h2, h3, h4 _ q.1, h5 _ q.2⟩) fun i H q l => ⟨vs, ws, q.1, q.2, l⟩
theorem walk_zipT {a b : Addr} {vs ws : List V} {ds es : List D} (h : SqT G.K F a vs) (h2 : SqT G.K F b ws) (hr : Reps G F vs ds) (hr2 : Reps G F ws es) : WalkJ G true (RZ.ItzT G.K a b) F (zipD ds es) :=
  walk_zip (P := fun H => SqT G.K H a vs ∧ SqT G.K H b ws) hr hr2 (fun H s => ⟨Same.sqt s h, Same.sqt s h2⟩) (fun i H x y q e1 e2 => ⟨vs, ws, x, y, q.1, q.2, e1, e2⟩)
    (fun i H v H' q yl => by
      obtain ⟨T, x, y, h1, h2, h3, h4, h5⟩ := yl
      exact ⟨T, x, y, h1, h2, h3, h4 _ q.1, h5 _ q.2⟩) fun i H q l => ⟨vs, ws, q.1, q.2, l⟩
def rS (G : Glo) (C : CallF) (W : WX) (s : Sr) : TI := fun σ H R => ∃ F ρ, Rel G F H σ ρ ∧ Ask G W σ ρ F H (evS C s ρ) fun items ρ' F' H' => ∀ J, WalkJ G s.weak J F' items → R J H'
/-- a source: what the target must look like -/
structure SndS (G : Glo) (C : CallF) (W : WX) (X : Cx) (tg it : Expr) (S : Sr) : Prop where
  p : PI X tg it (rS G C W S)
  s : ∀ x, foldedSetIterable it X.env x = pure x
theorem piwk {tg it : Expr} {t t' : TI} (h : PI X tg it t) (f : ∀ σ H R, t' σ H R → t σ H R) : PI X tg it t' := ⟨fun pins s σ H R I q => h.run pins s σ H R I (f σ H R q)⟩
/-- a list, a tuple: one rule for both -/
def iSeq (K : PySem.W.Frag) (t : TE) : TI := fun σ H R => t σ H fun x H1 => ∃ a, x = .ref a ∧ ((∃ xs, SqL K H1 a xs) ∧ R (Itl K a) H1 ∨ (∃ xs, SqT K H1 a xs) ∧ R (Itt K a) H1)
theorem pi_seq {tg l : Expr} {t : TE} (hl : PE X l t) : PI X tg l (iSeq X.K t) := by
  refine ⟨fun pins s σ H R I h => ?_⟩
  refine thn (hl.run pins s σ H _ I h) fun v s1 hE => ?_
  obtain ⟨x, H1, I1, r1, a, e, q1⟩ := hE
  subst e
  cases r1
  have new : ∀ b ∈ [s1.heap.objs.size], FpOk X pins H1 b := fun b hb => by
    rw [List.mem_singleton.mp hb]
    exact I1.fpOk (Nat.le_refl _) (I1.hok.fresh (Nat.le_refl _))
  rcases q1 with ⟨⟨xs, hq⟩, q⟩ | ⟨⟨xs, hq⟩, q⟩
  · obtain ⟨its, rv, pl, _⟩ := I1.list hq
    refine wpAny_pyIter_list pl.isList ?_
    exact ⟨_, [s1.heap.objs.size], _, Itl X.K a, H1, rfl, I1.kept (t' := s1.toks) (fun _ _ e => Heap.get?_push_of_some _ e), turn_list a s1.heap.objs.size, ⟨_, Heap.get?_push_size _ rfl, rfl, rfl⟩, new, q⟩
  · obtain ⟨its, rv, pl, _⟩ := I1.tuple hq
    refine wpAny_pyIter_tuple (show s1.heap.IsTuple a its.toArray from pl) ?_
    exact ⟨_, [s1.heap.objs.size], _, Itt X.K a, H1, rfl, I1.kept (t' := s1.toks) (fun _ _ e => Heap.get?_push_of_some _ e), turn_tuple a s1.heap.objs.size, ⟨_, Heap.get?_push_size _ rfl, rfl, rfl⟩, new, q⟩
theorem snds_seq {tg : Expr} (ha : Snd G C W X a A) (hs : ∀ x, foldedSetIterable a X.env x = pure x) (hK : X.K = G.K) : SndS G C W X tg a (.seq A) := by
  refine ⟨piwk (pi_seq ha.d) fun σ H R h => ?_, hs⟩
  obtain ⟨F, ρ, hr, h⟩ := h
  refine ⟨F, ρ, hr, Ask.imp (Ask.bd h) fun d ρ1 F1 H1 s1 h1 v q => ?_⟩
  replace h1 : Ask G W σ ρ1 F1 H1 (match d.seq? with
    | some xs => .ok (xs, ρ1)
    | none => .stuck) fun items ρ' F' H' => ∀ J, WalkJ G false J F' items → R J H' := h1
  rw [hK]
  split at h1
  · rename_i xs e
    have h2 := h1.ok s1.rel
    cases q <;> simp only [D.seq?] at e <;> cases e
    · rename_i a vs k1 k2
      exact ⟨a, rfl, .inr ⟨⟨vs, (Same.sqn s1.rel.sub k1).t⟩, h2 _ (walk_sqt k1.t k2)⟩⟩
    · rename_i a vs k1 k2
      exact ⟨a, rfl, .inl ⟨⟨vs, .inl (.inl (s1.rel.sub _ _ k1))⟩, h2 _ (walk_sql (.inl (.inl k1)) k2)⟩⟩
    · rename_i a vs k1 k2
      exact ⟨a, rfl, .inl ⟨⟨vs, s1.rel.sub.seq k1⟩, h2 _ (walk_sql k1 k2)⟩⟩
  · exact h1.elim
theorem rg_of {m n : Int} (h : RgOkB m n = true) : -(2 ^ 62) ≤ m ∧ m < 2 ^ 62 ∧ -(2 ^ 62) ≤ n ∧ n < 2 ^ 62 := by
  unfold RgOkB at h
  simp only [Bool.and_eq_true, decide_eq_true_eq] at h
  exact ⟨h.1.1.1.1, h.1.1.1.2, h.1.1.2, h.1.2⟩
theorem snds_rng1 {tg : Expr} (ha : Snd G C W X a A) (hs : NoStar a = true) (hg : Gl X "range") (hm : X.mg "range" = none) (hf : ∀ x, foldedSetIterable (.Call (.Name "range" p) [a] [] pos) X.env x = pure x) :
    SndS G C W X tg (.Call (.Name "range" p) [a] [] pos) (.rng1 A) := by
  refine ⟨piwk (pi_range1 hg hm (pa_cons ha.d pa_nil (star_cons hs)) (star_cons hs)) fun σ H R h => ?_, hf⟩
  obtain ⟨F, ρ, hr, h⟩ := h
  refine ⟨F, ρ, hr, Ask.imp (Ask.bd h) fun d ρ1 F1 H1 s1 h1 v q => ?_⟩
  replace h1 : Ask G W σ ρ1 F1 H1 (match d with
    | .int n => if RgOkB 0 n then .ok (rngD 0 n, ρ1) else .stuck
    | _ => .stuck) fun items ρ' F' H' => ∀ J, WalkJ G false J F' items → R J H' := h1
  split at h1
  · rename_i n
    split at h1
    · rename_i hk
      cases q
      have k := rg_of hk
      refine ⟨n, rfl, k.2.2.1, k.2.2.2, ?_⟩
      have w := walk_rng (G := G) (F := F1) 0 n
      rw [Int.sub_zero] at w
      exact h1.ok s1.rel _ w
    · exact h1.elim
  · exact h1.elim
theorem snds_rng2 {tg : Expr} (ha : Snd G C W X a A) (hs : NoStar a = true) (hb : Snd G C W X b B) (hs2 : NoStar b = true) (hg : Gl X "range") (hm : X.mg "range" = none) (hf : ∀ x, foldedSetIterable (.Call (.Name "range" p) [a, b] [] pos) X.env x = pure x) :
    SndS G C W X tg (.Call (.Name "range" p) [a, b] [] pos) (.rng2 A B) := by
  refine ⟨piwk (pi_range2 hg hm (pa_cons ha.d (pa_cons hb.d pa_nil (star_cons hs2)) (star_cons hs)) (by rw [star_cons hs, star_cons hs2]; rfl) (star_cons hs2)) fun σ H R h => ?_, hf⟩
  obtain ⟨F, ρ, hr, h⟩ := h
  refine ⟨F, ρ, hr, Ask.imp (Ask.bd h) fun d ρ1 F1 H1 s1 h1 v q => ⟨F1, ρ1, s1.rel, Ask.imp (Ask.bd h1) fun d' ρ2 F2 H2 s2 h2 w q2 => ?_⟩⟩
  replace h2 : Ask G W σ ρ2 F2 H2 (match d with
    | .int m => (match d' with
      | .int n => if RgOkB m n then .ok (rngD m n, ρ2) else .stuck
      | _ => .stuck)
    | _ => .stuck) fun items ρ' F' H' => ∀ J, WalkJ G false J F' items → R J H' := h2
  split at h2
  · split at h2
    · rename_i m _ n
      split at h2
      · rename_i hk
        cases q
        cases q2
        exact ⟨m, n, rfl, rg_of hk, h2.ok s2.rel _ (walk_rng m n)⟩
      · exact h2.elim
    · exact h2.elim
  · exact h2.elim
theorem snds_enum {elts : List Expr} {kk : Nat} {tpos : Pos} (ha : Snd G C W X a A) (hs : NoStar a = true) (hg : Gl X "enumerate") (hm : X.mg "enumerate" = none) (hf : ∀ x, foldedSetIterable (.Call (.Name "enumerate" p) [a] [] pos) X.env x = pure x) (hK : X.K = G.K) :
    SndS G C W X (.Tuple elts kk tpos) (.Call (.Name "enumerate" p) [a] [] pos) (.enum A) := by
  refine ⟨piwk (pi_enum hg hm (pa_cons ha.d pa_nil (star_cons hs)) (star_cons hs)) fun σ H R h => ?_, hf⟩
  obtain ⟨F, ρ, hr, h⟩ := h
  refine ⟨F, ρ, hr, Ask.imp (Ask.bd h) fun d ρ1 F1 H1 s1 h1 v q => ?_⟩
  replace h1 : Ask G W σ ρ1 F1 H1 (match d with
    | .lst xs => .ok (enumD 0 xs, ρ1)
    | _ => .stuck) fun items ρ' F' H' => ∀ J, WalkJ G true J F' items → R J H' := h1
  rw [hK]
  split at h1
  · cases q with
    | lst k1 k2 => exact ⟨_, _, rfl, .inl (.inl (s1.rel.sub _ _ k1)), h1.ok s1.rel _ (walk_enum (.inl (.inl k1)) k2)⟩
  · exact h1.elim
theorem snds_zip {elts : List Expr} {kk : Nat} {tpos : Pos} (ha : Snd G C W X a A) (hs : NoStar a = true) (hb : Snd G C W X b B) (hs2 : NoStar b = true) (hg : Gl X "zip") (hm : X.mg "zip" = none) (hf : ∀ x, foldedSetIterable (.Call (.Name "zip" p) [a, b] [] pos) X.env x = pure x) (hK : X.K = G.K) :
    SndS G C W X (.Tuple elts kk tpos) (.Call (.Name "zip" p) [a, b] [] pos) (.zip A B) := by
  refine ⟨piwk (RZ.pi_zipA hg hm (pa_cons ha.d (pa_cons hb.d pa_nil (star_cons hs2)) (star_cons hs)) (star_cons hs) (back_all (es := [b]) (by rw [List.all_cons, hs2]; rfl))) fun σ H R h => ?_, hf⟩
  obtain ⟨F, ρ, hr, h⟩ := h
  refine ⟨F, ρ, hr, Ask.imp (Ask.bd h) fun d ρ1 F1 H1 s1 h1 v q => ⟨F1, ρ1, s1.rel, Ask.imp (Ask.bd h1) fun d' ρ2 F2 H2 s2 h2 w q2 => ?_⟩⟩
  dsimp only at h2
  rw [hK]
  split at h2
  · split at h2
    · have q := Rep.mono s2.ext.ff _ _ q
      cases q with
      | lst k1 k2 =>
        cases q2 with
        | lst l1 l2 => exact ⟨_, _, _, _, rfl, .inl ⟨.inl (.inl (s2.rel.sub _ _ k1)), .inl (.inl (s2.rel.sub _ _ l1)), h2.ok s2.rel _ (walk_zipL (.inl (.inl k1)) (.inl (.inl l1)) k2 l2)⟩⟩
    · exact h2.elim
  · split at h2
    · have q := Rep.mono s2.ext.ff _ _ q
      cases q with
      | tup k1 k2 =>
        cases q2 with
        | tup l1 l2 => exact ⟨_, _, _, _, rfl, .inr ⟨(Same.sqn s2.rel.sub k1).t, (Same.sqn s2.rel.sub l1).t, h2.ok s2.rel _ (walk_zipT k1.t l1.t k2 l2)⟩⟩
    · exact h2.elim
  · exact h2.elim
end
end Cr
namespace Cr
open PySem PySem.Spec PyProof.Rows L2
section
variable {G : Glo} {C : CallF} {W : WX} {X : Cx} {e a b c : Expr} {A B Cc : E} {pos p : Pos} {σ σ' : L2.St} {ρ ρ' ρ2 ρw : Env} {F F' F2 H H' H2 : Hp} {Q : VK} {es : List Expr} {Es' : Es} {v : V} {d : D}
def notOwn : Sl → Prop
  | .own _ _ => False
  | _ => True
/-- a slot gets a value that never changes; what stood there was no borrowed list -/
theorem Stp.put (h : Rel G F H σ ρ) {i : Nat} (hi : i < ρ.length) (hb : ∀ xs, ρ[i]? ≠ some (.own xs true)) (hv : Rep G F v d) : Stp G σ ρ F H (σ.set i (some v)) (ρ.set i (.val d)) F H := by
  have hs : i < σ.length := h.len ▸ hi
  have same : ∀ {j : Nat} {xs : List D} {k : Bool}, (ρ.set i (.val d))[j]? = some (.own xs k) → i ≠ j ∧ ρ[j]? = some (.own xs k) := fun {j xs k} q => by
    by_cases e : i = j
    · subst e; rw [List.getElem?_set_self hi] at q; cases q
    · rw [List.getElem?_set_ne e] at q; exact ⟨e, q⟩
  have own' : ∀ x, Own (σ.set i (some v)) (ρ.set i (.val d)) x → Own σ ρ x := fun x ⟨j, xs, k, q1, q2⟩ => by
    obtain ⟨e, q3⟩ := same q1
    rw [List.getElem?_set_ne e] at q2
    exact ⟨j, xs, k, q3, q2⟩
  refine ⟨⟨by rw [List.length_set, List.length_set]; exact h.len, h.sub, fun j s q ne => ?_, fun j k xs ys m n x q1 q2 q3 q4 => ?_⟩, Ext.refl, fun x q => .inl (own' x q), fun j xs q => ?_⟩
  · by_cases e : i = j
    · subst e
      rw [List.getElem?_set_self hi] at q; cases q
      exact ⟨v, by rw [List.getElem?_set_self hs], hv⟩
    · rw [List.getElem?_set_ne e] at q
      rw [List.getElem?_set_ne e]
      exact h.sl j s q ne
  · obtain ⟨e1, r1⟩ := same q1
    obtain ⟨e2, r2⟩ := same q2
    rw [List.getElem?_set_ne e1] at q3
    rw [List.getElem?_set_ne e2] at q4
    exact h.sep j k xs ys m n x r1 r2 q3 q4
  · have e : i ≠ j := fun z => hb xs (z ▸ q)
    exact ⟨xs, by rw [List.getElem?_set_ne e]; exact q, by rw [List.getElem?_set_ne e]⟩
theorem setT_name {i : Nat} (e : setT (.name i) d ρ = some ρ') : i < ρ.length ∧ (∀ xs, ρ[i]? ≠ some (.own xs true)) ∧ ρ' = ρ.set i (.val d) := by
  unfold setT at e
  split at e
  · rename_i hi
    split at e
    · cases e
    · rename_i hn
      cases e
      exact ⟨hi, fun xs q => hn xs q, rfl⟩
  · cases e
mutual
def T.slots : T → List Nat
  | .name i => [i]
  | .tup ts => T.slotss ts
  | .sub _ _ => []
def T.slotss : List T → List Nat
  | [] => []
  | t :: ts => t.slots ++ T.slotss ts
end
/-- only these slots change -/
def Agr (l : List Nat) (σ σ' : L2.St) : Prop := σ'.length = σ.length ∧ ∀ i, i ∉ l → σ'[i]? = σ[i]?
theorem Agr.refl {l : List Nat} {σ : L2.St} : Agr l σ σ := ⟨rfl, fun _ _ => rfl⟩
theorem Agr.trans {l m : List Nat} {σ σ1 σ2 : L2.St} (h1 : Agr l σ σ1) (h2 : Agr m σ1 σ2) : Agr (l ++ m) σ σ2 := by
  refine ⟨h2.1.trans h1.1, fun i hi => ?_⟩
  simp only [List.mem_append, not_or] at hi
  exact (h2.2 i hi.2).trans (h1.2 i hi.1)
def gTe (G : Glo) (t : T) : TG := fun v σ H Q => ∃ F ρ d ρ', Rel G F H σ ρ ∧ RepW G t.isT F v d ∧ setT t d ρ = some ρ' ∧ ∀ σ' F' H', Stp G σ ρ F H σ' ρ' F' H' → Agr t.slots σ σ' → Q σ' H'
def gTs (G : Glo) (ts : List T) : TGs := fun vs σ H Q => ∃ F ρ ds ρ', Rel G F H σ ρ ∧ Reps G F vs ds ∧ setT.setTs ts ds ρ = some ρ' ∧ ∀ σ' F' H', Stp G σ ρ F H σ' ρ' F' H' → Agr (T.slotss ts) σ σ' → Q σ' H'
structure SndT (G : Glo) (X : Cx) (tg : Expr) (t : T) : Prop where
  p : PG X tg (gTe G t)
structure SndTs (G : Glo) (X : Cx) (tg : List Expr) (t : List T) : Prop where
  p : PGs X tg (gTs G t)
theorem pgwk {tg : Expr} {t t' : TG} (h : PG X tg t) (f : ∀ v σ H Q, t' v σ H Q → t v σ H Q) : PG X tg t' := ⟨fun pins s σ H v u Q I r q => h.run pins s σ H v u Q I r (f v σ H Q q)⟩
theorem pgswk {tg : List Expr} {t t' : TGs} (h : PGs X tg t) (f : ∀ v σ H Q, t' v σ H Q → t v σ H Q) : PGs X tg t' := ⟨fun pins s σ H v u Q I r q => h.run pins s σ H v u Q I r (f v σ H Q q)⟩
theorem sndT_name {i : Nat} {x : Str} (hN : X.N.Nodup) (hi : X.N[i]? = some x) (hx : Loc X.env.scope x) (hf : X.fn x = true ∨ X.env.scope.names.lookup x = some .local) : SndT G X (.Name x pos) (.name i) := by
  refine ⟨pgwk (pg_name hN hi hx hf) fun v σ H Q h => ?_⟩
  obtain ⟨F, ρ, d, ρ', hr, hv, e, q⟩ := h
  have hv := hv.resolve_right fun z => Bool.noConfusion z.1
  obtain ⟨h1, h2, rfl⟩ := setT_name e
  exact q _ _ _ (Stp.put hr h1 h2 hv) ⟨by rw [List.length_set], fun j hj => by
    rw [List.getElem?_set_ne fun z => hj (by unfold T.slots; rw [z]; exact List.mem_singleton.mpr rfl)]⟩
/-- o[k] = .. of a list of the frame's own, k written -/
theorem sndT_sub {i : Nat} {k : Int} {x : Str} {kk : Nat} {px pk : Pos} (hx : Snd G C W X (.Name x px) (.var i)) : SndT G X (.Subscript (.Name x px) (.Constant (.int k) kk pk) pos) (.sub i k) := by
  refine ⟨pgwk (pg_sub hx.o pe_int set_list) fun v σ H Q h => ?_⟩
  obtain ⟨F, ρ, d, ρ', hr, hv, e, q⟩ := h
  have hv := hv.resolve_right fun z => Bool.noConfusion z.1
  unfold setT at e
  split at e
  · rename_i xs b eo
    split at e
    · rename_i j ej
      cases e
      refine ⟨F, ρ, hr, ?_⟩
      simp only [mkO, eo]
      intro F1 H1 s1 u hu
      obtain ⟨a, ws, e1, e2, e3, e4⟩ := s1.rel.ownAt eo
      have hu : σ[i]? = some (some u) := hu
      rw [e1] at hu; cases hu
      exact ⟨a, ws, k, j, rfl, rfl, e2, by rw [e4.length]; exact ej, q σ F1 _ (s1.trans (Stp.chg s1.rel eo e1 (Reps.set (Rep.mono s1.ext.ff d v hv) j e4))) Agr.refl⟩
    · cases e
  · cases e
theorem sndTs_nil : SndTs G X [] [] := ⟨pgswk pgs_nil fun v σ H Q h => by
  obtain ⟨F, ρ, ds, ρ', hr, hv, e, q⟩ := h
  cases ds with
  | nil =>
    cases hv
    unfold setT.setTs at e; cases e
    exact ⟨rfl, q σ F H (Stp.refl hr) Agr.refl⟩
  | cons d ds => unfold setT.setTs at e; cases e⟩
def PlainT : Expr → Bool
  | .Name .. | .Tuple .. | .Subscript .. => true
  | _ => false
theorem each_cons {env : PySem.Env} (h : PlainT e = true) : assignEach (e :: es) env = (false, assign e env) :: assignEach es env := by
  cases e <;> first | rfl | cases h
theorem sndTs_cons {t : T} {ts : List T} (h1 : SndT G X e t) (hp : PlainT e = true) (h2 : SndTs G X es ts) : SndTs G X (e :: es) (t :: ts) := by
  refine ⟨pgswk (pgs_cons h1.p h2.p (by rw [each_cons hp]; rfl)) fun v σ H Q h => ?_⟩
  obtain ⟨F, ρ, ds, ρ', hr, hv, e, q⟩ := h
  cases ds with
  | nil => unfold setT.setTs at e; cases e
  | cons d ds =>
    cases hv with
    | cons v1 v2 =>
      unfold setT.setTs at e
      obtain ⟨ρ1, e1, e2⟩ := Option.bind_eq_some_iff.mp e
      exact ⟨_, _, rfl, F, ρ, d, ρ1, hr, .inl v1, e1, fun σ1 F1 H1 s1 g1 => ⟨F1, ρ1, ds, ρ', s1.rel, Reps.mono s1.ext.ff ds _ v2, e2, fun σ2 F2 H2 s2 g2 => q σ2 F2 H2 (s1.trans s2) (by unfold T.slotss; exact g1.trans g2)⟩⟩
theorem each_all {env : PySem.Env} : ∀ {es : List Expr}, es.all PlainT = true → assignEach es env = es.map fun e => (false, assign e env)
  | [], _ => rfl
  | e :: es, h => by
    rw [List.all_cons, Bool.and_eq_true] at h
    rw [each_cons h.1, each_all h.2]; rfl
theorem setTs_len : ∀ {ts : List T} {ds : List D} {ρ ρ' : Env}, setT.setTs ts ds ρ = some ρ' → ts.length = ds.length
  | [], [], _, _, _ => rfl
  | [], _ :: _, _, _, e => by unfold setT.setTs at e; cases e
  | _ :: _, [], _, _, e => by unfold setT.setTs at e; cases e
  | t :: ts, d :: ds, ρ, ρ', e => by
    unfold setT.setTs at e
    obtain ⟨ρ1, e1, e2⟩ := Option.bind_eq_some_iff.mp e
    simp [setTs_len e2]
theorem sndT_tup {k : Nat} {ts : List T} (hc : X.calm = true) (h : SndTs G X es ts) (hl : es.length = ts.length) (hp : es.all PlainT = true) (hK : X.K = G.K) : SndT G X (.Tuple es k pos) (.tup ts) := by
  refine ⟨pgwk (pg_tup hc h.p (n := ts.length) (by rw [each_all hp, List.length_map, hl]) (by rw [each_all hp]; rw [List.findIdx?_eq_none_iff]; intro x hx; obtain ⟨y, _, rfl⟩ := List.mem_map.mp hx; rfl)) fun v σ H Q h => ?_⟩
  obtain ⟨F, ρ, d, ρ', hr, hv, e, q⟩ := h
  cases d with
  | tup ds =>
    have hv : ∃ a vs, v = .ref a ∧ SqT G.K F a vs ∧ Reps G F vs ds := by
      rcases hv with hv | ⟨_, ds', a, vs, e1, e2, k1, k2⟩
      · cases hv with
        | tup k1 k2 => exact ⟨_, _, rfl, k1.t, k2⟩
      · cases e1
        exact ⟨a, vs, e2, k1, k2⟩
    obtain ⟨_, _, rfl, k1, k2⟩ := hv
    · unfold setT at e
      rw [hK]
      exact ⟨_, _, rfl, Same.sqt hr.sub k1, by rw [k2.length, setTs_len e], F, ρ, ds, ρ', hr, k2, e, fun σ' F' H' s g => q σ' F' H' s (by unfold T.slots; exact g)⟩
  | _ => unfold setT at e; cases e
theorem wipeQ_len : ∀ {vs : List Nat} {ρ ρw : Env}, wipeQ ρ vs = some ρw → ρw.length = ρ.length
  | [], ρ, ρw, e => by cases e; rfl
  | v :: vs, ρ, ρw, e => by
    unfold wipeQ at e
    obtain ⟨ρ1, e1, e2⟩ := Option.bind_eq_some_iff.mp e
    split at e2
    · cases e2
    · cases e2; rw [List.length_set, wipeQ_len e1]
theorem wipeQ_out : ∀ {vs : List Nat} {ρ ρw : Env} {i : Nat}, wipeQ ρ vs = some ρw → i ∉ vs → ρw[i]? = ρ[i]?
  | [], ρ, ρw, i, e, _ => by cases e; rfl
  | v :: vs, ρ, ρw, i, e, h => by
    unfold wipeQ at e
    obtain ⟨ρ1, e1, e2⟩ := Option.bind_eq_some_iff.mp e
    simp only [List.mem_cons, not_or] at h
    split at e2
    · cases e2
    · cases e2; rw [List.getElem?_set_ne (Ne.symm h.1), wipeQ_out e1 h.2]
theorem wipeQ_in : ∀ {vs : List Nat} {ρ ρw : Env} {i : Nat} {s : Sl}, wipeQ ρ vs = some ρw → i ∈ vs → ρw[i]? = some s → s = .non
  | [], ρ, ρw, i, s, e, h, _ => by cases h
  | v :: vs, ρ, ρw, i, s, e, h, q => by
    unfold wipeQ at e
    obtain ⟨ρ1, e1, e2⟩ := Option.bind_eq_some_iff.mp e
    split at e2
    · cases e2
    · cases e2
      by_cases hv : v = i
      · subst hv
        by_cases hl : v < ρ1.length
        · rw [List.getElem?_set_self hl] at q; cases q; rfl
        · rw [List.getElem?_eq_none (by simpa using hl)] at q; cases q
      · rw [List.getElem?_set_ne hv] at q
        rcases List.mem_cons.mp h with h | h
        · exact absurd h.symm hv
        · exact wipeQ_in e1 h q
theorem wipeQ_no : ∀ {vs : List Nat} {ρ ρw : Env} {i : Nat} {xs : List D} {k : Bool}, wipeQ ρ vs = some ρw → i ∈ vs → ρ[i]? ≠ some (.own xs k)
  | [], ρ, ρw, i, xs, k, e, h => by cases h
  | v :: vs, ρ, ρw, i, xs, k, e, h => by
    intro q
    unfold wipeQ at e
    obtain ⟨ρ1, e1, e2⟩ := Option.bind_eq_some_iff.mp e
    by_cases hm : i ∈ vs
    · exact wipeQ_no e1 hm q
    · rcases List.mem_cons.mp h with h | h
      · subst h
        rw [← wipeQ_out e1 hm] at q
        rw [q] at e2
        cases e2
      · exact hm h
theorem wipe_get {i : Nat} : ∀ {vs : List Nat} {σ : L2.St}, i ∉ vs → (wipe σ vs)[i]? = σ[i]?
  | [], _, _ => rfl
  | v :: vs, σ, h => by
    simp only [List.mem_cons, not_or] at h
    unfold wipe
    rw [List.getElem?_set_ne (Ne.symm h.1), wipe_get h.2]
theorem wipe_in {i : Nat} : ∀ {vs : List Nat} {σ : L2.St}, i ∈ vs → i < σ.length → (wipe σ vs)[i]? = some none
  | [], _, h, _ => by cases h
  | v :: vs, σ, h, hl => by
    unfold wipe
    by_cases hv : v = i
    · subst hv
      rw [List.getElem?_set_self (by rw [wipe_length]; exact hl)]
    · rw [List.getElem?_set_ne hv]
      rcases List.mem_cons.mp h with h | h
      · exact absurd h.symm hv
      · exact wipe_in h hl
theorem wipe_agr {l vs : List Nat} {σ σ2 : L2.St} (h : Agr l σ σ2) (hs : ∀ i ∈ l, i ∈ vs) : wipe σ2 vs = wipe σ vs := by
  refine List.ext_getElem? fun i => ?_
  by_cases hm : i ∈ vs
  · by_cases hl : i < σ.length
    · rw [wipe_in hm hl, wipe_in hm (h.1 ▸ hl)]
    · rw [List.getElem?_eq_none (by rw [wipe_length, h.1]; omega), List.getElem?_eq_none (by rw [wipe_length]; omega)]
  · rw [wipe_get hm, wipe_get hm]
    exact h.2 i fun z => hm (hs i z)
theorem wipe_twice {vs : List Nat} {σ : L2.St} : wipe (wipe σ vs) vs = wipe σ vs := by
  refine List.ext_getElem? fun i => ?_
  by_cases hm : i ∈ vs
  · by_cases hl : i < σ.length
    · rw [wipe_in hm hl, wipe_in hm (by rw [wipe_length]; exact hl)]
    · rw [List.getElem?_eq_none (by rw [wipe_length, wipe_length]; omega), List.getElem?_eq_none (by rw [wipe_length]; omega)]
  · rw [wipe_get hm]
theorem Stp.wiped {vs : List Nat} (h : Rel G F H σ ρ) (e : wipeQ ρ vs = some ρw) : Stp G σ ρ F H (wipe σ vs) ρw F H := by
  have out : ∀ {i : Nat} {xs : List D} {k : Bool}, ρw[i]? = some (.own xs k) → i ∉ vs ∧ ρ[i]? = some (.own xs k) := fun {i xs k} q => by
    have hn : i ∉ vs := fun hm => by have := wipeQ_in e hm q; cases this
    rw [wipeQ_out e hn] at q
    exact ⟨hn, q⟩
  refine ⟨⟨by rw [wipeQ_len e, wipe_length]; exact h.len, h.sub, fun i s q ne => ?_, fun i j xs ys k l x q1 q2 q3 q4 => ?_⟩, Ext.refl, fun x ⟨i, xs, k, q1, q2⟩ => .inl ?_, fun i xs q => ?_⟩
  · have hn : i ∉ vs := fun hm => ne (wipeQ_in e hm q)
    rw [wipeQ_out e hn] at q
    rw [wipe_get hn]
    exact h.sl i s q ne
  · obtain ⟨n1, r1⟩ := out q1
    obtain ⟨n2, r2⟩ := out q2
    rw [wipe_get n1] at q3
    rw [wipe_get n2] at q4
    exact h.sep i j xs ys k l x r1 r2 q3 q4
  · obtain ⟨n1, r1⟩ := out q1
    rw [wipe_get n1] at q2
    exact ⟨i, xs, k, r1, q2⟩
  · have hn : i ∉ vs := fun hm => wipeQ_no e hm q
    exact ⟨xs, by rw [wipeQ_out e hn]; exact q, wipe_get hn⟩
theorem restR_len : ∀ {vs : List Nat} {ρ ρ2 : Env}, (restR ρ ρ2 vs).length = ρ2.length
  | [], _, _ => rfl
  | v :: vs, ρ, ρ2 => by unfold restR; rw [List.length_set, restR_len]
theorem restR_out {i : Nat} : ∀ {vs : List Nat} {ρ ρ2 : Env}, i ∉ vs → (restR ρ ρ2 vs)[i]? = ρ2[i]?
  | [], _, _, _ => rfl
  | v :: vs, ρ, ρ2, h => by
    simp only [List.mem_cons, not_or] at h
    unfold restR
    rw [List.getElem?_set_ne (Ne.symm h.1), restR_out h.2]
theorem restR_in {i : Nat} {s : Sl} : ∀ {vs : List Nat} {ρ ρ2 : Env}, ρ2.length = ρ.length → i ∈ vs → (restR ρ ρ2 vs)[i]? = some s → ρ[i]? = some s
  | [], _, _, _, h, _ => by cases h
  | v :: vs, ρ, ρ2, hl, h, q => by
    unfold restR at q
    by_cases hv : v = i
    · subst hv
      have hv2 : v < ρ.length := by
        have := (List.getElem?_eq_some_iff.mp q).1
        rw [List.length_set, restR_len, hl] at this
        exact this
      rw [List.getElem?_set_self (by rw [restR_len, hl]; exact hv2)] at q
      rw [List.getElem?_eq_getElem hv2] at q ⊢
      exact q
    · rw [List.getElem?_set_ne hv] at q
      rcases List.mem_cons.mp h with h | h
      · exact absurd h.symm hv
      · exact restR_in hl h q
theorem Own.rest {vs : List Nat} {x : Addr} (e : wipeQ ρ vs = some ρw) (len : ρ2.length = ρ.length) (h : Own σ (restR ρ ρ2 vs) x) : Own (wipe σ vs) ρ2 x := by
  obtain ⟨i, xs, k, q1, q2⟩ := h
  have hn : i ∉ vs := fun hm => wipeQ_no e hm (restR_in len hm q1)
  rw [restR_out hn] at q1
  exact ⟨i, xs, k, q1, by rw [wipe_get hn]; exact q2⟩
theorem Stp.rest {vs : List Nat} (h : Rel G F H σ ρ) (e : wipeQ ρ vs = some ρw) (s : Stp G (wipe σ vs) ρw F H (wipe σ vs) ρ2 F2 H2) : Stp G σ ρ F H σ (restR ρ ρ2 vs) F2 H2 := by
  have len : ρ2.length = ρ.length := by
    rw [s.rel.len, wipe_length]; exact h.len.symm
  have own : ∀ {i : Nat} {xs : List D} {k : Bool}, (restR ρ ρ2 vs)[i]? = some (.own xs k) → i ∉ vs ∧ ρ2[i]? = some (.own xs k) := fun {i xs k} q => by
    have hn : i ∉ vs := fun hm => wipeQ_no e hm (restR_in len hm q)
    rw [restR_out hn] at q
    exact ⟨hn, q⟩
  have w := Stp.wiped h e
  have z := w.trans s
  refine ⟨⟨by rw [restR_len, len]; exact h.len, s.rel.sub, fun i t q ne => ?_, fun i j xs ys k l x q1 q2 q3 q4 => ?_⟩, z.ext, fun x ⟨i, xs, k, q1, q2⟩ => z.own x ?_, fun i xs q => ?_⟩
  · by_cases hm : i ∈ vs
    · have q := restR_in len hm q
      obtain ⟨v, q1, q2⟩ := h.sl i t q ne
      refine ⟨v, q1, ?_⟩
      cases t with
      | non => trivial
      | val d => exact Rep.mono z.ext.ff d v q2
      | own xs k => exact absurd q (wipeQ_no e hm)
    · rw [restR_out hm] at q
      obtain ⟨v, q1, q2⟩ := s.rel.sl i t q ne
      rw [wipe_get hm] at q1
      exact ⟨v, q1, q2⟩
  · obtain ⟨n1, r1⟩ := own q1
    obtain ⟨n2, r2⟩ := own q2
    exact s.rel.sep i j xs ys k l x r1 r2 (by rw [wipe_get n1]; exact q3) (by rw [wipe_get n2]; exact q4)
  · obtain ⟨n1, r1⟩ := own q1
    exact ⟨i, xs, k, r1, by rw [wipe_get n1]; exact q2⟩
  · have hn : i ∉ vs := fun hm => wipeQ_no e hm q
    obtain ⟨ys, q1, q2⟩ := z.bor i xs q
    exact ⟨ys, by rw [restR_out hn]; exact q1, rfl⟩
end
end Cr
namespace Cr
open PySem PySem.Spec PyProof.Rows L2
abbrev WF : WX := fun _ _ _ _ => False
section
variable {G : Glo} {C : CallF} {W : WX} {X : Cx} {e a b c : Expr} {A B Cc : E} {pos p : Pos} {σ σ' : L2.St} {ρ ρ' ρ2 ρw : Env} {F F' F2 H H' H2 : Hp} {Q : VK} {es : List Expr} {Es' : Es} {v : V} {d : D}
def testE (C : CallF) (c : E) (ρ : Env) : Res (Bool × Env) Env := if isNop c then .ok (true, ρ) else mkT c (ev C c) ρ
/-- the conditions of a comprehension -/
structure SndI (G : Glo) (C : CallF) (X : Cx) (ifs : List Expr) (c : E) : Prop where
  p : PTs X ifs fun σ H Q => ∃ F ρ, Rel G F H σ ρ ∧ Ask G WF σ ρ F H (testE C c ρ) fun b ρ' F' H' => Q b H'
theorem sndI_nil : SndI G C X [] .nop := ⟨⟨fun pins s σ H Q I h => by
  obtain ⟨F, ρ, hr, h⟩ := h
  exact pts_nil.run pins s σ H Q I (h F H (Stp.refl hr))⟩⟩
theorem sndI_one (h : Snd G C WF X c Cc) (hn : isNop Cc = false) : SndI G C X [c] Cc := ⟨⟨fun pins s σ H Q I h' => by
  obtain ⟨F, ρ, hr, h'⟩ := h'
  refine (pts_one h.t).run pins s σ H Q I ⟨F, ρ, hr, ?_⟩
  unfold testE at h'
  rw [if_neg (by rw [hn]; decide)] at h'
  exact h'⟩⟩
/-- the new list -/
structure AccAt (G : Glo) (F H : Hp) (σ : L2.St) (ρ : Env) (D : Addr) (ws : List V) (ds : List Cr.D) : Prop where
  h : H D = some (.lst ws)
  f : F D = none
  o : ¬ Own σ ρ D
  r : Reps G F ws ds
theorem AccAt.stp {D : Addr} {ws : List V} {ds : List Cr.D} (h : AccAt G F H σ ρ D ws ds) (s : Stp G σ ρ F H σ' ρ' F' H') : AccAt G F' H' σ' ρ' D ws ds := by
  refine ⟨s.ext.keep D _ h.h h.o, ?_, fun z => ?_, Reps.mono s.ext.ff ds ws h.r⟩
  · cases e : F' D with
    | none => rfl
    | some x =>
      rcases s.ext.nf D (by rw [e]; simp) with z | z | z
      · exact absurd h.f z
      · rw [h.h] at z; cases z
      · exact absurd z h.o
  · rcases s.own D z with z | z
    · exact h.o z
    · rw [h.h] at z; cases z
/-- the new list gets an item; nothing else of the frame is told by it -/
theorem AccAt.push {D : Addr} {ws : List V} {ds : List Cr.D} (h : AccAt G F H σ ρ D ws ds) (hr : Rel G F H σ ρ) (hv : Rep G F v d) :
    Rel G F (upd H D (.lst (ws ++ [v]))) σ ρ ∧ AccAt G F (upd H D (.lst (ws ++ [v]))) σ ρ D (ws ++ [v]) (ds ++ [d]) := by
  refine ⟨⟨hr.len, fun b x q => ?_, fun i s q ne => ?_, hr.sep⟩, ⟨upd_same, h.f, h.o, h.r.append (.cons hv .nil)⟩⟩
  · have hb : b ≠ D := ne_of_none q h.f
    rw [upd_ne hb]; exact hr.sub b x q
  · obtain ⟨u, q1, q2⟩ := hr.sl i s q ne
    refine ⟨u, q1, ?_⟩
    cases s with
    | non => trivial
    | val d => exact q2
    | own xs k =>
      obtain ⟨x, us, rfl, w1, w2, w3⟩ := q2
      have hx : x ≠ D := fun z => h.o ⟨i, xs, k, q, z ▸ q1⟩
      exact ⟨x, us, rfl, by rw [upd_ne hx]; exact w1, w2, w3⟩
/-- a step that may besides change the list at D, which was not there at the start -/
theorem Stp.acc {D : Addr} {ws : List V} (s : Stp G σ ρ F H σ' ρ' F' H') (hD : H D = none) (hr : Rel G F' (upd H' D (.lst ws)) σ' ρ') : Stp G σ ρ F H σ' ρ' F' (upd H' D (.lst ws)) := by
  refine ⟨hr, ⟨fun b o e n => ?_, fun b e => ?_, s.ext.ff, s.ext.nf⟩, s.own, s.bor⟩
  · have hb : b ≠ D := ne_of_none e hD
    rw [upd_ne hb]; exact s.ext.keep b o e n
  · by_cases hb : b = D
    · subst hb; rw [upd_same]; simp
    · rw [upd_ne hb]; exact s.ext.dom b e
variable {tg it elt : Expr} {ifs : List Expr} {scope : Scope} {own : List (Str × Nat)} {S : Sr} {t : T}
theorem lcGo_cons {test : Env → Res (Bool × Env) Env} {eltR : Env → Res (R × Env) Env} {ow : List Nat} {x : D} {xs acc ds : List D} {ρ ρ2 : Env} (h : lcGo t test eltR ow (x :: xs) ρ acc = .ok (ds, ρ2)) :
    ∃ ρa, setT t x ρ = some ρa ∧ ∃ b ρb, test ρa = .ok (b, ρb) ∧
      ((b = false ∧ ∃ ρd, wipeQ ρb ow = some ρd ∧ lcGo t test eltR ow xs ρd acc = .ok (ds, ρ2)) ∨
       (b = true ∧ ∃ d ρc ρd, mkD eltR ρb = .ok (d, ρc) ∧ wipeQ ρc ow = some ρd ∧ acc.length < sizeLine ∧ lcGo t test eltR ow xs ρd (acc ++ [d]) = .ok (ds, ρ2))) := by
  rw [lcGo.eq_def] at h
  dsimp only at h
  split at h
  · cases h
  · rename_i ρa ea
    refine ⟨ρa, ea, ?_⟩
    split at h
    · rename_i ρb eb
      refine ⟨false, ρb, eb, .inl ⟨rfl, ?_⟩⟩
      split at h
      · rename_i ρd ed
        exact ⟨ρd, ed, h⟩
      · cases h
    · rename_i ρb eb
      refine ⟨true, ρb, eb, .inr ⟨rfl, ?_⟩⟩
      split at h
      · rename_i d ρc ec
        split at h
        · rename_i ρd ed
          split at h
          · rename_i hl
            exact ⟨d, ρc, ρd, ec, ed, hl, h⟩
          · cases h
        · cases h
      · cases h
    · cases h
abbrev rI (G : Glo) (C : CallF) (c : E) : TT := fun σ H Q => ∃ F ρ, Rel G F H σ ρ ∧ Ask G WF σ ρ F H (testE C c ρ) fun b ρ' F' H' => Q b H'
theorem lc_wk {vs : List Nat} (hwk : S.weak = true → t.isT = true) (hsub : ∀ i ∈ t.slots, i ∈ vs) (h : rE G C W (.lc A t S Cc vs) σ H Q) : tLc (rS G C W S) (gTe G t) (rI G C Cc) (rD G C WF A) vs σ H Q := by
  obtain ⟨F, ρ, hr, h⟩ := h
  refine ⟨F, ρ, hr, Ask.imp (Ask.bd h) fun items ρ1 F1 H1 s1 h1 J wj D hD => ?_⟩
  replace h1 : Ask G W σ ρ1 F1 H1 (match wipeQ ρ1 vs with
    | some ρw => (match lcGo t (testE C Cc) (ev C A) vs items ρw [] with
      | .ok (ds, ρ2) => .ok (.fresh ds, restR ρ1 ρ2 vs)
      | _ => .stuck)
    | none => .stuck) fun r ρ' F' H' => ∀ v, RR G H σ ρ' F' H' v r → Q v H' := h1
  split at h1
  · rename_i ρw ew
    split at h1
    · rename_i ds ρ2 eg
      have r1 := s1.rel
      have hw := Stp.wiped r1 ew
      have fD : F1 D = none := r1.sub.free hD
      have oD : ¬ Own (wipe σ vs) ρw D := fun z => by
        obtain ⟨us, q1, _⟩ := Own.lst hw.rel z
        rw [hD] at q1; cases q1
      have st0 : Stp G (wipe σ vs) ρw F1 H1 (wipe σ vs) ρw F1 (upd H1 D (.lst [])) := Stp.lay hw.rel hD
      refine ⟨fun i m Hi => m = items.length - i ∧ i ≤ items.length ∧ ∃ Fi ρi ws acc, Stp G (wipe σ vs) ρw F1 H1 (wipe σ vs) ρi Fi Hi ∧ AccAt G Fi Hi (wipe σ vs) ρi D ws acc ∧ lcGo t (testE C Cc) (ev C A) vs (items.drop i) ρi acc = .ok (ds, ρ2),
        ⟨items.length, by simp, Nat.zero_le _, F1, ρw, [], [], st0, ⟨upd_same, fD, oD, .nil⟩, by simpa using eg⟩, ?_⟩
      rintro i m Hi ⟨rfl, hi, Fi, ρi, ws, acc, sti, ac, eg⟩
      by_cases hlt : i < items.length
      · obtain ⟨x, hx⟩ : ∃ x, items[i]? = some x := ⟨items[i], by simp [hlt]⟩
        have hdrop : items.drop i = x :: items.drop (i + 1) := by
          rw [List.drop_eq_getElem_cons hlt]
          rw [List.getElem?_eq_getElem hlt] at hx
          rw [Option.some.inj hx]
        rw [hdrop] at eg
        obtain ⟨ρa, ea, b, ρb, eb, hbr⟩ := lcGo_cons eg
        obtain ⟨hgo, hy⟩ := (wj Fi Hi sti.ext.ff sti.rel.sub i).1 x hx
        refine .inr ⟨hgo, fun H' => ∃ m', m' < items.length - i ∧ (m' = items.length - (i + 1) ∧ i + 1 ≤ items.length ∧ ∃ Fi ρi ws acc, Stp G (wipe σ vs) ρw F1 H1 (wipe σ vs) ρi Fi H' ∧ AccAt G Fi H' (wipe σ vs) ρi D ws acc ∧ lcGo t (testE C Cc) (ev C A) vs (items.drop (i + 1)) ρi acc = .ok (ds, ρ2)),
          fun H' z => z, fun y H' yl => ?_⟩
        obtain ⟨Fy, sy, ry⟩ := hy y H' yl _ _ sti.rel
        have st1 := sti.trans sy
        have ac1 := ac.stp sy
        refine ⟨Fy, ρi, x, ρa, sy.rel, ry.to hwk, ea, fun σ2 Fa Ha sa ga => ?_⟩
        have hwσ : wipe σ2 vs = wipe σ vs := (wipe_agr ga hsub).trans wipe_twice
        refine ⟨hwσ, Fa, ρa, sa.rel, ?_⟩
        rw [eb]
        intro Fb Hb sb
        have s02 := (st1.trans sa).trans sb
        have ac2 := (ac1.stp sa).stp sb
        rcases hbr with ⟨rfl, ρd, ed, eg'⟩ | ⟨rfl, d, ρc, ρd, ec, ed, hl, eg'⟩
        · show if false = true then _ else _
          rw [if_neg (by decide)]
          have sw := Stp.wiped sb.rel ed
          have s3 := s02.trans sw
          have ac3 := ac2.stp sw
          rw [hwσ] at s3 ac3
          exact ⟨_, by omega, rfl, hlt, Fb, ρd, ws, acc, s3, ac3, eg'⟩
        · show if true = true then _ else _
          rw [if_pos rfl]
          refine ⟨Fb, ρb, sb.rel, ?_⟩
          rw [ec]
          intro Fc Hc sc u ru
          have sw := Stp.wiped sc.rel ed
          have s3 := (s02.trans sc).trans sw
          have ac3 := (ac2.stp sc).stp sw
          rw [hwσ] at s3 ac3
          obtain ⟨r4, ac4⟩ := ac3.push s3.rel ru
          exact ⟨ws, ac3.h, by rw [ac3.r.length]; exact hl, _, by omega, rfl, hlt, Fc, ρd, _, _, Stp.acc s3 hD r4, ac4, eg'⟩
      · have e : i = items.length := by omega
        subst e
        have hst := (wj Fi Hi sti.ext.ff sti.rel.sub items.length).2 (Nat.le_refl _)
        rw [List.drop_length] at eg
        unfold lcGo at eg
        cases eg
        have sr := Stp.rest r1 ew sti
        refine .inl ⟨hst, h1 Fi Hi sr _ ⟨D, ws, rfl, ac.h, ac.f, fun z => ?_, s1.free hD, ac.r⟩⟩
        exact ac.o (Own.rest ew (by rw [sti.rel.len, wipe_length]; exact r1.len.symm) z)
    · exact h1.elim
  · exact h1.elim
theorem snd_lc (hwk : S.weak = true → t.isT = true) (hc : X.calm = true) (hN : X.N.Nodup) (hs : SndS G C W X tg it S) (ok : BlkOk X.N X.env.scope scope own) (hsub : ∀ i ∈ t.slots, i ∈ own.map (·.2))
    (hb : ∀ (s : Shared) (H : Hp) (Ca : Addr) (cl : List (Str × Addr)) (fp : List Addr), SndT G (X.blk s H scope (compEnvC scope cl Ca X.env) fp) tg t ∧ SndI G C (X.blk s H scope (compEnvC scope cl Ca X.env) fp) ifs Cc ∧ Snd G C WF (X.blk s H scope (compEnvC scope cl Ca X.env) fp) elt A) (hK : X.K = G.K) :
    Snd G C W X (.ListComp elt [⟨tg, it, ifs, 0⟩] scope pos) (.lc A t S Cc (own.map (·.2))) :=
  Snd.mk1 (pewk (pe_lc hc hN hs.p ok (fun s H Ca cl fp => (hb s H Ca cl fp).1.p) (fun s H Ca cl fp => (hb s H Ca cl fp).2.1.p) (fun s H Ca cl fp => (hb s H Ca cl fp).2.2.d) hs.s) fun σ H Q h => lc_wk hwk hsub h) rfl hK fun _ => rfl
end
end Cr
namespace Cr
open PySem PySem.Spec PyProof.Rows L2
section
variable {G : Glo} {C : CallF} {W : WX} {X : Cx} {e a b c : Expr} {A B Cc : E} {pos p : Pos} {σ σ' : L2.St} {ρ ρ' ρ2 ρw : Env} {F F' F2 H H' H2 H0 : Hp} {Q : VK} {es : List Expr} {Es' : Es} {v : V} {d : D}
inductive ARs (G : Glo) (F H : Hp) : List V → List Arg → Prop
  | nil : ARs G F H [] []
  | val {v : V} {vs : List V} {d : D} {as : List Arg} : Rep G F v d → ARs G F H vs as → ARs G F H (v :: vs) (.val d :: as)
  | mm {a : Addr} {ws vs : List V} {xs : List D} {as : List Arg} : H a = some (.lst ws) → F a = none → Reps G F ws xs → ARs G F H vs as → ARs G F H (.ref a :: vs) (.mut xs :: as)
theorem ARs.length {vs : List V} {as : List Arg} (h : ARs G F H vs as) : vs.length = as.length := by
  induction h with
  | nil => rfl
  | val _ _ ih => simp [ih]
  | mm _ _ _ _ ih => simp [ih]
theorem ARs.mutAt {vs : List V} {as : List Arg} (h : ARs G F H vs as) : ∀ {q : Nat} {xs : List D}, as[q]? = some (.mut xs) → ∃ a ws, vs[q]? = some (.ref a) ∧ H a = some (.lst ws) ∧ F a = none ∧ Reps G F ws xs := by
  induction h with
  | nil => intro q xs e; simp at e
  | val _ _ ih =>
    intro q xs e
    cases q with
    | zero => simp at e
    | succ q => simpa using ih (by simpa using e)
  | mm h1 h2 h3 _ ih =>
    intro q xs e
    cases q with
    | zero => simp at e; subst e; exact ⟨_, _, rfl, h1, h2, h3⟩
    | succ q => simpa using ih (by simpa using e)
def MutA (vs : List V) (as : List Arg) (x : Addr) : Prop := ∃ (q : Nat) (xs : List D), as[q]? = some (.mut xs) ∧ vs[q]? = some (.ref x)
def SepA (vs : List V) (as : List Arg) : Prop := ∀ (i j : Nat) (xs ys : List D) (x : Addr), as[i]? = some (.mut xs) → as[j]? = some (.mut ys) → vs[i]? = some (.ref x) → vs[j]? = some (.ref x) → i = j
def RRF (G : Glo) (H F' H' : Hp) (v : V) : R → Prop
  | .val d => Rep G F' v d
  | .fresh xs => ∃ a ws, v = .ref a ∧ H' a = some (.lst ws) ∧ F' a = none ∧ H a = none ∧ Reps G F' ws xs
/-- what function f promises, told the evaluator -/
def spF (G : Glo) (C : CallF) (f : Nat) : Sp := fun vs H Q E => ∃ F as, Same F H ∧ ARs G F H vs as ∧ SepA vs as ∧ match C f as with
  | .ok (r, bs) => ∀ v F' H', Ext (MutA vs as) F H F' H' → Same F' H' → ARs G F' H' vs bs → RRF G H F' H' v r → Q v H'
  | .exc c x bs => ∀ F' H', Ext (MutA vs as) F H F' H' → Same F' H' → ARs G F' H' vs bs → ∀ cls d, ExR G F' H' c x cls d → E cls d H'
  | .stuck => False
def OA (G : Glo) (σ : L2.St) (ρ : Env) (F H H0 : Hp) (v : V) : Opd → Prop
  | .val d => Rep G F v d
  | .slot i => σ[i]? = some (some v)
  | .tmp xs => RR G H0 σ ρ F H v (.fresh xs)
inductive OAs (G : Glo) (σ : L2.St) (ρ : Env) (F H H0 : Hp) : List V → List Opd → Prop
  | nil : OAs G σ ρ F H H0 [] []
  | cons {v : V} {vs : List V} {o : Opd} {os : List Opd} : OA G σ ρ F H H0 v o → OAs G σ ρ F H H0 vs os → OAs G σ ρ F H H0 (v :: vs) (o :: os)
theorem OA.mono (s : Stp G σ ρ F H σ ρ' F' H') {o : Opd} (q : OA G σ ρ F H H0 v o) : OA G σ ρ' F' H' H0 v o := by
  cases o with
  | val d => exact Rep.mono s.ext.ff d v q
  | slot i => exact q
  | tmp xs => exact RR.mono s (show RR G H0 σ ρ F H v (.fresh xs) from q)
theorem OA.back {σ0 : L2.St} {ρ0 : Env} {F0 H1 : Hp} (s : Stp G σ0 ρ0 F0 H0 σ ρ' F' H1) {o : Opd} (q : OA G σ ρ F H H1 v o) : OA G σ ρ F H H0 v o := by
  cases o with
  | val d => exact q
  | slot i => exact q
  | tmp xs => exact RR.back s (show RR G H1 σ ρ F H v (.fresh xs) from q)
theorem OAs.mono (s : Stp G σ ρ F H σ ρ' F' H') {vs : List V} {os : List Opd} (q : OAs G σ ρ F H H0 vs os) : OAs G σ ρ' F' H' H0 vs os := by
  induction q with
  | nil => exact .nil
  | cons h _ ih => exact .cons (OA.mono s h) ih
theorem OAs.back {σ0 : L2.St} {ρ0 : Env} {F0 H1 : Hp} (s : Stp G σ0 ρ0 F0 H0 σ ρ' F' H1) {vs : List V} {os : List Opd} (q : OAs G σ ρ F H H1 vs os) : OAs G σ ρ F H H0 vs os := by
  induction q with
  | nil => exact .nil
  | cons h _ ih => exact .cons (OA.back s h) ih
theorem OAs.at {vs : List V} {os : List Opd} (q : OAs G σ ρ F H H0 vs os) : ∀ {i : Nat} {o : Opd}, os[i]? = some o → ∃ v, vs[i]? = some v ∧ OA G σ ρ F H H0 v o := by
  induction q with
  | nil => intro i o e; simp at e
  | cons h _ ih =>
    intro i o e
    cases i with
    | zero => simp at e; subst e; exact ⟨_, rfl, h⟩
    | succ i => simpa using ih (by simpa using e)
def rA (G : Glo) (C : CallF) (W : WX) (e : E) : TE := fun σ H Q => ∃ F ρ, Rel G F H σ ρ ∧ Ask G W σ ρ F H (mkA e (ev C e) ρ) fun o ρ' F' H' => ∀ v, OA G σ ρ' F' H' H v o → Q v H'
def rAs (G : Glo) (C : CallF) (W : WX) (es : Es) : TA := fun σ H Q => ∃ F ρ, Rel G F H σ ρ ∧ Ask G W σ ρ F H (evAs C es ρ) fun os ρ' F' H' => ∀ vs, OAs G σ ρ' F' H' H vs os → Q vs H'
structure SndA (G : Glo) (C : CallF) (W : WX) (X : Cx) (e : Expr) (E : E) : Prop where
  p : PE X e (rA G C W E)
structure SndAs (G : Glo) (C : CallF) (W : WX) (X : Cx) (es : List Expr) (E : Es) : Prop where
  p : PA X es (rAs G C W E)
  s : es.all NoStar = true
def isM : E → Bool
  | .mref _ | .fre _ => true
  | _ => false
theorem sndA_val (h : Snd G C W X e A) (hn : isM A = false) : SndA G C W X e A := by
  refine ⟨pewk h.d fun σ H Q q => ?_⟩
  obtain ⟨F, ρ, hr, q⟩ := q
  refine ⟨F, ρ, hr, ?_⟩
  have q : Ask G W σ ρ F H ((mkD (ev C A) ρ).bd fun (d, ρ') => .ok (.val d, ρ')) fun o ρ' F' H' => ∀ v, OA G σ ρ' F' H' H v o → Q v H' := by
    cases A <;> first | exact q | cases hn
  refine Ask.imp (Ask.bd q) fun d ρ1 F1 H1 s1 h1 v rp => ?_
  exact Ask.ok h1 s1.rel v rp
theorem sndA_ref {i : Nat} {x : Str} (h : Snd G C W X (.Name x pos) (.var i)) : SndA G C W X (.Name x pos) (.mref i) := by
  refine ⟨pewk h.o fun σ H Q q => ?_⟩
  obtain ⟨F, ρ, hr, q⟩ := q
  refine ⟨F, ρ, hr, ?_⟩
  simp only [mkA] at q
  simp only [mkO]
  split at q
  · rename_i xs k e
    rw [e]
    exact fun F' H' s v rp => q F' H' s v rp
  · exact q.elim
theorem sndA_fre (h : Snd G C W X e A) : SndA G C W X e (.fre A) := by
  refine ⟨pewk h.v fun σ H Q q => ?_⟩
  obtain ⟨F, ρ, hr, q⟩ := q
  refine ⟨F, ρ, hr, ?_⟩
  have q : Ask G W σ ρ F H ((ev C A ρ).bd fun (r, ρ') => (match r with
    | .fresh xs => .ok (.tmp xs, ρ')
    | _ => .stuck)) fun o ρ' F' H' => ∀ v, OA G σ ρ' F' H' H v o → Q v H' := q
  refine Ask.imp (Ask.bd q) fun r ρ1 F1 H1 s1 h1 v rp => ?_
  cases r with
  | val d => exact h1.elim
  | fresh xs => exact Ask.ok h1 s1.rel v (RR.back (Stp.refl hr) rp)
theorem sndAs_nil : SndAs G C W X [] .nil := ⟨pawk pa_nil fun σ H Q ⟨F, ρ, hr, h⟩ => h F H (Stp.refl hr) [] .nil, rfl⟩
theorem sndAs_cons (ha : SndA G C W X a A) (hs : NoStar a = true) (hb : SndAs G C W X es Es') : SndAs G C W X (a :: es) (.cons A Es') := by
  refine ⟨pawk (pa_cons ha.p hb.p (star_cons hs)) fun σ H Q h => ?_, by rw [List.all_cons, hs, hb.s]; rfl⟩
  obtain ⟨F, ρ, hr, h⟩ := h
  refine ⟨F, ρ, hr, Ask.imp (Ask.bd h) fun d ρ1 F1 H1 s1 h1 v q => ⟨F1, ρ1, s1.rel, Ask.imp (Ask.bd h1) fun ds ρ2 F2 H2 s2 h2 vs q2 => ?_⟩⟩
  exact Ask.ok h2 s2.rel (v :: vs) (.cons (OA.mono s2 q) (OAs.back s1 q2))
theorem nodupB_cons {x : Nat} {l : List Nat} (h : nodupB (x :: l) = true) : x ∉ l ∧ nodupB l = true := by
  unfold nodupB at h
  simp only [Bool.and_eq_true, Bool.not_eq_true', List.contains_eq_mem, decide_eq_false_iff_not] at h
  exact h
theorem backS_get : ∀ {os : List Opd} {bs : List Arg} {ρ ρ2 : Env}, backS ρ os bs = some ρ2 → nodupB (slotsOf os) = true →
    ρ2.length = ρ.length ∧ (∀ i, i ∉ slotsOf os → ρ2[i]? = ρ[i]?) ∧ ∀ i, i ∈ slotsOf os → ∃ (q : Nat) (ys : List D) (k : Bool) (xs : List D), os[q]? = some (.slot i) ∧ bs[q]? = some (.mut ys) ∧ ρ[i]? = some (.own xs k) ∧ ρ2[i]? = some (.own ys k)
  | [], [], ρ, ρ2, e, _ => by
    cases e
    exact ⟨rfl, fun _ _ => rfl, fun i h => by simp [slotsOf] at h⟩
  | .val _ :: os, .val _ :: bs, ρ, ρ2, e, hn => by
    obtain ⟨h1, h2, h3⟩ := backS_get (os := os) (bs := bs) (ρ := ρ) (ρ2 := ρ2) e hn
    refine ⟨h1, h2, fun i hi => ?_⟩
    obtain ⟨q, ys, k, xs, r⟩ := h3 i hi
    exact ⟨q + 1, ys, k, xs, by simpa using r⟩
  | .tmp _ :: os, .mut _ :: bs, ρ, ρ2, e, hn => by
    obtain ⟨h1, h2, h3⟩ := backS_get (os := os) (bs := bs) (ρ := ρ) (ρ2 := ρ2) e hn
    refine ⟨h1, h2, fun i hi => ?_⟩
    obtain ⟨q, ys, k, xs, r⟩ := h3 i hi
    exact ⟨q + 1, ys, k, xs, by simpa using r⟩
  | .slot j :: os, .mut zs :: bs, ρ, ρ2, e, hn => by
    unfold backS at e
    split at e
    · rename_i xs k ej
      obtain ⟨nj, hn'⟩ := nodupB_cons (x := j) (l := slotsOf os) hn
      have hj : j < ρ.length := (List.getElem?_eq_some_iff.mp ej).1
      obtain ⟨h1, h2, h3⟩ := backS_get e hn'
      refine ⟨by rw [h1, List.length_set], fun i hi => ?_, fun i hi => ?_⟩
      · simp only [slotsOf, List.mem_cons, not_or] at hi
        rw [h2 i hi.2, List.getElem?_set_ne (Ne.symm hi.1)]
      · by_cases hij : i = j
        · subst hij
          exact ⟨0, zs, k, xs, rfl, rfl, ej, by rw [h2 i nj, List.getElem?_set_self hj]⟩
        · simp only [slotsOf, List.mem_cons] at hi
          rcases hi with hi | hi
          · exact absurd hi hij
          · obtain ⟨q, ys, k', xs', r1, r2, r3, r4⟩ := h3 i hi
            rw [List.getElem?_set_ne (Ne.symm hij)] at r3
            exact ⟨q + 1, ys, k', xs', by simpa using r1, by simpa using r2, r3, r4⟩
    · cases e
  | [], _ :: _, _, _, e, _ => by cases e
  | .val _ :: _, [], _, _, e, _ => by cases e
  | .slot _ :: _, [], _, _, e, _ => by cases e
  | .tmp _ :: _, [], _, _, e, _ => by cases e
  | .val _ :: _, .mut _ :: _, _, _, e, _ => by cases e
  | .slot _ :: _, .val _ :: _, _, _, e, _ => by cases e
  | .tmp _ :: _, .val _ :: _, _, _, e, _ => by cases e
theorem args_at : ∀ {os : List Opd} {as : List Arg} {ρ : Env}, argsOf ρ os = some as → ∀ (q : Nat) (xs : List D), as[q]? = some (.mut xs) → (∃ i k, os[q]? = some (.slot i) ∧ ρ[i]? = some (.own xs k)) ∨ os[q]? = some (.tmp xs)
  | [], as, ρ, e => by
    cases e
    intro q xs h
    simp at h
  | o :: os, as, ρ, e => by
    unfold argsOf at e
    split at e
    · rename_i d ds e1 e2
      cases e
      intro q xs h
      cases q with
      | zero =>
        simp at h
        subst h
        cases o with
        | val d => cases e1
        | tmp ys => cases e1; exact .inr rfl
        | slot i =>
          simp only [argOf] at e1
          split at e1
          · rename_i ys k e3
            cases e1
            exact .inl ⟨i, k, rfl, e3⟩
          · cases e1
      | succ q => simpa using args_at e2 q xs (by simpa using h)
    · cases e
theorem args_rep (hr : Rel G F H σ ρ) : ∀ {os : List Opd} {as : List Arg} {vs : List V}, argsOf ρ os = some as → OAs G σ ρ F H H0 vs os → ARs G F H vs as
  | [], as, vs, e, q => by cases e; cases q; exact .nil
  | o :: os, as, vs, e, q => by
    unfold argsOf at e
    split at e
    · rename_i d ds e1 e2
      cases e
      cases q with
      | cons q1 q2 =>
        have r := args_rep hr e2 q2
        cases o with
        | val d => cases e1; exact .val q1 r
        | tmp ys =>
          cases e1
          obtain ⟨a, ws, rfl, h1, h2, h3, h4, h5⟩ := q1
          exact .mm h1 h2 h5 r
        | slot i =>
          simp only [argOf] at e1
          split at e1
          · rename_i ys k e3
            cases e1
            obtain ⟨a, ws, f1, f2, f3, f4⟩ := hr.ownAt e3
            have q1 : σ[i]? = _ := q1
            rw [f1] at q1
            cases q1
            exact .mm f2 f3 f4 r
          · cases e1
    · cases e
theorem slot_mem : ∀ {os : List Opd} {q i : Nat}, os[q]? = some (.slot i) → i ∈ slotsOf os
  | [], q, i, e => by simp at e
  | o :: os, 0, i, e => by simp at e; subst e; simp [slotsOf]
  | o :: os, q + 1, i, e => by
    have h := slot_mem (os := os) (q := q) (i := i) (by simpa using e)
    cases o <;> simp [slotsOf, h]
theorem slot_inj : ∀ {os : List Opd} {p q i : Nat}, nodupB (slotsOf os) = true → os[p]? = some (.slot i) → os[q]? = some (.slot i) → p = q
  | [], p, q, i, _, e, _ => by simp at e
  | o :: os, 0, 0, i, _, _, _ => rfl
  | o :: os, 0, q + 1, i, hn, e1, e2 => by
    simp at e1; subst e1
    exact absurd (slot_mem (os := os) (q := q) (by simpa using e2)) (nodupB_cons hn).1
  | o :: os, p + 1, 0, i, hn, e1, e2 => by
    simp at e2; subst e2
    exact absurd (slot_mem (os := os) (q := p) (by simpa using e1)) (nodupB_cons hn).1
  | o :: os, p + 1, q + 1, i, hn, e1, e2 => by
    have hn' : nodupB (slotsOf os) = true := by
      cases o with
      | slot j => exact (nodupB_cons hn).2
      | val d => exact hn
      | tmp xs => exact hn
    exact congrArg (· + 1) (slot_inj (os := os) (p := p) (q := q) (i := i) hn' (by simpa using e1) (by simpa using e2))
theorem tmps_pos : ∀ {os : List Opd} {q : Nat} {xs : List D}, os[q]? = some (.tmp xs) → 0 < tmps os
  | [], q, xs, e => by simp at e
  | o :: os, 0, xs, e => by simp at e; subst e; simp [tmps]
  | o :: os, q + 1, xs, e => by
    have h := tmps_pos (os := os) (q := q) (xs := xs) (by simpa using e)
    cases o <;> simp [tmps, h]
theorem tmp_one : ∀ {os : List Opd} {p q : Nat} {xs ys : List D}, tmps os ≤ 1 → os[p]? = some (.tmp xs) → os[q]? = some (.tmp ys) → p = q
  | [], p, q, xs, ys, _, e, _ => by simp at e
  | o :: os, 0, 0, xs, ys, _, _, _ => rfl
  | o :: os, 0, q + 1, xs, ys, hn, e1, e2 => by
    simp at e1; subst e1
    have := tmps_pos (os := os) (q := q) (xs := ys) (by simpa using e2)
    simp only [tmps] at hn; omega
  | o :: os, p + 1, 0, xs, ys, hn, e1, e2 => by
    simp at e2; subst e2
    have := tmps_pos (os := os) (q := p) (xs := xs) (by simpa using e1)
    simp only [tmps] at hn; omega
  | o :: os, p + 1, q + 1, xs, ys, hn, e1, e2 => by
    have hn' : tmps os ≤ 1 := by cases o <;> simp only [tmps] at hn <;> omega
    exact congrArg (· + 1) (tmp_one (os := os) (p := p) (q := q) (xs := xs) (ys := ys) hn' (by simpa using e1) (by simpa using e2))
theorem args_sep (hr : Rel G F H σ ρ) {os : List Opd} {as : List Arg} {vs : List V} (e : argsOf ρ os = some as) (q : OAs G σ ρ F H H0 vs os) (hn : nodupB (slotsOf os) = true) (ht : tmps os ≤ 1) : SepA vs as := by
  intro i j xs ys x h1 h2 h3 h4
  rcases args_at e _ _ h1 with ⟨m, k, o1, r1⟩ | o1
  · have s1 : σ[m]? = some (some (.ref x)) := by
      obtain ⟨v, v1, v2⟩ := q.at o1
      rw [h3] at v1; cases v1; exact v2
    rcases args_at e _ _ h2 with ⟨n, l, o2, r2⟩ | o2
    · have s2 : σ[n]? = some (some (.ref x)) := by
        obtain ⟨v, v1, v2⟩ := q.at o2
        rw [h4] at v1; cases v1; exact v2
      have := hr.sep m n xs ys k l x r1 r2 s1 s2
      subst this
      exact slot_inj hn o1 o2
    · obtain ⟨v, v1, a, ws, rfl, w1, w2, w3, w4⟩ := q.at o2
      rw [h4] at v1; cases v1
      exact absurd ⟨m, xs, k, r1, s1⟩ w3
  · obtain ⟨v, v1, a, ws, rfl, w1, w2, w3, w4⟩ := q.at o1
    rw [h3] at v1; cases v1
    rcases args_at e _ _ h2 with ⟨n, l, o2, r2⟩ | o2
    · have s2 : σ[n]? = some (some (.ref x)) := by
        obtain ⟨v, v1, v2⟩ := q.at o2
        rw [h4] at v1; cases v1; exact v2
      exact absurd ⟨n, ys, l, r2, s2⟩ w3
    · exact tmp_one ht o1 o2
theorem mut_own {os : List Opd} {as : List Arg} {vs : List V} (e : argsOf ρ os = some as) (q : OAs G σ ρ F H H0 vs os) {x : Addr} (h : MutA vs as x) : (∃ i xs k, i ∈ slotsOf os ∧ ρ[i]? = some (.own xs k) ∧ σ[i]? = some (some (.ref x))) ∨ (¬ Own σ ρ x ∧ H0 x = none) := by
  obtain ⟨m, xs, h1, h2⟩ := h
  rcases args_at e _ _ h1 with ⟨i, k, o1, r1⟩ | o1
  · obtain ⟨v, v1, v2⟩ := q.at o1
    rw [h2] at v1; cases v1
    exact .inl ⟨i, xs, k, slot_mem o1, r1, v2⟩
  · obtain ⟨v, v1, a, ws, rfl, w1, w2, w3, w4, _⟩ := q.at o1
    rw [h2] at v1; cases v1
    exact .inr ⟨w3, w4⟩
theorem back_stp {os : List Opd} {as bs : List Arg} {vs : List V} {F0 : Hp} {ρ0 : Env} (s : Stp G σ ρ0 F0 H0 σ ρ F H) (e : argsOf ρ os = some as) (q : OAs G σ ρ F H H0 vs os) (hn : nodupB (slotsOf os) = true)
    (eb : backS ρ os bs = some ρ2) (x : Ext (MutA vs as) F H F' H') (sm : Same F' H') (rb : ARs G F' H' vs bs) : Stp G σ ρ0 F0 H0 σ ρ2 F' H' := by
  have hr := s.rel
  obtain ⟨l1, l2, l3⟩ := backS_get eb hn
  have own : ∀ {i : Nat} {ys : List D} {k : Bool}, ρ2[i]? = some (.own ys k) → ∃ xs, ρ[i]? = some (.own xs k) := fun {i ys k} h => by
    by_cases hi : i ∈ slotsOf os
    · obtain ⟨_, _, k', xs, _, _, r3, r4⟩ := l3 i hi
      rw [r4] at h; cases h
      exact ⟨xs, r3⟩
    · rw [l2 i hi] at h; exact ⟨ys, h⟩
  have ownR : ∀ {z : Addr}, Own σ ρ2 z → Own σ ρ z := fun {z} ⟨i, ys, k, h1, h2⟩ => by
    obtain ⟨xs, h3⟩ := own h1
    exact ⟨i, xs, k, h3, h2⟩
  refine ⟨⟨by rw [l1]; exact hr.len, sm, fun i t h ne => ?_, fun i j xs ys k l z h1 h2 h3 h4 => ?_⟩, s.ext.trans x fun z hz => ?_, fun z hz => s.own z (ownR hz), fun i xs h => ?_⟩
  · by_cases hi : i ∈ slotsOf os
    · obtain ⟨m, ys, k, xs, r1, r2, r3, r4⟩ := l3 i hi
      rw [r4] at h; cases h
      obtain ⟨a, ws, u1, u2, u3, u4⟩ := rb.mutAt r2
      obtain ⟨v, v1, v2⟩ := q.at r1
      rw [u1] at v1; cases v1
      exact ⟨_, v2, a, ws, rfl, u2, u3, u4⟩
    · rw [l2 i hi] at h
      obtain ⟨v, h1, h2⟩ := hr.sl i t h ne
      refine ⟨v, h1, ?_⟩
      cases t with
      | non => trivial
      | val d => exact Rep.mono x.ff d v h2
      | own xs k =>
        obtain ⟨a, ws, rfl, w1, w2, w3⟩ := h2
        have nm : ¬ MutA vs as a := fun hm => by
          rcases mut_own e q hm with ⟨j, ys, l, j1, j2, j3⟩ | ⟨j1, _⟩
          · exact hi (hr.sep i j xs ys k l a h j2 h1 j3 ▸ j1)
          · exact j1 ⟨i, xs, k, h, h1⟩
        refine ⟨a, ws, rfl, x.keep a _ w1 nm, ?_, Reps.mono x.ff xs ws w3⟩
        cases ef : F' a with
        | none => rfl
        | some o =>
          rcases x.nf a (by rw [ef]; simp) with z | z | z
          · exact absurd w2 z
          · rw [w1] at z; cases z
          · exact absurd z nm
  · obtain ⟨xs', h1'⟩ := own h1
    obtain ⟨ys', h2'⟩ := own h2
    exact hr.sep i j xs' ys' k l z h1' h2' h3 h4
  · rcases mut_own e q hz with ⟨j, ys, l, j1, j2, j3⟩ | ⟨_, j2⟩
    · exact s.own z ⟨j, ys, l, j2, j3⟩
    · exact .inr j2
  · obtain ⟨ys, h1, h2⟩ := s.bor i xs h
    by_cases hi : i ∈ slotsOf os
    · obtain ⟨m, zs, k, xs', r1, r2, r3, r4⟩ := l3 i hi
      rw [h1] at r3; cases r3
      exact ⟨zs, r4, h2⟩
    · exact ⟨ys, by rw [l2 i hi]; exact h1, h2⟩
end
end Cr
namespace Cr
open PySem PySem.Spec PyProof.Rows L2
section
variable {G : Glo} {C : CallF} {W : WX} {X : Cx} {e a b c : Expr} {A B Cc : E} {pos p : Pos} {σ σ' : L2.St} {ρ ρ' ρ2 ρw : Env} {F F' F2 H H' H2 H0 : Hp} {Q : VK} {es : List Expr} {Es' : Es} {v : V} {d : D}
theorem Ask.move {α : Type} {x : Res (α × Env) Env} {k : α → Env → Hp → Hp → Prop} (s : Stp G σ ρ F H σ ρ' F' H') (h : Ask G W σ ρ F H x k) : Ask G W σ ρ' F' H' x k := by
  cases x with
  | ok p => exact fun F2 H2 s2 => h F2 H2 (s.trans s2)
  | exc c y b => exact fun F2 H2 s2 => h F2 H2 (s.trans s2)
  | stuck => exact h
theorem call_core {f : Nat} {os : List Opd} {ρ1 : Env} {F1 H1 : Hp} {vs : List V} (hr : Rel G F H σ ρ) (h : Ask G W σ ρ F H (callR C f os ρ1) fun r ρ' F' H' => ∀ v, RR G H σ ρ' F' H' v r → Q v H') (s1 : Stp G σ ρ F H σ ρ1 F1 H1) (q : OAs G σ ρ1 F1 H1 H vs os) : spF G C f vs H1 Q (WE W σ) := by
  unfold callR at h
  split at h
  · rename_i as en e1
    simp only [Bool.and_eq_true, decide_eq_true_eq] at en
    refine ⟨F1, as, s1.rel.sub, args_rep s1.rel e1 q, args_sep s1.rel e1 q en.1 en.2, ?_⟩
    split at h
    · rename_i r bs ec
      try rw [ec]
      split at h
      · rename_i ρ2 eb
        intro v F' H' x sm rb rr
        have st := back_stp s1 e1 q en.1 eb x sm rb
        refine h F' H' st v ?_
        cases r with
        | val d => exact rr
        | fresh xs =>
          obtain ⟨a, ws, rfl, k1, k2, k3, k4⟩ := rr
          refine ⟨a, ws, rfl, k1, k2, fun z => ?_, s1.free k3, k4⟩
          rcases st.own a z with z' | z'
          · obtain ⟨us, z1, _⟩ := Own.lst hr z'
            have := s1.ext.dom a (by rw [z1]; simp)
            exact this k3
          · -- a new list of the frame: it stands in a slot, so it stood in it
            obtain ⟨l1, l2, l3⟩ := backS_get eb en.1
            obtain ⟨i, ys, k, o1, o2⟩ := z
            have old : ∃ xs', ρ1[i]? = some (.own xs' k) := by
              by_cases hi : i ∈ slotsOf os
              · obtain ⟨_, _, k', xs', _, _, r3, r4⟩ := l3 i hi
                rw [r4] at o1; cases o1
                exact ⟨xs', r3⟩
              · rw [l2 i hi] at o1; exact ⟨ys, o1⟩
            obtain ⟨xs', o3⟩ := old
            obtain ⟨us, z1, _⟩ := Own.lst s1.rel ⟨i, xs', k, o3, o2⟩
            rw [k3] at z1; cases z1
      · exact h.elim
    · rename_i c x bs ec
      try rw [ec]
      split at h
      · rename_i ρ2 eb
        exact fun F' H' x sm rb cls d q2 => h F' H' (back_stp s1 e1 q en.1 eb x sm rb) cls d q2
      · exact h.elim
    · exact h.elim
  · exact h.elim
theorem call_wk {f : Nat} (h : rE G C W (.call f Es') σ H Q) : rAs G C W Es' σ H fun vs H1 => spF G C f (vs ++ []) H1 Q (WE W σ) := by
  obtain ⟨F, ρ, hr, h⟩ := h
  refine ⟨F, ρ, hr, ?_⟩
  have h : Ask G W σ ρ F H ((evAs C Es' ρ).bd fun (os, ρ1) => callR C f os ρ1) fun r ρ' F' H' => ∀ v, RR G H σ ρ' F' H' v r → Q v H' := h
  cases ea : evAs C Es' ρ with
  | stuck => rw [ea] at h; exact h
  | exc c x ρ1 => rw [ea] at h; exact h
  | ok pr =>
    rw [ea] at h
    intro F1 H1 s1 vs q
    rw [List.append_nil]
    exact call_core hr h s1 q
theorem OAs.perm {vs : List V} {os : List Opd} (q : OAs G σ ρ F H H0 vs os) (pm : List Nat) : OAs G σ ρ F H H0 (permL pm vs) (permL pm os) := by
  have hl : vs.length = os.length := by
    induction q with
    | nil => rfl
    | cons _ _ ih => simp [ih]
  induction pm with
  | nil => exact .nil
  | cons i pm ih =>
    unfold permL at ih ⊢
    cases e : os[i]? with
    | none =>
      have e2 : vs[i]? = none := by
        rw [List.getElem?_eq_none_iff] at e ⊢
        omega
      rw [List.filterMap_cons, List.filterMap_cons, e, e2]
      exact ih
    | some o =>
      obtain ⟨v, e2, r⟩ := q.at e
      rw [List.filterMap_cons, List.filterMap_cons, e, e2]
      exact .cons r ih
theorem callk_wk {f : Nat} {pm : List Nat} (h : rE G C W (.callk f Es' pm) σ H Q) : rAs G C W Es' σ H fun vs H1 => spF G C f (permL pm vs) H1 Q (WE W σ) := by
  obtain ⟨F, ρ, hr, h⟩ := h
  refine ⟨F, ρ, hr, ?_⟩
  have h : Ask G W σ ρ F H ((evAs C Es' ρ).bd fun (os, ρ1) => callR C f (permL pm os) ρ1) fun r ρ' F' H' => ∀ v, RR G H σ ρ' F' H' v r → Q v H' := h
  cases ea : evAs C Es' ρ with
  | stuck => rw [ea] at h; exact h
  | exc c x ρ1 => rw [ea] at h; exact h
  | ok pr =>
    rw [ea] at h
    intro F1 H1 s1 vs q
    exact call_core hr h s1 (q.perm pm)
def Es.app : Es → Es → Es
  | .nil, b => b
  | .cons e es, b => .cons e (Es.app es b)
theorem Res.bd_bd {α β γ δ : Type} (x : Res α β) (f : α → Res γ β) (g : γ → Res δ β) : (x.bd f).bd g = x.bd fun a => (f a).bd g := by
  cases x <;> rfl
theorem Res.bd_congr {α β γ : Type} (x : Res α β) {f g : α → Res γ β} (h : ∀ a, f a = g a) : x.bd f = x.bd g := by
  cases x <;> first | rfl | exact h _
theorem evAs_app {E2 : Es} : ∀ (E1 : Es) (ρ : Env), evAs C (E1.app E2) ρ = (evAs C E1 ρ).bd fun (os, ρ1) => (evAs C E2 ρ1).bd fun (os2, ρ2) => .ok (os ++ os2, ρ2)
  | .nil, ρ => by
    show evAs C E2 ρ = (evAs C E2 ρ).bd fun (os2, ρ2) => .ok ([] ++ os2, ρ2)
    cases evAs C E2 ρ <;> rfl
  | .cons e es, ρ => by
    show ((mkA e (ev C e) ρ).bd fun (d, ρ1) => (evAs C (es.app E2) ρ1).bd fun (ds, ρ2) => .ok (d :: ds, ρ2)) = ((mkA e (ev C e) ρ).bd fun (d, ρ1) => (evAs C es ρ1).bd fun (ds, ρ2) => .ok (d :: ds, ρ2)).bd _
    rw [Res.bd_bd]
    refine Res.bd_congr _ fun ⟨d, ρ1⟩ => ?_
    dsimp only
    rw [evAs_app es ρ1, Res.bd_bd, Res.bd_bd]
    refine Res.bd_congr _ fun ⟨os, ρ2⟩ => ?_
    dsimp only
    rw [Res.bd_bd]
    exact Res.bd_congr _ fun ⟨os2, ρ3⟩ => rfl
theorem OAs.append {vs ws : List V} {os ps : List Opd} (q : OAs G σ ρ F H H0 vs os) (r : OAs G σ ρ F H H0 ws ps) : OAs G σ ρ F H H0 (vs ++ ws) (os ++ ps) := by
  induction q with
  | nil => exact r
  | cons h _ ih => exact .cons h ih
theorem rAs_app {E1 E2 : Es} {Q : List V → Hp → Prop} (h : rAs G C W (E1.app E2) σ H Q) : rAs G C W E1 σ H fun vs H1 => rAs G C W E2 σ H1 fun zs H2 => Q (vs ++ zs) H2 := by
  obtain ⟨F, ρ, hr, h⟩ := h
  rw [evAs_app] at h
  refine ⟨F, ρ, hr, Ask.imp (Ask.bd h) fun os ρ1 F1 H1 s1 h1 vs q => ⟨F1, ρ1, s1.rel, Ask.imp (Ask.bd h1) fun os2 ρ2 F2 H2 s2 h2 zs q2 => ?_⟩⟩
  exact Ask.ok h2 s2.rel (vs ++ zs) ((OAs.mono s2 q).append (OAs.back s1 q2))
def Es.len : Es → Nat
  | .nil => 0
  | .cons _ es => es.len + 1
theorem evAs_len : ∀ (E1 : Es) (ρ ρ' : Env) (os : List Opd), evAs C E1 ρ = .ok (os, ρ') → os.length = E1.len
  | .nil, ρ, ρ', os, e => by cases e; rfl
  | .cons e es, ρ, ρ', os, h => by
    replace h : ((mkA e (ev C e) ρ).bd fun (d, ρ1) => (evAs C es ρ1).bd fun (ds, ρ2) => .ok (d :: ds, ρ2)) = .ok (os, ρ') := h
    cases e1 : mkA e (ev C e) ρ with
    | stuck => rw [e1] at h; cases h
    | exc c x b => rw [e1] at h; cases h
    | ok p =>
      obtain ⟨d, ρ1⟩ := p
      rw [e1] at h
      replace h : ((evAs C es ρ1).bd fun (ds, ρ2) => .ok (d :: ds, ρ2)) = .ok (os, ρ') := h
      cases e2 : evAs C es ρ1 with
      | stuck => rw [e2] at h; cases h
      | exc c x b => rw [e2] at h; cases h
      | ok p =>
        obtain ⟨ds, ρ2⟩ := p
        rw [e2] at h
        cases h
        show ds.length + 1 = es.len + 1
        rw [evAs_len es ρ1 ρ' ds e2]
theorem OAs.length {vs : List V} {os : List Opd} (q : OAs G σ ρ F H H0 vs os) : vs.length = os.length := by
  induction q with
  | nil => rfl
  | cons _ _ ih => simp [ih]
theorem rAs_len {E1 : Es} {Q : List V → Hp → Prop} (h : rAs G C W E1 σ H Q) : rAs G C W E1 σ H fun vs H1 => vs.length = E1.len ∧ Q vs H1 := by
  obtain ⟨F, ρ, hr, h⟩ := h
  refine ⟨F, ρ, hr, ?_⟩
  cases e : evAs C E1 ρ with
  | stuck => rw [e] at h; exact h
  | exc c x b => rw [e] at h; exact h
  | ok p =>
    obtain ⟨os, ρ1⟩ := p
    rw [e] at h
    exact fun F1 H1 s1 vs q => ⟨by rw [q.length, evAs_len E1 ρ ρ1 os e], h F1 H1 s1 vs q⟩
def KwS : Keyword → Bool
  | ⟨some _, _, _⟩ => true
  | _ => false
structure SndK (G : Glo) (C : CallF) (W : WX) (X : Cx) (kws : List Keyword) (E : Es) : Prop where
  p : PK X kws (rAs G C W E)
theorem pkwk {kws : List Keyword} {t t' : TA} (h : PK X kws t) (f : ∀ σ H Q, t' σ H Q → t σ H Q) : PK X kws t' := ⟨fun pos pins s σ H Q I q => h.run pos pins s σ H Q I (f σ H Q q)⟩
theorem sndK_nil : SndK G C W X [] .nil := ⟨pkwk pk_nil fun σ H Q ⟨F, ρ, hr, h⟩ => h F H (Stp.refl hr) [] .nil⟩
theorem sndK_cons {nm : Option Str} {kp : Pos} {kws : List Keyword} (ha : SndA G C W X a A) (hb : SndK G C W X kws Es') : SndK G C W X (⟨nm, a, kp⟩ :: kws) (.cons A Es') := by
  refine ⟨pkwk (pk_cons ha.p hb.p) fun σ H Q h => ?_⟩
  obtain ⟨F, ρ, hr, h⟩ := h
  refine ⟨F, ρ, hr, Ask.imp (Ask.bd h) fun d ρ1 F1 H1 s1 h1 v q => ⟨F1, ρ1, s1.rel, Ask.imp (Ask.bd h1) fun ds ρ2 F2 H2 s2 h2 vs q2 => ?_⟩⟩
  exact Ask.ok h2 s2.rel (v :: vs) (.cons (OA.mono s2 q) (OAs.back s1 q2))
/-- how the arguments of such a call stand -/
def KwBind (fd : FuncData) (ps : List Str) (n : Nat) (ks : List Str) (pm : List Nat) : Prop := ∀ (s : Shared) (us ws : List Value), us.length = n → ws.length = ks.length → BindsTo s fd ⟨us, ks.zip ws⟩ (ps.zip (permL pm (us ++ ws)))
theorem vals_perm {vs : List V} {us : List Value} (r : Vals vs us) (pm : List Nat) : Vals (permL pm vs) (permL pm us) := by
  have hl := r.length
  induction pm with
  | nil => exact .nil
  | cons i pm ih =>
    unfold permL at ih ⊢
    rw [List.filterMap_cons, List.filterMap_cons]
    cases e : vs[i]? with
    | none =>
      have e2 : us[i]? = none := by
        rw [List.getElem?_eq_none_iff] at e ⊢
        omega
      rw [e2]
      exact ih
    | some v =>
      obtain ⟨u, e2, r2⟩ := r.get e
      rw [e2]
      exact .cons r2 ih
theorem run_kw {k f : Nat} {fd : FuncData} {ps ks : List Str} {pm : List Nat} {pins : List (Addr × Obj)} {s : Shared} {us ws : List Value} {vs zs : List V} (tk : Takes X W) (Fk : FnOk X.prog X.w X.K X.mg X.base (L2.CX X.prog X.w) k (G.fa f) fd ps (spF G C f)) (hr : Room k X.A)
    (hb : KwBind fd ps us.length ks pm) (hz : ws.length = ks.length) (I : L2.Inv X pins σ H s) (r : Vals vs us) (rz : Vals zs ws) (h : spF G C f (permL pm (vs ++ zs)) H Q (WE W σ)) : wpAny (model X.prog X.w) X.A (call (.ref (G.fa f)) us (ks.zip ws)) (EP X pins σ Q) X.xe s := by
  have go := Fk.run X.A X.stack s H ⟨us, ks.zip ws⟩ (permL pm (us ++ ws)) (permL pm (vs ++ zs)) Q (WE W σ) hr I.env0 (hb s us ws rfl hz) (vals_perm (r.append rz) pm) h
  refine wpAny_call (codeAny_mono go fun res s1 hres => ?_)
  rcases res with ex | fl
  · exact passAt tk σ pins H s ex s1 I hres
  · rcases fl with _ | _ | _ | u
    · exact False.elim hres
    · exact False.elim hres
    · exact False.elim hres
    · exact I.after hres
theorem snd_callk {k f : Nat} {x : Str} {fd : FuncData} {ps ks : List Str} {pm : List Nat} {es : List Expr} {kws : List Keyword} {E1 E2 : Es} (tk : Takes X W) (Fk : FnOk X.prog X.w X.K X.mg X.base (L2.CX X.prog X.w) k (G.fa f) fd ps (spF G C f)) (hr : Room k X.A) (hg : Gl X x) (hm : X.mg x = some (.ref (G.fa f)))
    (hk : PySem.W.keepIn X.K (.ref (G.fa f)) = true) (hb : KwBind fd ps es.length ks pm) (ha : SndAs G C W X es E1) (hw : SndK G C W X kws E2) (hdb : (x == ("__debug__" : Str)) = false)
    (hall : (backToKw pos (keywordEach kws X.env)).all (·.1.isSome) = true) (hks : (backToKw pos (keywordEach kws X.env)).filterMap (·.1) = ks) (hl1 : E1.len = es.length) (hl2 : E2.len = ks.length) (hK : X.K = G.K) : Snd G C W X (.Call (.Name x p) es kws pos) (.callk f (E1.app E2) pm) := by
  have hnone : (backToKw pos (keywordEach kws X.env)).any (·.1.isNone) = false := by
    rw [List.any_eq_false]
    intro y hy
    have := List.all_eq_true.mp hall y hy
    cases hq : y.1 <;> rw [hq] at this <;> simp at this ⊢
  refine Snd.mk1 ⟨fun pins s σ H Q I h => ?_⟩ rfl hK fun _ => rfl
  have h1 := rAs_len (rAs_app (callk_wk h))
  refine wpAny_Call_Name_kw (ld_glob I hg hm ?_ hdb)
  cases es with
  | nil =>
    refine PySem.W.callWith_KW0 (h₀ := X.base) I.ok.mod.kin hk hall ?_ (by rw [hnone]; rfl)
    have q1 : rAs G C W E2 σ H fun zs H2 => spF G C f (permL pm ([] ++ zs)) H2 Q (WE W σ) := by
      cases E1 with
      | cons e es => cases hl1
      | nil =>
        obtain ⟨F, ρ, hr', h2⟩ := h1
        exact (h2 F H (Stp.refl hr') [] .nil).2
    refine thn (hw.p.run pos pins s σ H _ I (rAs_len q1)) fun ws s2 hB => ?_
    obtain ⟨zs, H2, I2, r2, l2, q2⟩ := hB
    refine ⟨I2.kIn, ?_⟩
    rw [hks]
    exact run_kw (vs := []) tk Fk hr hb (by rw [← r2.length, ← hl2]; exact l2) I2 .nil r2 q2
  | cons e es =>
    have hs1 := ha.s
    rw [List.all_cons, Bool.and_eq_true] at hs1
    refine PySem.W.callWith_KW (h₀ := X.base) I.ok.mod.kin hk hall (thn (ha.p.run pos pins s σ H _ I h1) fun us s1 hA => ?_) (by rw [back_all ha.s, hnone]; rfl) (star_cons hs1.1)
    obtain ⟨vs, H1, I1, r1, l1, q1⟩ := hA
    refine thn (hw.p.run pos pins s1 σ H1 _ I1 (rAs_len q1)) fun ws s2 hB => ?_
    obtain ⟨zs, H2, I2, r2, l2, q2⟩ := hB
    refine ⟨I2.kIn, ?_⟩
    rw [hks]
    have hl : us.length = (e :: es).length := by rw [← r1.length, ← hl1]; exact l1
    exact run_kw tk Fk hr (by rw [List.nil_append, hl]; exact hb) (by rw [← r2.length, ← hl2]; exact l2) I2 r1 r2 q2
theorem snd_call {k : Nat} {f : Nat} {x : Str} {fd : FuncData} {ps : List Str} (tk : Takes X W) (Fk : FnOk X.prog X.w X.K X.mg X.base (L2.CX X.prog X.w) k (G.fa f) fd ps (spF G C f)) (hr : Room k X.A) (hg : Gl X x) (hm : X.mg x = some (.ref (G.fa f)))
    (hk : PySem.W.keepIn X.K (.ref (G.fa f)) = true) (hb : Binds X.K fd ps []) (ha : SndAs G C W X (e :: es) Es') (hdb : (x == ("__debug__" : Str)) = false) (hK : X.K = G.K) : Snd G C W X (.Call (.Name x p) (e :: es) [] pos) (.call f Es') := by
  have hs1 := ha.s
  rw [List.all_cons, Bool.and_eq_true] at hs1
  exact Snd.mk1 (pewk (pe_callSD (dvs := []) (ds := []) Fk hr hg hm hk hb .nil (fun σ => passAt tk σ) ha.p hdb (star_cons hs1.1) (back_all hs1.2)) fun σ H Q h => call_wk h) rfl hK fun _ => rfl
theorem snd_call0 {k : Nat} {f : Nat} {x : Str} {fd : FuncData} {ps : List Str} (tk : Takes X W) (Fk : FnOk X.prog X.w X.K X.mg X.base (L2.CX X.prog X.w) k (G.fa f) fd ps (spF G C f)) (hr : Room k X.A) (hg : Gl X x) (hm : X.mg x = some (.ref (G.fa f)))
    (hk : PySem.W.keepIn X.K (.ref (G.fa f)) = true) (hb : Binds X.K fd ps []) (hdb : (x == ("__debug__" : Str)) = false) (hK : X.K = G.K) : Snd G C W X (.Call (.Name x p) [] [] pos) (.call f .nil) := by
  refine Snd.mk1 ⟨fun pins s σ H Q I h => ?_⟩ rfl hK fun _ => rfl
  obtain ⟨F, ρ, hr', h⟩ := call_wk h
  refine wpAny_Call_Name_kw (ld_glob I hg hm ?_ hdb)
  exact PySem.W.callWith_K0 I.kIn hk (run_fnSD (us := []) Fk hr hb .nil (passAt tk σ) I .nil (h F H (Stp.refl hr') [] .nil))
def MoS (G : Glo) (r : V → List V → Hp → VK → Prop) (m : Mo) : Prop := ∀ (F H : Hp) (a : Addr) (ws : List V) (xs : List D) (vs : List V) (ds : List D) (rd : D) (ys : List D) (Q : VK), Same F H → F a = none → H a = some (.lst ws) → Reps G F ws xs → Reps G F vs ds → moD m xs ds = some (rd, ys) →
  (∀ w us, Reps G F us ys → Rep G F w rd → Q w (upd H a (.lst us))) → r (.ref a) vs H Q
theorem mo_wk {m : Mo} {o : Nat} {r : V → List V → Hp → VK → Prop} {K : PySem.W.Frag} (hK : K = G.K) (hm : MoS G r m) (h : rE G C W (.mo m o Es') σ H Q) : tBM K "list" r (rO G C W (.var o)) (rDs G C W Es') σ H Q := by
  subst hK
  obtain ⟨F, ρ, hr, h⟩ := h
  refine ⟨F, ρ, hr, ?_⟩
  simp only [ev] at h
  simp only [mkO]
  split at h
  · rename_i xs k e
    rw [e]
    intro F1 H1 s1 v hv
    obtain ⟨a, ws, e1, e2, e3, e4⟩ := s1.rel.ownAt e
    have hv : σ[o]? = some (some v) := hv
    rw [e1] at hv; cases hv
    refine ⟨.inl ⟨rfl, ws, .inl (.inl e2)⟩, F1, ρ, s1.rel, ?_⟩
    have h' := Ask.move s1 h
    refine Ask.imp (Ask.bd h') fun ds ρ2 F2 H2 s2 h2 vs q => ?_
    dsimp only at h2
    split at h2
    · rename_i xs2 k2 eo
      split at h2
      · rename_i rd ys em
        obtain ⟨a2, ws2, g1, g2, g3, g4⟩ := s2.rel.ownAt eo
        rw [e1] at g1; cases g1
        refine hm F2 H2 a ws2 xs2 vs ds rd ys Q s2.rel.sub g3 g2 g4 q em fun w us r1 r2 => ?_
        exact h2 F2 _ (Stp.chg s2.rel eo e1 r1) w r2
      · exact h2.elim
    · exact h2.elim
  · exact h.elim
theorem snd_mo {m : Mo} {o : Nat} {x name : Str} {i : String} {apos cpos px : Pos} {r : V → List V → Hp → VK → Prop} (slot : Slot "list" name i) (hty : typeOf (.builtin i) = pure (.type "method_descriptor")) (hr : MtR X i r) (hm : MoS G r m)
    (hx : Snd G C W X (.Name x px) (.var o)) (ha : SndDs G C W X (e :: es) Es') (hf : (e :: es).length < 30) (hl : (apos.endLine == cpos.line) = true) (hK : X.K = G.K) : Snd G C W X (.Call (.Attribute (.Name x px) name apos) (e :: es) [] cpos) (.mo m o Es') := by
  have hs1 := ha.s
  rw [List.all_cons, Bool.and_eq_true] at hs1
  refine Snd.mk1 (pewk (pe_bm PySem.F.plainAttrs_list slot hty hr hx.o ha.p rfl ?_ hl (star_cons hs1.1) (back_all hs1.2)) fun σ H Q h => mo_wk hK hm h) rfl hK fun _ => rfl
  have h1 := back_all (env := X.env) (pos := cpos) ha.s
  rw [List.any_eq_false] at h1
  simp only [Bool.and_eq_true, decide_eq_true_eq]
  exact ⟨⟨List.all_eq_true.mpr fun y hy => by simpa using h1 y hy, rfl⟩, hf⟩
theorem snd_mo0 {m : Mo} {o : Nat} {x name : Str} {i : String} {apos cpos px : Pos} {r : V → List V → Hp → VK → Prop} (slot : Slot "list" name i) (hty : typeOf (.builtin i) = pure (.type "method_descriptor")) (hr : MtR X i r) (hm : MoS G r m)
    (hx : Snd G C W X (.Name x px) (.var o)) (hl : (apos.endLine == cpos.line) = true) (hK : X.K = G.K) : Snd G C W X (.Call (.Attribute (.Name x px) name apos) [] [] cpos) (.mo m o .nil) := by
  refine Snd.mk1 (pewk (pe_bm0 PySem.F.plainAttrs_list slot hty hr hx.o rfl hl) fun σ H Q h => ?_) rfl hK fun _ => rfl
  obtain ⟨F, ρ, hr', h⟩ := mo_wk hK hm h
  refine ⟨F, ρ, hr', Ask.imp h fun o' ρ1 F1 H1 s1 h1 v q => ?_⟩
  obtain ⟨h2, F2, ρ2, hr2, h3⟩ := h1 v q
  exact ⟨h2, h3 F2 H1 (Stp.refl hr2) [] .nil⟩
theorem mo_append : MoS G rAppend .append := by
  intro F H a ws xs vs ds rd ys Q sm fa ha hw hv e q
  replace e : appD xs ds = some (rd, ys) := e
  unfold appD at e
  split at e
  · obtain ⟨v, rfl, h1⟩ := hv.one
    split at e
    · rename_i hz
      cases e
      exact ⟨a, ws, v, rfl, rfl, ha, by rw [hw.length]; exact hz, q _ _ (hw.append (.cons h1 .nil)) .non⟩
    · cases e
  · cases e
theorem mo_pop : MoS G rPop .pop := by
  intro F H a ws xs vs ds rd ys Q sm fa ha hw hv e q
  replace e : popD xs ds = some (rd, ys) := e
  unfold popD at e
  split at e
  · cases hv
    split at e
    · rename_i y ey
      cases e
      obtain ⟨v, e1, e2⟩ := hw.get ey
      exact ⟨a, ws, v, rfl, rfl, ha, by rw [hw.length]; exact e1, q _ _ hw.dropLast e2⟩
    · cases e
  · cases e
theorem mo_popAt : MoS G rPopAt .popAt := by
  intro F H a ws xs vs ds rd ys Q sm fa ha hw hv e q
  replace e : popAtD xs ds = some (rd, ys) := e
  unfold popAtD at e
  split at e
  · obtain ⟨v, rfl, h1⟩ := hv.one
    cases h1
    split at e
    · rename_i hb
      simp only [Bool.and_eq_true, decide_eq_true_eq] at hb
      split at e
      · rename_i k ek
        split at e
        · rename_i y ey
          cases e
          obtain ⟨v, e1, e2⟩ := hw.get ey
          exact ⟨a, ws, _, k, v, rfl, rfl, ha, hb.1, hb.2, by rw [hw.length]; exact ek, e1, q _ _ (hw.eraseIdx k) e2⟩
        · cases e
      · cases e
    · cases e
  · cases e
theorem mo_extend : MoS G rExtend .extend := by
  intro F H a ws xs vs ds rd ys Q sm fa ha hw hv e q
  replace e : extD xs ds = some (rd, ys) := e
  unfold extD at e
  split at e
  · obtain ⟨v, rfl, h1⟩ := hv.one
    cases h1 with
    | lst h1 h2 =>
      split at e
      · rename_i hz
        cases e
        exact ⟨a, _, ws, _, rfl, rfl, ha, sm _ _ h1, by rw [hw.length, h2.length]; exact hz, q _ _ (hw.append h2) .non⟩
      · cases e
  · cases e
end
end Cr
namespace Cr
open PySem PySem.Spec PyProof.Rows L2
section
variable {G : Glo} {C : CallF} {W : WX} {X : Cx} {e a b c : Expr} {A B Cc : E} {pos p : Pos} {σ σ' : L2.St} {ρ ρ' ρ2 ρw : Env} {F F' F2 H H' H2 H0 : Hp} {Q : VK} {es : List Expr} {Es' : Es} {v : V} {d : D} {D : Ends} {Wn : Nat}
def OwnF (σ : L2.St) (ρ : Env) (x : Addr) : Prop := ∃ (i : Nat) (xs : List Cr.D), ρ[i]? = some (.own xs false) ∧ σ[i]? = some (some (.ref x))
/-- what a statement gives back: a value, or a list that nobody else knows -/
def RRs (G : Glo) (H : Hp) (σ : L2.St) (ρ : Env) (F' H' : Hp) (σ' : L2.St) (ρ' : Env) (v : V) : R → Prop
  | .val d => Rep G F' v d
  | .fresh xs => ∃ a ws, v = .ref a ∧ H' a = some (.lst ws) ∧ F' a = none ∧ ¬ Own σ' ρ' a ∧ (H a = none ∨ OwnF σ ρ a) ∧ Reps G F' ws xs
theorem OwnF.back (s : Stp G σ ρ F H σ' ρ' F' H') {x : Addr} (h : OwnF σ' ρ' x) : H x = none ∨ OwnF σ ρ x := by
  obtain ⟨i, xs, h1, h2⟩ := h
  rcases s.own x ⟨i, xs, false, h1, h2⟩ with ⟨j, ys, k, g1, g2⟩ | z
  · cases k with
    | false => exact .inr ⟨j, ys, g1, g2⟩
    | true =>
      obtain ⟨zs, q1, q2⟩ := s.bor j ys g1
      have := s.rel.sep i j xs zs false true x h1 q1 h2 (q2.trans g2)
      subst this
      rw [h1] at q1; cases q1
  · exact .inl z
theorem RRs.back {F1 H1 : Hp} {σ1 : L2.St} {ρ1 : Env} (s : Stp G σ ρ F H σ1 ρ1 F1 H1) {r : R} (q : RRs G H1 σ1 ρ1 F' H' σ' ρ' v r) : RRs G H σ ρ F' H' σ' ρ' v r := by
  cases r with
  | val d => exact q
  | fresh xs =>
    obtain ⟨a, ws, rfl, h1, h2, h3, h4, h5⟩ := q
    refine ⟨a, ws, rfl, h1, h2, h3, ?_, h5⟩
    rcases h4 with z | z
    · exact .inl (s.free z)
    · exact z.back s
theorem RR.toS {r : R} (q : RR G H σ' ρ' F' H' v r) : RRs G H σ ρ F' H' σ' ρ' v r := by
  cases r with
  | val d => exact q
  | fresh xs =>
    obtain ⟨a, ws, rfl, h1, h2, h3, h4, h5⟩ := q
    exact ⟨a, ws, rfl, h1, h2, h3, .inl h4, h5⟩
def AskS (G : Glo) (W : WX) (D : Ends) (σ : L2.St) (ρ : Env) (F H : Hp) : Res (Fl × Env) Env → Prop
  | .ok (.nx, ρ') => ∀ σ' F' H', Stp G σ ρ F H σ' ρ' F' H' → D.nx σ' H'
  | .ok (.rt r, ρ') => ∀ σ' F' H', Stp G σ ρ F H σ' ρ' F' H' → ∀ v, RRs G H σ ρ F' H' σ' ρ' v r → D.rt v H'
  | .exc c y ρ' => ∀ σ' F' H', Stp G σ ρ F H σ' ρ' F' H' → ∀ cls d, ExR G F' H' c y cls d → W cls d σ' H'
  | .stuck => False
theorem AskS.move {x : Res (Fl × Env) Env} (s : Stp G σ ρ F H σ' ρ' F' H') (h : AskS G W D σ ρ F H x) : AskS G W D σ' ρ' F' H' x := by
  cases x with
  | ok p =>
    obtain ⟨f, ρ2⟩ := p
    cases f with
    | nx => exact fun σ2 F2 H2 s2 => h σ2 F2 H2 (s.trans s2)
    | rt r => exact fun σ2 F2 H2 s2 v q => h σ2 F2 H2 (s.trans s2) v (RRs.back s q)
  | exc c y b => exact fun σ2 F2 H2 s2 => h σ2 F2 H2 (s.trans s2)
  | stuck => exact h
/-- an expression ahead of the rest -/
theorem AskS.bd {α : Type} {x : Res (α × Env) Env} {f : α × Env → Res (Fl × Env) Env} (h : AskS G W D σ ρ F H (x.bd f)) : Ask G W σ ρ F H x fun a ρ1 F1 H1 => Stp G σ ρ F H σ ρ1 F1 H1 ∧ AskS G W D σ ρ F H (f (a, ρ1)) := by
  cases x with
  | ok p => exact fun F1 H1 s1 => ⟨s1, h⟩
  | exc c y b => exact fun F' H' s cls d q => h σ F' H' s cls d q
  | stuck => exact h
def rSt (G : Glo) (C : CallF) (Wn : Nat) (W : WX) (s : S) : TS := fun D σ H => ∃ F ρ, Rel G F H σ ρ ∧ AskS G W D σ ρ F H (exS C Wn s ρ)
def rSs (G : Glo) (C : CallF) (Wn : Nat) (W : WX) (s : Ss) : TS := fun D σ H => ∃ F ρ, Rel G F H σ ρ ∧ AskS G W D σ ρ F H (exSs C Wn s ρ)
structure SndSt (G : Glo) (C : CallF) (Wn : Nat) (W : WX) (X : Cx) (st : Stmt) (s : S) : Prop where
  p : PS X st (rSt G C Wn W s)
structure SndSs (G : Glo) (C : CallF) (Wn : Nat) (W : WX) (X : Cx) (st : List Stmt) (s : Ss) : Prop where
  p : PSs X st (rSs G C Wn W s)
theorem ss_nil : SndSs G C Wn W X [] .nil := ⟨psswk pss_nil fun D σ H ⟨F, ρ, hr, h⟩ => h σ F H (Stp.refl hr)⟩
theorem ss_cons {st : Stmt} {rest : List Stmt} {s : S} {ss : Ss} (h1 : SndSt G C Wn W X st s) (h2 : SndSs G C Wn W X rest ss) : SndSs G C Wn W X (st :: rest) (.cons s ss) := by
  refine ⟨psswk (pss_cons h1.p h2.p) fun D σ H h => ?_⟩
  obtain ⟨F, ρ, hr, h⟩ := h
  refine ⟨F, ρ, hr, ?_⟩
  have h : AskS G W D σ ρ F H ((exS C Wn s ρ).bd fun (f, ρ1) => (match f with
    | .nx => exSs C Wn ss ρ1
    | .rt r => .ok (.rt r, ρ1))) := h
  cases e : exS C Wn s ρ with
  | ok q =>
    obtain ⟨f, ρ1⟩ := q
    rw [e] at h
    cases f with
    | nx => exact fun σ1 F1 H1 s1 => ⟨F1, ρ1, s1.rel, AskS.move s1 h⟩
    | rt r => exact h
  | exc c y b => rw [e] at h; exact h
  | stuck => rw [e] at h; exact h
/-- what says nothing -/
theorem st_nop {st : Stmt} (h : PS X st tNext) : SndSt G C Wn W X st .pass := ⟨pswk h fun D σ H ⟨F, ρ, hr, h⟩ => h σ F H (Stp.refl hr)⟩
theorem st_exp (h : Snd G C W X e A) (hs : swapsWith e none pos.line X.env = pure false) : SndSt G C Wn W X (.Expr e pos) (.exp A) := by
  refine ⟨pswk (ps_expr h.v hs) fun D σ H h => ?_⟩
  obtain ⟨F, ρ, hr, h⟩ := h
  refine ⟨F, ρ, hr, Ask.imp (AskS.bd h) fun r ρ1 F1 H1 s1 h1 v q => ?_⟩
  exact h1.2 σ F1 H1 s1
/-- a slot gets a new list -/
theorem Stp.putOwn {σ0 : L2.St} (s : Stp G σ0 ρ F H σ ρ' F' H') {i : Nat} {x : Addr} {ws : List V} {xs : List Cr.D} (hi : i < ρ'.length) (hb : ∀ xs, ρ'[i]? ≠ some (.own xs true)) (h1 : H' x = some (.lst ws)) (h2 : F' x = none) (h3 : ¬ Own σ ρ' x) (h4 : H x = none) (h5 : Reps G F' ws xs) :
    Stp G σ0 ρ F H (σ.set i (some (.ref x))) (ρ'.set i (.own xs false)) F' H' ∧ ∀ y, Own (σ.set i (some (.ref x))) (ρ'.set i (.own xs false)) y → Own σ ρ' y ∨ y = x := by
  have h := s.rel
  have hs : i < σ.length := h.len ▸ hi
  have own' : ∀ y, Own (σ.set i (some (.ref x))) (ρ'.set i (.own xs false)) y → Own σ ρ' y ∨ y = x := fun y ⟨j, ys, k, q1, q2⟩ => by
    by_cases e : i = j
    · subst e
      rw [List.getElem?_set_self hs] at q2
      exact .inr (by cases q2; rfl)
    · rw [List.getElem?_set_ne e] at q1 q2
      exact .inl ⟨j, ys, k, q1, q2⟩
  refine ⟨⟨⟨by rw [List.length_set, List.length_set]; exact h.len, h.sub, fun j t q ne => ?_, fun j k ys zs m n y q1 q2 q3 q4 => ?_⟩, s.ext, fun y q => ?_, fun j ys q => ?_⟩, own'⟩
  · by_cases e : i = j
    · subst e
      rw [List.getElem?_set_self hi] at q; cases q
      exact ⟨.ref x, by rw [List.getElem?_set_self hs], x, ws, rfl, h1, h2, h5⟩
    · rw [List.getElem?_set_ne e] at q ⊢
      exact h.sl j t q ne
  · by_cases e1 : i = j
    · subst e1
      rw [List.getElem?_set_self hs] at q3; cases q3
      by_cases e2 : i = k
      · exact e2
      · rw [List.getElem?_set_ne e2] at q2 q4
        exact absurd ⟨k, zs, n, q2, q4⟩ h3
    · rw [List.getElem?_set_ne e1] at q1 q3
      by_cases e2 : i = k
      · subst e2
        rw [List.getElem?_set_self hs] at q4; cases q4
        exact absurd ⟨j, ys, m, q1, q3⟩ h3
      · rw [List.getElem?_set_ne e2] at q2 q4
        exact h.sep j k ys zs m n y q1 q2 q3 q4
  · rcases own' y q with z | rfl
    · exact s.own y z
    · exact .inr h4
  · obtain ⟨zs, q1, q2⟩ := s.bor j ys q
    have e : i ≠ j := fun z => hb zs (z ▸ q1)
    exact ⟨zs, by rw [List.getElem?_set_ne e]; exact q1, by rw [List.getElem?_set_ne e]; exact q2⟩
theorem putS_inv {i : Nat} {o : Bool} {r : R} (e : putS ρ i o r = some ρ') : i < ρ.length ∧ (∀ xs, ρ[i]? ≠ some (.own xs true)) ∧ ((∃ xs, r = .fresh xs ∧ ρ' = ρ.set i (.own xs false)) ∨ ρ' = ρ.set i (.val r.toD)) := by
  unfold putS at e
  split at e
  · rename_i hi
    split at e
    · cases e
    · rename_i hn
      refine ⟨hi, fun xs q => hn xs q, ?_⟩
      split at e
      · cases e; exact .inl ⟨_, rfl, rfl⟩
      · cases e; exact .inr rfl
  · cases e
theorem put_stp {σ0 : L2.St} (s : Stp G σ0 ρ F H σ ρ' F' H') {i : Nat} {o : Bool} {r : R} (e : putS ρ' i o r = some ρ2) (q : RR G H σ ρ' F' H' v r) :
    ∃ F2, Stp G σ0 ρ F H (σ.set i (some v)) ρ2 F2 H' ∧ Same F' F2 ∧ (∀ x, (∀ xs, r = .fresh xs → v ≠ .ref x) → (F' x = none → F2 x = none) ∧ (Own (σ.set i (some v)) ρ2 x → Own σ ρ' x)) := by
  obtain ⟨hi, hb, h⟩ := putS_inv e
  rcases h with ⟨xs, rfl, rfl⟩ | rfl
  · obtain ⟨a, ws, rfl, h1, h2, h3, h4, h5⟩ := q
    obtain ⟨k1, k2⟩ := Stp.putOwn s hi hb h1 h2 h3 h4 h5
    exact ⟨F', k1, fun _ _ z => z, fun x hx => ⟨id, fun ho => (k2 x ho).resolve_right fun z => hx xs rfl (by rw [z])⟩⟩
  · obtain ⟨F2, s2, k, rp, kf⟩ := freezeX s q
    have pt := Stp.put s2.rel hi hb rp
    refine ⟨F2, s2.trans pt, k, fun x hx => ⟨kf x hx, fun ho => ?_⟩⟩
    obtain ⟨j, ys, m, q1, q2⟩ := ho
    have hj : i ≠ j := fun z => by subst z; rw [List.getElem?_set_self hi] at q1; cases q1
    rw [List.getElem?_set_ne hj] at q1 q2
    exact ⟨j, ys, m, q1, q2⟩
theorem set_wk {i : Nat} {o : Bool} (h : rSt G C Wn W (.set i o A) D σ H) : rE G C W A σ H fun x H1 => gName i x σ H1 D.nx := by
  obtain ⟨F, ρ, hr, h⟩ := h
  refine ⟨F, ρ, hr, Ask.imp (AskS.bd h) fun r ρ1 F1 H1 s1 h1 v q => ?_⟩
  have h1 : AskS G W D σ ρ F H (match putS ρ1 i o r with
    | some ρ2 => .ok (.nx, ρ2)
    | none => .stuck) := h1.2
  split at h1
  · rename_i ρ2 e
    obtain ⟨F2, s2, _, _⟩ := put_stp s1 e q
    exact h1 _ F2 H1 s2
  · exact h1.elim
theorem st_set {i : Nat} {x : Str} {o : Bool} {px : Pos} (hN : X.N.Nodup) (hi : X.N[i]? = some x) (hx : Loc X.env.scope x) (hf : X.fn x = true ∨ X.env.scope.names.lookup x = some .local) (h : Snd G C W X e A) (hs : swapsWith e (some (.Name x px)) pos.line X.env = pure false) :
    SndSt G C Wn W X (.Assign [.Name x px] e pos) (.set i o A) := ⟨pswk (ps_set hN hi hx h.v hs hf) fun D σ H h => set_wk h⟩
/-- name = [..] on one line -/
theorem st_setLc {i : Nat} {x : Str} {o : Bool} {px lpos : Pos} {tg it elt : Expr} {ifs : List Expr} {scope : Scope} {own : List (Str × Nat)} {S : Sr} {t : T} (hwk : S.weak = true → t.isT = true) (hc : X.calm = true) (hN : X.N.Nodup) (hi : X.N[i]? = some x) (hxl : X.env.scope.names.lookup x = some .local)
    (hsw : swapsWith (.ListComp elt [⟨tg, it, ifs, 0⟩] scope lpos) (some (.Name x px)) pos.line X.env = pure true) (hs : SndS G C W X tg it S) (ok : BlkOk X.N X.env.scope scope own) (hsub : ∀ i ∈ t.slots, i ∈ own.map (·.2))
    (hb : ∀ (s : Shared) (H : Hp) (Ca : Addr) (cl : List (Str × Addr)) (fp : List Addr), SndT G (X.blk s H scope (compEnvC scope cl Ca X.env) fp) tg t ∧ SndI G C (X.blk s H scope (compEnvC scope cl Ca X.env) fp) ifs Cc ∧ Snd G C WF (X.blk s H scope (compEnvC scope cl Ca X.env) fp) elt A) :
    SndSt G C Wn W X (.Assign [.Name x px] (.ListComp elt [⟨tg, it, ifs, 0⟩] scope lpos) pos) (.set i o (.lc A t S Cc (own.map (·.2)))) :=
  ⟨pswk (ps_setLc hc hN hi hxl hsw hs.p ok (fun s H Ca cl fp => (hb s H Ca cl fp).1.p) (fun s H Ca cl fp => (hb s H Ca cl fp).2.1.p) (fun s H Ca cl fp => (hb s H Ca cl fp).2.2.d) hs.s) fun D σ H h => lc_wk hwk hsub (set_wk h)⟩
/-- x, y = a, b -/
theorem st_set2 {i j : Nat} {x y : Str} {oi oj : Bool} {px py pt : Pos} {kt k2 : Nat} {pt2 : Pos} (hc : X.calm = true) (hN : X.N.Nodup) (hi : X.N[i]? = some x) (hj : X.N[j]? = some y) (hij : i ≠ j)
    (hx : X.env.scope.names.lookup x = some .local) (hy : X.env.scope.names.lookup y = some .local) (ha : Snd G C W X a A) (na : NoStar a = true) (hb : Snd G C W X b B) (nb : NoStar b = true)
    (hw : swappedStores [.Tuple [.Name x px, .Name y py] kt pt] (.Tuple [a, b] k2 pt2) X.env = pure (some [x, y])) :
    SndSt G C Wn W X (.Assign [.Tuple [.Name x px, .Name y py] kt pt] (.Tuple [a, b] k2 pt2) pos) (.set2 i j oi oj A B) := by
  refine ⟨pswk (ps_par hc hN hi hj hij hx hy (pa_cons ha.v (pa_cons hb.v pa_nil (star_cons nb)) (star_cons na)) hw) fun D σ H h => ?_⟩
  obtain ⟨F, ρ, hr, h⟩ := h
  refine ⟨F, ρ, hr, Ask.imp (AskS.bd h) fun r ρ1 F1 H1 s1 h1 v q => ⟨F1, ρ1, s1.rel, ?_⟩⟩
  refine Ask.imp (Ask.move s1 (AskS.bd h1.2)) fun r2 ρ2 F2 H2 s2 h2 w q2 => ⟨v, w, rfl, ?_⟩
  obtain ⟨s12, h2⟩ := h2
  replace h2 : AskS G W D σ ρ F H (match putS ρ2 i oi r with
    | some ρ3 => (match putS ρ3 j oj r2 with
      | some ρ4 => .ok (.nx, ρ4)
      | none => .stuck)
    | none => .stuck) := h2
  split at h2
  · rename_i ρ3 e3
    split at h2
    · rename_i ρ4 e4
      obtain ⟨F3, s3, k3, x3⟩ := put_stp s12 e3 (RR.mono s2 q)
      have q3 : RR G H (σ.set i (some v)) ρ3 F3 H2 w r2 := by
        cases r2 with
        | val d => exact Rep.mono k3 d w q2
        | fresh ys =>
          obtain ⟨a2, ws, rfl, g1, g2, g3, g4, g5⟩ := q2
          have ne : ∀ xs, r = .fresh xs → v ≠ .ref a2 := fun xs er ev => by
            subst er
            obtain ⟨a1, us, z, f1, _⟩ := q
            rw [ev] at z; cases z
            rw [g4] at f1; cases f1
          exact ⟨a2, ws, rfl, g1, (x3 a2 ne).1 g2, fun z => g3 ((x3 a2 ne).2 z), s1.free g4, Reps.mono k3 ys ws g5⟩
      obtain ⟨F4, s4, _, _⟩ := put_stp s3 e4 q3
      exact h2 _ F4 H2 s4
    · exact h2.elim
  · exact h2.elim
theorem st_asg {tg : Expr} {t : T} (h : Snd G C W X e A) (ht : SndT G X tg t) (hs : swapsWithSole [tg] e pos.line X.env = pure false) (hw : swappedStores [tg] e X.env = pure none) (h1 : (assignEach [tg] X.env).map (·.2) = [assign tg X.env]) :
    SndSt G C Wn W X (.Assign [tg] e pos) (.asg t A) := by
  refine ⟨pswk (ps_asg h.d ht.p hs hw h1) fun D σ H h => ?_⟩
  obtain ⟨F, ρ, hr, h⟩ := h
  refine ⟨F, ρ, hr, Ask.imp (AskS.bd h) fun d ρ1 F1 H1 s1 h1 v q => ?_⟩
  have h1 : AskS G W D σ ρ F H (match setT t d ρ1 with
    | some ρ2 => .ok (.nx, ρ2)
    | none => .stuck) := h1.2
  split at h1
  · rename_i ρ2 e
    exact ⟨F1, ρ1, d, ρ2, s1.rel, .inl q, e, fun σ' F' H' s2 _ => h1 σ' F' H' (s1.trans s2)⟩
  · exact h1.elim
theorem st_sidx {o : Nat} {x : Str} {px tpos : Pos} (h : Snd G C W X e A) (hx : Snd G C W X (.Name x px) (.var o)) (hi : Snd G C W X b B) (hs : swapsWithSole [.Subscript (.Name x px) b tpos] e pos.line X.env = pure false) (hw : swappedStores [.Subscript (.Name x px) b tpos] e X.env = pure none)
    (hq : ∀ v, assign (.Subscript (.Name x px) b tpos) X.env v = (do
      let ov ← holding [v] (eval (.Name x px) X.env)
      let iv ← holding [v, ov] (eval b X.env)
      standAt tpos
      holding [v, ov, iv] (setItem ov iv v)
      release [v, ov, iv] [])) :
    SndSt G C Wn W X (.Assign [.Subscript (.Name x px) b tpos] e pos) (.sidx o B A) := by
  refine ⟨pswk (ps_asg h.d (pg_sub hx.o hi.d set_list hq) hs hw) fun D σ H h => ?_⟩
  obtain ⟨F, ρ, hr, h⟩ := h
  refine ⟨F, ρ, hr, Ask.imp (AskS.bd h) fun d ρ1 F1 H1 s1 h1 v q => ?_⟩
  have h1 := AskS.move s1 h1.2
  replace h1 : AskS G W D σ ρ1 F1 H1 (match ρ1[o]? with
    | some (.own _ _) => (mkD (ev C B) ρ1).bd fun (i, ρ2) => (match ρ2[o]? with
      | some (.own xs b) => (match setIx xs i d with
        | some ys => .ok (.nx, ρ2.set o (.own ys b))
        | none => .stuck)
      | _ => .stuck)
    | _ => .stuck) := h1
  split at h1
  · rename_i xs0 b0 eo
    refine ⟨F1, ρ1, s1.rel, ?_⟩
    simp only [mkO, eo]
    intro F1' H1' s1' u hu
    obtain ⟨a, ws, e1, e2, e3, e4⟩ := s1'.rel.ownAt eo
    have hu : σ[o]? = some (some u) := hu
    rw [e1] at hu; cases hu
    refine ⟨F1', ρ1, s1'.rel, Ask.imp (AskS.bd (AskS.move s1' h1)) fun i ρ2 F2 H2 s2 h2 w qw => ?_⟩
    have h2 : AskS G W D σ ρ1 F1' H1' (match ρ2[o]? with
      | some (.own xs b) => (match setIx xs i d with
        | some ys => .ok (.nx, ρ2.set o (.own ys b))
        | none => .stuck)
      | _ => .stuck) := h2.2
    split at h2
    · rename_i xs b eo2
      split at h2
      · rename_i ys ey
        cases i <;> simp only [setIx] at ey <;> try cases ey
        obtain ⟨j, ej, rfl⟩ := Option.map_eq_some_iff.mp ey
        cases qw
        obtain ⟨a2, us, g1, g2, g3, g4⟩ := s2.rel.ownAt eo2
        rw [e1] at g1; cases g1
        refine ⟨a, us, _, j, rfl, rfl, g2, by rw [g4.length]; exact ej, ?_⟩
        exact h2 σ F2 _ (s2.trans (Stp.chg s2.rel eo2 e1 (Reps.set (Rep.mono (s1'.trans s2).ext.ff d v q) j g4)))
      · exact h2.elim
    · exact h2.elim
  · exact h1.elim
/-- an own list is given away -/
theorem Stp.drop (h : Rel G F H σ ρ) {i : Nat} {xs : List Cr.D} (e : ρ[i]? = some (.own xs false)) : Stp G σ ρ F H σ (ρ.set i .non) F H ∧ ∃ a ws, σ[i]? = some (some (.ref a)) ∧ H a = some (.lst ws) ∧ F a = none ∧ ¬ Own σ (ρ.set i .non) a ∧ Reps G F ws xs := by
  have hi : i < ρ.length := (List.getElem?_eq_some_iff.mp e).1
  have same : ∀ {j : Nat} {t : Sl}, (ρ.set i .non)[j]? = some t → t ≠ .non → i ≠ j ∧ ρ[j]? = some t := fun {j t} q ne => by
    by_cases z : i = j
    · subst z; rw [List.getElem?_set_self hi] at q; cases q; exact absurd rfl ne
    · rw [List.getElem?_set_ne z] at q; exact ⟨z, q⟩
  obtain ⟨a, ws, e1, e2, e3, e4⟩ := h.ownAt e
  refine ⟨⟨⟨by rw [List.length_set]; exact h.len, h.sub, fun j t q ne => h.sl j t (same q ne).2 ne, fun j k ys zs m n y q1 q2 q3 q4 => h.sep j k ys zs m n y (same q1 (by simp)).2 (same q2 (by simp)).2 q3 q4⟩, Ext.refl,
    fun x ⟨j, ys, k, q1, q2⟩ => .inl ⟨j, ys, k, (same q1 (by simp)).2, q2⟩, fun j ys q => ⟨ys, ?_, rfl⟩⟩, a, ws, e1, e2, e3, fun ⟨j, ys, k, q1, q2⟩ => ?_, e4⟩
  · have z : i ≠ j := fun z => by subst z; rw [e] at q; cases q
    rw [List.getElem?_set_ne z]; exact q
  · obtain ⟨z, q3⟩ := same q1 (by simp)
    exact z (h.sep i j xs ys false k a e q3 e1 q2)
theorem retE_not (hv : isV A = false) (ρ : Env) : retE C A ρ = (ev C A ρ).bd fun (r, ρ1) => .ok (.rt r, ρ1) := by
  cases A <;> first | rfl | cases hv
theorem st_ret (h : Snd G C W X e A) : SndSt G C Wn W X (.Return (some e) pos) (.ret A) := by
  cases hv : isV A with
  | false =>
    refine ⟨pswk (ps_ret h.v) fun D σ H h => ?_⟩
    obtain ⟨F, ρ, hr, h⟩ := h
    have h : AskS G W D σ ρ F H (retE C A ρ) := h
    rw [retE_not hv] at h
    refine ⟨F, ρ, hr, Ask.imp (AskS.bd h) fun r ρ1 F1 H1 s1 h1 v q => ?_⟩
    exact h1.2 σ F1 H1 s1 v (RR.toS q)
  | true =>
    cases A <;> first | cases hv | skip
    refine ⟨pswk (ps_ret h.o) fun D σ H h => ?_⟩
    obtain ⟨F, ρ, hr, h⟩ := h
    refine ⟨F, ρ, hr, ?_⟩
    simp only [exS, retE] at h
    simp only [mkO]
    split at h
    · rename_i d e
      rw [e]
      intro F1 H1 s1 v hv
      obtain ⟨u, u1, u2⟩ := s1.rel.valAt e
      have hv : σ[_]? = some (some v) := hv
      rw [u1] at hv; cases hv
      exact h σ F1 H1 s1 v u2
    · rename_i xs e
      rw [e]
      intro F1 H1 s1 v hv
      obtain ⟨s2, a, ws, e1, e2, e3, e4, e5⟩ := Stp.drop s1.rel e
      have hv : σ[_]? = some (some v) := hv
      rw [e1] at hv; cases hv
      exact h σ F1 H1 (s1.trans s2) _ ⟨a, ws, rfl, e2, e3, e4, .inr ⟨_, xs, e, e1⟩, e5⟩
    · exact h.elim
theorem st_retN : SndSt G C Wn W X (.Return none pos) (.ret (.cst .non)) := ⟨pswk ps_retN fun D σ H h => by
  obtain ⟨F, ρ, hr, h⟩ := h
  exact h σ F H (Stp.refl hr) .non .non⟩
theorem st_if {x y : List Stmt} {s u : Ss} (h : Snd G C W X c Cc) (h1 : SndSs G C Wn W X x s) (h2 : SndSs G C Wn W X y u) : SndSt G C Wn W X (.If c x y pos) (.ife Cc s u) := by
  refine ⟨pswk (ps_if h.t h1.p h2.p) fun D σ H h => ?_⟩
  obtain ⟨F, ρ, hr, h⟩ := h
  refine ⟨F, ρ, hr, Ask.imp (AskS.bd h) fun k ρ1 F1 H1 s1 hk => ?_⟩
  have hk := AskS.move s1 hk.2
  cases k with
  | true => exact ⟨F1, ρ1, s1.rel, hk⟩
  | false => exact ⟨F1, ρ1, s1.rel, hk⟩
/-- the rest of a loop -/
theorem st_for {tg it : Expr} {body : List Stmt} {t : T} {S : Sr} {ss : Ss} (hwk : S.weak = true → t.isT = true) (hp : PassesOwn (model X.prog X.w) X.A X.env X.xe) (hc : X.calm = true) (hs : SndS G C W X tg it S) (ht : SndT G X tg t) (hb : SndSs G C Wn W X body ss) : SndSt G C Wn W X (.For tg it body [] pos) (.for t S ss) := by
  refine ⟨pswk (ps_for hp hc hs.p ht.p hb.p hs.s) fun D σ H h => ?_⟩
  obtain ⟨F, ρ, hr, h⟩ := h
  refine ⟨F, ρ, hr, Ask.imp (AskS.bd h) fun items ρ1 F1 H1 s1 h1 J wj => ?_⟩
  have h1 := AskS.move s1 h1.2
  refine ⟨fun i m σi Hi => m = items.length - i ∧ i ≤ items.length ∧ ∃ Fi ρi, Stp G σ ρ1 F1 H1 σi ρi Fi Hi ∧ AskS G W D σi ρi Fi Hi (forGo t (exSs C Wn ss) (items.drop i) ρi), ⟨items.length, by simp, Nat.zero_le _, F1, ρ1, Stp.refl s1.rel, by simpa using h1⟩, ?_⟩
  rintro i m σi Hi ⟨rfl, hi, Fi, ρi, sti, ha⟩
  by_cases hlt : i < items.length
  · obtain ⟨x, hx⟩ : ∃ x, items[i]? = some x := ⟨items[i], by simp [hlt]⟩
    have hdrop : items.drop i = x :: items.drop (i + 1) := by
      rw [List.drop_eq_getElem_cons hlt]
      rw [List.getElem?_eq_getElem hlt] at hx
      rw [Option.some.inj hx]
    rw [hdrop] at ha
    obtain ⟨hgo, hy⟩ := (wj Fi Hi sti.ext.ff sti.rel.sub i).1 x hx
    refine .inr ⟨hgo, fun σ' H' => ∃ m', m' < items.length - i ∧ (m' = items.length - (i + 1) ∧ i + 1 ≤ items.length ∧ ∃ Fi ρi, Stp G σ ρ1 F1 H1 σ' ρi Fi H' ∧ AskS G W D σ' ρi Fi H' (forGo t (exSs C Wn ss) (items.drop (i + 1)) ρi)), fun σ' H' z => z, fun y H' yl => ?_⟩
    obtain ⟨Fy, sy, ry⟩ := hy y H' yl _ _ sti.rel
    have ha := AskS.move sy ha
    have ha : AskS G W D σi ρi Fy H' (match setT t x ρi with
      | none => .stuck
      | some ρ1 => (exSs C Wn ss ρ1).bd fun (f, ρ2) => match f with
        | .nx => forGo t (exSs C Wn ss) (items.drop (i + 1)) ρ2
        | .rt r => .ok (.rt r, ρ2)) := ha
    split at ha
    · exact ha.elim
    · rename_i ρa ea
      refine ⟨Fy, ρi, x, ρa, sy.rel, ry.to hwk, ea, fun σa Fa Ha sa _ => ⟨Fa, ρa, sa.rel, ?_⟩⟩
      have ha := AskS.move sa ha
      have sta := (sti.trans sy).trans sa
      cases eb : exSs C Wn ss ρa with
      | ok q =>
        obtain ⟨f, ρb⟩ := q
        rw [eb] at ha
        cases f with
        | nx => exact fun σb Fb Hb sb => ⟨_, by omega, rfl, hlt, Fb, ρb, sta.trans sb, AskS.move sb ha⟩
        | rt r => exact ha
      | exc c y b => rw [eb] at ha; exact ha
      | stuck => rw [eb] at ha; exact ha
  · have e : i = items.length := by omega
    subst e
    rw [List.drop_length] at ha
    exact .inl ⟨(wj Fi Hi sti.ext.ff sti.rel.sub items.length).2 (Nat.le_refl _), ha σi Fi Hi (Stp.refl sti.rel)⟩
theorem st_whl {body : List Stmt} {ss : Ss} (hp : PassesOwn (model X.prog X.w) X.A X.env X.xe) (h : Snd G C W X c Cc) (hb : SndSs G C Wn W X body ss) : SndSt G C Wn W X (.While c body [] pos) (.whl Cc ss) := by
  refine ⟨pswk (ps_while hp h.t hb.p) fun D σ H h => ?_⟩
  obtain ⟨F, ρ, hr, h⟩ := h
  refine ⟨fun m σi Hi => ∃ Fi ρi, Rel G Fi Hi σi ρi ∧ AskS G W D σi ρi Fi Hi (whlGo (evT C Cc) (exSs C Wn ss) m ρi), ⟨Wn, F, ρ, hr, h⟩, ?_⟩
  rintro m σi Hi ⟨Fi, ρi, hri, ha⟩
  cases m with
  | zero => exact ha.elim
  | succ m =>
    refine ⟨Fi, ρi, hri, Ask.imp (AskS.bd ha) fun k ρ1 F1 H1 s1 h1 => ?_⟩
    have h1 := AskS.move s1 h1.2
    cases k with
    | false => exact h1 σi F1 H1 (Stp.refl s1.rel)
    | true =>
      refine ⟨fun σ' H' => ∃ m', m' < m + 1 ∧ ∃ Fi ρi, Rel G Fi H' σ' ρi ∧ AskS G W D σ' ρi Fi H' (whlGo (evT C Cc) (exSs C Wn ss) m' ρi), fun σ' H' z => z, F1, ρ1, s1.rel, ?_⟩
      have h1 : AskS G W D σi ρ1 F1 H1 ((exSs C Wn ss ρ1).bd fun (f, ρ2) => (match f with
        | .nx => whlGo (evT C Cc) (exSs C Wn ss) m ρ2
        | .rt r => .ok (.rt r, ρ2))) := h1
      cases eb : exSs C Wn ss ρ1 with
      | ok q =>
        obtain ⟨f, ρb⟩ := q
        rw [eb] at h1
        cases f with
        | nx => exact fun σb Fb Hb sb => ⟨m, by omega, Fb, ρb, sb.rel, AskS.move sb h1⟩
        | rt r => exact h1
      | exc c y b => rw [eb] at h1; exact h1
      | stuck => rw [eb] at h1; exact h1
end
end Cr
namespace Cr
open PySem PySem.Spec PyProof.Rows L2
section
variable {G : Glo} {C : CallF} {W : WX} {X : Cx} {e a b c : Expr} {A B Cc : E} {pos p q pos2 : Pos} {b' : Bi} {σ : L2.St} {ρ : Env} {F H : Hp} {Q : VK} {es : List Expr} {Es' : Es} {v : V} {d : D}
def tCallV (G : Glo) (C : CallF) (n i : Nat) (W : L2.St → XK) (t : TA) : TE := fun σ H Q => ∃ f, f < n ∧ σ[i]? = some (some (.ref (G.fa f))) ∧ t σ H fun vs H1 => spF G C f (vs ++ []) H1 Q (W σ)
/-- what is known of the functions with the numbers below n -/
def FnI (G : Glo) (C : CallF) (X : Cx) (n : Nat) : Prop := ∀ f, f < n → PySem.W.keepIn X.K (.ref (G.fa f)) = true ∧ ∃ j fd ps, FnOk X.prog X.w X.K X.mg X.base (L2.CX X.prog X.w) j (G.fa f) fd ps (spF G C f) ∧ Room j X.A ∧ Binds X.K fd ps []
theorem pe_callV {n i : Nat} {x : Str} {t : TA} (tk : Takes X W) (hf : FnI G C X n) (hN : X.N[i]? = some x) (hv : Vis X.env.scope x) (ha : PA X (e :: es) t) (hdb : (x == ("__debug__" : Str)) = false) (hcd : (x == ("__classdict__" : Str)) = false)
    (he : starEach (e :: es) X.env = (false, eval e X.env) :: starEach es X.env) (hpl : (backTo pos (starEach es X.env)).any (·.1) = false) : PE X (.Call (.Name x p) (e :: es) [] pos) (tCallV G C n i (WE W) t) := by
  refine ⟨fun pins s σ H Q I ⟨f, hl, hs, ht⟩ => ?_⟩
  obtain ⟨hk, j, fd, ps, Fk, hr, hb⟩ := hf f hl
  refine wpAny_Call_Name_kw (thn ((pe_var (pos := p) hN hv hdb hcd).run pins s σ H (fun v H1 => v = .ref (G.fa f) ∧ H1 = H) I ⟨.ref (G.fa f), hs, rfl, rfl⟩) fun u s1 ⟨v, H1, J, rv, e1, e2⟩ => ?_)
  subst e1 e2
  cases rv
  exact PySem.W.callWith_K (h₀ := X.base) J.ok.mod.kin hk (thn (ha.run pos pins s1 σ _ _ J ht) fun us s2 ⟨vs, H2, I2, r, k⟩ => ⟨I2.kIn, run_fnSD Fk hr hb .nil (passAt tk σ) I2 r k⟩) he hpl
theorem snd_callv {n i : Nat} {x : Str} (tk : Takes X W) (hf : FnI G C X n) (hN : X.N[i]? = some x) (hv : Vis X.env.scope x) (ha : SndAs G C W X (e :: es) Es') (hdb : (x == ("__debug__" : Str)) = false) (hcd : (x == ("__classdict__" : Str)) = false) (hK : X.K = G.K) :
    Snd G C W X (.Call (.Name x p) (e :: es) [] pos) (.callv n i Es') := by
  have hs1 := ha.s
  rw [List.all_cons, Bool.and_eq_true] at hs1
  refine Snd.mk1 (pewk (pe_callV tk hf hN hv ha.p hdb hcd (star_cons hs1.1) (back_all hs1.2)) fun σ H Q h => ?_) rfl hK fun _ => rfl
  obtain ⟨F, ρ, hr, h⟩ := h
  have h : Ask G W σ ρ F H (match ρ[i]? with
    | some (.val (.fn f)) => if f < n then (evAs C Es' ρ).bd fun (os, ρ1) => callR C f os ρ1 else .stuck
    | _ => .stuck) fun r ρ' F' H' => ∀ v, RR G H σ ρ' F' H' v r → Q v H' := h
  split at h
  · rename_i f e1
    split at h
    · rename_i hl
      obtain ⟨v, e2, rp⟩ := hr.valAt e1
      cases rp
      exact ⟨f, hl, e2, call_wk ⟨F, ρ, hr, h⟩⟩
    · exact h.elim
  · exact h.elim
theorem bi_gcd : BiS G rGcd .gcd := by
  intro σ ρ F H vs ds z Q hr hd e q
  have e : gcdD ds = some z := e
  unfold gcdD at e
  split at e <;> try (cases e; done)
  cases e
  obtain ⟨v, w, rfl, h1, h2⟩ := hd.two
  rw [int_of h1, int_of h2]
  exact ⟨_, _, rfl, fin_v hr q (.int _)⟩
theorem snd_gcd {x : Str} (hg : Gl X x) (hm : X.mg x = some (.builtin "math.gcd")) (hdb : (x == ("__debug__" : Str)) = false) (ha : SndOs G C W X (e :: es) Es') (hK : X.K = G.K) : Snd G C W X (.Call (.Name x p) (e :: es) [] pos) (.bi .gcd Es') := by
  have hs1 := ha.s
  rw [List.all_cons, Bool.and_eq_true] at hs1
  exact Snd.mk1 (pewk (pe_callBfun cr_gcd hg hm ha.p hdb (star_cons hs1.1) (back_all hs1.2)) fun σ H Q h => bi_wk bi_gcd h) rfl hK fun _ => rfl
theorem snd_lenSet (ha : Snd G C W X a A) (hs : NoStar a = true) (hg : Gl X "set") (hm : X.mg "set" = none) (hg2 : Gl X "len") (hm2 : X.mg "len" = none) (hc : X.calm = true) (hK : X.K = G.K) :
    Snd G C W X (.Call (.Name "len" p) [.Call (.Name "set" q) [a] [] pos2] [] pos) (.bi .lenSet (.cons A .nil)) := by
  refine Snd.mk1 (pewk (pe_lenSetA hc hg2 hm2 hg hm ha.o (star_cons hs)) fun σ H Q h => ?_) rfl hK fun _ => rfl
  obtain ⟨F, ρ, hr, h⟩ := os_one (f := lenSetD) h rfl
  refine ⟨F, ρ, hr, Ask.imp h fun o ρ1 F1 H1 s1 h1 v qv => ?_⟩
  obtain ⟨F2, ρ2, d, z, hr2, r1, e, k⟩ := h1 v qv
  simp only [lenSetD] at e
  split at e <;> try (cases e; done)
  rename_i xs exs
  split at e <;> try (cases e; done)
  rename_i ns e1
  split at e <;> try (cases e; done)
  rename_i few
  cases e
  obtain ⟨l, ws, rfl, k1, k2⟩ := seq_rep hr2 r1 exs
  have e2 := Reps.ints e1 k2
  subst e2
  rw [hK]
  exact ⟨l, ns, rfl, k1, few, fin_v hr2 k (.int _)⟩
theorem flat_rep (h : Rep G F v d) (e : d.isFlat = true) : flatV v = true := by
  cases h <;> first | rfl | cases e
theorem eqv_rep {w : V} {y : D} (h : Rep G F v d) (h2 : Rep G F w y) (e : d.isFlat = true) (e2 : y.isFlat = true) : eqV v w = PyData.eqv d.py y.py := by
  cases h <;> first | (cases e; done) | (cases h2 <;> first | (cases e2; done) | rfl | (simp [eqV, D.py, PyData.eqv]; done))
theorem flats_rep {vs : List V} {ds : List D} (h : Reps G F vs ds) (e : ds.all D.isFlat = true) : vs.all flatV = true := by
  induction ds generalizing vs with
  | nil => cases h; rfl
  | cons d ds ih =>
    cases h with
    | cons h1 h2 =>
      rw [List.all_cons, Bool.and_eq_true] at e ⊢
      exact ⟨flat_rep h1 e.1, ih h2 e.2⟩
/-- the receiver: a list, a tuple without a dict -/
def tMd (K : PySem.W.Frag) (r1 r2 : V → List V → Hp → VK → Prop) (to : TE) (t : TA) : TE := fun σ H Q => to σ H fun x H1 => ((∃ p ys, x = V.ref p ∧ SqL K H1 p ys) ∧ t σ H1 fun xs H2 => r1 x xs H2 Q) ∨ ((∃ p ys, x = V.ref p ∧ SqN K H1 p ys) ∧ t σ H1 fun xs H2 => r2 x xs H2 Q)
theorem sqn_is {pins : List (Addr × Obj)} {s : Shared} {l : Addr} {ys : List V} (I : Inv X pins σ H s) (h : SqN X.K H l ys) : s.TypeIs (.ref l) "tuple" ∧ ∀ x, Value.ref l = .ref x → ∃ ob, s.heap.get? x = some ob ∧ ob.dict = none := by
  rcases h with ⟨ob, h1, h2⟩ | ⟨o, its, n, h1, ⟨h2, h3⟩, _⟩
  · obtain ⟨g, _, _, _, ob', g', c, _⟩ := I.hok l _ h1
    rw [g] at g'; cases g'
    exact ⟨⟨ob, g, c⟩, fun x e => by cases e; exact ⟨ob, g, h2⟩⟩
  · have g := I.kIn l o h1
    exact ⟨⟨o, g, h2⟩, fun x e => by cases e; exact ⟨o, g, h3⟩⟩
theorem pe_md {o : Expr} {to : TE} {t : TA} {name : Str} {apos : Pos} {i1 i2 : String} {r1 r2 : V → List V → Hp → VK → Prop} (s1 : Slot "list" name i1) (y1 : typeOf (.builtin i1) = pure (.type "method_descriptor")) (m1 : MtR X i1 r1)
    (s2 : Slot "tuple" name i2) (y2 : typeOf (.builtin i2) = pure (.type "method_descriptor")) (m2 : MtR X i2 r2) (ho : PE X o to) (ha : PA X (e :: es) t) (hbase : attributeBase o name X.env (eval o X.env) = eval o X.env)
    (hfew : ((backTo pos (starEach (e :: es) X.env)).all (fun x => !x.1) && (backToKw pos (keywordEach [] X.env)).all (fun x => x.1.isSome) && decide ((e :: es).length + ([] : List Keyword).length + (if ([] : List Keyword).isEmpty then 0 else 1) < 30)) = true)
    (hline : (apos.endLine == pos.line) = true) (hs : starEach (e :: es) X.env = (false, eval e X.env) :: starEach es X.env) (hplain : (backTo pos (starEach es X.env)).any (·.1) = false) :
    PE X (.Call (.Attribute o name apos) (e :: es) [] pos) (tMd X.K r1 r2 to t) := by
  refine ⟨fun pins s σ H Q I h => wpAny_Call_method_late hbase hfew hline rfl (thn (ho.run pins s σ H _ I h) fun v s1' ⟨x, H1, J, rx, hh⟩ => ?_)⟩
  have plain : (false || (backTo pos (starEach es X.env)).any (·.1)) = false := by rw [hplain]; rfl
  rcases hh with ⟨⟨l, ys, ex, hq⟩, ht⟩ | ⟨⟨l, ys, ex, hq⟩, ht⟩
  · subst ex
    obtain ⟨h1, h2⟩ := tyV_is (T := "list") J rx (.inl ⟨rfl, ys, hq⟩)
    have hA := ha.run pos pins s1' σ H1 _ J ht
    rw [hs] at hA ⊢
    exact ⟨_, _, PySem.F.plainAttrs_list, s1, y1, h1, h2, Calls.callWith_builtin plain (Calls.evalArgs_plain (thn hA fun us s3 ⟨vs, H2, I2, r, k⟩ => m1 pins s3 σ H2 _ vs v us Q I2 rx r k))⟩
  · subst ex
    cases rx
    obtain ⟨h1, h2⟩ := sqn_is J hq
    have hA := ha.run pos pins s1' σ H1 _ J ht
    rw [hs] at hA ⊢
    exact ⟨_, _, PySem.F.plainAttrs_tuple, s2, y2, h1, h2, Calls.callWith_builtin plain (Calls.evalArgs_plain (thn hA fun us s3 ⟨vs, H2, I2, r, k⟩ => m2 pins s3 σ H2 (.ref l) vs (.ref l) us Q I2 rfl r k))⟩
/-- the index is told -/
theorem index_rule {vs us : List V} {xs ds : List D} {z : R} (h : Reps G H vs xs) (hu : Reps G H us ds) (e : indexD xs ds = some z) : ∃ (y : V) (j : Nat) (u : V), us = [y] ∧ flatV y = true ∧ vs.all flatV = true ∧ vs[j]? = some u ∧ eqV u y = true ∧
    (∀ (m : Nat) (z' : V), m < j → vs[m]? = some z' → eqV z' y = false) ∧ z = .val (.int j) := by
  unfold indexD at e
  split at e
  · rename_i x
    split at e
    · rename_i hf
      rw [Bool.and_eq_true] at hf
      obtain ⟨j, ej, rfl⟩ := Option.map_eq_some_iff.mp e
      obtain ⟨y, rfl, ry⟩ := hu.one
      unfold idxOfD at ej
      rw [List.findIdx?_eq_some_iff_getElem] at ej
      obtain ⟨hj, e1, e2⟩ := ej
      have all : ∀ y ∈ xs, y.isFlat = true := List.all_eq_true.mp hf.2
      obtain ⟨u, u1, u2⟩ := h.get (List.getElem?_eq_getElem hj)
      refine ⟨y, j, u, rfl, flat_rep ry hf.1, flats_rep h hf.2, u1, ?_, fun m z' hm hz => ?_, rfl⟩
      · rw [eqv_rep u2 ry (all _ (List.getElem_mem hj)) hf.1]; exact e1
      · have hm' : m < xs.length := Nat.lt_trans hm hj
        obtain ⟨w, w1, w2⟩ := h.get (List.getElem?_eq_getElem hm')
        rw [hz] at w1; cases w1
        rw [eqv_rep w2 ry (all _ (List.getElem_mem hm')) hf.1]
        simpa using e2 m hm
    · cases e
  · cases e
theorem RepTs.reps (s : Same F H) {vs : List V} {ds : List D} (h : RepTs G F H vs ds) : Reps G H vs ds := by
  induction h with
  | nil => exact .nil
  | cons h1 _ ih => exact .cons (RepT.rep s h1) ih
theorem snd_index {o : Expr} {O : E} {apos : Pos} (ho : Snd G C W X o O) (ha : SndOs G C W X (e :: es) Es') (hbase : attributeBase o "index" X.env (eval o X.env) = eval o X.env) (hf : (e :: es).length < 30) (hl : (apos.endLine == pos.line) = true) (hK : X.K = G.K) :
    Snd G C W X (.Call (.Attribute o "index" apos) (e :: es) [] pos) (.md .index O Es') := by
  have hs1 := ha.s
  rw [List.all_cons, Bool.and_eq_true] at hs1
  have hfew : ((backTo pos (starEach (e :: es) X.env)).all (fun x => !x.1) && (backToKw pos (keywordEach [] X.env)).all (fun x => x.1.isSome) && decide ((e :: es).length + ([] : List Keyword).length + (if ([] : List Keyword).isEmpty then 0 else 1) < 30)) = true := by
    have h1 := back_all (env := X.env) (pos := pos) ha.s
    rw [List.any_eq_false] at h1
    simp only [Bool.and_eq_true, decide_eq_true_eq]
    exact ⟨⟨List.all_eq_true.mpr fun y hy => by simpa using h1 y hy, rfl⟩, hf⟩
  refine Snd.mk1 (pewk (pe_md PySem.F.slot_list_index PySem.F.type_list_index (fun pins s σ H x xs v us Q I rx rxs h => mt_index pins s σ H x xs v us Q I rx rxs h) PySem.F.slot_tuple_index PySem.F.type_tuple_index (fun pins s σ H x xs v us Q I rx rxs h => mt_indexT pins s σ H x xs v us Q I rx rxs h)
    ho.o ha.p hbase hfew hl (star_cons hs1.1) (back_all hs1.2)) fun σ H Q h => ?_) rfl hK fun _ => rfl
  obtain ⟨F, ρ, hr, h⟩ := h
  refine ⟨F, ρ, hr, Ask.imp (Ask.bd h) fun x ρ1 F1 H1 s1 h1 v q1 => ?_⟩
  have h1 : Ask G W σ ρ1 F1 H1 (match resO ρ1 x with
    | some d0 => if d0.seqK = 0 then .stuck else (evOs C Es' ρ1).bd fun (os, ρ2) => (match resO ρ2 x, resOs ρ2 os with
      | some d, some ds => if d.seqK = d0.seqK then (match mdD .index d ds with
        | some r => .ok (r, ρ2)
        | none => .stuck) else .stuck
      | _, _ => .stuck)
    | none => .stuck) fun r ρ' F' H' => ∀ v, RR G H σ ρ' F' H' v r → Q v H' := h1
  split at h1
  · rename_i d0 e0
    split at h1
    · exact h1.elim
    · rename_i hne
      have rt := OR.res s1.rel q1 e0
      rw [hK]
      have rest : ∀ (k : Nat), k = d0.seqK → rOs G C W Es' σ H1 fun us H2 => ∃ d ds ρ2 F2, d.seqK = k ∧ Rel G F2 H2 σ ρ2 ∧ RepT G F2 H2 v d ∧ Reps G H2 us ds ∧ ∃ r, mdD .index d ds = some r ∧ ∀ w F' H', Stp G σ ρ2 F2 H2 σ ρ2 F' H' → RR G H2 σ ρ2 F' H' w r → Q w H' := fun k hk => by
        refine ⟨F1, ρ1, s1.rel, Ask.imp (Ask.bd h1) fun os ρ2 F2 H2 s2 h2 us q2 => ?_⟩
        have h2 : Ask G W σ ρ2 F2 H2 (match resO ρ2 x, resOs ρ2 os with
          | some d, some ds => if d.seqK = d0.seqK then (match mdD .index d ds with
            | some r => .ok (r, ρ2)
            | none => .stuck) else .stuck
          | _, _ => .stuck) fun r ρ' F' H' => ∀ v, RR G H σ ρ' F' H' v r → Q v H' := h2
        split at h2
        · rename_i d ds e1 e2
          split at h2
          · rename_i hk2
            split at h2
            · rename_i r er
              have s12 := s1.trans s2
              exact ⟨d, ds, ρ2, F2, hk2.trans hk.symm, s2.rel, OR.res s2.rel (OR.mono s2.ext.ff q1) e1, (ORs.rep s2.rel q2 e2).reps s2.rel.sub, r, er, fun w F' H' s' rr => h2 F' H' s' w (RR.back s12 rr)⟩
            · exact h2.elim
          · exact h2.elim
        · exact h2.elim
      cases d0 with
      | tup xs =>
        obtain ⟨l, ys, rfl, k1, k2⟩ := tupn_of rt
        refine .inr ⟨⟨l, ys, rfl, Same.sqn s1.rel.sub k1⟩, ?_⟩
        obtain ⟨F3, ρ3, hr3, h3⟩ := rest 1 rfl
        refine ⟨F3, ρ3, hr3, Ask.imp h3 fun os ρ4 F4 H4 s4 h4 us q4 => ?_⟩
        obtain ⟨d, ds, ρ2, F2, hd, hr2, rd, rds, r, er, fin⟩ := h4 us q4
        cases d <;> first | (cases hd; done) | skip
        rename_i zs
        obtain ⟨l2, ys2, el, m1, m2⟩ := tupn_of rd
        cases el
        obtain ⟨y, j, u, rfl, f1, f2, f3, f4, f5, rfl⟩ := index_rule (Reps.mono hr2.sub zs _ m2) rds er
        exact ⟨l, ys2, y, j, u, rfl, rfl, (Same.sqn hr2.sub m1).t, f1, f2, f3, f4, f5, fin_v hr2 fin (.int _)⟩
      | lst xs =>
        obtain ⟨l, ys, rfl, k1, k2⟩ := rt.lst s1.rel.sub
        refine .inl ⟨⟨l, ys, rfl, .inl (.inl k1)⟩, ?_⟩
        obtain ⟨F3, ρ3, hr3, h3⟩ := rest 2 rfl
        refine ⟨F3, ρ3, hr3, Ask.imp h3 fun os ρ4 F4 H4 s4 h4 us q4 => ?_⟩
        obtain ⟨d, ds, ρ2, F2, hd, hr2, rd, rds, r, er, fin⟩ := h4 us q4
        cases d <;> first | (cases hd; done) | skip
        rename_i zs
        obtain ⟨l2, ys2, el, m1, m2⟩ := rd.lst hr2.sub
        cases el
        obtain ⟨y, j, u, rfl, f1, f2, f3, f4, f5, rfl⟩ := index_rule (Reps.mono hr2.sub zs _ m2) rds er
        exact ⟨l, ys2, y, j, u, rfl, rfl, .inl (.inl m1), f1, f2, f3, f4, f5, fin_v hr2 fin (.int _)⟩
      | _ => exact absurd rfl hne
  · exact h1.elim
end
end Cr
namespace Cr
open PySem PySem.Spec PyProof.Rows L2
inductive Gd where
  | fn (f : Nat) (muts : List Bool) (ps : List Str) | con (d : D) | free | gcd
structure Cfg where
  N : List Str
  sc : Scope
  fnB : Str → Bool
  gl : Str → Option Gd
  own : List Str
  kws : List (Nat × Nat × List Str)
  nf : Nat
abbrev bad : E := .bad
def okNm (x : Str) : Bool := !(x == ("__debug__" : Str)) && !(x == ("__classdict__" : Str)) && !(x == ("__name__" : Str))
def visB (sc : Scope) (x : Str) : Bool := match sc.names.lookup x with
  | some .local | some .cell | some .free => true
  | _ => false
def glB (sc : Scope) (x : Str) : Bool := match sc.names.lookup x with
  | some .globalImplicit => true
  | _ => false
def isFree (k : Cfg) (x : Str) : Bool := glB k.sc x && okNm x && (match k.gl x with
  | some .free => true
  | _ => false)
def ixOf (k : Cfg) (x : Str) : Nat := k.N.findIdx (· == x)
def cName (k : Cfg) (x : Str) : E := if okNm x then (if visB k.sc x && decide (k.N[ixOf k x]? = some x) then .var (ixOf k x) else if glB k.sc x then (match k.gl x with
  | some (.con d) => .glo x d
  | some (.fn f _ _) => .gfn f
  | _ => bad) else bad) else bad
def cConst : Const → E
  | .int i => .cst (.int i)
  | .bool b => .cst (.bl b)
  | .none => .cst .non
  | .str x => .cst (.str x)
  | _ => bad
def binOkB : Operator → Bool
  | .Add | .Sub | .Mult | .FloorDiv | .Mod | .Pow | .LShift => true
  | _ => false
def mkEs (f : Expr → E) : List Expr → Es
  | [] => .nil
  | e :: es => .cons (f e) (mkEs f es)
def isName : Expr → Bool
  | .Name .. => true
  | _ => false
/-- an argument of a function: a list that it changes, or a value -/
def cArg (f : Expr → E) (m : Bool) (e : Expr) : E := if m then (if isName e then (match f e with
  | .var i => .mref i
  | _ => bad) else .fre (f e)) else (if isM (f e) then bad else f e)
def mkAs (f : Expr → E) : List Bool → List Expr → Es
  | _, [] => .nil
  | ms, e :: es => .cons (cArg f (ms.headD false) e) (mkAs f ms.tail es)
def cAnd (f : Expr → E) : List Expr → E
  | [] => bad
  | [a] => f a
  | a :: b :: es => .and (f a) (cAnd f (b :: es))
def cOr (f : Expr → E) : List Expr → E
  | [] => bad
  | [a] => f a
  | a :: b :: es => .or (f a) (cOr f (b :: es))
def cPart (f : Expr → E) : Option Expr → E
  | none => .nop
  | some e => if isNop (f e) then bad else f e
def isSlice : Expr → Bool
  | .Slice .. => true
  | _ => false
def isSetD : Expr → Bool
  | .Set .. => true
  | _ => false
/-- built-in functions by name -/
inductive Bk where
  | b (id : String) (b : Bi) | t (T : String) (b : Bi)
def bList : List (Str × Nat × Bk) := [("len", 1, .b "len" .len), ("all", 1, .b "all" .all), ("any", 1, .b "any" .any), ("abs", 1, .b "abs" .abs), ("sum", 1, .b "sum" .sum),
  ("max", 1, .b "max" .max), ("min", 1, .b "min" .min), ("sorted", 1, .b "sorted" .sorted), ("tuple", 1, .t "tuple" .tuple), ("list", 1, .t "list" .list), ("int", 1, .t "int" .int), ("str", 1, .t "str" .str),
  ("divmod", 2, .b "divmod" .divmod), ("max", 2, .b "max" .max2), ("min", 2, .b "min" .min2)]
def bTab (x : Str) (n : Nat) : Option Bk := (bList.find? fun q => q.1 == x && q.2.1 == n).map (·.2.2)
def tyList : List (Str × String) := [("int", "int"), ("bool", "bool"), ("str", "str"), ("tuple", "tuple"), ("list", "list"), ("dict", "dict")]
def tyTab (x : Str) : Option String := (tyList.find? fun q => q.1 == x).map (·.2)
def cNest (k : Cfg) (f : Expr → E) (x y : Str) (a : Expr) : Option E :=
  if isFree k y && NoStar a then (if x = "sorted" && y = "set" then some (.bi .sortedSet (.cons (f a) .nil)) else if x = "list" && y = "range" then some (.bi .lrange1 (.cons (f a) .nil))
    else if x = "tuple" && y = "range" then some (.bi .trange1 (.cons (f a) .nil)) else if x = "len" && y = "set" then some (.bi .lenSet (.cons (f a) .nil)) else none) else none
def cBi (k : Cfg) (f : Expr → E) (x : Str) (es : List Expr) : E :=
  if es.all NoStar then
    match x, es with
    | x, [.Call (.Name y q) [a] [] q2] => (match cNest k f x y a with
      | some e => e
      | none => (match bTab x 1 with
        | some (.b _ b) => .bi b (mkEs f [.Call (.Name y q) [a] [] q2])
        | some (.t _ b) => .bi b (mkEs f [.Call (.Name y q) [a] [] q2])
        | none => bad))
    | x, [a, .Name y _] => if x = "isinstance" then (match tyTab y with
        | some T => if isFree k y then .bi (.isi T) (.cons (f a) .nil) else bad
        | none => bad)
      else (match bTab x 2 with
        | some (.b _ b) => .bi b (mkEs f es)
        | some (.t _ b) => .bi b (mkEs f es)
        | none => bad)
    | x, es => (match bTab x es.length with
        | some (.b _ b) => .bi b (mkEs f es)
        | some (.t _ b) => .bi b (mkEs f es)
        | none => bad)
  else bad
def cCall (k : Cfg) (f : Expr → E) (x : Str) (es : List Expr) : E :=
  if glB k.sc x && okNm x then (match k.gl x with
    | some (.fn g ms _) => if es.all NoStar then .call g (mkAs f ms es) else bad
    | some .free => cBi k f x es
    | some .gcd => if es.all NoStar && decide (es ≠ []) then .bi .gcd (mkEs f es) else bad
    | _ => bad) else if okNm x && visB k.sc x && es.all NoStar && decide (es ≠ []) && decide (k.N[ixOf k x]? = some x) then .callv k.nf (ixOf k x) (mkAs f [] es) else bad
/-- where the values of a call with keywords stand -/
def permOf (ps : List Str) (n : Nat) (ks : List Str) : List Nat := (List.range ps.length).map fun j => if j < n then j else n + ks.findIdx (· == ps.getD j "")
def kwNames : List Keyword → List Str
  | [] => []
  | ⟨some x, _, _⟩ :: r => x :: kwNames r
  | ⟨none, _, _⟩ :: r => kwNames r
def mkKs (f : Expr → E) (ms : List Bool) (ps : List Str) : List Keyword → Es
  | [] => .nil
  | ⟨some x, e, _⟩ :: r => .cons (cArg f (ms.getD (ps.findIdx (· == x)) false) e) (mkKs f ms ps r)
  | ⟨none, e, _⟩ :: r => .cons (cArg f false e) (mkKs f ms ps r)
def cCallK (k : Cfg) (f : Expr → E) (x : Str) (es : List Expr) (kws : List Keyword) : E :=
  if glB k.sc x && okNm x then (match k.gl x with
    | some (.fn g ms ps) => if es.all NoStar && kws.all (fun q => q.arg.isSome) && k.kws.contains (g, es.length, kwNames kws) then .callk g ((mkAs f ms es).app (mkKs f ms ps kws)) (permOf ps es.length (kwNames kws)) else bad
    | _ => bad) else bad
def cDict : List (Option Expr) → List Expr → E
  | [], [] => .dct []
  | [some (.Constant (.str x) _ _)], [.Constant (.int i) _ _] => .dct [(.inr x, .int i)]
  | _, _ => bad
def cMeth (k : Cfg) (f : Expr → E) (x : Str) (px : Pos) (m : Str) (es : List Expr) (apos pos : Pos) : E :=
  if es.all NoStar && decide (es.length < 30) && (apos.endLine == pos.line) && k.own.contains x then (match f (.Name x px) with
    | .var i => (match es with
      | [] => if m = "pop" then .mo .pop i .nil else bad
      | _ => if m = "append" then .mo .append i (mkEs f es) else if m = "pop" then .mo .popAt i (mkEs f es) else if m = "extend" then .mo .extend i (mkEs f es) else bad)
    | _ => bad) else bad
def cSrN (k : Cfg) (f : Expr → E) (tg : Expr) (it : Expr) (x : Str) (es : List Expr) : Sr :=
  if isFree k x && es.all NoStar then (match es with
    | [a] => if x = "range" then .rng1 (f a) else if x = "enumerate" then (match tg with
        | .Tuple _ _ _ => .enum (f a)
        | _ => .seq (f it)) else .seq (f it)
    | [a, b] => if x = "range" then .rng2 (f a) (f b) else if x = "zip" then (match tg with
        | .Tuple _ _ _ => .zip (f a) (f b)
        | _ => .seq (f it)) else .seq (f it)
    | _ => .seq (f it)) else .seq (f it)
def cSr (k : Cfg) (f : Expr → E) (tg : Expr) : Expr → Sr
  | .Call (.Name x p) es [] pos => cSrN k f tg (.Call (.Name x p) es [] pos) x es
  | it => .seq (f it)
def locB (k : Cfg) (x : Str) : Bool := (match k.sc.names.lookup x with
  | some .local => true
  | some .cell => k.fnB x
  | _ => false) && decide (k.N[ixOf k x]? = some x)
def cT (k : Cfg) : Nat → Expr → Option T
  | 0, _ => none
  | _ + 1, .Name x _ => if locB k x then some (.name (ixOf k x)) else none
  | n + 1, .Tuple es _ _ => if es.all PlainT then (es.mapM (cT k n)).map .tup else none
  | _, _ => none
/-- a comprehension's own names with their places -/
def ownNames (k : Cfg) (sc : Scope) : List (Str × Nat) := sc.names.filterMap fun y => match y.2 with
  | .local | .cell => if k.N.contains y.1 then some (y.1, ixOf k y.1) else none
  | _ => none
def blkCfg (k : Cfg) (sc : Scope) : Cfg := { k with sc := relS sc k.sc, fnB := fun x => sc.names.lookup x == some .cell }
def cIfs (f : Expr → E) : List Expr → Option E
  | [] => some .nop
  | [c] => if isNop (f c) then none else some (f c)
  | _ => none
def wkB (S : Sr) (t : T) : Bool := !S.weak || t.isT
theorem wkB_ok {S : Sr} {t : T} (h : wkB S t = true) : S.weak = true → t.isT = true := fun e => by
  unfold wkB at h
  rw [e] at h
  simpa using h
def subB (l : List Nat) (m : List Nat) : Bool := l.all fun i => m.contains i
def cLc (n : Nat) (k : Cfg) (g : Cfg → Expr → E) (elt tg it : Expr) (ifs : List Expr) (sc : Scope) : E := match cT (blkCfg k sc) n tg, cIfs (g (blkCfg k sc)) ifs with
  | some t, some c => if !isSetD it && blkC k.N k.sc sc (ownNames k sc) && wkB (cSr k (g k) tg it) t && subB t.slots ((ownNames k sc).map (·.2)) then
      .lc (g (blkCfg k sc) elt) t (cSr k (g k) tg it) c ((ownNames k sc).map (·.2)) else bad
  | _, _ => bad
/-- what may stand ahead of a method's name -/
def baseB : Expr → Bool
  | .Name .. | .Subscript .. | .ListComp .. | .Tuple .. | .List .. | .BinOp .. => true
  | .Call (.Name ..) (_ :: _) _ _ => true
  | _ => false
def cIndex (f : Expr → E) (o : Expr) (es : List Expr) (apos pos : Pos) : E :=
  if es.all NoStar && decide (es ≠ []) && decide (es.length < 30) && (apos.endLine == pos.line) && baseB o then .md .index (f o) (mkEs f es) else bad
def cAttr (k : Cfg) (f : Expr → E) (o : Expr) (m : Str) (es : List Expr) (apos pos : Pos) : E :=
  if m = "index" then cIndex f o es apos pos else (match o with
    | .Name x px => cMeth k f x px m es apos pos
    | _ => bad)
def cSub (f : Expr → E) (a : Expr) : Expr → E
  | .Slice none none (some (.UnaryOp .USub (.Constant (.int 1) _ _) _)) _ => .rev (f a)
  | .Slice l h none _ => .slc (f a) (cPart f l) (cPart f h)
  | b => if isSlice b then bad else .idx (f a) (f b)
def cBool (f : Expr → E) (o : PySem.BoolOp) (es : List Expr) : E := match o, es with
  | .And, a :: b :: es => cAnd f (a :: b :: es)
  | .Or, a :: b :: es => cOr f (a :: b :: es)
  | _, _ => bad
def cUn (f : Expr → E) (o : PySem.UnaryOp) (a : Expr) : E := match o with
  | .Not => .not (f a)
  | .USub => .neg (f a)
  | _ => bad
def cCmp (f : Expr → E) (a : Expr) : List CmpOp → List Expr → E
  | [op], [b] => if behindInMarks op b then bad else .cmp op (f a) (f b)
  | [o1, o2], [b, c] => if lastMarks [o1, o2] [b, c] then bad else .chn o1 o2 (f a) (f b) (f c)
  | _, _ => bad
def cCallE (k : Cfg) (f : Expr → E) (g : Expr) (es : List Expr) (ws : List Keyword) (pos : Pos) : E := match g, ws with
  | .Name x _, [] => cCall k f x es
  | .Name x _, w :: ws => cCallK k f x es (w :: ws)
  | .Attribute o m apos, [] => cAttr k f o m es apos pos
  | _, _ => bad
def cLcE (n : Nat) (k : Cfg) (g : Cfg → Expr → E) (elt : Expr) (gs : List Comprehension) (sc : Scope) : E := match gs with
  | [⟨tg, it, ifs, 0⟩] => cLc n k g elt tg it ifs sc
  | _ => bad
def cE : Nat → Cfg → Expr → E
  | 0, _, _ => bad
  | n + 1, k, e => (match e with
    | .Name x _ => cName k x
    | .Constant c _ _ => cConst c
    | .BoolOp o es _ => cBool (cE n k) o es
    | .UnaryOp o a _ => cUn (cE n k) o a
    | .BinOp a op b _ => if binOkB op then .bin op (cE n k a) (cE n k b) else bad
    | .IfExp c a b _ => .ife (cE n k c) (cE n k a) (cE n k b)
    | .Compare a ops bs _ => cCmp (cE n k) a ops bs
    | .Tuple es _ _ => if es.all NoStar then .tup (mkEs (cE n k) es) else bad
    | .List es _ => if es.all NoStar then .lst (mkEs (cE n k) es) else bad
    | .Subscript a b _ => cSub (cE n k) a b
    | .Call g es ws pos => cCallE k (cE n k) g es ws pos
    | .Dict ks vs _ => cDict ks vs
    | .ListComp elt gs sc _ => cLcE n k (cE n) elt gs sc
    | _ => bad)
end Cr
namespace Cr
open PySem PySem.Spec PyProof.Rows L2
structure CtxOk (G : Glo) (C : CallF) (W : WX) (k : Cfg) (X : Cx) : Prop where
  hK : X.K = G.K
  hc : X.calm = true
  hN : X.N = k.N
  nd : k.N.Nodup
  sc : X.env.scope = k.sc
  kd : k.sc.kind = .function
  fn : ∀ x, k.fnB x = true → X.fn x = true
  tk : Takes X W
  un : X.A.units + 64 < cLine
  fre : ∀ x, k.gl x = some .free → X.mg x = none
  gcd : ∀ x, k.gl x = some .gcd → X.mg x = some (.builtin "math.gcd")
  fnI : FnI G C X k.nf
  con : ∀ x d, k.gl x = some (.con d) → ∃ u v, X.mg x = some u ∧ RelV v u ∧ ∀ F, Rep G F v d
  fns : ∀ x f ms ps, k.gl x = some (.fn f ms ps) → X.mg x = some (.ref (G.fa f)) ∧ PySem.W.keepIn X.K (.ref (G.fa f)) = true ∧ ∃ j fd, FnOk X.prog X.w X.K X.mg X.base (L2.CX X.prog X.w) j (G.fa f) fd ps (spF G C f) ∧ Room j X.A ∧ Binds X.K fd ps [] ∧
    ∀ n ks, (f, n, ks) ∈ k.kws → KwBind fd ps n ks (permOf ps n ks)
section
variable {G : Glo} {C : CallF} {W : WX} {X : Cx} {k : Cfg} {e a b c : Expr} {A B Cc : E} {pos p : Pos} {es : List Expr} {f : Expr → E}
theorem CtxOk.blk (h : CtxOk G C W k X) {sc : Scope} (hk : sc.kind = .function) (s : Shared) (H : Hp) (Ca : Addr) (cl : List (Str × Addr)) (fp : List Addr) : CtxOk G C WF (blkCfg k sc) (X.blk s H sc (compEnvC sc cl Ca X.env) fp) where
  hK := h.hK
  hc := h.hc
  hN := h.hN
  nd := h.nd
  sc := by
    show relS sc X.env.scope = relS sc k.sc
    rw [h.sc]
  kd := hk
  fn := fun x hx => hx
  tk := takes0
  un := h.un
  fre := h.fre
  con := h.con
  gcd := h.gcd
  fnI := h.fnI
  fns := h.fns
theorem snd_bad : Snd G C W X e bad := ⟨⟨fun _ _ _ _ _ _ ⟨_, _, _, q⟩ => False.elim q⟩, ⟨fun _ _ _ _ _ _ ⟨_, _, _, q⟩ => False.elim q⟩, ⟨fun _ _ _ _ _ _ ⟨_, _, _, q⟩ => False.elim q⟩⟩
theorem okNm_of {x : Str} (h : okNm x = true) : (x == ("__debug__" : Str)) = false ∧ (x == ("__classdict__" : Str)) = false ∧ x ≠ "__name__" := by
  unfold okNm at h
  simp only [Bool.and_eq_true, Bool.not_eq_true'] at h
  exact ⟨h.1.1, h.1.2, fun z => by rw [z] at h; exact absurd h.2 (by decide)⟩
theorem vis_of {sc : Scope} {x : Str} (h : visB sc x = true) : Vis sc x := by
  unfold visB at h
  split at h
  · exact .inl (by assumption)
  · exact .inr (.inl (by assumption))
  · exact .inr (.inr (by assumption))
  · cases h
theorem gl_of (hX : CtxOk G C W k X) {x : Str} (h : glB k.sc x = true) : Gl X x := by
  unfold glB at h
  split at h
  · show X.env.scope.names.lookup x = _
    rw [hX.sc]; assumption
  · cases h
theorem free_of (hX : CtxOk G C W k X) {x : Str} (h : isFree k x = true) : Gl X x ∧ X.mg x = none ∧ (x == ("__debug__" : Str)) = false ∧ x ≠ "__name__" := by
  unfold isFree at h
  simp only [Bool.and_eq_true] at h
  obtain ⟨⟨h1, h2⟩, h3⟩ := h
  split at h3
  · exact ⟨gl_of hX h1, hX.fre _ (by assumption), (okNm_of h2).1, (okNm_of h2).2.2⟩
  · cases h3
theorem cName_ok (hX : CtxOk G C W k X) (x : Str) : Snd G C W X (.Name x pos) (cName k x) := by
  unfold cName
  split
  · rename_i h1
    obtain ⟨d1, d2, d3⟩ := okNm_of h1
    split
    · rename_i h2
      simp only [Bool.and_eq_true, decide_eq_true_eq] at h2
      exact snd_var (by rw [hX.hN]; exact h2.2) (by rw [hX.sc]; exact vis_of h2.1) hX.hK d1 d2
    · split
      · rename_i h3
        split
        · rename_i d hd
          obtain ⟨u, v, m1, m2, m3⟩ := hX.con x d hd
          exact snd_glo (gl_of hX h3) m1 m2 m3 d1 hX.hK
        · rename_i g ms ps hd
          exact snd_gfn (gl_of hX h3) (hX.fns x g ms ps hd).1 d1 hX.hK
        · exact snd_bad
      · exact snd_bad
  · exact snd_bad
theorem cConst_ok (hX : CtxOk G C W k X) (c : Const) {j : Nat} : Snd G C W X (.Constant c j pos) (cConst c) := by
  cases c <;> first | exact snd_int hX.hK | exact snd_bl hX.hK | exact snd_non hX.hK | exact snd_str hX.hK | exact snd_bad
variable (hX : CtxOk G C W k X) (hf : ∀ e, Snd G C W X e (f e))
include hX hf
theorem cBin_ok {op : Operator} : Snd G C W X (.BinOp a op b pos) (if binOkB op then .bin op (f a) (f b) else bad) := by
  split
  · rename_i h
    cases op with
    | Add => exact snd_bin op_addA (ops_add hX.hK) (hf a) (hf b) hX.hK
    | Sub => exact snd_bin op_sub ops_sub (hf a) (hf b) hX.hK
    | Mult => exact snd_bin op_mulA ops_mul (hf a) (hf b) hX.hK
    | FloorDiv => exact snd_bin op_fdivA ops_fdiv (hf a) (hf b) hX.hK
    | Mod => exact snd_bin op_modN ops_mod (hf a) (hf b) hX.hK
    | Pow => exact snd_bin op_pow ops_pow (hf a) (hf b) hX.hK
    | LShift => exact snd_bin op_shl ops_shl (hf a) (hf b) hX.hK
    | _ => exact absurd h Bool.false_ne_true
  · exact snd_bad
omit hf in
theorem cmp_rule (op : CmpOp) : ∃ r, OpR X (compareOp op) r ∧ OpS G X r (wrapB (cmpD op)) := by
  cases op
  · exact ⟨_, op_eqC hX.hK hX.un, ops_eq⟩
  · exact ⟨_, op_neC hX.hK hX.un, ops_ne⟩
  · exact ⟨_, op_ltA hX.un, ops_lt hX.hK⟩
  · exact ⟨_, op_le, ops_le⟩
  · exact ⟨_, op_gt, ops_gt⟩
  · exact ⟨_, op_ge, ops_ge⟩
  · exact ⟨_, op_isA, ops_is⟩
  · exact ⟨_, op_isnA, ops_isn⟩
  · exact ⟨_, op_inC hX.hK hX.un, ops_in⟩
  · exact ⟨_, op_niC hX.hK hX.un, ops_ni⟩
theorem cCmp_ok {op : CmpOp} : Snd G C W X (.Compare a [op] [b] pos) (if behindInMarks op b then bad else .cmp op (f a) (f b)) := by
  split
  · exact snd_bad
  · rename_i h
    obtain ⟨r, h1, h2⟩ := cmp_rule hX op
    exact snd_cmp h1 h2 (hf a) (hf b) (by simpa using h)
theorem cChn_ok {o1 o2 : CmpOp} : Snd G C W X (.Compare a [o1, o2] [b, c] pos) (if lastMarks [o1, o2] [b, c] then bad else .chn o1 o2 (f a) (f b) (f c)) := by
  split
  · exact snd_bad
  · rename_i h
    obtain ⟨r, h1, h2⟩ := cmp_rule hX o1
    obtain ⟨r', h3, h4⟩ := cmp_rule hX o2
    exact snd_chn h1 h3 h2 h4 (hf a) (hf b) (hf c) (by simpa using h)
theorem cAnd_ok : ∀ (es : List Expr) (a : Expr), SndB G C W X .And (a :: es) (cAnd f (a :: es))
  | [], a => sndB_and1 (hf a)
  | b :: es, a => sndB_and (hf a) (cAnd_ok es b) hX.hK
theorem cOr_ok : ∀ (es : List Expr) (a : Expr), SndB G C W X .Or (a :: es) (cOr f (a :: es))
  | [], a => sndB_or1 (hf a)
  | b :: es, a => sndB_or (hf a) (cOr_ok es b) hX.hK
omit hX in
theorem mkDs_ok : ∀ {es : List Expr}, es.all NoStar = true → SndDs G C W X es (mkEs f es)
  | [], _ => sndDs_nil
  | e :: es, h => by
    rw [List.all_cons, Bool.and_eq_true] at h
    exact sndDs_cons (hf e) h.1 (mkDs_ok h.2)
omit hX in
theorem mkOs_ok : ∀ {es : List Expr}, es.all NoStar = true → SndOs G C W X es (mkEs f es)
  | [], _ => sndOs_nil
  | e :: es, h => by
    rw [List.all_cons, Bool.and_eq_true] at h
    exact sndOs_cons (hf e) h.1 (mkOs_ok h.2)
omit hX hf in
theorem sndA_bad : SndA G C W X e bad := ⟨⟨fun _ _ _ _ _ _ ⟨_, _, _, q⟩ => False.elim q⟩⟩
omit hX in
theorem cArg_ok {m : Bool} : SndA G C W X e (cArg f m e) := by
  unfold cArg
  split
  · split
    · rename_i hn
      cases e <;> first | cases hn | skip
      rename_i x p
      have q := hf (.Name x p)
      split
      · rename_i i e
        rw [e] at q
        exact sndA_ref q
      · exact sndA_bad
    · exact sndA_fre (hf e)
  · split
    · exact sndA_bad
    · rename_i h
      exact sndA_val (hf e) (by simpa using h)
omit hX in
theorem mkAs_ok : ∀ {es : List Expr} {ms : List Bool}, es.all NoStar = true → SndAs G C W X es (mkAs f ms es)
  | [], ms, _ => sndAs_nil
  | e :: es, ms, h => by
    rw [List.all_cons, Bool.and_eq_true] at h
    exact sndAs_cons (cArg_ok hf) h.1 (mkAs_ok h.2)
def BkOk (G : Glo) (X : Cx) (x : Str) : Bk → Prop
  | .b id b => bootBuiltins x = some (.builtin id) ∧ ∃ r, CallR X (.builtin id) r ∧ BiS G r b
  | .t T b => bootBuiltins x = some (.type T) ∧ ∃ r, CallR X (.type T) r ∧ BiS G r b
omit hf in
theorem bList_ok : ∀ q ∈ bList, BkOk G X q.1 q.2.2 := by
  have hc := hX.hc
  have hK := hX.hK
  unfold bList
  refine List.forall_mem_cons.mpr ⟨⟨rfl, _, cr_lenA, bi_len hK⟩, ?_⟩
  refine List.forall_mem_cons.mpr ⟨⟨rfl, _, cr_all hc, bi_all hK⟩, ?_⟩
  refine List.forall_mem_cons.mpr ⟨⟨rfl, _, cr_any hc, bi_any hK⟩, ?_⟩
  refine List.forall_mem_cons.mpr ⟨⟨rfl, _, call_abs, bi_abs⟩, ?_⟩
  refine List.forall_mem_cons.mpr ⟨⟨rfl, _, cr_sum hc, bi_sum hK⟩, ?_⟩
  refine List.forall_mem_cons.mpr ⟨⟨rfl, _, cr_max hc, bi_max hK⟩, ?_⟩
  refine List.forall_mem_cons.mpr ⟨⟨rfl, _, cr_min hc, bi_min hK⟩, ?_⟩
  refine List.forall_mem_cons.mpr ⟨⟨rfl, _, cr_sortA, bi_sortA hK⟩, ?_⟩
  refine List.forall_mem_cons.mpr ⟨⟨rfl, _, call_tupleN, bi_tuple hK⟩, ?_⟩
  refine List.forall_mem_cons.mpr ⟨⟨rfl, _, call_list_of, bi_list hK⟩, ?_⟩
  refine List.forall_mem_cons.mpr ⟨⟨rfl, _, call_int1, bi_int⟩, ?_⟩
  refine List.forall_mem_cons.mpr ⟨⟨rfl, _, call_str_int, bi_str⟩, ?_⟩
  refine List.forall_mem_cons.mpr ⟨⟨rfl, _, call_dmN, bi_divmod⟩, ?_⟩
  refine List.forall_mem_cons.mpr ⟨⟨rfl, _, call_max2 hc, bi_max2⟩, ?_⟩
  refine List.forall_mem_cons.mpr ⟨⟨rfl, _, call_min2 hc, bi_min2⟩, ?_⟩
  exact fun q h => by cases h
omit hf in
theorem bTab_ok {x : Str} {n : Nat} {bk : Bk} (h : bTab x n = some bk) : BkOk G X x bk := by
  unfold bTab at h
  obtain ⟨q, h1, rfl⟩ := Option.map_eq_some_iff.mp h
  have h2 := List.mem_of_find?_eq_some h1
  have h3 := List.find?_some h1
  simp only [Bool.and_eq_true, beq_iff_eq] at h3
  rw [← h3.1]
  exact bList_ok hX q h2
omit hX hf in
theorem tyTab_ok {x : Str} {T : String} (h : tyTab x = some T) : bootBuiltins x = some (.type T) := by
  unfold tyTab at h
  obtain ⟨q, h1, rfl⟩ := Option.map_eq_some_iff.mp h
  have h2 := List.mem_of_find?_eq_some h1
  have h3 := List.find?_some h1
  simp only [beq_iff_eq] at h3
  rw [← h3]
  have all : ∀ q ∈ tyList, bootBuiltins q.1 = some (.type q.2) := by
    unfold tyList
    repeat (refine List.forall_mem_cons.mpr ⟨rfl, ?_⟩)
    exact fun q h => by cases h
  exact all q h2
theorem cBi1_ok {x : Str} (hfree : Gl X x ∧ X.mg x = none ∧ (x == ("__debug__" : Str)) = false ∧ x ≠ "__name__") (he : es.all NoStar = true) {n : Nat} (hn : es ≠ []) : Snd G C W X (.Call (.Name x p) es [] pos) (match bTab x n with
        | some (.b _ b) => .bi b (mkEs f es)
        | some (.t _ b) => .bi b (mkEs f es)
        | none => bad) := by
  obtain ⟨g1, g2, g3, g4⟩ := hfree
  cases es with
  | nil => exact absurd rfl hn
  | cons e es =>
    split
    · rename_i id b hb
      obtain ⟨h1, r, h2, h3⟩ := bTab_ok hX hb
      exact snd_biB h2 h3 g1 g2 h1 g4 g3 (mkOs_ok hf he) hX.hK
    · rename_i id b hb
      obtain ⟨h1, r, h2, h3⟩ := bTab_ok hX hb
      exact snd_biT h2 h3 g1 g2 h1 g4 g3 (mkOs_ok hf he) hX.hK
    · exact snd_bad
omit hf in
theorem cNest_ok (hf : ∀ e, Snd G C W X e (f e)) {x y : Str} {q q2 : Pos} {E1 : E} (hfree : Gl X x ∧ X.mg x = none ∧ (x == ("__debug__" : Str)) = false ∧ x ≠ "__name__") (h : cNest k f x y a = some E1) : Snd G C W X (.Call (.Name x p) [.Call (.Name y q) [a] [] q2] [] pos) E1 := by
  unfold cNest at h
  split at h
  · rename_i h0
    rw [Bool.and_eq_true] at h0
    obtain ⟨y1, y2, y3, y4⟩ := free_of hX h0.1
    obtain ⟨g1, g2, g3, g4⟩ := hfree
    split at h
    · rename_i hx
      simp only [Bool.and_eq_true, decide_eq_true_eq] at hx
      obtain ⟨rfl, rfl⟩ := hx
      cases h
      exact snd_sortedSet (hf a) h0.2 y1 y2 g1 g2 hX.hc hX.un hX.hK
    · split at h
      · rename_i hx
        simp only [Bool.and_eq_true, decide_eq_true_eq] at hx
        obtain ⟨rfl, rfl⟩ := hx
        cases h
        exact snd_lrange1 (hf a) h0.2 y1 y2 g1 g2 hX.hc hX.hK
      · split at h
        · rename_i hx
          simp only [Bool.and_eq_true, decide_eq_true_eq] at hx
          obtain ⟨rfl, rfl⟩ := hx
          cases h
          exact snd_trange1 (hf a) h0.2 y1 y2 g1 g2 hX.hc hX.hK
        · split at h
          · rename_i hx
            simp only [Bool.and_eq_true, decide_eq_true_eq] at hx
            obtain ⟨rfl, rfl⟩ := hx
            cases h
            exact snd_lenSet (hf a) h0.2 y1 y2 g1 g2 hX.hc hX.hK
          · cases h
  · cases h
theorem cBi_ok {x : Str} (hfree : Gl X x ∧ X.mg x = none ∧ (x == ("__debug__" : Str)) = false ∧ x ≠ "__name__") (hn : es ≠ []) : Snd G C W X (.Call (.Name x p) es [] pos) (cBi k f x es) := by
  unfold cBi
  split
  · rename_i he
    split
    · rename_i y q a q2
      split
      · rename_i E1 hn1
        exact cNest_ok hX hf hfree hn1
      · exact cBi1_ok hX hf hfree he hn
    · rename_i a y py
      split
      · rename_i hx
        split
        · rename_i T hT
          split
          · rename_i hy
            obtain ⟨g1, g2, g3, g4⟩ := hfree
            obtain ⟨y1, y2, y3, y4⟩ := free_of hX hy
            rw [List.all_cons, Bool.and_eq_true] at he
            exact snd_isi (hf a) he.1 g1 g2 (by rw [hx]; rfl) g4 g3 y1 y2 (tyTab_ok hT) y4 y3 hX.hK
          · exact snd_bad
        · exact snd_bad
      · exact cBi1_ok hX hf hfree he hn
    · exact cBi1_ok hX hf hfree he hn
  · exact snd_bad
theorem cCall_ok {x : Str} : Snd G C W X (.Call (.Name x p) es [] pos) (cCall k f x es) := by
  unfold cCall
  split
  · rename_i h
    rw [Bool.and_eq_true] at h
    have hg := gl_of hX h.1
    obtain ⟨d1, d2, d3⟩ := okNm_of h.2
    split
    · rename_i g ms ps hd
      obtain ⟨h1, h2, j, fd, h3, h4, h5, _⟩ := hX.fns x g ms ps hd
      split
      · rename_i hs
        cases es with
        | nil => exact snd_call0 hX.tk h3 h4 hg h1 h2 h5 d1 hX.hK
        | cons e es => exact snd_call hX.tk h3 h4 hg h1 h2 h5 (mkAs_ok hf hs) d1 hX.hK
      · exact snd_bad
    · rename_i hd
      cases es with
      | nil =>
        have e : bTab x ([] : List Expr).length = none := by
          unfold bTab
          rw [Option.map_eq_none_iff, List.find?_eq_none]
          unfold bList
          repeat (refine List.forall_mem_cons.mpr ⟨by simp, ?_⟩)
          exact fun q h => by cases h
        have e2 : cBi k f x [] = bad := by
          show (match bTab x ([] : List Expr).length with
            | some (.b _ b) => .bi b (mkEs f [])
            | some (.t _ b) => .bi b (mkEs f [])
            | none => bad) = bad
          rw [e]
        rw [e2]
        exact snd_bad
      | cons e es => exact cBi_ok hX hf ⟨hg, hX.fre x hd, d1, d3⟩ (by simp)
    · rename_i hd
      split
      · rename_i h2
        rw [Bool.and_eq_true] at h2
        cases es with
        | nil => exact absurd rfl (of_decide_eq_true h2.2)
        | cons e es => exact snd_gcd hg (hX.gcd x hd) d1 (mkOs_ok hf h2.1) hX.hK
      · exact snd_bad
    · exact snd_bad
  · split
    · rename_i h2
      simp only [Bool.and_eq_true, decide_eq_true_eq] at h2
      obtain ⟨⟨⟨⟨h3, h4⟩, h5⟩, h6⟩, h7⟩ := h2
      obtain ⟨d1, d2, d3⟩ := okNm_of h3
      cases es with
      | nil => exact absurd rfl h6
      | cons e es => exact snd_callv hX.tk hX.fnI (by rw [hX.hN]; exact h7) (by rw [hX.sc]; exact vis_of h4) (mkAs_ok hf h5) d1 d2 hX.hK
    · exact snd_bad
omit hX in
theorem mkKs_ok {ms : List Bool} {ps : List Str} : ∀ {kws : List Keyword}, SndK G C W X kws (mkKs f ms ps kws)
  | [] => sndK_nil
  | ⟨some x, e, _⟩ :: r => sndK_cons (cArg_ok hf) (mkKs_ok (kws := r))
  | ⟨none, e, _⟩ :: r => sndK_cons (cArg_ok hf) (mkKs_ok (kws := r))
omit hX hf in
theorem mkKs_len {ms : List Bool} {ps : List Str} : ∀ {kws : List Keyword}, kws.all (fun q => q.arg.isSome) = true → (mkKs f ms ps kws).len = (kwNames kws).length
  | [], _ => rfl
  | ⟨some x, e, _⟩ :: r, h => by
    rw [List.all_cons, Bool.and_eq_true] at h
    show (mkKs f ms ps r).len + 1 = (kwNames r).length + 1
    rw [mkKs_len h.2]
  | ⟨none, e, _⟩ :: r, h => by
    rw [List.all_cons, Bool.and_eq_true] at h
    cases h.1
omit hX hf in
theorem mkAs_len : ∀ {es : List Expr} {ms : List Bool}, (mkAs f ms es).len = es.length
  | [], _ => rfl
  | e :: es, ms => by
    show (mkAs f ms.tail es).len + 1 = es.length + 1
    rw [mkAs_len]
omit hX hf in
theorem kw_all {env : PySem.Env} : ∀ {kws : List Keyword}, kws.all (fun q => q.arg.isSome) = true → (backToKw pos (keywordEach kws env)).all (·.1.isSome) = true ∧ (backToKw pos (keywordEach kws env)).filterMap (·.1) = kwNames kws
  | [], _ => ⟨rfl, rfl⟩
  | ⟨some x, e, kp⟩ :: r, h => by
    rw [List.all_cons, Bool.and_eq_true] at h
    obtain ⟨h1, h2⟩ := kw_all (kws := r) (env := env) h.2
    unfold backToKw at h1 h2 ⊢
    exact ⟨h1, by
      show x :: List.filterMap _ (List.map _ (keywordEach r env)) = x :: kwNames r
      rw [← h2]⟩
  | ⟨none, e, _⟩ :: r, h => by
    rw [List.all_cons, Bool.and_eq_true] at h
    cases h.1
theorem cCallK_ok {x : Str} {kws : List Keyword} : Snd G C W X (.Call (.Name x p) es kws pos) (cCallK k f x es kws) := by
  unfold cCallK
  split
  · rename_i h
    rw [Bool.and_eq_true] at h
    have hg := gl_of hX h.1
    obtain ⟨d1, d2, d3⟩ := okNm_of h.2
    split
    · rename_i g ms ps hd
      obtain ⟨h1, h2, j, fd, h3, h4, h5, h6⟩ := hX.fns x g ms ps hd
      split
      · rename_i hs
        simp only [Bool.and_eq_true, List.contains_iff_mem] at hs
        obtain ⟨⟨s1, s2⟩, s3⟩ := hs
        obtain ⟨q1, q2⟩ := kw_all (pos := pos) (env := X.env) s2
        exact snd_callk hX.tk h3 h4 hg h1 h2 (h6 _ _ s3) (mkAs_ok hf s1) (mkKs_ok hf) d1 q1 q2 mkAs_len (mkKs_len s2) hX.hK
      · exact snd_bad
    · exact snd_bad
  · exact snd_bad
omit hf in
theorem cDict_ok {ks : List (Option Expr)} {vs : List Expr} : Snd G C W X (.Dict ks vs pos) (cDict ks vs) := by
  unfold cDict
  split
  · refine Snd.mk1 (pewk pe_dnewK fun σ H Q h => ?_) rfl hX.hK fun _ => rfl
    obtain ⟨F, ρ, hr, h⟩ := h
    exact fun p hp => h _ _ (Stp.layF (o := .dK []) hr hp) _ (.dct upd_same .nil)
  · rename_i x k1 p1 i k2 p2
    refine Snd.mk1 (pewk (pe_disp (pps_cons pe_str pe_int pps_nil) rfl rfl (by simp) (by simp)) fun σ H Q h => ?_) rfl hX.hK fun _ => rfl
    obtain ⟨F, ρ, hr, h⟩ := h
    intro p hp
    refine ⟨upd_same, [(.inr x, .int i)], rfl, by simp, ?_⟩
    have e : upd (upd H p (.dK [])) p (.dK (mergeK [] [(.inr x, .int i)])) = upd H p (.dK [(.inr x, .int i)]) := by
      funext b
      by_cases hb : b = p
      · subst hb; rw [upd_same, upd_same]; rfl
      · rw [upd_ne hb, upd_ne hb, upd_ne hb]
    rw [e]
    exact h _ _ (Stp.layF (o := .dK [(.inr x, .int i)]) hr hp) _ (.dct upd_same (.cons (.int i) .nil))
  · exact snd_bad
theorem cMeth_ok {x m : Str} {px apos : Pos} : Snd G C W X (.Call (.Attribute (.Name x px) m apos) es [] pos) (cMeth k f x px m es apos pos) := by
  unfold cMeth
  split
  · rename_i h
    simp only [Bool.and_eq_true, decide_eq_true_eq] at h
    obtain ⟨⟨⟨h1, h2⟩, h3⟩, h4⟩ := h
    have q := hf (.Name x px)
    split
    · rename_i i e
      rw [e] at q
      cases es with
      | nil =>
        dsimp only
        split
        · rename_i hm
          subst hm
          exact snd_mo0 PySem.F.slot_list_pop PySem.F.type_list_pop (fun pins s σ H x xs v us Q I rx rxs h => mt_pop pins s σ H x xs v us Q I rx rxs h) mo_pop q h3 hX.hK
        · exact snd_bad
      | cons e es =>
        dsimp only
        split
        · rename_i hm
          subst hm
          exact snd_mo PySem.F.slot_list_append PySem.F.type_list_append (fun pins s σ H x xs v us Q I rx rxs h => mt_append pins s σ H x xs v us Q I rx rxs h) mo_append q (mkDs_ok hf h1) h2 h3 hX.hK
        · split
          · rename_i hm
            subst hm
            exact snd_mo PySem.F.slot_list_pop PySem.F.type_list_pop (fun pins s σ H x xs v us Q I rx rxs h => mt_popAt pins s σ H x xs v us Q I rx rxs h) mo_popAt q (mkDs_ok hf h1) h2 h3 hX.hK
          · split
            · rename_i hm
              subst hm
              exact snd_mo PySem.F.slot_list_extend PySem.F.type_list_extend (fun pins s σ H x xs v us Q I rx rxs h => mt_extend pins s σ H x xs v us Q I rx rxs h) mo_extend q (mkDs_ok hf h1) h2 h3 hX.hK
            · exact snd_bad
    · exact snd_bad
  · exact snd_bad
omit hX hf in
theorem fold_ok {it : Expr} (h : isSetD it = false) {env : PySem.Env} (x : Value) : foldedSetIterable it env x = pure x := by
  cases it <;> first | rfl | cases h
theorem cSrN_ok {tg it : Expr} {x : Str} {es : List Expr} (e : it = .Call (.Name x p) es [] pos) : SndS G C W X tg it (cSrN k f tg it x es) := by
  have dflt : SndS G C W X tg it (.seq (f it)) := snds_seq (hf it) (fun x => by subst e; rfl) hX.hK
  unfold cSrN
  split
  · rename_i h
    rw [Bool.and_eq_true] at h
    obtain ⟨g1, g2, g3, g4⟩ := free_of hX h.1
    split
    · rename_i a
      have ha : NoStar a = true := by have := h.2; rw [List.all_cons, Bool.and_eq_true] at this; exact this.1
      split
      · rename_i hx
        subst hx; subst e
        exact snds_rng1 (hf a) ha g1 g2 fun _ => rfl
      · split
        · rename_i hx
          subst hx; subst e
          split
          · exact snds_enum (hf a) ha g1 g2 (fun _ => rfl) hX.hK
          · exact dflt
        · exact dflt
    · rename_i a b
      have ha : NoStar a = true ∧ NoStar b = true := by
        have := h.2
        rw [List.all_cons, List.all_cons, Bool.and_eq_true, Bool.and_eq_true] at this
        exact ⟨this.1, this.2.1⟩
      split
      · rename_i hx
        subst hx; subst e
        exact snds_rng2 (hf a) ha.1 (hf b) ha.2 g1 g2 fun _ => rfl
      · split
        · rename_i hx
          subst hx; subst e
          split
          · exact snds_zip (hf a) ha.1 (hf b) ha.2 g1 g2 (fun _ => rfl) hX.hK
          · exact dflt
        · exact dflt
    · exact dflt
  · exact dflt
theorem cSr_ok {tg it : Expr} (h : isSetD it = false) : SndS G C W X tg it (cSr k f tg it) := by
  have dflt : SndS G C W X tg it (.seq (f it)) := snds_seq (hf it) (fun x => fold_ok h x) hX.hK
  unfold cSr
  split
  · exact cSrN_ok hX hf rfl
  · exact dflt
omit hf in
theorem cT_ok : ∀ (n : Nat) (e : Expr) (t : T), cT k n e = some t → SndT G X e t
  | 0, e, t, h => by unfold cT at h; cases h
  | n + 1, e, t, h => by
    unfold cT at h
    split at h
    · cases h
    · rename_i x px _
      split at h
      · rename_i hl
        cases h
        unfold locB at hl
        rw [Bool.and_eq_true, decide_eq_true_eq] at hl
        obtain ⟨h1, h2⟩ := hl
        have nd := hX.nd
        split at h1
        · rename_i hs
          have hs' : X.env.scope.names.lookup x = some .local := by rw [hX.sc]; exact hs
          exact sndT_name (by rw [hX.hN]; exact nd) (by rw [hX.hN]; exact h2) (.inl hs') (.inr hs')
        · rename_i hs
          exact sndT_name (by rw [hX.hN]; exact nd) (by rw [hX.hN]; exact h2) (.inr (by rw [hX.sc]; exact hs)) (.inl (hX.fn x h1))
        · cases h1
      · cases h
    · rename_i n' es kk px hn
      split at h
      · rename_i hp
        obtain ⟨ts, e1, rfl⟩ := Option.map_eq_some_iff.mp h
        cases hn
        have key : ∀ (es : List Expr) (ts : List T), es.mapM (cT k n) = some ts → es.all PlainT = true → SndTs G X es ts ∧ es.length = ts.length := by
          intro es
          induction es with
          | nil =>
            intro ts e _
            simp only [List.mapM_nil] at e
            cases e
            exact ⟨sndTs_nil, rfl⟩
          | cons y ys ih =>
            intro ts e hp
            rw [List.all_cons, Bool.and_eq_true] at hp
            simp only [List.mapM_cons, Option.bind_eq_bind] at e
            obtain ⟨t1, e1, e2⟩ := Option.bind_eq_some_iff.mp e
            obtain ⟨ts2, e3, e4⟩ := Option.bind_eq_some_iff.mp e2
            cases e4
            obtain ⟨r1, r2⟩ := ih ts2 e3 hp.2
            exact ⟨sndTs_cons (cT_ok n y t1 e1) hp.1 r1, by simp [r2]⟩
        obtain ⟨r1, r2⟩ := key es ts e1 hp
        exact sndT_tup hX.hc r1 r2 hp hX.hK
      · cases h
    · cases h
end
theorem plain_ix {b : Expr} (h : isSlice b = false) : PlainIx b := by
  intro o i
  cases b <;> first | rfl | cases h
section
variable {G : Glo} {C : CallF} {W : WX} {X : Cx} {k : Cfg} {e a b c : Expr} {A B Cc : E} {pos p : Pos} {es : List Expr} {f : Expr → E}
theorem cPart_ok (hf : ∀ e, Snd G C W X e (f e)) {l : Option Expr} : SndP G C W X l (cPart f l) := by
  cases l with
  | none => exact sndP_none
  | some e =>
    show SndP G C W X (some e) (if isNop (f e) then bad else f e)
    split
    · exact sndP_some snd_bad rfl
    · rename_i h
      exact sndP_some (hf _) (by simpa using h)
theorem cIfs_ok (hf : ∀ e, Snd G C WF X e (f e)) {ifs : List Expr} {c : E} (h : cIfs f ifs = some c) : SndI G C X ifs c := by
  unfold cIfs at h
  split at h
  · cases h; exact sndI_nil
  · split at h
    · cases h
    · rename_i hn
      cases h
      exact sndI_one (hf _) (by simpa using hn)
  · cases h
theorem baseB_ok {o : Expr} {m : Str} {env : PySem.Env} (h : baseB o = true) : attributeBase o m env (eval o env) = eval o env := by
  unfold baseB at h
  split at h <;> first | rfl | cases h
theorem cIndex_ok (hX : CtxOk G C W k X) (hf : ∀ e, Snd G C W X e (f e)) {o : Expr} {apos : Pos} : Snd G C W X (.Call (.Attribute o "index" apos) es [] pos) (cIndex f o es apos pos) := by
  unfold cIndex
  split
  · rename_i h
    simp only [Bool.and_eq_true, decide_eq_true_eq] at h
    obtain ⟨⟨⟨⟨h1, h2⟩, h3⟩, h4⟩, h5⟩ := h
    cases es with
    | nil => exact absurd rfl h2
    | cons e es => exact snd_index (hf o) (mkOs_ok hf h1) (baseB_ok h5) h3 h4 hX.hK
  · exact snd_bad
theorem cAttr_ok (hX : CtxOk G C W k X) (hf : ∀ e, Snd G C W X e (f e)) {o : Expr} {m : Str} {apos : Pos} : Snd G C W X (.Call (.Attribute o m apos) es [] pos) (cAttr k f o m es apos pos) := by
  unfold cAttr
  split
  · rename_i h
    subst h
    exact cIndex_ok hX hf
  · split
    · exact cMeth_ok hX hf
    · exact snd_bad
theorem cSub_ok (hX : CtxOk G C W k X) (hf : ∀ e, Snd G C W X e (f e)) : Snd G C W X (.Subscript a b pos) (cSub f a b) := by
  unfold cSub
  split
  · exact snd_rev (hf _) hX.hK
  · exact snd_slc (hf _) (cPart_ok hf) (cPart_ok hf) hX.hK
  · split
    · exact snd_bad
    · rename_i h
      exact snd_idx (hf _) (hf _) (plain_ix (by simpa using h)) hX.hK
theorem cBool_ok (hX : CtxOk G C W k X) (hf : ∀ e, Snd G C W X e (f e)) {o : PySem.BoolOp} : Snd G C W X (.BoolOp o es pos) (cBool f o es) := by
  unfold cBool
  split
  · exact (cAnd_ok hX hf _ _).snd rfl
  · exact (cOr_ok hX hf _ _).snd rfl
  · exact snd_bad
theorem cUn_ok (hX : CtxOk G C W k X) (hf : ∀ e, Snd G C W X e (f e)) {o : PySem.UnaryOp} : Snd G C W X (.UnaryOp o a pos) (cUn f o a) := by
  unfold cUn
  split
  · exact snd_not (hf _) hX.hK
  · exact snd_neg (hf _) hX.hK
  · exact snd_bad
theorem cCmpE_ok (hX : CtxOk G C W k X) (hf : ∀ e, Snd G C W X e (f e)) {ops : List CmpOp} : Snd G C W X (.Compare a ops es pos) (cCmp f a ops es) := by
  unfold cCmp
  split
  · exact cCmp_ok hX hf
  · exact cChn_ok hX hf
  · exact snd_bad
theorem cCallE_ok (hX : CtxOk G C W k X) (hf : ∀ e, Snd G C W X e (f e)) {g : Expr} {ws : List Keyword} : Snd G C W X (.Call g es ws pos) (cCallE k f g es ws pos) := by
  unfold cCallE
  split
  · exact cCall_ok hX hf
  · exact cCallK_ok hX hf
  · exact cAttr_ok hX hf
  · exact snd_bad
theorem cE_ok : ∀ (n : Nat) {W : WX} {X : Cx} {k : Cfg}, CtxOk G C W k X → ∀ e, Snd G C W X e (cE n k e)
  | 0, W, X, k, hX, e => snd_bad
  | n + 1, W, X, k, hX, e => by
    have hf : ∀ e, Snd G C W X e (cE n k e) := cE_ok n hX
    cases e with
    | Name x p => exact cName_ok hX _
    | Constant c j p => exact cConst_ok hX _
    | BoolOp o es p => exact cBool_ok hX hf
    | UnaryOp o a p => exact cUn_ok hX hf
    | BinOp a op b p => exact cBin_ok hX hf
    | IfExp c a b p => exact snd_ife (hf _) (hf _) (hf _)
    | Compare a ops bs p => exact cCmpE_ok hX hf
    | Tuple es j p =>
      show Snd G C W X _ (if es.all NoStar then .tup (mkEs (cE n k) es) else bad)
      split
      · exact snd_tup (mkDs_ok hf (by assumption)) hX.hK
      · exact snd_bad
    | List es p =>
      show Snd G C W X _ (if es.all NoStar then .lst (mkEs (cE n k) es) else bad)
      split
      · exact snd_lst (mkDs_ok hf (by assumption)) hX.hK
      · exact snd_bad
    | Subscript a b p => exact cSub_ok hX hf
    | Call g es ws p => exact cCallE_ok hX hf
    | Dict ks vs p => exact cDict_ok hX
    | ListComp elt gs sc p =>
      show Snd G C W X _ (cLcE n k (cE n) elt gs sc)
      unfold cLcE
      split
      · rename_i tg it ifs
        unfold cLc
        split
        · rename_i t c ht hc
          split
          · rename_i hb
            simp only [Bool.and_eq_true, Bool.not_eq_true'] at hb
            obtain ⟨⟨⟨h1, h2⟩, hw⟩, h3⟩ := hb
            have ok : BlkOk X.N X.env.scope sc (ownNames k sc) := by rw [hX.hN, hX.sc]; exact blkOk_by h2
            refine snd_lc (wkB_ok hw) hX.hc (by rw [hX.hN]; exact hX.nd) (cSr_ok hX hf h1) ok ?_ (fun s H Ca cl fp => ?_) hX.hK
            · intro i hi
              unfold subB at h3
              have := List.all_eq_true.mp h3 i hi
              simpa using this
            · have hY := hX.blk ok.kind s H Ca cl fp
              exact ⟨cT_ok hY n tg t ht, cIfs_ok (cE_ok n hY) hc, cE_ok n hY elt⟩
          · exact snd_bad
        · exact snd_bad
      · exact snd_bad
    | _ => exact snd_bad
end
end Cr
namespace Cr
open PySem PySem.Spec PyProof.Rows L2
def cTS (k : Cfg) (f : Expr → E) : Nat → Expr → Option T
  | 0, _ => none
  | _ + 1, .Name x _ => if locB k x then some (.name (ixOf k x)) else none
  | n + 1, .Tuple es _ _ => if es.all PlainT then (es.mapM (cTS k f n)).map .tup else none
  | _ + 1, .Subscript (.Name x px) (.Constant (.int i) _ _) _ => (match f (.Name x px) with
    | .var j => some (.sub j i)
    | _ => none)
  | _, _ => none
def isComp : Expr → Bool
  | .ListComp .. | .SetComp .. | .DictComp .. => true
  | _ => false
def isTup : Expr → Bool
  | .Tuple .. => true
  | _ => false
def lclB (k : Cfg) (x : Str) : Bool := (match k.sc.names.lookup x with
  | some .local => true
  | _ => false) && decide (k.N[ixOf k x]? = some x)
def swB (k : Cfg) (x : Str) (px lp : Pos) (sc : Scope) : Bool := lclB k x && (px.line == lp.line) && !(sc.names.any fun (n, q) => n == x && (q == .local || q == .cell))
def mutB (k : Cfg) (x : Str) : Bool := k.own.contains x
def bads : S := .exp bad
/-- x, y = a, b: one behind the other -/
def parB (k : Cfg) (x y : Str) (px py : Pos) (a b : Expr) : Bool := lclB k x && lclB k y && !(x == y) && (py.line == px.line) && NoStar a && NoStar b && !(foldedForSure 8 a && foldedForSure 8 b) && !(constantsAlone 8 a && constantsAlone 8 b)
def foldB (a b : Expr) : Bool := NoStar a && NoStar b && foldedForSure 8 a && foldedForSure 8 b
def isInt : Expr → Bool
  | .Constant (.int _) _ _ => true
  | _ => false
def cAsg (k : Cfg) (n : Nat) (tg e : Expr) : S := match cTS k (cE n k) n tg with
  | some t => if !isTup e && PlainT tg && !isName tg then .asg t (cE n k e) else bads
  | none => (match tg with
    | .Subscript (.Name x px) b _ => if !isTup e && !isSlice b then (match cE n k (.Name x px) with
      | .var i => .sidx i (cE n k b) (cE n k e)
      | _ => bads) else bads
    | _ => bads)
def lcOkB : Expr → Bool
  | .ListComp _ [⟨_, _, _, 0⟩] _ _ => true
  | e => !isComp e
def cSet (k : Cfg) (n : Nat) (x : Str) (px : Pos) (e : Expr) : S := if locB k x && lcOkB e then .set (ixOf k x) (mutB k x) (cE n k e) else bads
def mkSs (f : Stmt → S) : List Stmt → Ss
  | [] => .nil
  | s :: ss => .cons (f s) (mkSs f ss)
def cS : Nat → Cfg → Stmt → S
  | 0, _, _ => bads
  | n + 1, k, s => (match s with
    | .Expr (.Constant (.str _) _ _) _ => .pass
    | .Pass _ => .pass
    | .Expr e _ => if isComp e then bads else .exp (cE n k e)
    | .Assign [.Name x px] e _ => cSet k n x px e
    | .Assign [.Tuple [.Name x px, .Name y py] _ _] (.Tuple [a, b] _ _) _ => if parB k x y px py a b then .set2 (ixOf k x) (ixOf k y) (mutB k x) (mutB k y) (cE n k a) (cE n k b) else bads
    | .Assign [tg] e _ => cAsg k n tg e
    | .Return (some e) _ => .ret (cE n k e)
    | .Return none _ => .ret (.cst .non)
    | .If c a b _ => .ife (cE n k c) (mkSs (cS n k) a) (mkSs (cS n k) b)
    | .For tg it body [] _ => (match cT k n tg with
      | some t => if isSetD it || !wkB (cSr k (cE n k) tg it) t then bads else .for t (cSr k (cE n k) tg it) (mkSs (cS n k) body)
      | none => bads)
    | .While c body [] _ => .whl (cE n k c) (mkSs (cS n k) body)
    | _ => bads)
section
variable {G : Glo} {C : CallF} {W : WX} {X : Cx} {k : Cfg} {e a b c : Expr} {A B Cc : E} {pos p : Pos} {es : List Expr} {f : Expr → E} {Wn : Nat}
theorem st_bad {st : Stmt} : SndSt G C Wn W X st bads := ⟨⟨fun _ _ _ _ _ _ ⟨_, _, _, q⟩ => False.elim q⟩⟩
theorem cTS_ok (hX : CtxOk G C W k X) (hf : ∀ e, Snd G C W X e (f e)) : ∀ (n : Nat) (e : Expr) (t : T), cTS k f n e = some t → SndT G X e t
  | 0, e, t, h => by unfold cTS at h; cases h
  | n + 1, e, t, h => by
    unfold cTS at h
    split at h
    · cases h
    · rename_i x px _
      split at h
      · rename_i hl
        exact cT_ok hX (n + 1) _ t (by unfold cT; rw [if_pos hl]; exact h)
      · cases h
    · rename_i n' es kk px hn
      split at h
      · rename_i hp
        obtain ⟨ts, e1, rfl⟩ := Option.map_eq_some_iff.mp h
        cases hn
        have key : ∀ (es : List Expr) (ts : List T), es.mapM (cTS k f n) = some ts → es.all PlainT = true → SndTs G X es ts ∧ es.length = ts.length := by
          intro es
          induction es with
          | nil =>
            intro ts e _
            simp only [List.mapM_nil] at e
            cases e
            exact ⟨sndTs_nil, rfl⟩
          | cons y ys ih =>
            intro ts e hp
            rw [List.all_cons, Bool.and_eq_true] at hp
            simp only [List.mapM_cons, Option.bind_eq_bind] at e
            obtain ⟨t1, e1, e2⟩ := Option.bind_eq_some_iff.mp e
            obtain ⟨ts2, e3, e4⟩ := Option.bind_eq_some_iff.mp e2
            cases e4
            obtain ⟨r1, r2⟩ := ih ts2 e3 hp.2
            exact ⟨sndTs_cons (cTS_ok hX hf n y t1 e1) hp.1 r1, by simp [r2]⟩
        obtain ⟨r1, r2⟩ := key es ts e1 hp
        exact sndT_tup hX.hc r1 r2 hp hX.hK
      · cases h
    · rename_i x px i kk pk pp _
      have q := hf (.Name x px)
      split at h
      · rename_i j ej
        cases h
        rw [ej] at q
        exact sndT_sub q
      · cases h
    · cases h
theorem swaps_no {e : Expr} {t : Option Expr} {l : Nat} {env : PySem.Env} (h : isComp e = false) : swapsWith e t l env = pure false := by
  cases e <;> first | rfl | cases h
theorem swaps_tg {e tg : Expr} {l : Nat} {env : PySem.Env} (h : isName tg = false) : swapsWithSole [tg] e l env = pure false := by
  cases e <;> cases tg <;> first | rfl | cases h
theorem swapped_no {e tg : Expr} {env : PySem.Env} (h : isTup e = false) : swappedStores [tg] e env = pure none := by
  cases e <;> cases tg <;> first | rfl | cases h
theorem each_one {tg : Expr} {env : PySem.Env} (h : PlainT tg = true) : (assignEach [tg] env).map (·.2) = [assign tg env] := by
  rw [each_cons h]; rfl
theorem sub_assign {o b : Expr} {tpos : Pos} {env : PySem.Env} (h : isSlice b = false) (v : Value) : assign (.Subscript o b tpos) env v = (do
      let ov ← holding [v] (eval o env)
      let iv ← holding [v, ov] (eval b env)
      standAt tpos
      holding [v, ov, iv] (setItem ov iv v)
      release [v, ov, iv] []) := by
  cases b <;> first | rfl | cases h
theorem no_star : ∀ a : Expr, NoStar a = true → (match a with | .Starred .. => true | _ => false) = false := by
  intro a
  cases a <;> intro h <;> first | rfl | exact absurd h (by simp [NoStar])
theorem swapped_two {x y : Str} {px py pt pt2 : Pos} {kt k2 : Nat} {env : PySem.Env} (hk : env.scope.kind = .function) (hx : env.scope.names.lookup x = some .local) (hy : env.scope.names.lookup y = some .local) (hn : x ≠ y) (hl : (py.line == px.line) = true) (na : NoStar a = true) (nb : NoStar b = true)
    (h1 : (foldedForSure 8 a && foldedForSure 8 b) = false) (h2 : (constantsAlone 8 a && constantsAlone 8 b) = false) : swappedStores [.Tuple [.Name x px, .Name y py] kt pt] (.Tuple [a, b] k2 pt2) env = pure (some [x, y]) := by
  have kx : env.kindOf x = some .local := hx
  have ky : env.kindOf y = some .local := hy
  have kb : env.blockKind = .function := by unfold Env.blockKind; rw [hk]; rfl
  have st : ([a, b].any fun | .Starred .. => true | _ => false) = false := by
    rw [List.any_cons, List.any_cons, List.any_nil, no_star a na, no_star b nb]
    rfl
  unfold swappedStores
  simp only [List.length_cons, List.length_nil, kb, st]
  have px1 : (Expr.Name x px).pos.line = px.line := rfl
  simp only [List.head?_cons, Option.map_some, Option.getD_some, px1, List.filterMap_cons, List.filterMap_nil, kx, ky, hl, beq_self_eq_true, Bool.and_self, if_true, List.length_cons, List.length_nil, List.all_cons, List.all_nil, Bool.and_true, h1, h2]
  have ne : (x == y) = false := by simpa using hn
  have ed : [x, y].eraseDups.length = 2 := by
    rw [List.eraseDups_cons]
    have e1 : ([y].filter fun b => !b == x) = [y] := by simp [Ne.symm hn]
    rw [e1, List.eraseDups_cons]
    rfl
  rw [if_neg (by decide), if_neg (fun h => Bool.noConfusion (show true = false from h.symm.trans st)), if_neg (by rw [ed]; decide)]
  rfl
theorem lcl_of (hX : CtxOk G C W k X) {x : Str} (h : lclB k x = true) : X.N[ixOf k x]? = some x ∧ X.env.scope.names.lookup x = some .local := by
  unfold lclB at h
  rw [Bool.and_eq_true, decide_eq_true_eq] at h
  obtain ⟨h1, h2⟩ := h
  rw [hX.hN, hX.sc]
  split at h1
  · exact ⟨h2, by assumption⟩
  · cases h1
theorem loc_of (hX : CtxOk G C W k X) {x : Str} (h : locB k x = true) : X.N[ixOf k x]? = some x ∧ Loc X.env.scope x ∧ (X.fn x = true ∨ X.env.scope.names.lookup x = some .local) := by
  unfold locB at h
  rw [Bool.and_eq_true, decide_eq_true_eq] at h
  obtain ⟨h1, h2⟩ := h
  rw [hX.hN, hX.sc]
  split at h1
  · exact ⟨h2, .inl (by assumption), .inr (by assumption)⟩
  · exact ⟨h2, .inr (by assumption), .inl (hX.fn x h1)⟩
  · cases h1
theorem cAsg_ok (hX : CtxOk G C W k X) {n : Nat} {tg e : Expr} : SndSt G C Wn W X (.Assign [tg] e pos) (cAsg k n tg e) := by
  have hf : ∀ e, Snd G C W X e (cE n k e) := cE_ok n hX
  unfold cAsg
  split
  · rename_i t ht
    split
    · rename_i h
      simp only [Bool.and_eq_true, Bool.not_eq_true'] at h
      exact st_asg (hf e) (cTS_ok hX hf n tg t ht) (swaps_tg h.2) (swapped_no h.1.1) (each_one h.1.2)
    · exact st_bad
  · split
    · rename_i x px b tp _
      split
      · rename_i h
        simp only [Bool.and_eq_true, Bool.not_eq_true'] at h
        have q := hf (.Name x px)
        split
        · rename_i i ei
          rw [ei] at q
          exact st_sidx (hf e) q (hf b) (swaps_tg rfl) (swapped_no h.1) fun v => sub_assign h.2 v
        · exact st_bad
      · exact st_bad
    · exact st_bad
theorem sw_lc {elt : Expr} {gs : List Comprehension} {sc : Scope} {lp px : Pos} {x : Str} {l : Nat} {env : PySem.Env} (hk : env.scope.kind = .function) :
    swapsWith (.ListComp elt gs sc lp) (some (.Name x px)) l env = pure (env.scope.names.lookup x == some .local && px.line == lp.line && !(sc.names.any fun (n, q) => n == x && (q == .local || q == .cell))) := by
  have hb : env.blockKind = .function := by unfold Env.blockKind; rw [hk]; rfl
  have hn : env.kindOf x = env.scope.names.lookup x := rfl
  unfold swapsWith
  simp only [hb, hn, Expr.pos]
  rfl
theorem cSet_ok (hX : CtxOk G C W k X) {n : Nat} {x : Str} {px : Pos} {e : Expr} : SndSt G C Wn W X (.Assign [.Name x px] e pos) (cSet k n x px e) := by
  have hf : ∀ e, Snd G C W X e (cE n k e) := cE_ok n hX
  unfold cSet
  split
  · rename_i h
    rw [Bool.and_eq_true] at h
    obtain ⟨h1, h2⟩ := h
    obtain ⟨i1, i2, i3⟩ := loc_of hX h1
    unfold lcOkB at h2
    split at h2
    · rename_i elt tg it ifs sc lp
      have hkd : X.env.scope.kind = .function := by rw [hX.sc]; exact hX.kd
      have hsw := sw_lc (elt := elt) (gs := [⟨tg, it, ifs, 0⟩]) (sc := sc) (lp := lp) (px := px) (x := x) (l := pos.line) (env := X.env) hkd
      cases hv : (X.env.scope.names.lookup x == some .local && px.line == lp.line && !(sc.names.any fun (n, q) => n == x && (q == .local || q == .cell))) with
      | false =>
        rw [hv] at hsw
        exact st_set (by rw [hX.hN]; exact hX.nd) i1 i2 i3 (hf _) hsw
      | true =>
        rw [hv] at hsw
        simp only [Bool.and_eq_true] at hv
        have hxl : X.env.scope.names.lookup x = some .local := by
          have := hv.1.1
          revert this
          cases X.env.scope.names.lookup x with
          | none => intro z; cases z
          | some q => cases q <;> intro z <;> first | rfl | cases z
        have dflt : SndSt G C Wn W X (.Assign [.Name x px] (.ListComp elt [⟨tg, it, ifs, 0⟩] sc lp) pos) (.set (ixOf k x) (mutB k x) bad) := ⟨⟨fun _ _ _ _ _ _ ⟨_, _, _, q⟩ => False.elim q⟩⟩
        cases n with
        | zero => exact dflt
        | succ n =>
          have hf : ∀ e, Snd G C W X e (cE n k e) := cE_ok n hX
          show SndSt G C Wn W X _ (.set (ixOf k x) (mutB k x) (cLc n k (cE n) elt tg it ifs sc))
          unfold cLc
          split
          · rename_i t c ht hc
            split
            · rename_i hb
              simp only [Bool.and_eq_true, Bool.not_eq_true'] at hb
              obtain ⟨⟨⟨b1, b2⟩, bw⟩, b3⟩ := hb
              have ok : BlkOk X.N X.env.scope sc (ownNames k sc) := by rw [hX.hN, hX.sc]; exact blkOk_by b2
              refine st_setLc (wkB_ok bw) hX.hc (by rw [hX.hN]; exact hX.nd) i1 hxl hsw (cSr_ok hX hf b1) ok ?_ (fun s H Ca cl fp => ?_)
              · intro i hi
                unfold subB at b3
                have := List.all_eq_true.mp b3 i hi
                simpa using this
              · have hY := hX.blk ok.kind s H Ca cl fp
                exact ⟨cT_ok hY n tg t ht, cIfs_ok (cE_ok n hY) hc, cE_ok n hY elt⟩
            · exact dflt
          · exact dflt
    · rename_i e' hn
      exact st_set (by rw [hX.hN]; exact hX.nd) i1 i2 i3 (hf _) (swaps_no (by simpa using h2))
  · exact st_bad
theorem mkSs_ok {g : Stmt → S} (hg : ∀ s, SndSt G C Wn W X s (g s)) : ∀ ss : List Stmt, SndSs G C Wn W X ss (mkSs g ss)
  | [] => ss_nil
  | s :: ss => ss_cons (hg s) (mkSs_ok hg ss)
theorem cS_ok (hX : CtxOk G C W k X) (hp : PassesOwn (model X.prog X.w) X.A X.env X.xe) : ∀ (n : Nat) (s : Stmt), SndSt G C Wn W X s (cS n k s)
  | 0, s => st_bad
  | n + 1, s => by
    have hf : ∀ e, Snd G C W X e (cE n k e) := cE_ok n hX
    have hg : ∀ s, SndSt G C Wn W X s (cS n k s) := cS_ok hX hp n
    unfold cS
    split
    · exact st_nop ps_doc
    · exact st_nop ps_pass
    · split
      · exact st_bad
      · rename_i h
        exact st_exp (hf _) (swaps_no (by simpa using h))
    · exact cSet_ok hX
    · split
      · rename_i h
        unfold parB at h
        simp only [Bool.and_eq_true, Bool.not_eq_true'] at h
        obtain ⟨⟨⟨⟨⟨⟨⟨h1, h2⟩, h3⟩, h4⟩, h5⟩, h6⟩, h7⟩, h8⟩ := h
        obtain ⟨i1, i2⟩ := lcl_of hX h1
        obtain ⟨j1, j2⟩ := lcl_of hX h2
        have hne := (beq_eq_false_iff_ne.mp h3)
        refine st_set2 hX.hc (by rw [hX.hN]; exact hX.nd) i1 j1 (fun z => hne ?_) i2 j2 (hf _) h5 (hf _) h6 (swapped_two (by rw [hX.sc]; exact hX.kd) i2 j2 hne h4 h5 h6 h7 h8)
        rw [z, j1] at i1
        exact (Option.some.inj i1).symm
      · exact st_bad
    · exact cAsg_ok hX
    · exact st_ret (hf _)
    · exact st_retN
    · exact st_if (hf _) (mkSs_ok hg _) (mkSs_ok hg _)
    · split
      · rename_i t ht
        split
        · exact st_bad
        · rename_i h
          simp only [Bool.or_eq_true, not_or, Bool.not_eq_true, Bool.not_eq_false'] at h
          exact st_for (wkB_ok h.2) hp hX.hc (cSr_ok hX hf h.1) (cT_ok hX n _ t ht) (mkSs_ok hg _)
      · exact st_bad
    · exact st_whl hp (hf _) (mkSs_ok hg _)
    · exact st_bad
end
end Cr
namespace Cr
open PySem PySem.Spec PyProof.Rows L2
structure Tab where
  name : Str
  st : Stmt
  N : List Str
  ps : List Str
  own : List Str
def fuel : Nat := 60
def cfgOf (gl : Str → Option Gd) (kw : List (Nat × Nat × List Str)) (nf : Nat) (t : Tab) : Cfg := { N := t.N, sc := defScope t.st, fnB := fun _ => true, gl := gl, own := t.own, kws := kw, nf := nf }
def fdOf (gl : Str → Option Gd) (kw : List (Nat × Nat × List Str)) (nf : Nat) (t : Tab) : Fd := ⟨t.ps.length, t.N.length, mkSs (cS fuel (cfgOf gl kw nf t)) (defBody t.st)⟩
def progOf (gl : Str → Option Gd) (kw : List (Nat × Nat × List Str)) (tabs : List Tab) : Nat → Option Fd := fun i => (tabs[i]?).map (fdOf gl kw tabs.length)
def scopeB (N P : List Str) (sc : Scope) : Bool :=
  (match sc.kind with | .function => true | _ => false) && !sc.isCoroutine && !sc.isGenerator && decide N.Nodup && decide (N.take P.length = P) &&
    P.all (fun x => match sc.names.lookup x with | some .local => true | some .cell => true | _ => false) && sc.names.all (fun y => match y.2 with | .free => false | _ => true)
theorem scope_of {N P : List Str} {sc : Scope} (h : scopeB N P sc = true) : FnScope N P sc := by
  unfold scopeB at h
  simp only [Bool.and_eq_true, Bool.not_eq_true', decide_eq_true_eq, List.all_eq_true] at h
  obtain ⟨⟨⟨⟨⟨⟨h1, h2⟩, h3⟩, h4⟩, h5⟩, h6⟩, h7⟩ := h
  refine ⟨?_, h2, h3, h4, h5, fun x hx => ?_, fun y hy e => ?_⟩
  · split at h1
    · assumption
    · cases h1
  · have q := h6 x hx
    split at q
    · exact .inl (by assumption)
    · exact .inr (by assumption)
    · cases q
  · have q := h7 y hy
    rw [e] at q
    cases q
section
variable {G : Glo} {F F' H H' : Hp}
theorem args_sl {as : List Arg} {i : Nat} : (as.map sl0)[i]? = (as[i]?).map sl0 := by rw [List.getElem?_map]
theorem ARs.slAt {vs : List V} {as : List Arg} (h : ARs G F H vs as) : ∀ (i : Nat) (a : Arg), as[i]? = some a → ∃ v, vs[i]? = some v ∧ SlV G F H v (sl0 a) := by
  induction h with
  | nil => intro i a e; simp at e
  | val h1 _ ih =>
    intro i a e
    cases i with
    | zero => simp at e; subst e; exact ⟨_, rfl, h1⟩
    | succ i => simpa using ih i a (by simpa using e)
  | mm h1 h2 h3 _ ih =>
    intro i a e
    cases i with
    | zero => simp at e; subst e; exact ⟨_, rfl, _, _, rfl, h1, h2, h3⟩
    | succ i => simpa using ih i a (by simpa using e)
/-- the frame at the start -/
def env0 (n : Nat) (as : List Arg) : Env := as.map sl0 ++ List.replicate (n - as.length) .non
theorem env0_get {n : Nat} {as : List Arg} {i : Nat} {s : Sl} (h : (env0 n as)[i]? = some s) (hn : s ≠ .non) : ∃ a, as[i]? = some a ∧ s = sl0 a := by
  unfold env0 at h
  by_cases hi : i < as.length
  · rw [List.getElem?_append_left (by simpa using hi), args_sl] at h
    obtain ⟨a, e1, e2⟩ := Option.map_eq_some_iff.mp h
    exact ⟨a, e1, e2.symm⟩
  · rw [List.getElem?_append_right (by simpa using hi), List.getElem?_replicate] at h
    split at h
    · cases h; exact absurd rfl hn
    · cases h
theorem start_get {N : List Str} {vs : List V} {i : Nat} {v : V} (h : vs[i]? = some v) : (L2.start N vs)[i]? = some (some v) := by
  unfold L2.start
  have hi : i < vs.length := (List.getElem?_eq_some_iff.mp h).1
  rw [List.getElem?_append_left (by simpa using hi), List.getElem?_map, h]; rfl
theorem start_inv {N : List Str} {vs : List V} {i : Nat} {v : V} (h : (L2.start N vs)[i]? = some (some v)) : vs[i]? = some v := by
  unfold L2.start at h
  by_cases hi : i < vs.length
  · rw [List.getElem?_append_left (by simpa using hi), List.getElem?_map] at h
    obtain ⟨a, e1, e2⟩ := Option.map_eq_some_iff.mp h
    cases e2; exact e1
  · rw [List.getElem?_append_right (by simpa using hi), List.getElem?_replicate] at h
    split at h <;> cases h
theorem sl0_own {a : Arg} {xs : List D} {b : Bool} (h : Sl.own xs b = sl0 a) : a = .mut xs ∧ b = true := by
  cases a <;> cases h
  exact ⟨rfl, rfl⟩
theorem rel0 {N : List Str} {vs : List V} {as : List Arg} (sm : Same F H) (h : ARs G F H vs as) (sp : SepA vs as) (hl : as.length ≤ N.length) : Rel G F H (L2.start N vs) (env0 N.length as) := by
  have hv := h.length
  refine ⟨?_, sm, fun i s e ne => ?_, fun i j xs ys b c a e1 e2 s1 s2 => ?_⟩
  · unfold env0 L2.start
    simp only [List.length_append, List.length_map, List.length_replicate]
    omega
  · obtain ⟨a, e1, rfl⟩ := env0_get e ne
    obtain ⟨v, e2, e3⟩ := h.slAt i a e1
    exact ⟨v, start_get e2, e3⟩
  · obtain ⟨a1, q1, r1⟩ := env0_get e1 (by simp)
    obtain ⟨a2, q2, r2⟩ := env0_get e2 (by simp)
    obtain ⟨rfl, rfl⟩ := sl0_own r1
    obtain ⟨rfl, rfl⟩ := sl0_own r2
    exact sp i j xs ys a q1 q2 (start_inv s1) (start_inv s2)
theorem own0 {N : List Str} {vs : List V} {as : List Arg} {x : Addr} (h : Own (L2.start N vs) (env0 N.length as) x) : MutA vs as x := by
  obtain ⟨i, xs, b, e1, e2⟩ := h
  obtain ⟨a, q1, r1⟩ := env0_get e1 (by simp)
  obtain ⟨rfl, rfl⟩ := sl0_own r1
  exact ⟨i, xs, q1, start_inv e2⟩
theorem ownF0 {N : List Str} {vs : List V} {as : List Arg} {x : Addr} (h : OwnF (L2.start N vs) (env0 N.length as) x) : False := by
  obtain ⟨i, xs, e1, e2⟩ := h
  obtain ⟨a, q1, r1⟩ := env0_get e1 (by simp)
  exact Bool.noConfusion (sl0_own r1).2
theorem backA_get : ∀ {as : List Arg} {ρ : Env} {bs : List Arg}, backA as ρ = some bs → ∀ i : Nat, (∀ d : D, as[i]? = some (.val d) → bs[i]? = some (.val d)) ∧ (∀ xs : List D, as[i]? = some (.mut xs) → ∃ ys, ρ[i]? = some (.own ys true) ∧ bs[i]? = some (.mut ys))
  | [], ρ, bs, e, i => ⟨fun d z => by simp at z, fun xs z => by simp at z⟩
  | .val d :: as, [], bs, e, i => by cases e
  | .mut xs :: as, [], bs, e, i => by cases e
  | .val d :: as, s :: ρ, bs, e, i => by
    unfold backA at e
    obtain ⟨cs, e1, rfl⟩ := Option.map_eq_some_iff.mp e
    cases i with
    | zero => exact ⟨fun d' z => by simpa using z, fun xs z => by simp at z⟩
    | succ i => simpa using backA_get e1 i
  | .mut xs :: as, .own ys true :: ρ, bs, e, i => by
    unfold backA at e
    obtain ⟨cs, e1, rfl⟩ := Option.map_eq_some_iff.mp e
    cases i with
    | zero => exact ⟨fun d' z => by simp at z, fun xs z => ⟨ys, by simp, by simp⟩⟩
    | succ i => simpa using backA_get e1 i
  | .mut xs :: as, .own ys false :: ρ, bs, e, i => by cases e
  | .mut xs :: as, .non :: ρ, bs, e, i => by cases e
  | .mut xs :: as, .val d :: ρ, bs, e, i => by cases e
theorem backA_len : ∀ {as : List Arg} {ρ : Env} {bs : List Arg}, backA as ρ = some bs → bs.length = as.length
  | [], ρ, bs, e => by
    unfold backA at e
    cases e; rfl
  | .val d :: as, [], bs, e => by cases e
  | .mut xs :: as, [], bs, e => by cases e
  | .val d :: as, s :: ρ, bs, e => by
    unfold backA at e
    obtain ⟨cs, e1, rfl⟩ := Option.map_eq_some_iff.mp e
    simp [backA_len e1]
  | .mut xs :: as, .own ys true :: ρ, bs, e => by
    unfold backA at e
    obtain ⟨cs, e1, rfl⟩ := Option.map_eq_some_iff.mp e
    simp [backA_len e1]
  | .mut xs :: as, .own ys false :: ρ, bs, e => by cases e
  | .mut xs :: as, .non :: ρ, bs, e => by cases e
  | .mut xs :: as, .val d :: ρ, bs, e => by cases e
theorem ars_of : ∀ {vs : List V} {as bs : List Arg}, vs.length = as.length → bs.length = as.length → (∀ (i : Nat) (v : V), vs[i]? = some v → (∀ d : D, as[i]? = some (.val d) → bs[i]? = some (.val d) ∧ Rep G F v d) ∧ (∀ xs : List D, as[i]? = some (.mut xs) → ∃ ys a ws, bs[i]? = some (.mut ys) ∧ v = .ref a ∧ H a = some (.lst ws) ∧ F a = none ∧ Reps G F ws ys)) → ARs G F H vs bs
  | [], [], [], _, _, _ => .nil
  | v :: vs, a :: as, b :: bs, h1, h2, h => by
    have r := ars_of (vs := vs) (as := as) (bs := bs) (by simpa using h1) (by simpa using h2) fun i w e => by simpa using h (i + 1) w (by simpa using e)
    obtain ⟨q1, q2⟩ := h 0 v rfl
    rcases a with d | xs
    · obtain ⟨e, rp⟩ := q1 d rfl
      simp at e; subst e
      exact .val rp r
    · obtain ⟨ys, a, ws, e, rfl, r1, r2, r3⟩ := q2 xs rfl
      simp at e; subst e
      exact .mm r1 r2 r3 r
  | [], [], _ :: _, _, h, _ => by simp at h
  | [], _ :: _, _, h, _, _ => by simp at h
  | _ :: _, [], _, h, _, _ => by simp at h
  | _ :: _, _ :: _, [], _, h, _ => by simp at h
theorem back_ars {N : List Str} {vs : List V} {as bs : List Arg} {σ' : L2.St} {ρ' : Env} (h : ARs G F H vs as) (s : Stp G (L2.start N vs) (env0 N.length as) F H σ' ρ' F' H') (e : backA as ρ' = some bs) : ARs G F' H' vs bs := by
  refine ars_of h.length (backA_len e) fun i v hv => ⟨fun d ha => ?_, fun xs ha => ?_⟩
  · refine ⟨(backA_get e i).1 d ha, ?_⟩
    obtain ⟨w, e1, e2⟩ := h.slAt i _ ha
    rw [hv] at e1; cases e1
    exact Rep.mono s.ext.ff d v e2
  · obtain ⟨ys, e1, e2⟩ := (backA_get e i).2 xs ha
    have hi : i < as.length := (List.getElem?_eq_some_iff.mp ha).1
    have e3 : (env0 N.length as)[i]? = some (.own xs true) := by
      unfold env0
      rw [List.getElem?_append_left (by simpa using hi), args_sl, ha]; rfl
    obtain ⟨zs, e4, e5⟩ := s.bor i xs e3
    rw [e1] at e4; cases e4
    obtain ⟨a, ws, g1, g2, g3, g4⟩ := s.rel.ownAt e1
    rw [e5, start_get hv] at g1
    cases g1
    exact ⟨ys, a, ws, e2, rfl, g2, g3, g4⟩
/-- a function's body keeps its promise -/
theorem body_wk {Wn : Nat} {N : List Str} {ss : Ss} {np k : Nat} {P : Nat → Option Fd} {f : Nat} {vs : List V} {Q : VK} {E : XK} (hP : P f = some ⟨np, N.length, ss⟩) (h : spF G (callN P Wn (k + 1)) f vs H Q E) :
    rSs G (callN P Wn k) Wn (fun cls d _ H => E cls d H) ss { nx := fun _ H' => Q .non H', rt := Q } (L2.start N vs) H ∧ vs.length = np := by
  obtain ⟨F, as, sm, ha, sp, h⟩ := h
  have e0 : callN P Wn (k + 1) f as = runF (callN P Wn k) Wn ⟨np, N.length, ss⟩ as := by
    show (match P f with
      | some fd => runF (callN P Wn k) Wn fd as
      | none => .stuck) = _
    rw [hP]
  rw [e0] at h
  unfold runF at h
  split at h
  · rename_i r bs hc
    split at hc
    · rename_i hn
      refine ⟨⟨F, env0 N.length as, rel0 sm ha sp (by have h1 : as.length = np := hn.1; have h2 : np ≤ N.length := hn.2; omega), ?_⟩, by rw [ha.length]; exact hn.1⟩
      have ee : as.map sl0 ++ List.replicate (N.length - np) .non = env0 N.length as := by unfold env0; rw [hn.1]
      dsimp only at hc
      rw [ee] at hc
      split at hc
      · rename_i fl ρ' ex
        rw [ex]
        split at hc
        · rename_i bs' eb
          cases hc
          cases fl with
          | nx => exact fun σ' F' H' s => h .non F' H' (s.ext.wk fun x hx => .inl (own0 hx)) s.rel.sub (back_ars ha s eb) .non
          | rt r =>
            intro σ' F' H' s v hr
            refine h v F' H' (s.ext.wk fun x hx => .inl (own0 hx)) s.rel.sub (back_ars ha s eb) ?_
            cases r with
            | val d => exact hr
            | fresh xs =>
              obtain ⟨a, ws, rfl, h1, h2, h3, h4, h5⟩ := hr
              exact ⟨a, ws, rfl, h1, h2, h4.resolve_right ownF0, h5⟩
        · cases hc
      · split at hc <;> cases hc
      · cases hc
    · cases hc
  · rename_i c x bs hc
    split at hc
    · rename_i hn
      refine ⟨⟨F, env0 N.length as, rel0 sm ha sp (by have h1 : as.length = np := hn.1; have h2 : np ≤ N.length := hn.2; omega), ?_⟩, by rw [ha.length]; exact hn.1⟩
      have ee : as.map sl0 ++ List.replicate (N.length - np) .non = env0 N.length as := by unfold env0; rw [hn.1]
      dsimp only at hc
      rw [ee] at hc
      split at hc
      · split at hc <;> cases hc
      · rename_i c' x' ρ' ex
        rw [ex]
        split at hc
        · rename_i bs' eb
          cases hc
          exact fun σ' F' H' s cls d q => h F' H' (s.ext.wk fun x hx => .inl (own0 hx)) s.rel.sub (back_ars ha s eb) cls d q
        · cases hc
      · cases hc
    · cases hc
  · exact h.elim
end
section
variable {P : Program} {w : World} {mg : Str → Option Value} {base : Heap} {G : Glo} {tabs : List Tab} {gl : Str → Option Gd} {kw : List (Nat × Nat × List Str)} {Wn : Nat}
structure TabsOk (mg : Str → Option Value) (G : Glo) (tabs : List Tab) (gl : Str → Option Gd) (kw : List (Nat × Nat × List Str)) : Prop where
  fn : ∀ i t, tabs[i]? = some t → scopeB t.N t.ps (defScope t.st) = true ∧ mg t.name = some (.ref (G.fa i)) ∧ ∃ fd, FunD G.K t.name t.name (defArgs t.st) (defBody t.st) (defScope t.st) [] [] (G.fa i) fd ∧
    (∀ (s : Shared) (us : List Value), us.length = t.ps.length → BindsTo s fd ⟨us, []⟩ (t.ps.zip us)) ∧ ∀ n ks, (i, n, ks) ∈ kw → KwBind fd t.ps n ks (permOf t.ps n ks)
  gf : ∀ x i ms ps, gl x = some (.fn i ms ps) → ∃ t, tabs[i]? = some t ∧ t.name = x ∧ t.ps = ps
  fr : ∀ x, gl x = some .free → mg x = none
  gc : ∀ x, gl x = some .gcd → mg x = some (.builtin "math.gcd")
  cn : ∀ x d, gl x = some (.con d) → ∃ u v, mg x = some u ∧ RelV v u ∧ ∀ F, Rep G F v d
theorem fns_ok (T : TabsOk mg G tabs gl kw) : ∀ (k i : Nat) (t : Tab), tabs[i]? = some t → ∀ fd, FunD G.K t.name t.name (defArgs t.st) (defBody t.st) (defScope t.st) [] [] (G.fa i) fd →
    FnOk P w G.K mg base (L2.CX P w) k (G.fa i) fd t.ps (spF G (callN (progOf gl kw tabs) Wn k) i)
  | 0, i, t, ht, fd, F => by
    refine ⟨fun vs H Q E h => ?_, fun A outer s H args us vs Q E _ _ _ _ h => ?_⟩
    · obtain ⟨_, _, _, _, _, z⟩ := h; exact z.elim
    · obtain ⟨_, _, _, _, _, z⟩ := h; exact z.elim
  | k + 1, i, t, ht, fd, F => by
    obtain ⟨hs, hm, _⟩ := T.fn i t ht
    have S := scope_of hs
    have hP : progOf gl kw tabs i = some ⟨t.ps.length, t.N.length, mkSs (cS fuel (cfgOf gl kw tabs.length t)) (defBody t.st)⟩ := by
      unfold progOf
      rw [ht]; rfl
    refine F.ok S (fun vs H Q E h => (body_wk (N := t.N) hP h).2) fun cdv A outer s H vs Q E hr h => ?_
    refine ⟨_, ?_, (body_wk (N := t.N) hP h).1⟩
    have hX : CtxOk G (callN (progOf gl kw tabs) Wn k) (fun cls d _ H => E cls d H) (cfgOf gl kw tabs.length t) (cxOf (L2.CX P w) P w G.K mg base t.N t.name (defScope t.st) (G.fa i) cdv A outer s H E) := {
      hK := rfl
      hc := rfl
      hN := rfl
      nd := S.nd
      sc := rfl
      kd := S.kind
      fn := fun _ _ => rfl
      tk := takes_of rfl rfl rfl rfl
      un := by
        have := hr.un
        show (A.deeper (envOfC t.name (defScope t.st) s.heap.objs.size (G.fa i) cdv)).units + 64 < cLine
        omega
      fre := T.fr
      con := T.cn
      gcd := T.gc
      fnI := fun f hl => by
        obtain ⟨_, _, fd', F', b1, _⟩ := T.fn f tabs[f] (List.getElem?_eq_getElem hl)
        exact ⟨F'.kp, k, fd', tabs[f].ps, fns_ok T k f tabs[f] (List.getElem?_eq_getElem hl) fd' F', hr, fun s us _ hl => by
          rw [List.append_nil] at hl ⊢
          exact b1 s us hl⟩
      fns := fun x j ms ps hx => by
        obtain ⟨u, hu, rfl, rfl⟩ := T.gf x j ms ps hx
        obtain ⟨_, m1, fd', F', b1, b2⟩ := T.fn j u hu
        refine ⟨m1, F'.kp, k, fd', fns_ok T k j u hu fd' F', hr, fun s us _ hl => ?_, b2⟩
        rw [List.append_nil] at hl ⊢
        exact b1 s us hl }
    exact (mkSs_ok (cS_ok hX (passes_of (K := L2.CX P w outer H s E) rfl) fuel) (defBody t.st)).p
/-- nothing is let out -/
theorem fn_quiet {k : Nat} {f : Addr} {fd : FuncData} {ps : List Str} {sp : Sp} {K : PySem.W.Frag} (Fk : FnOk P w K mg base (L2.CX P w) k f fd ps sp) : FnOk P w K mg base CX0 k f fd ps fun vs H Q _ => sp vs H Q E0 := by
  refine ⟨fun vs H Q E h => Fk.len vs H Q E0 h, fun A outer s H args us vs Q E hr he hb hv h => ?_⟩
  refine codeAny_mono (Fk.run A outer s H args us vs Q E0 hr he hb hv h) fun r s' hq => ?_
  rcases r with e | fl
  · obtain ⟨_, _, _, _, _, _, _, _, _, _, _, _, z⟩ := hq
    exact z.elim
  · cases fl <;> exact hq
end
end Cr
namespace Cr
open PySem PySem.Spec PyProof.Rows L2
def defOfTab (t : Tab) : He.DefD := ⟨(t.name, none), t.name, t.name, defArgs t.st, defBody t.st, defScope t.st, [], []⟩
def faOf (tabs : List Tab) (glL : List (Str × Gd)) : List He.Fa := tabs.map (fun t => He.Fa.glo t.name) ++ glL.filterMap fun p => match p.2 with
  | .free => some (.free p.1)
  | _ => none
/-- the table of names is as told -/
def glOk (tabs : List Tab) (glL : List (Str × Gd)) : Bool := glL.all fun p => match p.2 with
  | .fn i _ ps => (match tabs[i]? with
    | some t => decide (t.name = p.1) && decide (t.ps = ps)
    | none => false)
  | _ => true
mutual
def valB (K : PySem.W.Frag) : D → Value → Bool
  | .non, .none => true
  | .bl b, .bool c => b == c
  | .int i, .int j _ => decide (i = j)
  | .str x, .str y _ => decide (x = y)
  | .tup ds, .ref a => (match K.lookup a with
    | some ⟨.type c, none, .seq its _, _⟩ => decide (c = "tuple") && decide (its.size ≤ sizeLine) && valsB K ds its.toList
    | _ => false)
  | _, _ => false
def valsB (K : PySem.W.Frag) : List D → List Value → Bool
  | [], [] => true
  | d :: ds, v :: vs => valB K d v && valsB K ds vs
  | _, _ => false
end
mutual
theorem valB_ok {G : Glo} : ∀ (d : D) (u : Value), valB G.K d u = true → ∃ v, RelV v u ∧ ∀ F, Rep G F v d
  | .non, u, h => by
    cases u <;> first | exact ⟨.non, rfl, fun _ => .non⟩ | (unfold valB at h; cases h)
  | .bl b, u, h => by
    cases u <;> first | (rename_i c; unfold valB at h; rw [beq_iff_eq] at h; subst h; exact ⟨.bl b, rfl, fun _ => .bl b⟩) | (unfold valB at h; cases h)
  | .int b, u, h => by
    cases u <;> first | (rename_i c t; unfold valB at h; rw [decide_eq_true_eq] at h; subst h; exact ⟨.int b, ⟨t, rfl⟩, fun _ => .int b⟩) | (unfold valB at h; cases h)
  | .str b, u, h => by
    cases u <;> first | (rename_i c t; unfold valB at h; rw [decide_eq_true_eq] at h; subst h; exact ⟨.str b, ⟨t, rfl⟩, fun _ => .str b⟩) | (unfold valB at h; cases h)
  | .tup ds, u, h => by
    cases u <;> first | (unfold valB at h; cases h; done) | skip
    rename_i a
    unfold valB at h
    split at h
    · rename_i c its n sl e
      simp only [Bool.and_eq_true, decide_eq_true_eq] at h
      obtain ⟨⟨h1, h2⟩, h3⟩ := h
      obtain ⟨vs, r, q⟩ := valsB_ok ds its.toList h3
      exact ⟨.ref a, rfl, fun F => .tup (.inr ⟨_, its, n, e, ⟨by rw [h1], rfl⟩, rfl, h2, r⟩) (q F)⟩
    · cases h
  | .lst _, u, h => by cases u <;> (unfold valB at h; cases h)
  | .rol _, u, h => by cases u <;> (unfold valB at h; cases h)
  | .dct _, u, h => by cases u <;> (unfold valB at h; cases h)
  | .fn _, u, h => by cases u <;> (unfold valB at h; cases h)
theorem valsB_ok {G : Glo} : ∀ (ds : List D) (us : List Value), valsB G.K ds us = true → ∃ vs, Vals vs us ∧ ∀ F, Reps G F vs ds
  | [], us, h => by
    cases us with
    | nil => exact ⟨[], .nil, fun _ => .nil⟩
    | cons _ _ => unfold valsB at h; cases h
  | d :: ds, us, h => by
    cases us with
    | nil => unfold valsB at h; cases h
    | cons u us =>
      unfold valsB at h
      rw [Bool.and_eq_true] at h
      obtain ⟨v, r1, q1⟩ := valB_ok d u h.1
      obtain ⟨vs, r2, q2⟩ := valsB_ok ds us h.2
      exact ⟨v :: vs, .cons r1 r2, fun F => .cons (q1 F) (q2 F)⟩
end
def conB (K : PySem.W.Frag) (x : Str) (d : D) : Bool := match PySem.W.nsIn K mainGlobals x with
  | some (some v) => valB K d v
  | _ => false
/-- what is looked at besides -/
def exB (glL : List (Str × Gd)) (K : PySem.W.Frag) : Bool := glL.all fun p => match p.2 with
  | .con d => conB K p.1 d
  | .gcd => He.eqO (PySem.W.nsIn K mainGlobals p.1) (some (some (.builtin "math.gcd")))
  | _ => true
def obsE (fa : List He.Fa) (fn : List He.DefD) (ex : PySem.W.Frag → Bool) (n : Nat) (g : Addr → Option Obj) : He.AlD × Bool := (He.obsD fa fn (He.frG g (He.asD g n)), ex (He.frG g (He.asD g n)))
def hookE (n : Nat) (fa : List He.Fa) (fn : List He.DefD) (ex : PySem.W.Frag → Bool) : PySem.W.Hook where
  α := He.AlD × Bool
  obs := fun s => obsE fa fn ex n s.heap.get?
  val := fun _ => (He.valD fn, true)
  says := fun _ h => ∃ K : PySem.W.Frag, K.In h ∧ He.SaysD fa fn K ∧ ex K = true
  of := fun _ s e => ⟨He.frG s.heap.get? (He.asD s.heap.get? n), He.frG_in, (Prod.mk.inj e).1, (Prod.mk.inj e).2⟩
  keeps := fun _ _ _ ⟨K, hK, c⟩ k => ⟨K, PySem.W.Frag.In.keeps hK k, c⟩
theorem obsE_eq {n : Nat} {fa : List He.Fa} {fn : List He.DefD} {ex : PySem.W.Frag → Bool} {g : Addr → Option Obj} {s : Shared} (h : ∀ a, g a = s.heap.get? a) : obsE fa fn ex n g = (hookE n fa fn ex).obs s := by
  have e : g = s.heap.get? := funext h
  rw [e]; rfl
def scopesOk (tabs : List Tab) : Bool := tabs.all fun t => scopeB t.N t.ps (defScope t.st)
theorem mem_of_lookup' {α : Type} {x : Str} {v : α} : ∀ {l : List (Str × α)}, l.lookup x = some v → (x, v) ∈ l
  | [], h => by cases h
  | (y, w) :: r, h => by
    rw [List.lookup_cons] at h
    split at h
    · rename_i e
      cases h
      have e' : x = y := by simpa using e
      rw [e']; exact List.mem_cons_self
    · exact List.mem_cons_of_mem _ (mem_of_lookup' h)
def gloOf (K : PySem.W.Frag) (tabs : List Tab) : Glo := ⟨K, fun i => He.ga K ((tabs[i]?.map (·.name)).getD ""), fun _ => 0, fun _ => ""⟩
structure BindsOk (tabs : List Tab) (kw : List (Nat × Nat × List Str)) : Prop where
  b : ∀ (i : Nat) (t : Tab), tabs[i]? = some t → ∀ {K : PySem.W.Frag} {f : Addr} {fd : FuncData}, FunD K t.name t.name (defArgs t.st) (defBody t.st) (defScope t.st) [] [] f fd →
    (∀ (s : Shared) (us : List Value), us.length = t.ps.length → BindsTo s fd ⟨us, []⟩ (t.ps.zip us)) ∧ ∀ n ks, (i, n, ks) ∈ kw → KwBind fd t.ps n ks (permOf t.ps n ks)
theorem kw_bind {K : PySem.W.Frag} {x q : Str} {params : Arguments} {body : List Stmt} {scope : Scope} {kws : List (Str × V)} {f : Addr} {fd : FuncData} {ps ks : List Str} {pm : List Nat} {n : Nat} (F : FunD K x q params body scope [] kws f fd)
    (h : ∀ (kV doc pmv : Value) (an : Option Addr) (cdv ct : Value) (us ws : List Value), us.length = n → ws.length = ks.length → bindArgs (PySem.W.fnOf x q params body scope .none kV doc pmv an cdv ct) ⟨us, ks.zip ws⟩ = pure (ps.zip (permL pm (us ++ ws)))) : KwBind fd ps n ks pm := by
  obtain ⟨oc, od, dV, kV, doc, pmv, an, cdv, ct, osl, rfl, lk, hcd, hD, _⟩ := F.ex
  intro s us ws h1 h2
  rcases hD with ⟨_, rfl⟩ | ⟨e, _⟩
  · exact .of_eq (h kV doc pmv an cdv ct us ws h1 h2)
  · exact absurd rfl e
theorem tabs_ok {K : PySem.W.Frag} {h : Heap} {mg : Str → Option Value} {tabs : List Tab} {glL : List (Str × Gd)} {kw : List (Nat × Nat × List Str)} (X : K.In h) (N : h.Ns mainGlobals mg) (c : He.SaysD (faOf tabs glL) (tabs.map defOfTab) K)
    (g0 : exB glL K = true) (g1 : glOk tabs glL = true) (g2 : scopesOk tabs = true) (g3 : BindsOk tabs kw) : TabsOk mg (gloOf K tabs) tabs (fun x => glL.lookup x) kw := by
  have fact : ∀ f ∈ faOf tabs glL, f.ok K = true := fun f hf => by
    obtain ⟨i, hi⟩ := List.getElem?_of_mem hf
    exact c.fact i hi
  have at_ : ∀ x i ms ps, glL.lookup x = some (Gd.fn i ms ps) → ∃ t, tabs[i]? = some t ∧ t.name = x ∧ t.ps = ps := fun x i ms ps hx => by
    have q := List.all_eq_true.mp g1 _ (mem_of_lookup' hx)
    dsimp only at q
    split at q
    · rename_i t ht
      rw [Bool.and_eq_true, decide_eq_true_eq, decide_eq_true_eq] at q
      exact ⟨t, ht, q.1, q.2⟩
    · cases q
  refine ⟨fun i t ht => ?_, at_, fun x hx => ?_, fun x hx => ?_, fun x d hx => ?_⟩
  · obtain ⟨fd, F⟩ := c.def_ i (d := defOfTab t) (by rw [List.getElem?_map, ht]; rfl)
    have e : (gloOf K tabs).fa i = He.fAd K (t.name, none) := by
      show He.ga K ((tabs[i]?.map (·.name)).getD "") = He.ga K t.name
      rw [ht]; rfl
    have hm : t ∈ tabs := List.mem_of_getElem? ht
    refine ⟨List.all_eq_true.mp g2 t hm, ?_, fd, ?_, ?_⟩
    · rw [e]
      exact He.glo_ok X N (fact (.glo t.name) (List.mem_append_left _ (List.mem_map.mpr ⟨t, hm, rfl⟩)))
    · rw [e]; exact F
    · exact g3.b i t ht F
  · have m := mem_of_lookup' hx
    exact He.free_ok X N (fact (.free x) (List.mem_append_right _ (List.mem_filterMap.mpr ⟨_, m, rfl⟩)))
  · have q := List.all_eq_true.mp g0 _ (mem_of_lookup' hx)
    exact PySem.W.mg_of X N (He.eqO_ok q)
  · have q := List.all_eq_true.mp g0 _ (mem_of_lookup' hx)
    have q : conB K x d = true := q
    unfold conB at q
    split at q
    · rename_i u e
      obtain ⟨v, r, rp⟩ := valB_ok (G := gloOf K tabs) d u q
      exact ⟨u, v, PySem.W.mg_of X N e, r, rp⟩
    · cases q
/-- what the law must say: on every script it tells True -/
def Good (glL : List (Str × Gd)) (kw : List (Nat × Nat × List Str)) (tabs : List Tab) (Wn k li : Nat) : Prop := ∀ ns : List Int, ns.length ≤ 63 → ∃ bs, callN (progOf (fun x => glL.lookup x) kw tabs) Wn k li [.val (.rol (ns.map .int))] = .ok (.val (.bl true), bs)
theorem good_sp {G : Glo} {glL : List (Str × Gd)} {kw : List (Nat × Nat × List Str)} {tabs : List Tab} {Wn k li : Nat} (g : Good glL kw tabs Wn k li) (H : Hp) (a : Addr) (ns : List Int) (hl : ns.length ≤ 63) (hS : SqL G.K H a (ns.map V.int)) :
    spF G (callN (progOf (fun x => glL.lookup x) kw tabs) Wn k) li [.ref a] H (fun v _ => v = .bl true) fun _ _ _ => False := by
  refine ⟨H, [.val (.rol (ns.map .int))], fun _ _ z => z, .val (.rol hS (Reps.of_ints ns)) .nil, fun i j xs ys x h => ?_, ?_⟩
  · cases i with
    | zero => cases h
    | succ i => simp at h
  · obtain ⟨bs, e⟩ := g ns hl
    rw [e]
    intro v F' H' _ _ _ r
    cases r
    rfl
end Cr
namespace Cr
open PySem L2
section
variable {C : CallF} {P : Nat → Option Fd} {W : Nat}
/-- what a function gives, from a depth on -/
def Fn (P : Nat → Option Fd) (W d f : Nat) (as : List Arg) (r : R) (bs : List Arg) : Prop := ∀ k, d ≤ k → callN P W k f as = .ok (r, bs)
theorem Fn.mk {d f : Nat} {fd : Fd} {as : List Arg} {r : R} {bs : List Arg} (h : P f = some fd) (q : ∀ k, d ≤ k → runF (callN P W k) W fd as = .ok (r, bs)) : Fn P W (d + 1) f as r bs := by
  intro k hk
  obtain ⟨j, rfl⟩ : ∃ j, k = j + 1 := ⟨k - 1, by omega⟩
  show (match P f with
    | some fd => runF (callN P W j) W fd as
    | none => .stuck) = _
  rw [h]
  exact q j (by omega)
theorem Fn.up {d e f : Nat} {as : List Arg} {r : R} {bs : List Arg} (h : Fn P W d f as r bs) (hd : d ≤ e) : Fn P W e f as r bs := fun k hk => h k (by omega)
theorem lcGo_pure {α : Type} {t : T} {test : Env → Res (Bool × Env) Env} {elt : Env → Res (R × Env) Env} {own : List Nat} {ρ : Env} (enc : α → D) (p : α → Bool) (g : α → D) : ∀ (xs : List α) (acc : List D), acc.length + xs.length ≤ sizeLine →
    (∀ x ∈ xs, ∃ ρ1, setT t (enc x) ρ = some ρ1 ∧ wipeQ ρ1 own = some ρ ∧ test ρ1 = .ok (p x, ρ1) ∧ (p x = true → mkD elt ρ1 = .ok (g x, ρ1))) →
    lcGo t test elt own (xs.map enc) ρ acc = .ok (acc ++ (xs.filter p).map g, ρ)
  | [], acc, _, _ => by
    rw [List.map_nil, lcGo]
    simp
  | x :: xs, acc, hl, h => by
    obtain ⟨ρ1, h1, h2, h3, h4⟩ := h x List.mem_cons_self
    have hl' : acc.length < sizeLine := by
      rw [List.length_cons] at hl; omega
    rw [List.map_cons, lcGo]
    simp only [h1, h3]
    cases hp : p x with
    | false =>
      simp only [h2]
      rw [lcGo_pure enc p g xs acc (by rw [List.length_cons] at hl; omega) fun y hy => h y (List.mem_cons_of_mem _ hy)]
      rw [List.filter_cons_of_neg (by rw [hp]; decide)]
    | true =>
      simp only [h4 hp, h2, if_pos hl']
      rw [lcGo_pure enc p g xs (acc ++ [g x]) (by rw [List.length_append, List.length_singleton]; rw [List.length_cons] at hl; omega) fun y hy => h y (List.mem_cons_of_mem _ hy)]
      rw [List.filter_cons_of_pos hp, List.map_cons, List.append_assoc]
      rfl
theorem ev_lc {α : Type} {t : T} {e c : E} {s : Sr} {own : List Nat} {ρ ρ' ρw : Env} (enc : α → D) (p : α → Bool) (g : α → D) (xs : List α) (hs : evS C s ρ = .ok (xs.map enc, ρ')) (hw : wipeQ ρ' own = some ρw) (hl : xs.length ≤ sizeLine)
    (h : ∀ x ∈ xs, ∃ ρ1, setT t (enc x) ρw = some ρ1 ∧ wipeQ ρ1 own = some ρw ∧ testE C c ρ1 = .ok (p x, ρ1) ∧ (p x = true → mkD (ev C e) ρ1 = .ok (g x, ρ1))) :
    ev C (.lc e t s c own) ρ = .ok (.fresh ((xs.filter p).map g), restR ρ' ρw own) := by
  have q := lcGo_pure (test := testE C c) (elt := ev C e) enc p g xs [] (by simpa using hl) h
  show (evS C s ρ).bd (fun (items, ρ1) => match wipeQ ρ1 own with
    | some ρw => (match lcGo t (testE C c) (ev C e) own items ρw [] with
      | .ok (ds, ρ2) => Res.ok (R.fresh ds, restR ρ1 ρ2 own)
      | _ => Res.stuck)
    | none => Res.stuck) = _
  rw [hs]
  show (match wipeQ ρ' own with
    | some ρw => (match lcGo t (testE C c) (ev C e) own (xs.map enc) ρw [] with
      | .ok (ds, ρ2) => Res.ok (R.fresh ds, restR ρ' ρ2 own)
      | _ => Res.stuck)
    | none => Res.stuck) = _
  rw [hw]
  dsimp only
  rw [q]
  rfl
/-- a comprehension without condition -/
theorem ev_lc0 {α : Type} {t : T} {e : E} {s : Sr} {own : List Nat} {ρ ρ' ρw : Env} (enc : α → D) (g : α → D) (xs : List α) (hs : evS C s ρ = .ok (xs.map enc, ρ')) (hw : wipeQ ρ' own = some ρw) (hl : xs.length ≤ sizeLine)
    (h : ∀ x ∈ xs, ∃ ρ1, setT t (enc x) ρw = some ρ1 ∧ wipeQ ρ1 own = some ρw ∧ mkD (ev C e) ρ1 = .ok (g x, ρ1)) : ev C (.lc e t s .nop own) ρ = .ok (.fresh (xs.map g), restR ρ' ρw own) := by
  have q := ev_lc (C := C) (c := .nop) enc (fun _ => true) g xs hs hw hl fun x hx => by
    obtain ⟨ρ1, h1, h2, h3⟩ := h x hx
    exact ⟨ρ1, h1, h2, rfl, fun _ => h3⟩
  rw [List.filter_eq_self.mpr fun _ _ => rfl] at q
  exact q
theorem forGo_inv {t : T} {body : Env → Res (Fl × Env) Env} (Iv : Nat → Env → Prop) : ∀ (xs : List D) (i : Nat) (ρ : Env), Iv i ρ → (∀ j x ρ, xs[j]? = some x → Iv (i + j) ρ → ∃ ρ1 ρ2, setT t x ρ = some ρ1 ∧ body ρ1 = .ok (.nx, ρ2) ∧ Iv (i + j + 1) ρ2) →
    ∃ ρ', forGo t body xs ρ = .ok (.nx, ρ') ∧ Iv (i + xs.length) ρ'
  | [], i, ρ, h, _ => ⟨ρ, rfl, h⟩
  | x :: xs, i, ρ, h, st => by
    obtain ⟨ρ1, ρ2, h1, h2, h3⟩ := st 0 x ρ rfl h
    obtain ⟨ρ', h4, h5⟩ := forGo_inv Iv xs (i + 1) ρ2 h3 fun j y ρ hy hi => by
      have := st (j + 1) y ρ (by simpa using hy) (by rw [show i + (j + 1) = i + 1 + j by omega]; exact hi)
      rw [show i + (j + 1) + 1 = i + 1 + j + 1 by omega] at this
      exact this
    refine ⟨ρ', ?_, by rw [List.length_cons, show i + (xs.length + 1) = i + 1 + xs.length by omega]; exact h5⟩
    show (match setT t x ρ with
      | none => Res.stuck
      | some ρ1 => (body ρ1).bd fun (f, ρ2) => match f with
        | Fl.nx => forGo t body xs ρ2
        | Fl.rt r => Res.ok (Fl.rt r, ρ2)) = _
    rw [h1]
    dsimp only
    rw [h2]
    exact h4
end
end Cr
namespace Cr
open PySem L2
section
variable {C : CallF} {P : Nat → Option Fd} {W : Nat} {ρ ρ1 ρ2 ρ3 : Env} {a b c e : E} {es : Es} {r q : R} {x y z d : D} {o o1 o2 o3 : Opd} {k : Bool} {i j : Nat}
abbrev Vl (C : CallF) (ρ : Env) (e : E) (r : R) (ρ' : Env) : Prop := ev C e ρ = .ok (r, ρ')
abbrev Ol (C : CallF) (ρ : Env) (e : E) (o : Opd) (ρ' : Env) : Prop := mkO e (ev C e) ρ = .ok (o, ρ')
abbrev Dl (C : CallF) (ρ : Env) (e : E) (d : D) (ρ' : Env) : Prop := mkD (ev C e) ρ = .ok (d, ρ')
abbrev Tl (C : CallF) (ρ : Env) (e : E) (k : Bool) (ρ' : Env) : Prop := evT C e ρ = .ok (k, ρ')
abbrev OsL (C : CallF) (ρ : Env) (es : Es) (os : List Opd) (ρ' : Env) : Prop := evOs C es ρ = .ok (os, ρ')
abbrev DsL (C : CallF) (ρ : Env) (es : Es) (ds : List D) (ρ' : Env) : Prop := evDs C es ρ = .ok (ds, ρ')
abbrev AsL (C : CallF) (ρ : Env) (es : Es) (os : List Opd) (ρ' : Env) : Prop := evAs C es ρ = .ok (os, ρ')
theorem ol_val (h : ρ[i]? = some (.val d)) : Ol C ρ (.var i) (.slot i) ρ := by
  show (match ρ[i]? with
    | some (.val _) => Res.ok (Opd.slot i, ρ)
    | some (.own _ _) => .ok (.slot i, ρ)
    | _ => .stuck) = _
  rw [h]
theorem ol_own {xs : List D} {b : Bool} (h : ρ[i]? = some (.own xs b)) : Ol C ρ (.var i) (.slot i) ρ := by
  show (match ρ[i]? with
    | some (.val _) => Res.ok (Opd.slot i, ρ)
    | some (.own _ _) => .ok (.slot i, ρ)
    | _ => .stuck) = _
  rw [h]
theorem ol_of (hv : isV e = false) (h : Vl C ρ e r ρ1) : Ol C ρ e (.val r.toD) ρ1 := by
  show mkO e (ev C e) ρ = _
  rw [mkO_not hv, h]; rfl
theorem rs_val (h : ρ[i]? = some (.val d)) : resO ρ (.slot i) = some d := by
  simp only [resO, h]
theorem rs_own {xs : List D} {b : Bool} (h : ρ[i]? = some (.own xs b)) : resO ρ (.slot i) = some (.lst xs) := by
  simp only [resO, h]
theorem vl_val (h : ρ[i]? = some (.val d)) : Vl C ρ (.var i) (.val d) ρ := by
  show (match ρ[i]? with
    | some (.val d) => Res.ok (R.val d, ρ)
    | some (.own xs false) => .ok (.val (.lst xs), ρ.set i (.val (.lst xs)))
    | _ => .stuck) = _
  rw [h]
theorem vl_own {xs : List D} (h : ρ[i]? = some (.own xs false)) : Vl C ρ (.var i) (.val (.lst xs)) (ρ.set i (.val (.lst xs))) := by
  show (match ρ[i]? with
    | some (.val d) => Res.ok (R.val d, ρ)
    | some (.own xs false) => .ok (.val (.lst xs), ρ.set i (.val (.lst xs)))
    | _ => .stuck) = _
  rw [h]
theorem dl_of (h : Vl C ρ e r ρ1) : Dl C ρ e r.toD ρ1 := by
  show (ev C e ρ).bd _ = _
  rw [h]; rfl
theorem tl_of (h : Ol C ρ e o ρ1) (h2 : resO ρ1 o = some d) (h3 : d.truth = some k) : Tl C ρ e k ρ1 := by
  show (mkO e (ev C e) ρ).bd _ = _
  rw [h]
  show (match (resO ρ1 o).bind D.truth with
    | some b => Res.ok (b, ρ1)
    | none => .stuck) = _
  rw [h2]
  show (match d.truth with
    | some b => Res.ok (b, ρ1)
    | none => .stuck) = _
  rw [h3]
theorem two_of {kf : D → D → Option R} {X1 : Res (Opd × Env) Env} {Y : Env → Res (Opd × Env) Env} (h1 : X1 = .ok (o1, ρ1)) (h2 : Y ρ1 = .ok (o2, ρ2)) (h3 : resO ρ2 o1 = some x) (h4 : resO ρ2 o2 = some y) (h5 : kf x y = some r) : two X1 Y kf = .ok (r, ρ2) := by
  unfold two
  rw [h1]
  show (Y ρ1).bd _ = _
  rw [h2]
  show (match resO ρ2 o1, resO ρ2 o2 with
    | some d1, some d2 => (match kf d1 d2 with
      | some r => Res.ok (r, ρ2)
      | none => .stuck)
    | _, _ => .stuck) = _
  rw [h3, h4]
  show (match kf x y with
      | some r => Res.ok (r, ρ2)
      | none => .stuck) = _
  rw [h5]
theorem one_of {kf : D → Option R} {X1 : Res (Opd × Env) Env} (h1 : X1 = .ok (o1, ρ1)) (h3 : resO ρ1 o1 = some x) (h5 : kf x = some r) : one X1 kf = .ok (r, ρ1) := by
  unfold one
  rw [h1]
  show (match resO ρ1 o1 with
    | some d1 => (match kf d1 with
      | some r => Res.ok (r, ρ1)
      | none => .stuck)
    | _ => .stuck) = _
  rw [h3]
  show (match kf x with
      | some r => Res.ok (r, ρ1)
      | none => .stuck) = _
  rw [h5]
theorem vl_bin {op : Operator} (h1 : Ol C ρ a o1 ρ1) (h2 : Ol C ρ1 b o2 ρ2) (h3 : resO ρ2 o1 = some x) (h4 : resO ρ2 o2 = some y) (h5 : binD op x y = some r) : Vl C ρ (.bin op a b) r ρ2 := two_of h1 h2 h3 h4 h5
theorem vl_cmp {op : CmpOp} (h1 : Ol C ρ a o1 ρ1) (h2 : Ol C ρ1 b o2 ρ2) (h3 : resO ρ2 o1 = some x) (h4 : resO ρ2 o2 = some y) (h5 : cmpD op x y = some k) : Vl C ρ (.cmp op a b) (.val (.bl k)) ρ2 := two_of h1 h2 h3 h4 (by rw [h5]; rfl)
theorem vl_idx (h1 : Ol C ρ a o1 ρ1) (h2 : Ol C ρ1 b o2 ρ2) (h3 : resO ρ2 o1 = some x) (h4 : resO ρ2 o2 = some y) (h5 : idxD x y = some d) : Vl C ρ (.idx a b) (.val d) ρ2 := two_of h1 h2 h3 h4 (by rw [h5]; rfl)
theorem vl_not (h1 : Ol C ρ a o1 ρ1) (h3 : resO ρ1 o1 = some x) (h5 : x.truth = some k) : Vl C ρ (.not a) (.val (.bl (!k))) ρ1 := one_of h1 h3 (by rw [h5]; rfl)
theorem vl_andT (h1 : Dl C ρ a x ρ1) (h2 : x.truth = some true) (h3 : Vl C ρ1 b r ρ2) : Vl C ρ (.and a b) r ρ2 := by
  show (mkD (ev C a) ρ).bd _ = _
  rw [h1]
  show (match x.truth with
    | some true => ev C b ρ1
    | some false => Res.ok (R.val x, ρ1)
    | none => .stuck) = _
  rw [h2]; exact h3
theorem vl_orF (h1 : Dl C ρ a x ρ1) (h2 : x.truth = some false) (h3 : Vl C ρ1 b r ρ2) : Vl C ρ (.or a b) r ρ2 := by
  show (mkD (ev C a) ρ).bd _ = _
  rw [h1]
  show (match x.truth with
    | some false => ev C b ρ1
    | some true => Res.ok (R.val x, ρ1)
    | none => .stuck) = _
  rw [h2]; exact h3
theorem vl_ife (h1 : Tl C ρ c k ρ1) (h2 : Vl C ρ1 (if k = true then a else b) r ρ2) : Vl C ρ (.ife c a b) r ρ2 := by
  show (mkT c (ev C c) ρ).bd _ = _
  have h1 : mkT c (ev C c) ρ = .ok (k, ρ1) := h1
  rw [h1]
  show (if k = true then ev C a ρ1 else ev C b ρ1) = _
  cases k
  · exact h2
  · exact h2
theorem os_nil : OsL C ρ .nil [] ρ := rfl
theorem os_cons {os : List Opd} (h1 : Ol C ρ e o ρ1) (h2 : OsL C ρ1 es os ρ2) : OsL C ρ (.cons e es) (o :: os) ρ2 := by
  show (mkO e (ev C e) ρ).bd _ = _
  rw [h1]
  show (evOs C es ρ1).bd _ = _
  rw [h2]; rfl
theorem ds_nil : DsL C ρ .nil [] ρ := rfl
theorem ds_cons {os : List D} (h1 : Dl C ρ e d ρ1) (h2 : DsL C ρ1 es os ρ2) : DsL C ρ (.cons e es) (d :: os) ρ2 := by
  show (mkD (ev C e) ρ).bd _ = _
  rw [h1]
  show (evDs C es ρ1).bd _ = _
  rw [h2]; rfl
theorem vl_bi {bi : Bi} {os : List Opd} {ds : List D} (h1 : OsL C ρ es os ρ1) (h2 : resOs ρ1 os = some ds) (h3 : biD bi ds = some r) : Vl C ρ (.bi bi es) r ρ1 := by
  show (evOs C es ρ).bd _ = _
  rw [h1]
  show (match resOs ρ1 os with
    | some ds => (match biD bi ds with
      | some r => Res.ok (r, ρ1)
      | none => .stuck)
    | none => .stuck) = _
  rw [h2]
  show (match biD bi ds with
      | some r => Res.ok (r, ρ1)
      | none => .stuck) = _
  rw [h3]
theorem vl_tup {ds : List D} (h1 : DsL C ρ es ds ρ1) (h2 : ds.length ≤ sizeLine) : Vl C ρ (.tup es) (.val (.tup ds)) ρ1 := by
  show (evDs C es ρ).bd _ = _
  rw [h1]
  show (if ds.length ≤ sizeLine then Res.ok (R.val (.tup ds), ρ1) else .stuck) = _
  rw [if_pos h2]
theorem vl_lst {ds : List D} (h1 : DsL C ρ es ds ρ1) (h2 : ds.length ≤ sizeLine) : Vl C ρ (.lst es) (.fresh ds) ρ1 := by
  show (evDs C es ρ).bd _ = _
  rw [h1]
  show (if ds.length ≤ sizeLine then Res.ok (R.fresh ds, ρ1) else .stuck) = _
  rw [if_pos h2]
theorem as_nil : AsL C ρ .nil [] ρ := rfl
theorem as_val {os : List Opd} (hm : isM e = false) (h1 : Dl C ρ e d ρ1) (h2 : AsL C ρ1 es os ρ2) : AsL C ρ (.cons e es) (.val d :: os) ρ2 := by
  have q : mkA e (ev C e) ρ = .ok (.val d, ρ1) := by
    have z : mkA e (ev C e) ρ = (mkD (ev C e) ρ).bd fun (d, ρ') => .ok (.val d, ρ') := by
      cases e <;> first | rfl | cases hm
    rw [z, h1]; rfl
  show (mkA e (ev C e) ρ).bd _ = _
  rw [q]
  show (evAs C es ρ1).bd _ = _
  rw [h2]; rfl
theorem as_ref {xs : List D} {b : Bool} {os : List Opd} (h1 : ρ[i]? = some (.own xs b)) (h2 : AsL C ρ es os ρ2) : AsL C ρ (.cons (.mref i) es) (.slot i :: os) ρ2 := by
  have q : mkA (.mref i) (ev C (.mref i)) ρ = .ok (.slot i, ρ) := by
    show (match ρ[i]? with
      | some (.own _ _) => Res.ok (Opd.slot i, ρ)
      | _ => .stuck) = _
    rw [h1]
  show (mkA (.mref i) (ev C (.mref i)) ρ).bd _ = _
  rw [q]
  show (evAs C es ρ).bd _ = _
  rw [h2]; rfl
theorem vl_call {f : Nat} {os : List Opd} {as bs : List Arg} (h1 : AsL C ρ es os ρ1) (h2 : (nodupB (slotsOf os) && decide (tmps os ≤ 1)) = true) (h3 : argsOf ρ1 os = some as) (h4 : C f as = .ok (r, bs)) (h5 : backS ρ1 os bs = some ρ2) : Vl C ρ (.call f es) r ρ2 := by
  show (evAs C es ρ).bd _ = _
  rw [h1]
  show callR C f os ρ1 = _
  unfold callR
  rw [h2, h3]
  dsimp only
  rw [h4]
  dsimp only
  rw [h5]
abbrev Sl' (C : CallF) (W : Nat) (ρ : Env) (s : S) (f : Fl) (ρ' : Env) : Prop := exS C W s ρ = .ok (f, ρ')
abbrev SsL (C : CallF) (W : Nat) (ρ : Env) (s : Ss) (f : Fl) (ρ' : Env) : Prop := exSs C W s ρ = .ok (f, ρ')
variable {s : S} {ss st su : Ss} {fl : Fl}
theorem ss_nl : SsL C W ρ .nil .nx ρ := rfl
theorem ss_nx (h1 : Sl' C W ρ s .nx ρ1) (h2 : SsL C W ρ1 ss fl ρ2) : SsL C W ρ (.cons s ss) fl ρ2 := by
  show (exS C W s ρ).bd _ = _
  rw [h1]; exact h2
theorem ss_rt (h1 : Sl' C W ρ s (.rt r) ρ1) : SsL C W ρ (.cons s ss) (.rt r) ρ1 := by
  show (exS C W s ρ).bd _ = _
  rw [h1]; rfl
theorem sl_set {o : Bool} (h1 : Vl C ρ e r ρ1) (h2 : putS ρ1 i o r = some ρ2) : Sl' C W ρ (.set i o e) .nx ρ2 := by
  show (ev C e ρ).bd _ = _
  rw [h1]
  show (match putS ρ1 i o r with
    | some ρ2 => Res.ok (Fl.nx, ρ2)
    | none => .stuck) = _
  rw [h2]
theorem sl_set2 {oi oj : Bool} (h1 : Vl C ρ a r ρ1) (h2 : Vl C ρ1 b q ρ2) (h3 : putS ρ2 i oi r = some ρ3) {ρ4 : Env} (h4 : putS ρ3 j oj q = some ρ4) : Sl' C W ρ (.set2 i j oi oj a b) .nx ρ4 := by
  show (ev C a ρ).bd _ = _
  rw [h1]
  show (ev C b ρ1).bd _ = _
  rw [h2]
  show (match putS ρ2 i oi r with
    | some ρ3 => (match putS ρ3 j oj q with
      | some ρ4 => Res.ok (Fl.nx, ρ4)
      | none => .stuck)
    | none => .stuck) = _
  rw [h3]
  dsimp only
  rw [h4]
theorem sl_asg {t : T} (h1 : Dl C ρ e d ρ1) (h2 : setT t d ρ1 = some ρ2) : Sl' C W ρ (.asg t e) .nx ρ2 := by
  show (mkD (ev C e) ρ).bd _ = _
  rw [h1]
  show (match setT t d ρ1 with
    | some ρ2 => Res.ok (Fl.nx, ρ2)
    | none => .stuck) = _
  rw [h2]
theorem sl_exp (h1 : Vl C ρ e r ρ1) : Sl' C W ρ (.exp e) .nx ρ1 := by
  show (ev C e ρ).bd _ = _
  rw [h1]; rfl
theorem sl_ret (hv : isV e = false) (h1 : Vl C ρ e r ρ1) : Sl' C W ρ (.ret e) (.rt r) ρ1 := by
  show retE C e ρ = _
  rw [retE_not hv, h1]; rfl
theorem sl_retv (h : ρ[i]? = some (.val d)) : Sl' C W ρ (.ret (.var i)) (.rt (.val d)) ρ := by
  show (match ρ[i]? with
    | some (.val d) => Res.ok (Fl.rt (.val d), ρ)
    | some (.own xs false) => .ok (.rt (.fresh xs), ρ.set i .non)
    | _ => .stuck) = _
  rw [h]
theorem sl_reto {xs : List D} (h : ρ[i]? = some (.own xs false)) : Sl' C W ρ (.ret (.var i)) (.rt (.fresh xs)) (ρ.set i .non) := by
  show (match ρ[i]? with
    | some (.val d) => Res.ok (Fl.rt (.val d), ρ)
    | some (.own xs false) => .ok (.rt (.fresh xs), ρ.set i .non)
    | _ => .stuck) = _
  rw [h]
theorem sl_ife (h1 : Tl C ρ c k ρ1) (h2 : SsL C W ρ1 (if k = true then st else su) fl ρ2) : Sl' C W ρ (.ife c st su) fl ρ2 := by
  show (evT C c ρ).bd _ = _
  rw [h1]
  show (if k = true then exSs C W st ρ1 else exSs C W su ρ1) = _
  cases k
  · exact h2
  · exact h2
theorem run_rt {fd : Fd} {as bs : List Arg} (hl : as.length = fd.np ∧ fd.np ≤ fd.nl) (h1 : SsL C W (as.map sl0 ++ List.replicate (fd.nl - fd.np) .non) fd.body (.rt r) ρ1) (h2 : backA as ρ1 = some bs) : runF C W fd as = .ok (r, bs) := by
  unfold runF
  rw [if_pos hl, h1]
  dsimp only
  rw [h2]
end
end Cr
namespace Cr
open PySem L2
theorem bd_mulR {i j : Int} (h : small64 j = true) : binD .Mult (.int i) (.int j) = some (.val (.int (i * j))) := by
  show (if (small64 i || small64 j || decide (i.natAbs.log2 + j.natAbs.log2 < 1000000)) = true then some (R.val (.int (i * j))) else none) = _
  rw [if_pos (by rw [h, Bool.or_true, Bool.true_or])]
theorem bd_mulL {i j : Int} (h : small64 i = true) : binD .Mult (.int i) (.int j) = some (.val (.int (i * j))) := by
  show (if (small64 i || small64 j || decide (i.natAbs.log2 + j.natAbs.log2 < 1000000)) = true then some (R.val (.int (i * j))) else none) = _
  rw [if_pos (by rw [h, Bool.true_or, Bool.true_or])]
theorem bd_mod {i j : Int} (h : j ≠ 0) : binD .Mod (.int i) (.int j) = some (.val (.int (i.fmod j))) := by
  show (if decide (j ≠ 0) = true then some (R.val (.int (i.fmod j))) else none) = _
  rw [if_pos (decide_eq_true h)]
local macro_rules | `(tactic| wp_step) => `(tactic| first
  | exact os_nil | exact ds_nil | exact as_nil | exact ss_nl
  | exact ol_val rfl | exact ol_own rfl | exact rs_val rfl | exact rs_own rfl
  | refine' ol_of rfl ?_ | refine' dl_of ?_ | refine' os_cons ?_ ?_ | refine' ds_cons ?_ ?_ | refine' as_ref rfl ?_ | refine' as_val rfl ?_ ?_
  | exact vl_val rfl | exact vl_own rfl | refine' vl_bin ?_ ?_ ?_ ?_ ?_ | refine' vl_cmp ?_ ?_ ?_ ?_ ?_ | refine' vl_idx ?_ ?_ ?_ ?_ ?_ | refine' vl_not ?_ ?_ ?_ | refine' vl_bi ?_ ?_ ?_ | refine' vl_tup ?_ ?_ | refine' vl_lst ?_ ?_
  | refine' ss_rt (sl_retv rfl) | refine' ss_rt (sl_ret rfl ?_) | refine' ss_nx (sl_set ?_ ?_) ?_ | refine' ss_nx (sl_exp ?_) ?_ | refine' ss_nx (sl_asg ?_ ?_) ?_
  | exact bd_mulR (by assumption) | exact bd_mulL (by assumption) | exact bd_mod (by assumption) | exact rfl)
/-- a drawn number -/
def f_below (c1 c2 c3 : Int) : Fd := ⟨2, 4, (.cons (.ife (.cmp .Gt (.idx (.var 0) (.cst (.int 0))) (.cst (.int 0))) (.cons (.asg (.tup [(.sub 0 0), (.name 3)]) (.bi .divmod (.cons (.idx (.var 0) (.cst (.int 0))) (.cons (.var 1) .nil)))) (.cons (.ret (.var 3)) .nil)) .nil) (.cons (.asg (.sub 0 2) (.bin .Add (.idx (.var 0) (.cst (.int 2))) (.cst (.int 1)))) (.cons (.set 2 false (.bin .Mod (.bi .int (.cons (.bin .Add (.bin .Add (.bin .Mult (.idx (.var 0) (.cst (.int 1))) (.cst (.int c1))) (.bin .Mult (.cst (.int c2)) (.idx (.var 0) (.cst (.int 2))))) (.cst (.int 71))) .nil)) (.cst (.int 2147483563)))) (.cons (.asg (.sub 0 1) (.bin .Mod (.bi .int (.cons (.bin .Add (.bin .Mult (.var 2) (.bin .Add (.bin .Mod (.bi .int (.cons (.var 2) .nil)) (.cst (.int 3989))) (.cst (.int c3)))) (.idx (.var 0) (.cst (.int 2)))) .nil)) (.cst (.int 2147483563)))) (.cons (.ret (.bin .Mod (.bi .int (.cons (.bin .FloorDiv (.idx (.var 0) (.cst (.int 1))) (.cst (.int 359))) .nil)) (.var 1))) .nil)))))⟩
def PoolOk (l : List D) : Prop := ∃ a b c : Int, l = [.int a, .int b, .int c] ∧ 0 ≤ a ∧ 0 ≤ b ∧ b < 2147483647 ∧ 0 ≤ c
section
variable {C : CallF} {P : Nat → Option Fd} {W : Nat}
def bS (c1 c2 b c : Int) : Int := (b * c1 + c2 * (c + 1) + 71).fmod 2147483563
def bB (c1 c2 c3 b c : Int) : Int := (bS c1 c2 b c * ((bS c1 c2 b c).fmod 3989 + c3) + (c + 1)).fmod 2147483563
end
end Cr
namespace Cr
open PySem L2
local macro_rules | `(tactic| wp_step) => `(tactic| first
  | exact os_nil | exact ds_nil | exact as_nil | exact ss_nl
  | exact ol_val rfl | exact ol_own rfl | exact rs_val rfl | exact rs_own rfl
  | refine' ol_of rfl ?_ | refine' dl_of ?_ | refine' os_cons ?_ ?_ | refine' ds_cons ?_ ?_ | refine' as_ref rfl ?_ | refine' as_val rfl ?_ ?_
  | exact vl_val rfl | exact vl_own rfl | refine' vl_bin ?_ ?_ ?_ ?_ ?_ | refine' vl_cmp ?_ ?_ ?_ ?_ ?_ | refine' vl_idx ?_ ?_ ?_ ?_ ?_ | refine' vl_not ?_ ?_ ?_ | refine' vl_bi ?_ ?_ ?_ | refine' vl_tup ?_ ?_ | refine' vl_lst ?_ ?_
  | refine' ss_rt (sl_retv rfl) | refine' ss_rt (sl_ret rfl ?_) | refine' ss_nx (sl_set ?_ ?_) ?_ | refine' ss_nx (sl_exp ?_) ?_ | refine' ss_nx (sl_asg ?_ ?_) ?_
  | exact bd_mulR (by assumption) | exact bd_mulL (by assumption) | exact bd_mod (by assumption) | exact Nat.zero_le _ | exact rfl)
section
variable {C : CallF} {W : Nat} {ρ ρ1 ρ2 : Env} {e a b : E} {es : Es} {d : D}
theorem vl_mo {m : Mo} {o : Nat} {xs ys : List D} {b' : Bool} {ds : List D} {rd : D} {x0 : List D} {b0 : Bool} (h0 : ρ[o]? = some (.own x0 b0)) (h1 : DsL C ρ es ds ρ1) (h2 : ρ1[o]? = some (.own xs b')) (h3 : moD m xs ds = some (rd, ys)) : Vl C ρ (.mo m o es) (.val rd) (ρ1.set o (.own ys b')) := by
  show (match ρ[o]? with
    | some (.own _ _) => (evDs C es ρ).bd fun (ds, ρ1) => (match ρ1[o]? with
      | some (.own xs b) => (match moD m xs ds with
        | some (r, ys) => Res.ok (R.val r, ρ1.set o (.own ys b))
        | none => .stuck)
      | _ => .stuck)
    | _ => .stuck) = _
  rw [h0]
  dsimp only
  rw [h1]
  show (match ρ1[o]? with
      | some (.own xs b) => (match moD m xs ds with
        | some (r, ys) => Res.ok (R.val r, ρ1.set o (.own ys b))
        | none => .stuck)
      | _ => .stuck) = _
  rw [h2]
  dsimp only
  rw [h3]
theorem sl_for {t : T} {s : Sr} {ss : Ss} {items : List D} {fl : Fl} (h1 : evS C s ρ = .ok (items, ρ1)) (h2 : forGo t (exSs C W ss) items ρ1 = .ok (fl, ρ2)) : Sl' C W ρ (.for t s ss) fl ρ2 := by
  show (evS C s ρ).bd _ = _
  rw [h1]; exact h2
theorem sr_rng1 {n : Int} (h1 : Dl C ρ e (.int n) ρ1) (h2 : RgOkB 0 n = true) : evS C (.rng1 e) ρ = .ok (rngD 0 n, ρ1) := by
  show (mkD (ev C e) ρ).bd _ = _
  rw [h1]
  show (if RgOkB 0 n = true then Res.ok (rngD 0 n, ρ1) else .stuck) = _
  rw [if_pos h2]
theorem sr_rng2 {m n : Int} (h1 : Dl C ρ a (.int m) ρ1) (h2 : Dl C ρ1 b (.int n) ρ2) (h3 : RgOkB m n = true) : evS C (.rng2 a b) ρ = .ok (rngD m n, ρ2) := by
  show (mkD (ev C a) ρ).bd _ = _
  rw [h1]
  show (mkD (ev C b) ρ1).bd _ = _
  rw [h2]
  show (if RgOkB m n = true then Res.ok (rngD m n, ρ2) else .stuck) = _
  rw [if_pos h3]
theorem rgOk_small {m n : Int} (h0 : 0 ≤ m) (h1 : m ≤ 10000) (h2 : 0 ≤ n) (h3 : n ≤ 10000) : RgOkB m n = true := by
  unfold RgOkB
  simp only [Bool.and_eq_true, decide_eq_true_eq]
  refine ⟨⟨⟨⟨?_, ?_⟩, ?_⟩, ?_⟩, ?_⟩ <;> omega
end
/-- at every depth from d on a function gives something that keeps Post -/
def Fx (P : Nat → Option Fd) (W d f : Nat) (as : List Arg) (Post : R → List Arg → Prop) : Prop := ∀ k, d ≤ k → ∃ r bs, callN P W k f as = .ok (r, bs) ∧ Post r bs
theorem Fn.x {P : Nat → Option Fd} {W d f : Nat} {as bs : List Arg} {r : R} {Post : R → List Arg → Prop} (h : Fn P W d f as r bs) (p : Post r bs) : Fx P W d f as Post := fun k hk => ⟨r, bs, h k hk, p⟩
theorem Fx.mk {P : Nat → Option Fd} {W d f : Nat} {fd : Fd} {as : List Arg} {Post : R → List Arg → Prop} (h : P f = some fd) (q : ∀ k, d ≤ k → ∃ r bs, runF (callN P W k) W fd as = .ok (r, bs) ∧ Post r bs) : Fx P W (d + 1) f as Post := by
  intro k hk
  obtain ⟨j, rfl⟩ : ∃ j, k = j + 1 := ⟨k - 1, by omega⟩
  obtain ⟨r, bs, e, p⟩ := q j (by omega)
  refine ⟨r, bs, ?_, p⟩
  show (match P f with
    | some fd => runF (callN P W j) W fd as
    | none => .stuck) = _
  rw [h]
  exact e
theorem Fx.up {P : Nat → Option Fd} {W d e f : Nat} {as : List Arg} {Post : R → List Arg → Prop} (h : Fx P W d f as Post) (hd : d ≤ e) : Fx P W e f as Post := fun k hk => h k (by omega)
/-- a drawn number's promise -/
def BelowX (P : Nat → Option Fd) (W i : Nat) : Prop := ∀ (l : List D) (m : Int), PoolOk l → 0 < m → m < 1073741824 → Fx P W 1 i [.mut l, .val (.int m)] fun r bs => ∃ (v : Int) (l' : List D), 0 ≤ v ∧ v < m ∧ PoolOk l' ∧ r = .val (.int v) ∧ bs = [.mut l', .val (.int m)]
section
variable {P : Nat → Option Fd} {W : Nat}
def f_one (ib : Nat) : Fd := ⟨2, 2, (.cons (.ret (.idx (.var 1) (.call ib (.cons (.mref 0) (.cons (.bi .len (.cons (.var 1) .nil)) .nil))))) .nil)⟩
theorem at_nat {xs : List D} {v : Int} (h0 : 0 ≤ v) (h1 : v < xs.length) : ∃ x, atI xs v = some x ∧ x ∈ xs ∧ xs[v.toNat]? = some x := by
  have hl : v.toNat < xs.length := by omega
  refine ⟨xs[v.toNat], ?_, List.getElem_mem hl, List.getElem?_eq_getElem hl⟩
  unfold atI ixN
  rw [if_pos h0, if_pos h1]
  exact List.getElem?_eq_getElem hl
theorem one_x {ib io : Nat} (hb : BelowX P W ib) (hP : P io = some (f_one ib)) {l : List D} (hl : PoolOk l) {s : D} {xs : List D} (hs : s = .tup xs ∨ s = .lst xs) (h0 : 0 < xs.length) (h1 : xs.length < 1073741824) :
    Fx P W 2 io [.mut l, .val s] fun r bs => ∃ (x : D) (l' : List D), x ∈ xs ∧ PoolOk l' ∧ r = .val x ∧ bs = [.mut l', .val s] := by
  refine Fx.mk hP fun k hk => ?_
  obtain ⟨r, bs, e, v, l', v0, v1, hl', rfl, rfl⟩ := hb l xs.length hl (by omega) (by omega) k hk
  obtain ⟨x, ex, mx, _⟩ := at_nat v0 v1
  have el : lenD [s] = some (.val (.int xs.length)) := by rcases hs with rfl | rfl <;> rfl
  have ei : idxD s (.int v) = some x := by rcases hs with rfl | rfl <;> exact ex
  refine ⟨.val x, [.mut l', .val s], ?_, x, l', mx, hl', rfl, rfl⟩
  refine' run_rt ⟨rfl, by show 2 ≤ 2; decide⟩ (ss_rt (sl_ret rfl (vl_idx (x := s) (y := .int v) ?_ (ol_of rfl (vl_call (r := .val (.int v)) (as := [.mut l, .val (.int xs.length)]) (as_ref ?_ (as_val rfl (dl_of (vl_bi (bi := .len) (ds := [s]) ?_ ?_ el)) as_nil)) ?_ ?_ e ?_)) ?_ ?_ ei))) ?_
  all_goals (repeat' wp_step)
def f_order (ib : Nat) : Fd := ⟨2, 5, (.cons (.set2 2 3 true true (.bi .list (.cons (.var 1) .nil)) (.lst .nil)) (.cons (.for (.name 4) (.rng1 (.bi .len (.cons (.var 2) .nil))) (.cons (.exp (.mo .append 3 (.cons (.mo .popAt 2 (.cons (.call ib (.cons (.mref 0) (.cons (.bi .len (.cons (.var 2) .nil)) .nil))) .nil)) .nil))) .nil)) (.cons (.ret (.var 3)) .nil)))⟩
/-- a slot that a loop sets -/
def Free (s : Sl) : Prop := s = .non ∨ ∃ d, s = .val d
theorem perm_erase {α : Type} {y : α} : ∀ {L : List α} {n : Nat}, L[n]? = some y → L.Perm (y :: L.eraseIdx n)
  | [], n, h => by simp at h
  | x :: L, 0, h => by simp at h; subst h; exact .refl _
  | x :: L, n + 1, h => by
    have q := perm_erase (L := L) (n := n) (y := y) (by simpa using h)
    exact (q.cons x).trans (.swap y x _)
theorem popAt_nat {L : List D} {v : Int} (h0 : 0 ≤ v) (h1 : v < L.length) (hl : L.length ≤ 1000) : ∃ y, popAtD L [.int v] = some (y, L.eraseIdx v.toNat) ∧ L[v.toNat]? = some y := by
  have hv : v.toNat < L.length := by omega
  refine ⟨L[v.toNat], ?_, List.getElem?_eq_getElem hv⟩
  show (if (decide (-(2 ^ 63) ≤ v) && decide (v < 2 ^ 63)) = true then (match seqIndex? v L.length with
    | some k => (match L[k]? with
      | some y => some (y, L.eraseIdx k)
      | none => none)
    | none => none) else none) = _
  rw [if_pos (by rw [decide_eq_true (by omega : -(2 ^ 63) ≤ v), decide_eq_true (by omega : v < 2 ^ 63)]; rfl)]
  have e : seqIndex? v L.length = some v.toNat := by
    unfold seqIndex?
    have n : ¬ v < 0 := by omega
    simp only [if_neg n]
    rw [if_pos (by rw [decide_eq_true h0, decide_eq_true h1]; rfl)]
  rw [e]
  dsimp only
  rw [List.getElem?_eq_getElem hv]
theorem order_x {ib io : Nat} (hb : BelowX P W ib) (hP : P io = some (f_order ib)) {l : List D} (hl : PoolOk l) {xs : List D} (h1 : xs.length ≤ 1000) :
    Fx P W 2 io [.mut l, .val (.lst xs)] fun r bs => ∃ (ys : List D) (l' : List D), ys.Perm xs ∧ PoolOk l' ∧ r = .fresh ys ∧ bs = [.mut l', .val (.lst xs)] := by
  refine Fx.mk hP fun k hk => ?_
  have loop := forGo_inv (t := .name 4) (body := exSs (callN P W k) W (.cons (.exp (.mo .append 3 (.cons (.mo .popAt 2 (.cons (.call ib (.cons (.mref 0) (.cons (.bi .len (.cons (.var 2) .nil)) .nil))) .nil)) .nil))) .nil))
    (fun i ρ => ∃ (l L F : List D) (s : Sl), ρ = [.own l true, .val (.lst xs), .own L false, .own F false, s] ∧ Free s ∧ PoolOk l ∧ F.length = i ∧ L.length + i = xs.length ∧ (F ++ L).Perm xs) (rngD 0 xs.length) 0
    [.own l true, .val (.lst xs), .own xs false, .own [] false, .non] ⟨l, xs, [], .non, rfl, .inl rfl, hl, rfl, rfl, .refl _⟩ fun j x ρ hx hI => ?_
  · obtain ⟨ρ', e, l', L, F, s, rfl, _, hl', hF, hL, hp⟩ := loop
    rw [rngD_length] at hF hL
    have L0 : L = [] := List.eq_nil_of_length_eq_zero (by omega)
    subst L0
    rw [List.append_nil] at hp
    refine ⟨.fresh F, [.mut l', .val (.lst xs)], ?_, F, l', hp, hl', rfl, rfl⟩
    refine' run_rt ⟨rfl, by show 2 ≤ 5; decide⟩ (ss_nx (sl_set2 (r := .fresh xs) (q := .fresh []) (vl_bi (bi := .list) (ds := [.lst xs]) ?_ ?_ rfl) ?_ ?_ ?_) (ss_nx (sl_for (sr_rng1 (n := xs.length) (dl_of (r := .val (.int xs.length)) (vl_bi (bi := .len) (ds := [.lst xs]) ?_ ?_ rfl)) (rgOk_small (by omega) (by omega) (by omega) (by omega))) e) (ss_rt (sl_reto rfl)))) rfl
    all_goals (repeat' wp_step)
  · obtain ⟨l, L, F, s, rfl, hs, hl, hF, hL, hp⟩ := hI
    have hj : j < xs.length := by
      obtain ⟨h, _⟩ := List.getElem?_eq_some_iff.mp hx
      rw [rngD_length] at h
      omega
    obtain ⟨r, bs, e, v, l', v0, v1, hl', rfl, rfl⟩ := hb l L.length hl (by omega) (by omega) k hk
    obtain ⟨y, ey, gy⟩ := popAt_nat v0 v1 (by omega)
    have ea : appD F [y] = some (.non, F ++ [y]) := by
      show (if F.length < sizeLine then some (D.non, F ++ [y]) else none) = _
      rw [if_pos (by rw [sizeLine_eq]; omega)]
    refine ⟨[.own l true, .val (.lst xs), .own L false, .own F false, .val x], [.own l' true, .val (.lst xs), .own (L.eraseIdx v.toNat) false, .own (F ++ [y]) false, .val x], ?_, ?_, l', _, _, .val x, rfl, .inr ⟨x, rfl⟩, hl', ?_, ?_, ?_⟩
    · rcases hs with rfl | ⟨d, rfl⟩ <;> rfl
    · refine' ss_nx (sl_exp (vl_mo (m := .append) (xs := F) (ys := F ++ [y]) (b' := false) (ds := [y]) (rd := .non) ?_ (ds_cons (dl_of (r := .val y) (vl_mo (m := .popAt) (xs := L) (ys := L.eraseIdx v.toNat) (b' := false) (ds := [.int v]) (rd := y) ?_ (ds_cons (dl_of (r := .val (.int v)) (vl_call (r := .val (.int v)) (as := [.mut l, .val (.int L.length)]) (as_ref ?_ (as_val rfl (dl_of (r := .val (.int L.length)) (vl_bi (bi := .len) (ds := [.lst L]) ?_ ?_ rfl)) as_nil)) ?_ ?_ e ?_)) ds_nil) ?_ ey)) ds_nil) ?_ ea)) ?_
      all_goals (repeat' wp_step)
    · rw [List.length_append, List.length_singleton]; omega
    · rw [List.length_eraseIdx]
      split <;> omega
    · have hv : v.toNat < L.length := by omega
      have q : L.Perm (y :: L.eraseIdx v.toNat) := by
        exact perm_erase gy
      rw [List.append_assoc]
      exact ((List.Perm.append_left F q).symm).trans hp
end
end Cr
namespace Cr
open PySem L2
local macro_rules | `(tactic| wp_step) => `(tactic| first
  | exact os_nil | exact ds_nil | exact as_nil | exact ss_nl
  | exact ol_val rfl | exact ol_own rfl | exact rs_val rfl | exact rs_own rfl
  | refine' ol_of rfl ?_ | refine' dl_of ?_ | refine' os_cons ?_ ?_ | refine' ds_cons ?_ ?_ | refine' as_ref rfl ?_ | refine' as_val rfl ?_ ?_
  | exact vl_val rfl | exact vl_own rfl | refine' vl_bin ?_ ?_ ?_ ?_ ?_ | refine' vl_cmp ?_ ?_ ?_ ?_ ?_ | refine' vl_idx ?_ ?_ ?_ ?_ ?_ | refine' vl_not ?_ ?_ ?_ | refine' vl_bi ?_ ?_ ?_ | refine' vl_tup ?_ ?_ | refine' vl_lst ?_ ?_
  | refine' ss_rt (sl_retv rfl) | refine' ss_rt (sl_ret rfl ?_) | refine' ss_nx (sl_set ?_ ?_) ?_ | refine' ss_nx (sl_exp ?_) ?_ | refine' ss_nx (sl_asg ?_ ?_) ?_
  | exact bd_mulR (by assumption) | exact bd_mulL (by assumption) | exact bd_mod (by assumption) | exact Nat.zero_le _ | exact rfl)
def pD (r : Int × Int) : D := .tup [.int r.1, .int r.2]
def bdD (n : Int) (rs : List (Int × Int)) : D := .tup [.int n, .tup (rs.map pD)]
abbrev ltP (r s : Int × Int) : Prop := r.1 < s.1 ∨ (r.1 = s.1 ∧ r.2 < s.2)
structure IsBd (n : Int) (rs : List (Int × Int)) : Prop where
  n1 : 1 ≤ n
  n8 : n ≤ 8
  rg : ∀ r ∈ rs, 0 ≤ r.1 ∧ r.1 < n ∧ 0 ≤ r.2 ∧ r.2 < n ∧ r.1 ≠ r.2
  srt : rs.Pairwise ltP
  endy : ∃ rk : Int → Nat, ∀ p, 0 ≤ p → p < n → (∀ r ∈ rs, r.1 ≠ p) ∨ ∃ q, (p, q) ∈ rs ∧ rk q < rk p
def kOf (r : Int × Int) : List Int := [r.1, r.2]
def toP : List Int → Int × Int
  | [x, y] => (x, y)
  | _ => (0, 0)
def srtP (rs : List (Int × Int)) : List (Int × Int) := (sortT (rs.map kOf)).map toP
theorem tupsI_pD : ∀ rs : List (Int × Int), D.tupsI (rs.map pD) = some (rs.map kOf)
  | [] => rfl
  | r :: rs => by
    show (match (pD r).tupI, D.tupsI (rs.map pD) with
      | some n, some ns => some (n :: ns)
      | _, _ => none) = _
    rw [tupsI_pD rs]; rfl
theorem mem_srt {r : Int × Int} {rs : List (Int × Int)} : r ∈ srtP rs ↔ r ∈ rs := by
  unfold srtP
  constructor
  · intro h
    obtain ⟨k, hk, rfl⟩ := List.mem_map.mp h
    obtain ⟨r', hr, rfl⟩ := List.mem_map.mp (mem_sortT.mp hk)
    exact hr
  · intro h
    exact List.mem_map.mpr ⟨kOf r, mem_sortT.mpr (List.mem_map_of_mem h), rfl⟩
theorem srt_map (rs : List (Int × Int)) : (srtP rs).map pD = (sortT (rs.map kOf)).map fun k => D.tup (k.map .int) := by
  unfold srtP
  rw [List.map_map]
  refine List.map_congr_left fun k hk => ?_
  obtain ⟨r', hr, rfl⟩ := List.mem_map.mp (mem_sortT.mp hk)
  rfl
theorem srt_sorted (rs : List (Int × Int)) : (srtP rs).Pairwise ltP := by
  unfold srtP
  rw [List.pairwise_map]
  refine List.Pairwise.imp_of_mem (fun {a b} ha hb h => ?_) (sortT_sorted (rs.map kOf))
  obtain ⟨r, _, rfl⟩ := List.mem_map.mp (mem_sortT.mp ha)
  obtain ⟨s, _, rfl⟩ := List.mem_map.mp (mem_sortT.mp hb)
  exact lexLt2.mp h
theorem sortedSet_eq {rs : List (Int × Int)} (hl : rs.length < 64) (h : ∀ r ∈ rs, 0 ≤ r.1 ∧ r.1 < 64 ∧ 0 ≤ r.2 ∧ r.2 < 64) (d : D) (hd : d.seq? = some (rs.map pD)) : sortedSetD [d] = some (.fresh ((srtP rs).map pD)) := by
  have ok : pairsOk (rs.map kOf) = true := by
    unfold pairsOk
    simp only [Bool.and_eq_true, decide_eq_true_eq, List.all_eq_true]
    refine ⟨by rw [List.length_map]; exact hl, fun k hk => ?_⟩
    obtain ⟨r, hr, rfl⟩ := List.mem_map.mp hk
    obtain ⟨h1, h2, h3, h4⟩ := h r hr
    refine ⟨rfl, fun i hi => ?_⟩
    simp only [kOf, List.mem_cons, List.not_mem_nil, or_false] at hi
    rcases hi with rfl | rfl
    · exact ⟨h1, h2⟩
    · exact ⟨h3, h4⟩
  simp only [sortedSetD, hd, tupsI_pD, ok, if_true]
  rw [srt_map]
def f_board (ib io ir : Nat) : Fd := ⟨2, 9, (.cons (.set 2 false (.bin .Add (.cst (.int 1)) (.call ib (.cons (.mref 0) (.cons (.var 1) .nil))))) (.cons (.set 3 false (.call ir (.cons (.mref 0) (.cons (.bi .lrange1 (.cons (.var 2) .nil)) .nil)))) (.cons (.set 4 false (.bin .Add (.cst (.int 1)) (.call ib (.cons (.mref 0) (.cons (.bi .min2 (.cons (.cst (.int 3)) (.cons (.var 2) .nil))) .nil))))) (.cons (.set 5 true (.lst .nil)) (.cons (.for (.name 6) (.rng2 (.var 4) (.var 2)) (.cons (.exp (.mo .append 5 (.cons (.tup (.cons (.idx (.var 3) (.var 6)) (.cons (.call io (.cons (.mref 0) (.cons (.slc (.var 3) .nop (.var 6)) .nil))) .nil))) .nil))) (.cons (.for (.name 7) (.rng1 (.call ib (.cons (.mref 0) (.cons (.cst (.int 3)) .nil)))) (.cons (.set 8 false (.call ib (.cons (.mref 0) (.cons (.var 2) .nil)))) (.cons (.set 5 true (.bin .Add (.var 5) (.ife (.cmp .NotEq (.var 8) (.idx (.var 3) (.var 6))) (.lst (.cons (.tup (.cons (.idx (.var 3) (.var 6)) (.cons (.var 8) .nil))) .nil)) (.lst .nil)))) .nil))) .nil))) (.cons (.ret (.tup (.cons (.var 2) (.cons (.bi .tuple (.cons (.bi .sortedSet (.cons (.var 5) .nil)) .nil)) .nil)))) .nil))))))⟩
def OneX (P : Nat → Option Fd) (W io : Nat) : Prop := ∀ (l : List D) (s : D) (xs : List D), PoolOk l → (s = .tup xs ∨ s = .lst xs) → 0 < xs.length → xs.length < 1073741824 →
    Fx P W 2 io [.mut l, .val s] fun r bs => ∃ (x : D) (l' : List D), x ∈ xs ∧ PoolOk l' ∧ r = .val x ∧ bs = [.mut l', .val s]
def OrderX (P : Nat → Option Fd) (W ir : Nat) : Prop := ∀ (l xs : List D), PoolOk l → xs.length ≤ 1000 →
    Fx P W 2 ir [.mut l, .val (.lst xs)] fun r bs => ∃ (ys : List D) (l' : List D), ys.Perm xs ∧ PoolOk l' ∧ r = .fresh ys ∧ bs = [.mut l', .val (.lst xs)]
/-- what has been drawn of the roads: those of the places from far on, up to at -/
structure Rd (n : Int) (ord : List Int) (far at_ : Nat) (rs : List (Int × Int)) : Prop where
  from_ : ∀ r ∈ rs, (∃ i, far ≤ i ∧ i < at_ ∧ ord[i]? = some r.1) ∧ 0 ≤ r.2 ∧ r.2 < n ∧ r.1 ≠ r.2
  has : ∀ i p, far ≤ i → i < at_ → ord[i]? = some p → ∃ j q, j < i ∧ ord[j]? = some q ∧ (p, q) ∈ rs
structure OrdOk (n : Int) (ord : List Int) : Prop where
  nd : ord.Nodup
  mem : ∀ x, x ∈ ord ↔ 0 ≤ x ∧ x < n
  len : (ord.length : Int) = n
theorem ord_of {n : Int} {ys : List D} (h0 : 0 ≤ n) (h : ys.Perm (rngD 0 n)) : ∃ ord : List Int, ys = ord.map .int ∧ OrdOk n ord := by
  have e : rngD 0 n = ((List.range n.toNat).map fun i => ((i : Nat) : Int)).map D.int := by
    unfold rngD
    rw [List.map_map]
    refine List.map_congr_left (fun i _ => ?_) |>.trans (by rw [Int.sub_zero])
    show D.int (0 + (i : Int)) = D.int (i : Int)
    rw [Int.zero_add]
  rw [e] at h
  obtain ⟨ord, p, rfl⟩ := perm_lift h _ rfl
  refine ⟨ord, rfl, ⟨?_, fun x => ?_, ?_⟩⟩
  · exact p.nodup_iff.mpr (List.pairwise_map.mpr (List.Pairwise.imp (fun {a b} h z => h (by omega)) List.nodup_range))
  · rw [p.mem_iff, List.mem_map]
    constructor
    · rintro ⟨i, hi, rfl⟩
      have := List.mem_range.mp hi
      omega
    · rintro ⟨h1, h2⟩
      exact ⟨x.toNat, List.mem_range.mpr (by omega), by omega⟩
  · rw [p.length_eq, List.length_map, List.length_range]
    omega
theorem rd_board {n : Int} {ord : List Int} {far : Nat} {rs : List (Int × Int)} (h1 : 1 ≤ n) (h8 : n ≤ 8) (ho : OrdOk n ord) (h : Rd n ord far n.toNat rs) : IsBd n (srtP rs) := by
  refine ⟨h1, h8, fun r hr => ?_, srt_sorted rs, ⟨fun p => ord.findIdx (· == p), fun p p0 p1 => ?_⟩⟩
  · obtain ⟨⟨i, _, _, e⟩, b, c, d⟩ := h.from_ r (mem_srt.mp hr)
    have := (ho.mem r.1).mp (List.mem_of_getElem? e)
    exact ⟨this.1, this.2, b, c, d⟩
  · obtain ⟨i, hi⟩ := List.getElem?_of_mem ((ho.mem p).mpr ⟨p0, p1⟩)
    have ix : ∀ {j : Nat} {q : Int}, ord[j]? = some q → ord.findIdx (· == q) = j := fun {j q} e => by
      obtain ⟨hj, e2⟩ := List.getElem?_eq_some_iff.mp e
      rw [List.findIdx_eq hj]
      refine ⟨by rw [e2]; exact beq_self_eq_true q, fun m hm => ?_⟩
      rw [beq_eq_false_iff_ne]
      intro z
      exact List.pairwise_iff_getElem.mp ho.nd m j (by omega) hj hm (z.trans e2.symm)
    have hil : i < ord.length := (List.getElem?_eq_some_iff.mp hi).1
    have len := ho.len
    by_cases hf : far ≤ i
    · obtain ⟨j, q, hj, e, m⟩ := h.has i p hf (by omega) hi
      refine .inr ⟨q, mem_srt.mpr m, ?_⟩
      show ord.findIdx (· == q) < ord.findIdx (· == p)
      rw [ix e, ix hi]; exact hj
    · refine .inl fun r hr z => ?_
      obtain ⟨⟨i', a, b, e⟩, _⟩ := h.from_ r (mem_srt.mp hr)
      rw [z] at e
      have := ix e
      rw [ix hi] at this
      omega
end Cr
namespace Cr
open PySem L2
local macro_rules | `(tactic| wp_step) => `(tactic| first
  | exact os_nil | exact ds_nil | exact as_nil | exact ss_nl
  | exact ol_val rfl | exact ol_own rfl | exact rs_val rfl | exact rs_own rfl
  | refine' ol_of rfl ?_ | refine' dl_of ?_ | refine' os_cons ?_ ?_ | refine' ds_cons ?_ ?_ | refine' as_ref rfl ?_ | refine' as_val rfl ?_ ?_
  | exact vl_val rfl | exact vl_own rfl | refine' vl_bin ?_ ?_ ?_ ?_ ?_ | refine' vl_cmp ?_ ?_ ?_ ?_ ?_ | refine' vl_idx ?_ ?_ ?_ ?_ ?_ | refine' vl_not ?_ ?_ ?_ | refine' vl_bi ?_ ?_ ?_ | refine' vl_tup ?_ ?_ | refine' vl_lst ?_ ?_
  | refine' ss_rt (sl_retv rfl) | refine' ss_rt (sl_ret rfl ?_) | refine' ss_nx (sl_set ?_ ?_) ?_ | refine' ss_nx (sl_exp ?_) ?_ | refine' ss_nx (sl_asg ?_ ?_) ?_
  | exact bd_mulR (by assumption) | exact bd_mulL (by assumption) | exact bd_mod (by assumption) | exact Nat.zero_le _ | exact rfl)
section
variable {C : CallF} {P : Nat → Option Fd} {W : Nat} {ρ ρ1 ρ2 ρ3 : Env} {a b c e : E}
theorem pl_nop : mkP .nop (ev C .nop) ρ = .ok (none, ρ) := rfl
theorem pl_int {v : Int} (hn : isNop e = false) (h : Dl C ρ e (.int v) ρ1) : mkP e (ev C e) ρ = .ok (some v, ρ1) := by
  unfold mkP
  rw [if_neg (by rw [hn]; decide), h]
  rfl
theorem vl_slc {o : Opd} {d : D} {x y : Option Int} {r : R} (h1 : Ol C ρ a o ρ1) (h2 : mkP b (ev C b) ρ1 = .ok (x, ρ2)) (h3 : mkP c (ev C c) ρ2 = .ok (y, ρ3)) (h4 : resO ρ3 o = some d) (h5 : slcD d x y = some r) : Vl C ρ (.slc a b c) r ρ3 := by
  show (mkO a (ev C a) ρ).bd _ = _
  rw [h1]
  show (mkP b (ev C b) ρ1).bd _ = _
  rw [h2]
  show (mkP c (ev C c) ρ2).bd _ = _
  rw [h3]
  show (match resO ρ3 o with
    | some dx => (match slcD dx x y with
      | some r => Res.ok (r, ρ3)
      | none => .stuck)
    | none => .stuck) = _
  rw [h4]
  dsimp only
  rw [h5]
theorem cut_take {α : Type} (xs : List α) {v : Int} (h0 : 0 ≤ v) (h1 : v ≤ xs.length) : cutL xs none (some v) = xs.take v.toNat := by
  have e1 : HT.sIx xs.length 0 none = 0 := rfl
  have e2 : HT.sIx xs.length xs.length (some v) = v.toNat := by
    show (if v < 0 then (v + (xs.length : Int)).toNat else min v.toNat xs.length) = v.toNat
    rw [if_neg (by omega)]
    omega
  unfold cutL
  rw [e1, e2]
  simp
theorem ne_int (i j : Int) : cmpD .NotEq (.int i) (.int j) = some (!decide (i = j)) := by
  show (eqR (.int i) (.int j)).map (!·) = _
  have e : eqR (.int i) (.int j) = some (decide (i = j)) := rfl
  rw [e]; rfl
theorem add_lst {xs ys : List D} (h : xs.length + ys.length ≤ 1000) : binD .Add (.lst xs) (.lst ys) = some (.fresh (xs ++ ys)) := by
  show (if xs.length + ys.length ≤ sizeLine then some (R.fresh (xs ++ ys)) else none) = _
  rw [if_pos (by rw [sizeLine_eq]; omega)]
theorem app_lst {xs : List D} {y : D} (h : xs.length ≤ 1000) : moD .append xs [y] = some (.non, xs ++ [y]) := by
  show (if xs.length < sizeLine then some (D.non, xs ++ [y]) else none) = _
  rw [if_pos (by rw [sizeLine_eq]; omega)]
theorem idx_lst {xs : List D} {i : Nat} {y : D} (h : xs[i]? = some y) : idxD (.lst xs) (.int (i : Int)) = some y := by
  have hi : i < xs.length := (List.getElem?_eq_some_iff.mp h).1
  show atI xs (i : Int) = some y
  unfold atI ixN
  rw [if_pos (by omega), if_pos (by omega)]
  simpa using h
theorem Rd.more {n : Int} {ord : List Int} {far at_ : Nat} {rs : List (Int × Int)} (h : Rd n ord far (at_ + 1) rs) (hf : far ≤ at_) {p q : Int} (hp : ord[at_]? = some p) (q0 : 0 ≤ q) (q1 : q < n) (ne : p ≠ q) : Rd n ord far (at_ + 1) (rs ++ [(p, q)]) := by
  refine ⟨fun r hr => ?_, fun i x h1 h2 h3 => ?_⟩
  · rcases List.mem_append.mp hr with hr | hr
    · exact h.from_ r hr
    · rw [List.mem_singleton.mp hr]
      exact ⟨⟨at_, hf, by omega, hp⟩, q0, q1, ne⟩
  · obtain ⟨j, y, a, b, c⟩ := h.has i x h1 h2 h3
    exact ⟨j, y, a, b, List.mem_append_left _ c⟩
theorem Rd.next {n : Int} {ord : List Int} {far at_ : Nat} {rs : List (Int × Int)} (ho : OrdOk n ord) (h : Rd n ord far at_ rs) (hf : far ≤ at_) {p q : Int} {j : Nat} (hp : ord[at_]? = some p) (hj : j < at_) (hq : ord[j]? = some q) : Rd n ord far (at_ + 1) (rs ++ [(p, q)]) := by
  have qm := (ho.mem q).mp (List.mem_of_getElem? hq)
  have ne : p ≠ q := fun z => by
    subst z
    obtain ⟨a1, a2⟩ := List.getElem?_eq_some_iff.mp hp
    obtain ⟨b1, b2⟩ := List.getElem?_eq_some_iff.mp hq
    exact List.pairwise_iff_getElem.mp ho.nd j at_ b1 a1 hj (b2.trans a2.symm)
  refine ⟨fun r hr => ?_, fun i x h1 h2 h3 => ?_⟩
  · rcases List.mem_append.mp hr with hr | hr
    · obtain ⟨⟨i, a, b, c⟩, d⟩ := h.from_ r hr
      exact ⟨⟨i, a, by omega, c⟩, d⟩
    · rw [List.mem_singleton.mp hr]
      exact ⟨⟨at_, hf, by omega, hp⟩, qm.1, qm.2, ne⟩
  · by_cases e : i = at_
    · subst e
      rw [hp] at h3; cases h3
      exact ⟨j, q, hj, hq, List.mem_append_right _ (List.mem_singleton.mpr rfl)⟩
    · obtain ⟨j', y, a, b, c⟩ := h.has i x h1 (by omega) h3
      exact ⟨j', y, a, b, List.mem_append_left _ c⟩
def bIn (ib : Nat) : Ss := (.cons (.set 8 false (.call ib (.cons (.mref 0) (.cons (.var 2) .nil)))) (.cons (.set 5 true (.bin .Add (.var 5) (.ife (.cmp .NotEq (.var 8) (.idx (.var 3) (.var 6))) (.lst (.cons (.tup (.cons (.idx (.var 3) (.var 6)) (.cons (.var 8) .nil))) .nil)) (.lst .nil)))) .nil))
/-- the inner loop -/
theorem inner_ok {ib k : Nat} (hb : BelowX P W ib) (hk : 1 ≤ k) {n : Int} {ord : List Int} {far at_ : Nat} (h1 : 1 ≤ n) (h8 : n ≤ 8) (ho : OrdOk n ord) (hf : far ≤ at_) {p : Int} (hp : ord[at_]? = some p) {m F : D} {l : List D} (hl : PoolOk l) {rs : List (Int × Int)} (hr : Rd n ord far (at_ + 1) rs) (hn : rs.length ≤ 900)
    {s7 s8 : Sl} (f7 : Free s7) (f8 : Free s8) {t : Int} (t2 : t ≤ 2) :
    ∃ ρ', forGo (.name 7) (exSs (callN P W k) W (bIn ib)) (rngD 0 t) [.own l true, .val m, .val (.int n), .val (.lst (ord.map .int)), .val F, .own (rs.map pD) false, .val (.int at_), s7, s8] = .ok (.nx, ρ') ∧
      ∃ (l' : List D) (rs' : List (Int × Int)) (s7' s8' : Sl), ρ' = [.own l' true, .val m, .val (.int n), .val (.lst (ord.map .int)), .val F, .own (rs'.map pD) false, .val (.int at_), s7', s8'] ∧ PoolOk l' ∧ Rd n ord far (at_ + 1) rs' ∧ rs'.length ≤ rs.length + 2 ∧ Free s7' ∧ Free s8' := by
  obtain ⟨ρ', e, l', rs', s7', s8', q1, q2, q3, q4, q5, q6⟩ := forGo_inv (t := .name 7) (body := exSs (callN P W k) W (bIn ib))
    (fun i ρ => ∃ (l' : List D) (rs' : List (Int × Int)) (s7' s8' : Sl), ρ = [.own l' true, .val m, .val (.int n), .val (.lst (ord.map .int)), .val F, .own (rs'.map pD) false, .val (.int at_), s7', s8'] ∧ PoolOk l' ∧ Rd n ord far (at_ + 1) rs' ∧ rs'.length ≤ rs.length + i ∧ Free s7' ∧ Free s8')
    (rngD 0 t) 0 _ ⟨l, rs, s7, s8, rfl, hl, hr, Nat.le_refl _, f7, f8⟩ fun j x ρ hx hI => by
      obtain ⟨l, rs', s7, s8, rfl, hl, hr, hn', f7, f8⟩ := hI
      have hj : j < t.toNat := by
        obtain ⟨h, _⟩ := List.getElem?_eq_some_iff.mp hx
        rw [rngD_length] at h
        omega
      obtain ⟨r, bs, e, v, l', v0, v1, hl', rfl, rfl⟩ := hb l n hl (by omega) (by omega) k hk
      have hpD : (ord.map D.int)[at_]? = some (.int p) := by rw [List.getElem?_map, hp]; rfl
      have tg : setT (.name 7) x [.own l true, .val m, .val (.int n), .val (.lst (ord.map .int)), .val F, .own (rs'.map pD) false, .val (.int at_), s7, s8] = some [.own l true, .val m, .val (.int n), .val (.lst (ord.map .int)), .val F, .own (rs'.map pD) false, .val (.int at_), .val x, s8] := by
        rcases f7 with rfl | ⟨d, rfl⟩ <;> rfl
      have p8 : putS [.own l' true, .val m, .val (.int n), .val (.lst (ord.map .int)), .val F, .own (rs'.map pD) false, .val (.int at_), .val x, s8] 8 false (.val (.int v)) = some [.own l' true, .val m, .val (.int n), .val (.lst (ord.map .int)), .val F, .own (rs'.map pD) false, .val (.int at_), .val x, .val (.int v)] := by
        rcases f8 with rfl | ⟨d, rfl⟩ <;> rfl
      by_cases hv : v = p
      · have e1 : cmpD .NotEq (.int v) (.int p) = some false := by rw [ne_int, hv]; simp
        refine ⟨_, [.own l' true, .val m, .val (.int n), .val (.lst (ord.map .int)), .val F, .own (rs'.map pD ++ []) false, .val (.int at_), .val x, .val (.int v)], tg, ?_, l', rs', .val x, .val (.int v), by rw [List.append_nil], hl', hr, by omega, .inr ⟨_, rfl⟩, .inr ⟨_, rfl⟩⟩
        refine' ss_nx (sl_set (r := .val (.int v)) (vl_call (r := .val (.int v)) (as := [.mut l, .val (.int n)]) (as_ref ?_ (as_val rfl (dl_of (r := .val (.int n)) ?_) as_nil)) ?_ ?_ e ?_) p8) (ss_nx (sl_set (r := .fresh (rs'.map pD ++ [])) (vl_bin (x := .lst (rs'.map pD)) (y := .lst []) ?_ (ol_of rfl (vl_ife (k := false) (tl_of (d := .bl false) (ol_of rfl (vl_cmp (k := false) (x := .int v) (y := .int p) ?_ (ol_of rfl (vl_idx (x := .lst (ord.map .int)) (y := .int at_) ?_ ?_ ?_ ?_ (idx_lst hpD))) ?_ ?_ e1)) rfl rfl) (vl_lst ds_nil (Nat.zero_le _)))) ?_ ?_ (add_lst (by rw [List.length_map]; show rs'.length + 0 ≤ 1000; omega))) ?_) ss_nl)
        all_goals (repeat' wp_step)
      · have e1 : cmpD .NotEq (.int v) (.int p) = some true := by rw [ne_int, decide_eq_false hv]; rfl
        refine ⟨_, [.own l' true, .val m, .val (.int n), .val (.lst (ord.map .int)), .val F, .own (rs'.map pD ++ [pD (p, v)]) false, .val (.int at_), .val x, .val (.int v)], tg, ?_, l', rs' ++ [(p, v)], .val x, .val (.int v), by rw [List.map_append]; rfl, hl', hr.more hf hp v0 v1 (fun z => hv z.symm), by rw [List.length_append, List.length_singleton]; omega, .inr ⟨_, rfl⟩, .inr ⟨_, rfl⟩⟩
        refine' ss_nx (sl_set (r := .val (.int v)) (vl_call (r := .val (.int v)) (as := [.mut l, .val (.int n)]) (as_ref ?_ (as_val rfl (dl_of (r := .val (.int n)) ?_) as_nil)) ?_ ?_ e ?_) p8) (ss_nx (sl_set (r := .fresh (rs'.map pD ++ [pD (p, v)])) (vl_bin (x := .lst (rs'.map pD)) (y := .lst [pD (p, v)]) ?_ (ol_of rfl (vl_ife (k := true) (tl_of (d := .bl true) (ol_of rfl (vl_cmp (k := true) (x := .int v) (y := .int p) ?_ (ol_of rfl (vl_idx (x := .lst (ord.map .int)) (y := .int at_) ?_ ?_ ?_ ?_ (idx_lst hpD))) ?_ ?_ e1)) rfl rfl) (vl_lst (ds := [pD (p, v)]) (ds_cons (dl_of (r := .val (pD (p, v))) (vl_tup (ds := [.int p, .int v]) (ds_cons (dl_of (r := .val (.int p)) (vl_idx (x := .lst (ord.map .int)) (y := .int at_) ?_ ?_ ?_ ?_ (idx_lst hpD))) (ds_cons (dl_of (r := .val (.int v)) ?_) ds_nil)) (by rw [sizeLine_eq]; show 2 ≤ _; omega))) ds_nil) (by rw [sizeLine_eq]; show 1 ≤ _; omega)))) ?_ ?_ (add_lst (by rw [List.length_map]; show rs'.length + 1 ≤ 1000; omega))) ?_) ss_nl)
        all_goals (repeat' wp_step)
  refine ⟨ρ', e, l', rs', s7', s8', q1, q2, q3, ?_, q5, q6⟩
  rw [rngD_length] at q4
  omega
def bOut (ib io : Nat) : Ss := (.cons (.exp (.mo .append 5 (.cons (.tup (.cons (.idx (.var 3) (.var 6)) (.cons (.call io (.cons (.mref 0) (.cons (.slc (.var 3) .nop (.var 6)) .nil))) .nil))) .nil))) (.cons (.for (.name 7) (.rng1 (.call ib (.cons (.mref 0) (.cons (.cst (.int 3)) .nil)))) (bIn ib)) .nil))
theorem outer_ok {ib io k : Nat} (hb : BelowX P W ib) (ho1 : OneX P W io) (hk : 2 ≤ k) {n : Int} {ord : List Int} {far : Nat} (h1 : 1 ≤ n) (h8 : n ≤ 8) (ho : OrdOk n ord) (hf1 : 1 ≤ far) (hfn : (far : Int) ≤ n) {m : D} {l : List D} (hl : PoolOk l) :
    ∃ ρ', forGo (.name 6) (exSs (callN P W k) W (bOut ib io)) (rngD far n) [.own l true, .val m, .val (.int n), .val (.lst (ord.map .int)), .val (.int far), .own [] false, .non, .non, .non] = .ok (.nx, ρ') ∧
      ∃ (l' : List D) (rs' : List (Int × Int)) (s6 s7 s8 : Sl), ρ' = [.own l' true, .val m, .val (.int n), .val (.lst (ord.map .int)), .val (.int far), .own (rs'.map pD) false, s6, s7, s8] ∧ PoolOk l' ∧ Rd n ord far n.toNat rs' ∧ rs'.length ≤ 24 := by
  obtain ⟨ρ', e, l', rs', s6, s7, s8, q1, q2, q3, q4, _⟩ := forGo_inv (t := .name 6) (body := exSs (callN P W k) W (bOut ib io))
    (fun i ρ => ∃ (l' : List D) (rs' : List (Int × Int)) (s6 s7 s8 : Sl), ρ = [.own l' true, .val m, .val (.int n), .val (.lst (ord.map .int)), .val (.int far), .own (rs'.map pD) false, s6, s7, s8] ∧ PoolOk l' ∧ Rd n ord far (far + i) rs' ∧ rs'.length ≤ 3 * i ∧ Free s6 ∧ Free s7 ∧ Free s8)
    (rngD far n) 0 [.own l true, .val m, .val (.int n), .val (.lst (ord.map .int)), .val (.int far), .own [] false, .non, .non, .non] ⟨l, [], .non, .non, .non, rfl, hl, ⟨fun r hr => (by cases hr), fun i p a b => (by omega)⟩, Nat.le_refl _, .inl rfl, .inl rfl, .inl rfl⟩ fun j x ρ hx hI => by
      obtain ⟨l, rs', s6, s7, s8, rfl, hl, hr, hn', f6, f7, f8⟩ := hI
      rw [Nat.zero_add] at hr hn'
      obtain ⟨hj, rfl⟩ := rngD_get hx
      have hat : far + j < ord.length := by have := ho.len; omega
      obtain ⟨p, hp⟩ : ∃ p, ord[far + j]? = some p := ⟨ord[far + j], List.getElem?_eq_getElem hat⟩
      have hpD : (ord.map D.int)[far + j]? = some (.int p) := by rw [List.getElem?_map, hp]; rfl
      have ec : ((far : Int) + (j : Int)) = ((far + j : Nat) : Int) := by omega
      rw [ec]
      have tk : cutL (ord.map D.int) none (some ((far + j : Nat) : Int)) = (ord.map D.int).take (far + j) := by
        rw [cut_take _ (by omega) (by rw [List.length_map]; omega)]
        rw [Int.toNat_natCast]
      obtain ⟨r, bs, e, y, l', ym, hl', rfl, rfl⟩ := ho1 l (.lst ((ord.map D.int).take (far + j))) _ hl (.inr rfl) (by rw [List.length_take, List.length_map]; omega) (by rw [List.length_take, List.length_map]; omega) k hk
      obtain ⟨jq, hjq⟩ := List.getElem?_of_mem ym
      have hjl : jq < far + j := by
        have := (List.getElem?_eq_some_iff.mp hjq).1
        rw [List.length_take] at this
        omega
      rw [List.getElem?_take_of_lt hjl, List.getElem?_map] at hjq
      obtain ⟨q, hq, rfl⟩ := Option.map_eq_some_iff.mp hjq
      have hr2 := hr.next ho (by omega) hp hjl hq
      obtain ⟨r3, bs3, e3, t, l3, t0, t1, hl3, rfl, rfl⟩ := hb l' 3 hl' (by omega) (by omega) k (by omega)
      obtain ⟨ρ3, e4, l4, rs4, s74, s84, rfl, hl4, hr4, hn4, f74, f84⟩ := inner_ok (far := far) (at_ := far + j) (p := p) (m := m) (F := .int far) hb (by omega : 1 ≤ k) h1 h8 ho (by omega) hp hl3 (rs := rs' ++ [(p, q)]) hr2 (by rw [List.length_append, List.length_singleton]; omega) f7 f8 (t := t) (by omega)
      have em : (rs' ++ [(p, q)]).map pD = rs'.map pD ++ [pD (p, q)] := by rw [List.map_append]; rfl
      rw [em] at e4
      refine ⟨[.own l true, .val m, .val (.int n), .val (.lst (ord.map .int)), .val (.int far), .own (rs'.map pD) false, .val (.int ((far + j : Nat) : Int)), s7, s8], _, ?_, ?_, l4, rs4, .val (.int ((far + j : Nat) : Int)), s74, s84, rfl, hl4, ?_, ?_, .inr ⟨_, rfl⟩, f74, f84⟩
      · rcases f6 with rfl | ⟨d, rfl⟩ <;> rfl
      · refine' ss_nx (sl_exp (vl_mo (m := .append) (xs := rs'.map pD) (ys := rs'.map pD ++ [pD (p, q)]) (b' := false) (ds := [pD (p, q)]) (rd := .non) ?_ (ds_cons (dl_of (r := .val (pD (p, q))) (vl_tup (ds := [.int p, .int q]) (ds_cons (dl_of (r := .val (.int p)) (vl_idx (x := .lst (ord.map .int)) (y := .int ((far + j : Nat) : Int)) ?_ ?_ ?_ ?_ (idx_lst hpD))) (ds_cons (dl_of (r := .val (.int q)) (vl_call (r := .val (.int q)) (as := [.mut l, .val (.lst ((ord.map D.int).take (far + j)))]) (as_ref ?_ (as_val rfl (dl_of (r := .fresh ((ord.map D.int).take (far + j))) (vl_slc (x := none) (y := some ((far + j : Nat) : Int)) (d := .lst (ord.map .int)) ?_ pl_nop (pl_int rfl (dl_of (r := .val (.int ((far + j : Nat) : Int))) ?_)) ?_ ?_)) as_nil)) ?_ ?_ e ?_)) ds_nil)) (by rw [sizeLine_eq]; show 2 ≤ _; omega))) ds_nil) ?_ (app_lst (by rw [List.length_map]; omega))))
          (ss_nx (sl_for (sr_rng1 (n := t) (dl_of (r := .val (.int t)) (vl_call (r := .val (.int t)) (as := [.mut l', .val (.int 3)]) (as_ref ?_ (as_val rfl (dl_of (r := .val (.int 3)) ?_) as_nil)) ?_ ?_ e3 ?_)) (rgOk_small (by omega) (by omega) (by omega) (by omega))) e4) ss_nl)
        all_goals (repeat' wp_step)
        show slcD (.lst (ord.map .int)) none (some ((far + j : Nat) : Int)) = _
        show some (R.fresh (cutL (ord.map D.int) none (some ((far + j : Nat) : Int)))) = _
        rw [tk]
      · rw [show far + (0 + j + 1) = far + j + 1 by omega]; exact hr4
      · rw [List.length_append, List.length_singleton] at hn4
        omega
  rw [rngD_length] at q3 q4
  have : far + (0 + (n - far).toNat) = n.toNat := by omega
  rw [this] at q3
  exact ⟨ρ', e, l', rs', s6, s7, s8, q1, q2, q3, by omega⟩
end
end Cr
namespace Cr
open PySem L2
local macro_rules | `(tactic| wp_step) => `(tactic| first
  | exact os_nil | exact ds_nil | exact as_nil | exact ss_nl
  | exact ol_val rfl | exact ol_own rfl | exact rs_val rfl | exact rs_own rfl
  | refine' ol_of rfl ?_ | refine' dl_of ?_ | refine' os_cons ?_ ?_ | refine' ds_cons ?_ ?_ | refine' as_ref rfl ?_ | refine' as_val rfl ?_ ?_
  | exact vl_val rfl | exact vl_own rfl | refine' vl_bin ?_ ?_ ?_ ?_ ?_ | refine' vl_cmp ?_ ?_ ?_ ?_ ?_ | refine' vl_idx ?_ ?_ ?_ ?_ ?_ | refine' vl_not ?_ ?_ ?_ | refine' vl_bi ?_ ?_ ?_ | refine' vl_tup ?_ ?_ | refine' vl_lst ?_ ?_
  | refine' ss_rt (sl_retv rfl) | refine' ss_rt (sl_ret rfl ?_) | refine' ss_nx (sl_set ?_ ?_) ?_ | refine' ss_nx (sl_exp ?_) ?_ | refine' ss_nx (sl_asg ?_ ?_) ?_
  | exact bd_mulR (by assumption) | exact bd_mulL (by assumption) | exact bd_mod (by assumption) | exact Nat.zero_le _ | exact rfl)
section
variable {P : Nat → Option Fd} {W : Nat}
theorem insT_len (x : List Int) : ∀ l : List (List Int), (insT x l).length ≤ l.length + 1
  | [] => Nat.le_refl _
  | y :: r => by
    unfold insT
    have := insT_len x r
    split
    · simp
    · split <;> simp only [List.length_cons] <;> omega
theorem sortT_len : ∀ l : List (List Int), (sortT l).length ≤ l.length
  | [] => Nat.le_refl _
  | x :: r => by
    have h1 := insT_len x (sortT r)
    have h2 := sortT_len r
    show (insT x (sortT r)).length ≤ r.length + 1
    omega
theorem srt_len (rs : List (Int × Int)) : (srtP rs).length ≤ rs.length := by
  unfold srtP
  rw [List.length_map]
  have := sortT_len (rs.map kOf)
  rw [List.length_map] at this
  exact this
def BoardX (P : Nat → Option Fd) (W ix : Nat) : Prop := ∀ (l : List D) (m : Int), PoolOk l → 1 ≤ m → m ≤ 8 →
    Fx P W 3 ix [.mut l, .val (.int m)] fun r bs => ∃ (n : Int) (rs : List (Int × Int)) (l' : List D), IsBd n rs ∧ n ≤ m ∧ rs.length ≤ 24 ∧ PoolOk l' ∧ r = .val (bdD n rs) ∧ bs = [.mut l', .val (.int m)]
theorem lrange_ok {n : Int} (h0 : 0 ≤ n) (h1 : n ≤ 1000) : biD .lrange1 [.int n] = some (.fresh (rngD 0 n)) := by
  show (if RgOkB 0 n = true then some (R.fresh (rngD 0 n)) else none) = _
  rw [if_pos (rgOk_small (by omega) (by omega) (by omega) (by omega))]
theorem board_x {ib io ir ix : Nat} (hb : BelowX P W ib) (h1 : OneX P W io) (hr : OrderX P W ir) (hP : P ix = some (f_board ib io ir)) : BoardX P W ix := by
  intro l m hl m1 m8
  refine Fx.mk hP fun k hk => ?_
  obtain ⟨_, _, e1, v, l1, v0, v1, hl1, rfl, rfl⟩ := hb l m hl (by omega) (by omega) k (by omega)
  obtain ⟨n, hn⟩ : ∃ n : Int, n = 1 + v := ⟨_, rfl⟩
  obtain ⟨_, _, e2, ys, l2, pm, hl2, rfl, rfl⟩ := hr l1 (rngD 0 n) hl1 (by rw [rngD_length]; omega) k hk
  obtain ⟨ord, rfl, ho⟩ := ord_of (by omega) pm
  have m3 : 0 < (if n < 3 then n else 3) ∧ (if n < 3 then n else 3) ≤ n ∧ (if n < 3 then n else 3) ≤ 3 := by split <;> omega
  obtain ⟨_, _, e3, f, l3, f0, f1, hl3, rfl, rfl⟩ := hb l2 (if n < 3 then n else 3) hl2 (by omega) (by omega) k (by omega)
  obtain ⟨far, hfar⟩ : ∃ far : Nat, (far : Int) = 1 + f := ⟨(1 + f).toNat, by omega⟩
  obtain ⟨ρ', e4, l4, rs, s6, s7, s8, rfl, hl4, hrd, hlen⟩ := outer_ok (far := far) (m := .int m) hb h1 hk (n := n) (by omega) (by omega) ho (by omega) (by omega) hl3
  have ib := rd_board (by omega : 1 ≤ n) (by omega) ho hrd
  refine ⟨.val (bdD n (srtP rs)), [.mut l4, .val (.int m)], ?_, n, srtP rs, l4, ib, by omega, Nat.le_trans (srt_len rs) hlen, hl4, rfl, rfl⟩
  have rg : ∀ r ∈ rs, 0 ≤ r.1 ∧ r.1 < 64 ∧ 0 ≤ r.2 ∧ r.2 < 64 := fun r hr => by
    have := ib.rg r (mem_srt.mpr hr)
    omega
  have ss := sortedSet_eq (rs := rs) (by omega) rg (.lst (rs.map pD)) rfl
  have c1 : binD .Add (.int 1) (.int v) = some (.val (.int n)) := by rw [hn]; rfl
  have c2 : binD .Add (.int 1) (.int f) = some (.val (.int far)) := by rw [hfar]; rfl
  refine' run_rt ⟨rfl, by show 2 ≤ 9; decide⟩ (ss_nx (sl_set (r := .val (.int n)) (vl_bin (x := .int 1) (y := .int v) ?_ (ol_of rfl (vl_call (r := .val (.int v)) (as := [.mut l, .val (.int m)]) (as_ref ?_ (as_val rfl (dl_of (r := .val (.int m)) ?_) as_nil)) ?_ ?_ e1 ?_)) ?_ ?_ c1) ?_)
    (ss_nx (sl_set (r := .fresh (ord.map .int)) (vl_call (r := .fresh (ord.map .int)) (as := [.mut l1, .val (.lst (rngD 0 n))]) (as_ref ?_ (as_val rfl (dl_of (r := .fresh (rngD 0 n)) (vl_bi (bi := .lrange1) (ds := [.int n]) ?_ ?_ (lrange_ok (by omega) (by omega)))) as_nil)) ?_ ?_ e2 ?_) ?_)
    (ss_nx (sl_set (r := .val (.int far)) (vl_bin (x := .int 1) (y := .int f) ?_ (ol_of rfl (vl_call (r := .val (.int f)) (as := [.mut l2, .val (.int (if n < 3 then n else 3))]) (as_ref ?_ (as_val rfl (dl_of (r := .val (.int (if n < 3 then n else 3))) (vl_bi (bi := .min2) (ds := [.int 3, .int n]) ?_ ?_ rfl)) as_nil)) ?_ ?_ e3 ?_)) ?_ ?_ c2) ?_)
    (ss_nx (sl_set (r := .fresh []) (vl_lst ds_nil (Nat.zero_le _)) ?_)
    (ss_nx (sl_for (sr_rng2 (m := far) (n := n) (dl_of (r := .val (.int far)) ?_) (dl_of (r := .val (.int n)) ?_) (rgOk_small (by omega) (by omega) (by omega) (by omega))) e4)
    (ss_rt (sl_ret (r := .val (bdD n (srtP rs))) rfl (vl_tup (ds := [.int n, .tup ((srtP rs).map pD)]) (ds_cons (dl_of (r := .val (.int n)) ?_) (ds_cons (dl_of (r := .val (.tup ((srtP rs).map pD))) (vl_bi (bi := .tuple) (ds := [.lst ((srtP rs).map pD)]) (os_cons (ol_of rfl (vl_bi (bi := .sortedSet) (ds := [.lst (rs.map pD)]) ?_ ?_ ss)) os_nil) rfl rfl)) ds_nil)) (by rw [sizeLine_eq]; show 2 ≤ _; omega)))))))))
    ?_
  all_goals (repeat' wp_step)
end
end Cr
namespace Cr
open PySem L2
local macro_rules | `(tactic| wp_step) => `(tactic| first
  | exact os_nil | exact ds_nil | exact as_nil | exact ss_nl
  | exact ol_val rfl | exact ol_own rfl | exact rs_val rfl | exact rs_own rfl
  | refine' ol_of rfl ?_ | refine' dl_of ?_ | refine' os_cons ?_ ?_ | refine' ds_cons ?_ ?_ | refine' as_ref rfl ?_ | refine' as_val rfl ?_ ?_
  | exact vl_val rfl | exact vl_own rfl | refine' vl_bin ?_ ?_ ?_ ?_ ?_ | refine' vl_cmp ?_ ?_ ?_ ?_ ?_ | refine' vl_idx ?_ ?_ ?_ ?_ ?_ | refine' vl_not ?_ ?_ ?_ | refine' vl_bi ?_ ?_ ?_ | refine' vl_tup ?_ ?_ | refine' vl_lst ?_ ?_
  | refine' ss_rt (sl_retv rfl) | refine' ss_rt (sl_ret rfl ?_) | refine' ss_nx (sl_set ?_ ?_) ?_ | refine' ss_nx (sl_exp ?_) ?_ | refine' ss_nx (sl_asg ?_ ?_) ?_
  | exact bd_mulR (by assumption) | exact bd_mulL (by assumption) | exact bd_mod (by assumption) | exact Nat.zero_le _ | exact rfl)
section
variable {P : Nat → Option Fd} {W : Nat}
def f_whole : Fd := ⟨1, 1, (.cons (.ret (.and (.bi (.isi "int") (.cons (.var 0) .nil)) (.not (.bi (.isi "bool") (.cons (.var 0) .nil))))) .nil)⟩
def f_between (iw : Nat) : Fd := ⟨3, 3, (.cons (.ret (.and (.call iw (.cons (.var 0) .nil)) (.chn .LtE .LtE (.var 1) (.var 0) (.var 2)))) .nil)⟩
def f_tupleOf : Fd := ⟨2, 2, (.cons (.ret (.and (.bi (.isi "tuple") (.cons (.var 0) .nil)) (.cmp .Eq (.bi .len (.cons (.var 0) .nil)) (.var 1)))) .nil)⟩
theorem eq_int (i j : Int) : cmpD .Eq (.int i) (.int j) = some (decide (i = j)) := rfl
def f_indexes (ib : Nat) : Fd := ⟨2, 3, (.cons (.ret (.and (.bi (.isi "tuple") (.cons (.var 1) .nil)) (.bi .all (.cons (.lc (.call ib (.cons (.var 2) (.cons (.cst (.int 0)) (.cons (.bin .Sub (.var 0) (.cst (.int 1))) .nil)))) (.name 2) (.seq (.var 1)) .nop [2]) .nil)))) .nil)⟩
theorem bls_map : ∀ bs : List Bool, D.bls (bs.map .bl) = some bs
  | [] => rfl
  | b :: bs => by
    show (D.bls (bs.map .bl)).map (b :: ·) = _
    rw [bls_map bs]; rfl
theorem all_map {α : Type} (xs : List α) (p : α → Bool) : biD .all [.lst (xs.map fun x => .bl (p x))] = some (.val (.bl (xs.all p))) := by
  show (D.bls (xs.map fun x => D.bl (p x))).map (fun bs => R.val (.bl (bs.all id))) = _
  have e : xs.map (fun x => D.bl (p x)) = (xs.map p).map D.bl := by rw [List.map_map]; rfl
  rw [e, bls_map]
  simp [List.all_map, Function.comp_def]
end
end Cr
namespace Cr
open PySem L2
local macro_rules | `(tactic| wp_step) => `(tactic| first
  | exact os_nil | exact ds_nil | exact as_nil | exact ss_nl
  | exact ol_val rfl | exact ol_own rfl | exact rs_val rfl | exact rs_own rfl
  | refine' ol_of rfl ?_ | refine' dl_of ?_ | refine' os_cons ?_ ?_ | refine' ds_cons ?_ ?_ | refine' as_ref rfl ?_ | refine' as_val rfl ?_ ?_
  | exact vl_val rfl | exact vl_own rfl | refine' vl_bin ?_ ?_ ?_ ?_ ?_ | refine' vl_cmp ?_ ?_ ?_ ?_ ?_ | refine' vl_idx ?_ ?_ ?_ ?_ ?_ | refine' vl_not ?_ ?_ ?_ | refine' vl_bi ?_ ?_ ?_ | refine' vl_tup ?_ ?_ | refine' vl_lst ?_ ?_
  | refine' ss_rt (sl_retv rfl) | refine' ss_rt (sl_ret rfl ?_) | refine' ss_nx (sl_set ?_ ?_) ?_ | refine' ss_nx (sl_exp ?_) ?_ | refine' ss_nx (sl_asg ?_ ?_) ?_
  | exact bd_mulR (by assumption) | exact bd_mulL (by assumption) | exact bd_mod (by assumption) | exact Nat.zero_le _ | exact rfl)
mutual
def D.pur : D → Bool
  | .non | .int _ | .str _ => true
  | .tup xs | .lst xs => D.purs xs
  | _ => false
def D.purs : List D → Bool
  | [] => true
  | x :: xs => x.pur && D.purs xs
end
mutual
theorem pur_plain : ∀ d : D, d.pur = true → d.py.plain = true
  | .non, _ => rfl
  | .int _, _ => rfl
  | .str _, _ => rfl
  | .tup xs, h => by
    show PyData.plainAll (D.pys xs) = true
    exact purs_plain xs h
  | .lst xs, h => by
    show PyData.plainAll (D.pys xs) = true
    exact purs_plain xs h
  | .bl _, h => by cases h
  | .rol _, h => by cases h
  | .dct _, h => by cases h
  | .fn _, h => by cases h
theorem purs_plain : ∀ xs : List D, D.purs xs = true → PyData.plainAll (D.pys xs) = true
  | [], _ => rfl
  | x :: xs, h => by
    unfold D.purs at h
    rw [Bool.and_eq_true] at h
    show (x.py.plain && PyData.plainAll (D.pys xs)) = true
    rw [pur_plain x h.1, purs_plain xs h.2]; rfl
end
mutual
theorem eqv_pur : ∀ (a b : D), a.pur = true → b.pur = true → (PyData.eqv a.py b.py = true ↔ a = b)
  | .non, b, _, hb => by
    cases b <;> first | (cases hb; done) | (constructor <;> intro h <;> first | rfl | cases h)
  | .int i, b, _, hb => by
    cases b <;> first | (cases hb; done) | skip
    case int j =>
      show (i == j) = true ↔ _
      rw [beq_iff_eq]
      constructor
      · rintro rfl; rfl
      · intro h; cases h; rfl
    all_goals (constructor <;> intro h <;> cases h)
  | .str x, b, _, hb => by
    cases b <;> first | (cases hb; done) | skip
    case str y =>
      show (x == y) = true ↔ _
      rw [beq_iff_eq]
      constructor
      · rintro rfl; rfl
      · intro h; cases h; rfl
    all_goals (constructor <;> intro h <;> cases h)
  | .tup xs, b, ha, hb => by
    cases b <;> first | (cases hb; done) | skip
    case tup ys =>
      show PyData.eqvAll (D.pys xs) (D.pys ys) = true ↔ _
      rw [eqvs_pur xs ys ha hb]
      constructor
      · rintro rfl; rfl
      · intro h; cases h; rfl
    all_goals (constructor <;> intro h <;> cases h)
  | .lst xs, b, ha, hb => by
    cases b <;> first | (cases hb; done) | skip
    case lst ys =>
      show PyData.eqvAll (D.pys xs) (D.pys ys) = true ↔ _
      rw [eqvs_pur xs ys ha hb]
      constructor
      · rintro rfl; rfl
      · intro h; cases h; rfl
    all_goals (constructor <;> intro h <;> cases h)
  | .bl _, _, h, _ => by cases h
  | .rol _, _, h, _ => by cases h
  | .dct _, _, h, _ => by cases h
  | .fn _, _, h, _ => by cases h
theorem eqvs_pur : ∀ (xs ys : List D), D.purs xs = true → D.purs ys = true → (PyData.eqvAll (D.pys xs) (D.pys ys) = true ↔ xs = ys)
  | [], [], _, _ => by
    constructor
    · intro _; rfl
    · intro _; rfl
  | [], y :: ys, _, _ => by constructor <;> intro h <;> cases h
  | x :: xs, [], _, _ => by constructor <;> intro h <;> cases h
  | x :: xs, y :: ys, ha, hb => by
    unfold D.purs at ha hb
    rw [Bool.and_eq_true] at ha hb
    show (PyData.eqv x.py y.py && PyData.eqvAll (D.pys xs) (D.pys ys)) = true ↔ _
    rw [Bool.and_eq_true, eqv_pur x y ha.1 hb.1, eqvs_pur xs ys ha.2 hb.2]
    constructor
    · rintro ⟨rfl, rfl⟩; rfl
    · intro h; cases h; exact ⟨rfl, rfl⟩
end
theorem eqR_pur {a b : D} (ha : a.pur = true) (hb : b.pur = true) (hd : min a.py.depth b.py.depth ≤ 64) : ∃ k, eqR a b = some k ∧ (k = true ↔ a = b) := by
  refine ⟨PyData.eqv a.py b.py, ?_, eqv_pur a b ha hb⟩
  unfold eqR shallow
  rw [if_pos]
  rw [pur_plain a ha, pur_plain b hb, decide_eq_true hd]; rfl
theorem purs_ints : ∀ xs : List Int, D.purs (xs.map .int) = true
  | [] => rfl
  | x :: xs => by
    show (true && D.purs (xs.map .int)) = true
    rw [purs_ints xs]; rfl
theorem depth_ints : ∀ xs : List Int, PyData.depthAll (D.pys (xs.map .int)) = 0
  | [] => rfl
  | x :: xs => by
    show max 0 (PyData.depthAll (D.pys (xs.map .int))) = 0
    rw [depth_ints xs]; rfl
/-- x in a list (tuple) of ints -/
theorem in_ints (v : Int) (xs : List Int) : inR (.int v) (xs.map .int) = some (decide (v ∈ xs)) := by
  unfold inR
  rw [if_pos (by rw [purs_plain _ (purs_ints xs), depth_ints]; rfl)]
  congr 1
  induction xs with
  | nil => rfl
  | cons x xs ih =>
    show (PyData.eqv (D.int x).py (D.int v).py || (D.pys (xs.map .int)).any fun y => PyData.eqv y (D.int v).py) = _
    rw [ih]
    have e : PyData.eqv (D.int x).py (D.int v).py = decide (v = x) := by
      show (x == v) = _
      by_cases h : x = v
      · subst h; simp
      · rw [beq_eq_false_iff_ne.mpr h, decide_eq_false (Ne.symm h)]
    rw [e]
    by_cases h : v = x <;> simp [h]
theorem eq_tup_nil (xs : List Int) : cmpD .Eq (.tup (xs.map .int)) (.tup []) = some (decide (xs = [])) := by
  obtain ⟨k, e, h⟩ := eqR_pur (a := .tup (xs.map .int)) (b := .tup []) (purs_ints xs) rfl (by show min (PyData.depthAll (D.pys (xs.map .int)) + 1) (0 + 1) ≤ 64; rw [depth_ints]; decide)
  show eqR _ _ = _
  rw [e]
  congr 1
  by_cases hx : xs = []
  · rw [decide_eq_true hx]
    exact h.mpr (by rw [hx]; rfl)
  · rw [decide_eq_false hx]
    cases k with
    | false => rfl
    | true =>
      have := h.mp rfl
      injection this with this
      exact absurd (List.map_eq_nil_iff.mp this) hx
section
variable {P : Nat → Option Fd} {W : Nat}
def places (n : Int) : List Int := (List.range n.toNat).map fun i => ((i : Nat) : Int)
theorem mem_places {n v : Int} : v ∈ places n ↔ 0 ≤ v ∧ v < n := by
  unfold places
  rw [List.mem_map]
  constructor
  · rintro ⟨i, hi, rfl⟩
    have := List.mem_range.mp hi
    omega
  · rintro ⟨h1, h2⟩
    exact ⟨v.toNat, List.mem_range.mpr (by omega), by omega⟩
theorem rng_places (n : Int) : rngD 0 n = (places n).map .int := by
  unfold rngD places
  rw [List.map_map, Int.sub_zero]
  refine List.map_congr_left fun i _ => ?_
  show D.int (0 + (i : Int)) = D.int (i : Int)
  rw [Int.zero_add]
theorem places_len (n : Int) : (places n).length = n.toNat := by simp [places]
def nxt (rs : List (Int × Int)) (p : Int) : List Int := (rs.filter fun r => decide (r.1 = p)).map (·.2)
def endsP (n : Int) (rs : List (Int × Int)) : List Int := (places n).filter fun p => decide (nxt rs p = [])
def innerP (n : Int) (rs : List (Int × Int)) : List Int := (places n).filter fun p => !decide (nxt rs p = [])
def f_places : Fd := ⟨1, 1, (.cons (.ret (.bi .lrange1 (.cons (.idx (.var 0) (.glo "PLACES" (.int 0))) .nil))) .nil)⟩
def f_next : Fd := ⟨2, 4, (.cons (.ret (.bi .tuple (.cons (.lc (.var 3) (.tup [(.name 2), (.name 3)]) (.seq (.idx (.var 0) (.glo "ROADS" (.int 1)))) (.cmp .Eq (.var 2) (.var 1)) [2, 3]) .nil))) .nil)⟩
end
end Cr
namespace Cr
open PySem L2
local macro_rules | `(tactic| wp_step) => `(tactic| first
  | exact os_nil | exact ds_nil | exact as_nil | exact ss_nl
  | exact ol_val rfl | exact ol_own rfl | exact rs_val rfl | exact rs_own rfl
  | refine' ol_of rfl ?_ | refine' dl_of ?_ | refine' os_cons ?_ ?_ | refine' ds_cons ?_ ?_ | refine' as_ref rfl ?_ | refine' as_val rfl ?_ ?_
  | exact vl_val rfl | exact vl_own rfl | refine' vl_bin ?_ ?_ ?_ ?_ ?_ | refine' vl_cmp ?_ ?_ ?_ ?_ ?_ | refine' vl_idx ?_ ?_ ?_ ?_ ?_ | refine' vl_not ?_ ?_ ?_ | refine' vl_bi ?_ ?_ ?_ | refine' vl_tup ?_ ?_ | refine' vl_lst ?_ ?_
  | refine' ss_rt (sl_retv rfl) | refine' ss_rt (sl_ret rfl ?_) | refine' ss_nx (sl_set ?_ ?_) ?_ | refine' ss_nx (sl_exp ?_) ?_ | refine' ss_nx (sl_asg ?_ ?_) ?_
  | exact bd_mulR (by assumption) | exact bd_mulL (by assumption) | exact bd_mod (by assumption) | exact Nat.zero_le _ | exact rfl)
section
variable {C : CallF} {P : Nat → Option Fd} {W : Nat}
/-- a call with values alone -/
theorem vl_callV {ρ : Env} {f : Nat} {es : Es} {ds : List D} {r : R} (h1 : AsL C ρ es (ds.map .val) ρ) (h2 : C f (ds.map .val) = .ok (r, ds.map .val)) : Vl C ρ (.call f es) r ρ := by
  have a1 : ∀ ds : List D, slotsOf (ds.map Opd.val) = [] := fun ds => by
    induction ds with
    | nil => rfl
    | cons d ds ih => exact ih
  have a2 : ∀ ds : List D, tmps (ds.map Opd.val) = 0 := fun ds => by
    induction ds with
    | nil => rfl
    | cons d ds ih => exact ih
  have a3 : ∀ ds : List D, argsOf ρ (ds.map Opd.val) = some (ds.map .val) := fun ds => by
    induction ds with
    | nil => rfl
    | cons d ds ih =>
      show (match argOf ρ (.val d), argsOf ρ (ds.map Opd.val) with
        | some d, some ds => some (d :: ds)
        | _, _ => none) = _
      rw [ih]; rfl
  have a4 : ∀ ds : List D, backS ρ (ds.map Opd.val) (ds.map .val) = some ρ := fun ds => by
    induction ds with
    | nil => rfl
    | cons d ds ih => exact ih
  exact vl_call h1 (by rw [a1, a2]; rfl) (a3 ds) h2 (a4 ds)
def f_ends (ip inx : Nat) (op : CmpOp) : Fd := ⟨1, 2, (.cons (.ret (.bi .tuple (.cons (.lc (.var 1) (.name 1) (.seq (.call ip (.cons (.var 0) .nil))) (.cmp op (.call inx (.cons (.var 0) (.cons (.var 1) .nil))) (.tup .nil)) [1]) .nil))) .nil)⟩
theorem ne_tup_nil (xs : List Int) : cmpD .NotEq (.tup (xs.map .int)) (.tup []) = some (!decide (xs = [])) := by
  show (eqR _ _).map (!·) = _
  have e : eqR (.tup (xs.map .int)) (.tup []) = some (decide (xs = [])) := eq_tup_nil xs
  rw [e]; rfl
def aheadP (rs : List (Int × Int)) (found : List Int) : List Int := (rs.filter fun r => decide (r.2 ∈ found)).map (·.1)
def stepP (n : Int) (rs : List (Int × Int)) (found : List Int) : List Int := (places n).filter fun p => decide (p ∈ found) || decide (p ∈ aheadP rs found)
def f_ahead (ip : Nat) : Fd := ⟨2, 6, (.cons (.set 2 false (.lc (.var 3) (.tup [(.name 3), (.name 4)]) (.seq (.idx (.var 0) (.glo "ROADS" (.int 1)))) (.cmp .In (.var 4) (.var 1)) [3, 4])) (.cons (.ret (.lc (.var 5) (.name 5) (.seq (.call ip (.cons (.var 0) .nil))) (.or (.cmp .In (.var 5) (.var 1)) (.cmp .In (.var 5) (.var 2))) [5])) .nil))⟩
theorem in_lst (v : Int) (xs : List Int) : cmpD .In (.int v) (.lst (xs.map .int)) = some (decide (v ∈ xs)) := in_ints v xs
end
end Cr
namespace Cr
open PySem L2
section
variable {C : CallF} {P : Nat → Option Fd} {W : Nat}
def iterP (n : Int) (rs : List (Int × Int)) : Nat → List Int
  | 0 => endsP n rs
  | i + 1 => stepP n rs (iterP n rs i)
def f_allEnd (ie ip ia : Nat) : Fd := ⟨1, 3, (.cons (.set 1 false (.bi .list (.cons (.call ie (.cons (.var 0) .nil)) .nil))) (.cons (.for (.name 2) (.seq (.call ip (.cons (.var 0) .nil))) (.cons (.set 1 false (.call ia (.cons (.var 0) (.cons (.var 1) .nil)))) .nil)) (.cons (.ret (.cmp .Eq (.bi .len (.cons (.var 1) .nil)) (.idx (.var 0) (.glo "PLACES" (.int 0))))) .nil)))⟩
theorem iter_filter (n : Int) (rs : List (Int × Int)) : ∀ i, ∃ p : Int → Bool, iterP n rs i = (places n).filter p
  | 0 => ⟨_, rfl⟩
  | i + 1 => ⟨_, rfl⟩
theorem iter_sub {n : Int} {rs : List (Int × Int)} {i : Nat} {v : Int} (h : v ∈ iterP n rs i) : 0 ≤ v ∧ v < n := by
  obtain ⟨p, e⟩ := iter_filter n rs i
  rw [e] at h
  exact mem_places.mp (List.mem_filter.mp h).1
theorem mem_step {n : Int} {rs : List (Int × Int)} {f : List Int} {v : Int} : v ∈ stepP n rs f ↔ (0 ≤ v ∧ v < n) ∧ (v ∈ f ∨ ∃ q, (v, q) ∈ rs ∧ q ∈ f) := by
  unfold stepP aheadP
  rw [List.mem_filter, mem_places, Bool.or_eq_true, decide_eq_true_eq, decide_eq_true_eq, List.mem_map]
  constructor
  · rintro ⟨h, h2 | ⟨r, hr, rfl⟩⟩
    · exact ⟨h, .inl h2⟩
    · obtain ⟨h3, h4⟩ := List.mem_filter.mp hr
      exact ⟨h, .inr ⟨r.2, h3, by simpa using h4⟩⟩
  · rintro ⟨h, h2 | ⟨q, h3, h4⟩⟩
    · exact ⟨h, .inl h2⟩
    · exact ⟨h, .inr ⟨(v, q), List.mem_filter.mpr ⟨h3, by simpa using h4⟩, rfl⟩⟩
theorem mem_nxt {rs : List (Int × Int)} {p q : Int} : q ∈ nxt rs p ↔ (p, q) ∈ rs := by
  unfold nxt
  rw [List.mem_map]
  constructor
  · rintro ⟨r, hr, rfl⟩
    obtain ⟨h1, h2⟩ := List.mem_filter.mp hr
    have : r.1 = p := by simpa using h2
    rw [← this]; exact h1
  · intro h
    exact ⟨(p, q), List.mem_filter.mpr ⟨h, by simp⟩, rfl⟩
theorem mem_ends {n : Int} {rs : List (Int × Int)} {v : Int} : v ∈ endsP n rs ↔ (0 ≤ v ∧ v < n) ∧ ∀ q, (v, q) ∉ rs := by
  unfold endsP
  rw [List.mem_filter, mem_places, decide_eq_true_eq]
  refine and_congr_right fun _ => ?_
  rw [List.eq_nil_iff_forall_not_mem]
  exact forall_congr' fun q => not_congr mem_nxt
theorem iter_le {n : Int} {rs : List (Int × Int)} {i : Nat} {v : Int} (h : v ∈ iterP n rs i) : v ∈ iterP n rs (i + 1) := mem_step.mpr ⟨iter_sub h, .inl h⟩
theorem iter_ends {n : Int} {rs : List (Int × Int)} {v : Int} (h : v ∈ endsP n rs) : ∀ i, v ∈ iterP n rs i
  | 0 => h
  | i + 1 => iter_le (iter_ends h i)
theorem filter_len {α : Type} {p q : α → Bool} : ∀ {l : List α}, (∀ x ∈ l, p x = true → q x = true) → (l.filter p).length ≤ (l.filter q).length
  | [], _ => Nat.le_refl _
  | x :: l, h => by
    have ih := filter_len (p := p) (q := q) (l := l) fun y hy => h y (List.mem_cons_of_mem _ hy)
    have hx := h x List.mem_cons_self
    cases e : p x with
    | true =>
      rw [List.filter_cons_of_pos e, List.filter_cons_of_pos (hx e), List.length_cons, List.length_cons]; omega
    | false =>
      rw [List.filter_cons_of_neg (by rw [e]; decide)]
      cases e2 : q x with
      | true => rw [List.filter_cons_of_pos e2, List.length_cons]; omega
      | false => rw [List.filter_cons_of_neg (by rw [e2]; decide)]; exact ih
theorem filter_lt {α : Type} {p q : α → Bool} : ∀ {l : List α}, (∀ x ∈ l, p x = true → q x = true) → (∃ x ∈ l, p x = false ∧ q x = true) → (l.filter p).length < (l.filter q).length
  | [], _, ⟨x, hx, _⟩ => by cases hx
  | x :: l, h, ⟨y, hy, p0, q1⟩ => by
    have hle := filter_len (p := p) (q := q) (l := l) fun y hy => h y (List.mem_cons_of_mem _ hy)
    have hx := h x List.mem_cons_self
    rcases List.mem_cons.mp hy with rfl | hy
    · rw [List.filter_cons_of_neg (by rw [p0]; decide), List.filter_cons_of_pos q1, List.length_cons]; omega
    · have ih := filter_lt (p := p) (q := q) (l := l) (fun y hy => h y (List.mem_cons_of_mem _ hy)) ⟨y, hy, p0, q1⟩
      cases e : p x with
      | true => rw [List.filter_cons_of_pos e, List.filter_cons_of_pos (hx e), List.length_cons, List.length_cons]; omega
      | false =>
        rw [List.filter_cons_of_neg (by rw [e]; decide)]
        cases e2 : q x with
        | true => rw [List.filter_cons_of_pos e2, List.length_cons]; omega
        | false => rw [List.filter_cons_of_neg (by rw [e2]; decide)]; exact ih
/-- a place of the least rank that is left out -/
theorem least_out {n : Int} {f : List Int} (rk : Int → Nat) : ∀ (m : Nat) (p : Int), rk p ≤ m → 0 ≤ p → p < n → p ∉ f → ∃ p', (0 ≤ p' ∧ p' < n ∧ p' ∉ f) ∧ ∀ q, 0 ≤ q → q < n → rk q < rk p' → q ∈ f
  | 0, p, hm, h0, h1, h2 => ⟨p, ⟨h0, h1, h2⟩, fun q _ _ h => by omega⟩
  | m + 1, p, hm, h0, h1, h2 => by
    by_cases h : ∃ q, 0 ≤ q ∧ q < n ∧ rk q < rk p ∧ q ∉ f
    · obtain ⟨q, a, b, c, d⟩ := h
      exact least_out rk m q (by omega) a b d
    · exact ⟨p, ⟨h0, h1, h2⟩, fun q a b c => Classical.byContradiction fun d => h ⟨q, a, b, c, d⟩⟩
theorem iter_grow {n : Int} {rs : List (Int × Int)} (hb : IsBd n rs) (i : Nat) : (iterP n rs i).length = n.toNat ∨ (iterP n rs i).length < (iterP n rs (i + 1)).length := by
  by_cases h : ∃ p, 0 ≤ p ∧ p < n ∧ p ∉ iterP n rs i
  · right
    obtain ⟨p, p0, p1, p2⟩ := h
    obtain ⟨rk, hr⟩ := hb.endy
    obtain ⟨p', ⟨a, b, c⟩, d⟩ := least_out rk (rk p) p (Nat.le_refl _) p0 p1 p2
    have hin : p' ∈ iterP n rs (i + 1) := by
      rcases hr p' a b with e | ⟨q, e1, e2⟩
      · exact absurd (iter_ends (mem_ends.mpr ⟨⟨a, b⟩, fun q hq => e _ hq rfl⟩) i) c
      · have g := hb.rg _ e1
        exact mem_step.mpr ⟨⟨a, b⟩, .inr ⟨q, e1, d q g.2.2.1 g.2.2.2.1 e2⟩⟩
    obtain ⟨P1, e1⟩ := iter_filter n rs i
    obtain ⟨P2, e2⟩ := iter_filter n rs (i + 1)
    rw [e1, e2]
    refine filter_lt (fun x hx h => ?_) ⟨p', mem_places.mpr ⟨a, b⟩, ?_, ?_⟩
    · have := iter_le (i := i) (rs := rs) (n := n) (v := x) (by rw [e1]; exact List.mem_filter.mpr ⟨hx, h⟩)
      rw [e2] at this
      exact (List.mem_filter.mp this).2
    · rw [e1] at c
      cases q : P1 p' with
      | false => rfl
      | true => exact absurd (List.mem_filter.mpr ⟨mem_places.mpr ⟨a, b⟩, q⟩) c
    · rw [e2] at hin
      exact (List.mem_filter.mp hin).2
  · left
    obtain ⟨P1, e1⟩ := iter_filter n rs i
    have : iterP n rs i = places n := by
      rw [e1]
      refine List.filter_eq_self.mpr fun x hx => ?_
      have hm := mem_places.mp hx
      have : x ∈ iterP n rs i := Classical.byContradiction fun z => h ⟨x, hm.1, hm.2, z⟩
      rw [e1] at this
      exact (List.mem_filter.mp this).2
    rw [this, places_len]
theorem iter_max {n : Int} {rs : List (Int × Int)} (i : Nat) : (iterP n rs i).length ≤ n.toNat := by
  obtain ⟨P1, e1⟩ := iter_filter n rs i
  rw [e1, ← places_len n]
  exact List.length_filter_le _ _
theorem iter_all {n : Int} {rs : List (Int × Int)} (hb : IsBd n rs) : ((iterP n rs n.toNat).length : Int) = n := by
  have key : ∀ i, (iterP n rs i).length = n.toNat ∨ i ≤ (iterP n rs i).length := fun i => by
    induction i with
    | zero => exact .inr (Nat.zero_le _)
    | succ i ih =>
      rcases iter_grow hb i with h | h
      · left
        have m := iter_max (n := n) (rs := rs) (i + 1)
        rcases iter_grow hb (i + 1) with h2 | h2
        · exact h2
        · have m2 := iter_max (n := n) (rs := rs) (i + 1 + 1)
          have : (iterP n rs i).length ≤ (iterP n rs (i + 1)).length := by
            obtain ⟨P1, e1⟩ := iter_filter n rs i
            obtain ⟨P2, e2⟩ := iter_filter n rs (i + 1)
            rw [e1, e2]
            refine filter_len fun x hx h => ?_
            have := iter_le (i := i) (rs := rs) (n := n) (v := x) (by rw [e1]; exact List.mem_filter.mpr ⟨hx, h⟩)
            rw [e2] at this
            exact (List.mem_filter.mp this).2
          omega
      · right
        rcases ih with h2 | h2
        · have := iter_max (n := n) (rs := rs) (i + 1); omega
        · omega
  have := hb.n1
  rcases key n.toNat with h | h
  · rw [h]; omega
  · have m := iter_max (n := n) (rs := rs) n.toNat
    omega
end
end Cr
namespace Cr
open PySem L2
section
variable {C : CallF} {P : Nat → Option Fd} {W : Nat}
theorem idx_tup {xs : List D} {i : Nat} {v : Int} {y : D} (h : xs[i]? = some y) (e : v = (i : Int)) : idxD (.tup xs) (.int v) = some y := by
  subst e
  have hi : i < xs.length := (List.getElem?_eq_some_iff.mp h).1
  show atI xs (i : Int) = some y
  unfold atI ixN
  rw [if_pos (by omega), if_pos (by omega)]
  simpa using h
def ltAt (rs : List (Int × Int)) (i : Nat) : Bool := match rs[i]?, rs[i + 1]? with
  | some a, some b => HT.lexLt (kOf a) (kOf b)
  | _, _ => false
def risingB (rs : List (Int × Int)) : Bool := (List.range (rs.length - 1)).all (ltAt rs)
def f_rising : Fd := ⟨1, 2, (.cons (.ret (.bi .all (.cons (.lc (.cmp .Lt (.idx (.var 0) (.bin .Sub (.var 1) (.cst (.int 1)))) (.idx (.var 0) (.var 1))) (.name 1) (.rng2 (.cst (.int 1)) (.bi .len (.cons (.var 0) .nil))) .nop [1]) .nil))) .nil)⟩
theorem rising_fn {i : Nat} (hP : P i = some f_rising) (rs : List (Int × Int)) (hl : rs.length ≤ 1000) : Fn P W 1 i [.val (.tup (rs.map pD))] (.val (.bl (risingB rs))) [.val (.tup (rs.map pD))] := by
  refine Fn.mk hP fun k hk => ?_
  have src : evS (callN P W k) (.rng2 (.cst (.int 1)) (.bi .len (.cons (.var 0) .nil))) [.val (.tup (rs.map pD)), .non] = .ok ((List.range (rs.length - 1)).map fun i => D.int (1 + (i : Nat)), [.val (.tup (rs.map pD)), .non]) := by
    have q := sr_rng2 (C := callN P W k) (a := .cst (.int 1)) (b := .bi .len (.cons (.var 0) .nil)) (ρ := [.val (.tup (rs.map pD)), .non]) (m := 1) (n := rs.length) (dl_of (r := .val (.int 1)) rfl) (dl_of (r := .val (.int rs.length)) (vl_bi (bi := .len) (ds := [.tup (rs.map pD)]) (os_cons (ol_val rfl) os_nil) rfl (by show some (R.val (.int ((rs.map pD).length))) = _; rw [List.length_map]))) (rgOk_small (by omega) (by omega) (by omega) (by omega))
    rw [q]
    have e : rngD 1 (rs.length : Int) = (List.range (rs.length - 1)).map fun i => D.int (1 + (i : Nat)) := by
      unfold rngD
      rw [show ((rs.length : Int) - 1).toNat = rs.length - 1 by omega]
    rw [e]
  have lc := ev_lc0 (C := callN P W k) (t := .name 1) (e := .cmp .Lt (.idx (.var 0) (.bin .Sub (.var 1) (.cst (.int 1)))) (.idx (.var 0) (.var 1))) (own := [1]) (ρ := [.val (.tup (rs.map pD)), .non]) (ρ' := [.val (.tup (rs.map pD)), .non]) (ρw := [.val (.tup (rs.map pD)), .non]) (fun i : Nat => D.int (1 + (i : Int))) (fun i => .bl (ltAt rs i)) (List.range (rs.length - 1)) src rfl (by rw [sizeLine_eq, List.length_range]; omega) fun i hi => by
    have hi := List.mem_range.mp hi
    obtain ⟨x, hx⟩ : ∃ x, rs[i]? = some x := ⟨rs[i], List.getElem?_eq_getElem (by omega)⟩
    obtain ⟨y, hy⟩ : ∃ y, rs[i + 1]? = some y := ⟨rs[i + 1], List.getElem?_eq_getElem (by omega)⟩
    have e : ltAt rs i = HT.lexLt (kOf x) (kOf y) := by unfold ltAt; rw [hx, hy]
    rw [e]
    have hxD : (rs.map pD)[i]? = some (pD x) := by rw [List.getElem?_map, hx]; rfl
    have hyD : (rs.map pD)[i + 1]? = some (pD y) := by rw [List.getElem?_map, hy]; rfl
    exact ⟨[.val (.tup (rs.map pD)), .val (.int (1 + (i : Int)))], rfl, rfl, dl_of (r := .val (.bl (HT.lexLt (kOf x) (kOf y)))) (vl_cmp (x := pD x) (y := pD y)
      (ol_of (r := .val (pD x)) rfl (vl_idx (x := .tup (rs.map pD)) (y := .int (1 + (i : Int) - 1)) (ol_val rfl) (ol_of (r := .val (.int (1 + (i : Int) - 1))) rfl (vl_bin (x := .int (1 + (i : Int))) (y := .int 1) (ol_val rfl) (ol_of rfl rfl) rfl rfl rfl)) rfl rfl (idx_tup hxD (by omega))))
      (ol_of (r := .val (pD y)) rfl (vl_idx (x := .tup (rs.map pD)) (y := .int (1 + (i : Int))) (ol_val rfl) (ol_val rfl) rfl rfl (idx_tup hyD (by omega)))) rfl rfl rfl)⟩
  exact run_rt ⟨rfl, by show 1 ≤ 2; decide⟩ (ss_rt (sl_ret rfl (vl_bi (bi := .all) (os_cons (ol_of rfl lc) os_nil) rfl (all_map (List.range (rs.length - 1)) (ltAt rs))))) rfl
theorem rising_of {rs : List (Int × Int)} (h : rs.Pairwise ltP) : risingB rs = true := by
  unfold risingB
  refine List.all_eq_true.mpr fun i hi => ?_
  have hi := List.mem_range.mp hi
  unfold ltAt
  rw [List.getElem?_eq_getElem (by omega : i < rs.length), List.getElem?_eq_getElem (by omega : i + 1 < rs.length)]
  exact lexLt2.mpr (List.pairwise_iff_getElem.mp h i (i + 1) (by omega) (by omega) (by omega))
def roadB (n : Int) (r : Int × Int) : Bool := ((decide (0 ≤ r.1) && decide (r.1 ≤ n - 1)) && (decide (0 ≤ r.2) && decide (r.2 ≤ n - 1))) && !decide (r.1 = r.2)
def f_road (it ii : Nat) : Fd := ⟨2, 2, (.cons (.ret (.and (.call it (.cons (.var 1) (.cons (.cst (.int 2)) .nil))) (.and (.call ii (.cons (.var 0) (.cons (.var 1) .nil))) (.cmp .NotEq (.idx (.var 1) (.cst (.int 0))) (.idx (.var 1) (.cst (.int 1))))))) .nil)⟩
def f_roads (ir ig : Nat) : Fd := ⟨2, 3, (.cons (.ret (.and (.bi (.isi "tuple") (.cons (.var 1) .nil)) (.and (.bi .all (.cons (.lc (.call ir (.cons (.var 0) (.cons (.var 2) .nil))) (.name 2) (.seq (.var 1)) .nop [2]) .nil)) (.call ig (.cons (.var 1) .nil))))) .nil)⟩
theorem roads_of {n : Int} {rs : List (Int × Int)} (h : IsBd n rs) : (rs.all (roadB n) && risingB rs) = true := by
  rw [rising_of h.srt, Bool.and_true]
  refine List.all_eq_true.mpr fun r hr => ?_
  have g := h.rg r hr
  unfold roadB
  simp only [Bool.and_eq_true, decide_eq_true_eq, Bool.not_eq_true', decide_eq_false_iff_not]
  refine ⟨⟨⟨g.1, ?_⟩, g.2.2.1, ?_⟩, g.2.2.2.2⟩ <;> omega
def f_isBoard (it ib ir ie : Nat) : Fd := ⟨1, 1, (.cons (.ife (.or (.not (.call it (.cons (.var 0) (.cons (.cst (.int 2)) .nil)))) (.not (.call ib (.cons (.idx (.var 0) (.glo "PLACES" (.int 0))) (.cons (.cst (.int 1)) (.cons (.glo "MOST_PLACES" (.int 8)) .nil)))))) (.cons (.ret (.cst (.bl false))) .nil) .nil) (.cons (.ret (.and (.call ir (.cons (.idx (.var 0) (.glo "PLACES" (.int 0))) (.cons (.idx (.var 0) (.glo "ROADS" (.int 1))) .nil))) (.call ie (.cons (.var 0) .nil)))) .nil))⟩
def f_check (ib : Nat) : Fd := ⟨1, 1, (.cons (.ife (.not (.call ib (.cons (.var 0) .nil))) (.cons (.exp .bad) .nil) .nil) .nil)⟩
end
end Cr
namespace Cr
open PySem L2
section
variable {C : CallF} {P : Nat → Option Fd} {W : Nat}
def f_after (ic ig : Nat) : Fd := ⟨1, 1, (.cons (.exp (.call ic (.cons (.var 0) .nil))) (.cons (.ret (.call ig (.cons (.var 0) .nil))) .nil))⟩
def f_checkPlace (ib ip : Nat) : Fd := ⟨2, 2, (.cons (.ife (.not (.call ib (.cons (.var 1) (.cons (.cst (.int 0)) (.cons (.bin .Sub (.bi .len (.cons (.call ip (.cons (.var 0) .nil)) .nil)) (.cst (.int 1))) .nil))))) (.cons (.exp .bad) .nil) .nil) .nil)⟩
def f_checkBP (ic ip : Nat) : Fd := ⟨2, 2, (.cons (.exp (.call ic (.cons (.var 0) .nil))) (.cons (.exp (.call ip (.cons (.var 0) (.cons (.var 1) .nil)))) .nil))⟩
def f_after2 (ic ig : Nat) : Fd := ⟨2, 2, (.cons (.exp (.call ic (.cons (.var 0) (.cons (.var 1) .nil)))) (.cons (.ret (.call ig (.cons (.var 0) (.cons (.var 1) .nil)))) .nil))⟩
theorem in_tup (v : Int) (xs : List Int) : cmpD .In (.int v) (.tup (xs.map .int)) = some (decide (v ∈ xs)) := in_ints v xs
theorem purs_pD : ∀ rs : List (Int × Int), D.purs (rs.map pD) = true
  | [] => rfl
  | r :: rs => by
    show ((true && (true && true)) && D.purs (rs.map pD)) = true
    rw [purs_pD rs]; rfl
theorem depth_pD : ∀ rs : List (Int × Int), PyData.depthAll (D.pys (rs.map pD)) ≤ 1
  | [] => by decide
  | r :: rs => by
    show max 1 (PyData.depthAll (D.pys (rs.map pD))) ≤ 1
    have := depth_pD rs
    omega
theorem pD_inj {a b : Int × Int} (h : pD a = pD b) : a = b := by
  obtain ⟨x, y⟩ := a
  obtain ⟨u, w⟩ := b
  unfold pD at h
  injection h with h
  injection h with h1 h
  injection h with h2 _
  injection h1 with h1
  injection h2 with h2
  subst h1; subst h2; rfl
theorem in_pD (r : Int × Int) (rs : List (Int × Int)) : inR (pD r) (rs.map pD) = some (decide (r ∈ rs)) := by
  unfold inR
  rw [if_pos (by
    have d := depth_pD rs
    rw [purs_plain _ (purs_pD rs), pur_plain (pD r) rfl, decide_eq_true (by omega : min (PyData.depthAll (D.pys (rs.map pD))) (pD r).py.depth ≤ 60)]; rfl)]
  congr 1
  induction rs with
  | nil => rfl
  | cons x xs ih =>
    show (PyData.eqv (pD x).py (pD r).py || (D.pys (xs.map pD)).any fun y => PyData.eqv y (pD r).py) = _
    rw [ih]
    have e : PyData.eqv (pD x).py (pD r).py = decide (r = x) := by
      have q := eqv_pur (pD x) (pD r) rfl rfl
      by_cases h : r = x
      · rw [decide_eq_true h]
        exact q.mpr (by rw [h])
      · rw [decide_eq_false h]
        cases z : PyData.eqv (pD x).py (pD r).py with
        | false => rfl
        | true => exact absurd (pD_inj (q.mp z)).symm h
    rw [e]
    by_cases h : r = x <;> simp [h]
theorem notin_pD (r : Int × Int) (rs : List (Int × Int)) : cmpD .NotIn (pD r) (.tup (rs.map pD)) = some (!decide (r ∈ rs)) := by
  show (inR (pD r) (rs.map pD)).map (!·) = _
  rw [in_pD]; rfl
theorem inT_pD (r : Int × Int) (rs : List (Int × Int)) : cmpD .In (pD r) (.tup (rs.map pD)) = some (decide (r ∈ rs)) := in_pD r rs
def oneWay (n : Int) (rs : List (Int × Int)) : List (Int × Int) := rs.filter fun r => decide (r.2 ∈ innerP n rs) && !decide ((r.2, r.1) ∈ rs)
def f_oneWay (ii : Nat) : Fd := ⟨1, 3, (.cons (.set 1 false (.call ii (.cons (.var 0) .nil))) (.cons (.ret (.slc (.lc (.var 2) (.name 2) (.seq (.idx (.var 0) (.glo "ROADS" (.int 1)))) (.and (.cmp .In (.idx (.var 2) (.cst (.int 1))) (.var 1)) (.cmp .NotIn (.tup (.cons (.idx (.var 2) (.cst (.int 1))) (.cons (.idx (.var 2) (.cst (.int 0))) .nil))) (.idx (.var 0) (.glo "ROADS" (.int 1))))) [2]) .nop (.cst (.int 1)))) .nil))⟩
theorem cut1 (xs : List D) : cutL xs none (some 1) = xs.take 1 := by
  have e1 : HT.sIx xs.length 0 none = 0 := rfl
  have e2 : HT.sIx xs.length xs.length (some 1) = min 1 xs.length := rfl
  unfold cutL
  rw [e1, e2]
  cases xs with
  | nil => rfl
  | cons x xs =>
    have : min 1 (x :: xs).length = 1 := by rw [List.length_cons]; omega
    rw [this]; rfl
end
end Cr
namespace Cr
open PySem L2
section
variable {C : CallF} {P : Nat → Option Fd} {W : Nat}
def f_lnext : Fd := ⟨2, 4, (.cons (.ret (.lc (.var 3) (.tup [(.name 2), (.name 3)]) (.seq (.idx (.var 0) (.cst (.int 1)))) (.cmp .Eq (.var 2) (.var 1)) [2, 3])) .nil)⟩
theorem eq_lst_nil (xs : List Int) : cmpD .Eq (.lst (xs.map .int)) (.lst []) = some (decide (xs = [])) := by
  obtain ⟨k, e, h⟩ := eqR_pur (a := .lst (xs.map .int)) (b := .lst []) (purs_ints xs) rfl (by show min (PyData.depthAll (D.pys (xs.map .int)) + 1) (0 + 1) ≤ 64; rw [depth_ints]; decide)
  show eqR _ _ = _
  rw [e]
  congr 1
  by_cases hx : xs = []
  · rw [decide_eq_true hx]
    exact h.mpr (by rw [hx]; rfl)
  · rw [decide_eq_false hx]
    cases k with
    | false => rfl
    | true =>
      have := h.mp rfl
      injection this with this
      exact absurd (List.map_eq_nil_iff.mp this) hx
def f_lends (inx : Nat) : Fd := ⟨1, 2, (.cons (.ret (.bi .tuple (.cons (.lc (.var 1) (.name 1) (.rng1 (.idx (.var 0) (.cst (.int 0)))) (.cmp .Eq (.call inx (.cons (.var 0) (.cons (.var 1) .nil))) (.lst .nil)) [1]) .nil))) .nil)⟩
def f_isNumber : Fd := ⟨3, 3, (.cons (.ret (.and (.bi (.isi "int") (.cons (.var 0) .nil)) (.and (.not (.bi (.isi "bool") (.cons (.var 0) .nil))) (.chn .LtE .LtE (.var 1) (.var 0) (.var 2))))) .nil)⟩
end
end Cr
namespace Cr
open PySem L2
local macro_rules | `(tactic| wp_step) => `(tactic| first
  | exact os_nil | exact ds_nil | exact as_nil | exact ss_nl
  | exact ol_val rfl | exact ol_own rfl | exact rs_val rfl | exact rs_own rfl
  | refine' ol_of rfl ?_ | refine' dl_of ?_ | refine' os_cons ?_ ?_ | refine' ds_cons ?_ ?_ | refine' as_ref rfl ?_ | refine' as_val rfl ?_ ?_
  | exact vl_val rfl | exact vl_own rfl | refine' vl_bin ?_ ?_ ?_ ?_ ?_ | refine' vl_cmp ?_ ?_ ?_ ?_ ?_ | refine' vl_idx ?_ ?_ ?_ ?_ ?_ | refine' vl_not ?_ ?_ ?_ | refine' vl_bi ?_ ?_ ?_ | refine' vl_tup ?_ ?_ | refine' vl_lst ?_ ?_
  | refine' ss_rt (sl_retv rfl) | refine' ss_rt (sl_ret rfl ?_) | refine' ss_nx (sl_set ?_ ?_) ?_ | refine' ss_nx (sl_exp ?_) ?_ | refine' ss_nx (sl_asg ?_ ?_) ?_
  | exact bd_mulR (by assumption) | exact bd_mulL (by assumption) | exact bd_mod (by assumption) | exact Nat.zero_le _ | exact rfl)
section
variable {C : CallF} {P : Nat → Option Fd} {W : Nat}
def f_pool (p1 p2 p3 p4 p5 p6 p7 p8 p9 : Int) : Fd := ⟨2, 5, (.cons (.set 2 false (.ife (.cmp .Lt (.var 1) (.bi .len (.cons (.var 0) .nil))) (.bi .int (.cons (.idx (.var 0) (.var 1)) .nil)) (.bin .Add (.bin .Mult (.cst (.int p1)) (.var 1)) (.cst (.int p2))))) (.cons (.set 3 false (.bin .Add (.cst (.int p3)) (.bin .Mult (.cst (.int p4)) (.var 1)))) (.cons (.for (.name 4) (.seq (.slc (.var 0) .nop (.cst (.int 12)))) (.cons (.set 3 false (.bin .Mod (.bi .int (.cons (.bin .Add (.bin .Add (.bin .Mult (.var 3) (.cst (.int p5))) (.bin .Mod (.bi .int (.cons (.var 4) .nil)) (.cst (.int 2147483587)))) (.cst (.int p6))) .nil)) (.cst (.int 2147483647)))) .nil)) (.cons (.set 3 false (.bin .Mod (.bi .int (.cons (.bin .Add (.bin .Add (.bin .Mult (.var 3) (.cst (.int p7))) (.bin .Mult (.bin .Mod (.bi .int (.cons (.var 2) .nil)) (.cst (.int 2147483587))) (.cst (.int p8)))) (.cst (.int p9))) .nil)) (.cst (.int 2147483647)))) (.cons (.ret (.lst (.cons (.ife (.or (.cmp .Lt (.var 2) (.cst (.int 0))) (.cmp .GtE (.var 2) (.bin .Pow (.cst (.int 10)) (.cst (.int 15))))) (.bin .Mod (.bi .int (.cons (.bi .abs (.cons (.var 2) .nil)) .nil)) (.bin .Pow (.cst (.int 10)) (.cst (.int 60)))) (.cst (.int 0))) (.cons (.var 3) (.cons (.cst (.int 0)) .nil))))) .nil)))))⟩
end
end Cr
namespace Cr
open PySem L2
section
variable {C : CallF} {P : Nat → Option Fd} {W : Nat}
mutual
def D.sm : D → Bool
  | .int _ => true | .bl _ => true
  | .tup xs => decide (xs.length ≤ 1000) && D.sms xs
  | .lst xs => decide (xs.length ≤ 1000) && D.sms xs
  | _ => false
def D.sms : List D → Bool
  | [] => true
  | x :: xs => x.sm && D.sms xs
end
mutual
def D.dp : D → Nat
  | .tup xs => D.dps xs + 1
  | .lst xs => D.dps xs + 1
  | _ => 0
def D.dps : List D → Nat
  | [] => 0
  | x :: xs => max x.dp (D.dps xs)
end
def f_same (i : Nat) : Fd := ⟨2, 5, (.cons (.ife (.cmp .Is (.var 1) (.cst .non)) (.cons (.ret (.cmp .Is (.var 0) (.cst .non))) .nil) .nil) (.cons (.ife (.bi (.isi "bool") (.cons (.var 1) .nil)) (.cons (.ret (.and (.bi (.isi "bool") (.cons (.var 0) .nil)) (.cmp .Eq (.var 0) (.var 1)))) .nil) .nil) (.cons (.ife (.bi (.isi "int") (.cons (.var 1) .nil)) (.cons (.ret (.and (.bi (.isi "int") (.cons (.var 0) .nil)) (.and (.not (.bi (.isi "bool") (.cons (.var 0) .nil))) (.cmp .Eq (.var 0) (.var 1))))) .nil) .nil) (.cons (.ife (.bi (.isi "str") (.cons (.var 1) .nil)) (.cons (.ret (.and (.bi (.isi "str") (.cons (.var 0) .nil)) (.cmp .Eq (.var 0) (.var 1)))) .nil) .nil) (.cons (.ife (.bi (.isi "dict") (.cons (.var 1) .nil)) (.cons (.ife (.or (.not (.bi (.isi "dict") (.cons (.var 0) .nil))) (.cmp .NotEq (.bi .len (.cons (.var 0) .nil)) (.bi .len (.cons (.var 1) .nil)))) (.cons (.ret (.cst (.bl false))) .nil) .nil) (.cons (.ret (.bi .all (.cons (.lc (.and (.cmp .In (.var 2) (.var 0)) (.call i (.cons (.idx (.var 0) (.var 2)) (.cons (.idx (.var 1) (.var 2)) .nil)))) (.name 2) (.seq (.var 1)) .nop [2]) .nil))) .nil)) .nil) (.cons (.ife (.or (.cmp .NotEq (.bi (.isi "tuple") (.cons (.var 1) .nil)) (.bi (.isi "tuple") (.cons (.var 0) .nil))) (.cmp .NotEq (.bi (.isi "list") (.cons (.var 1) .nil)) (.bi (.isi "list") (.cons (.var 0) .nil)))) (.cons (.ret (.cst (.bl false))) .nil) .nil) (.cons (.ret (.and (.cmp .Eq (.bi .len (.cons (.var 0) .nil)) (.bi .len (.cons (.var 1) .nil))) (.bi .all (.cons (.lc (.call i (.cons (.var 3) (.cons (.var 4) .nil))) (.tup [(.name 3), (.name 4)]) (.zip (.var 0) (.var 1)) .nop [3, 4]) .nil)))) .nil)))))))⟩
theorem vl_isi {ρ : Env} {t : String} {j : Nat} {d : D} {k : Bool} (h : ρ[j]? = some (.val d)) (q : isiD t [d] = some (.val (.bl k))) : Vl C ρ (.bi (.isi t) (.cons (.var j) .nil)) (.val (.bl k)) ρ :=
  vl_bi (bi := .isi t) (ds := [d]) (os_cons (ol_val h) os_nil) (by
    show (match resO ρ (.slot j), resOs ρ [] with
      | some d, some ds => some (d :: ds)
      | _, _ => none) = _
    rw [rs_val h]; rfl) q
theorem tl_bl {ρ ρ1 : Env} {e : E} {k : Bool} (hv : isV e = false) (h : Vl C ρ e (.val (.bl k)) ρ1) : Tl C ρ e k ρ1 := tl_of (d := .bl k) (ol_of (r := .val (.bl k)) hv h) rfl rfl
theorem all_bls {α : Type} (p : α → Bool) : ∀ xs : List α, D.bls (xs.map fun x => D.bl (p x)) = some (xs.map p)
  | [] => rfl
  | x :: xs => by
    show (D.bls (xs.map fun x => D.bl (p x))).map (p x :: ·) = _
    rw [all_bls p xs]; rfl
theorem allD_map {α : Type} (p : α → Bool) (xs : List α) : allD [.lst (xs.map fun x => D.bl (p x))] = some (.val (.bl (xs.all p))) := by
  show (D.bls (xs.map fun x => D.bl (p x))).map (fun bs => R.val (.bl (bs.all id))) = _
  rw [all_bls, Option.map_some, List.all_map]
  rfl
theorem zipD_self : ∀ xs : List D, zipD xs xs = xs.map fun x => .tup [x, x]
  | [] => rfl
  | x :: xs => by
    show D.tup [x, x] :: zipD xs xs = _
    rw [zipD_self xs]; rfl
theorem same_seq {i : Nat} (hP : P i = some (f_same i)) {d : D} {xs : List D} (hd : d = .tup xs ∨ d = .lst xs) (hl : xs.length ≤ 1000) {m : Nat} (h : ∀ x ∈ xs, Fn P W m i [.val x, .val x] (.val (.bl true)) [.val x, .val x]) :
    Fn P W (m + 1) i [.val d, .val d] (.val (.bl true)) [.val d, .val d] := by
  refine Fn.mk hP fun k hk => ?_
  have ln : Vl (callN P W k) [.val d, .val d, .non, .non, .non] (.cmp .Eq (.bi .len (.cons (.var 0) .nil)) (.bi .len (.cons (.var 1) .nil))) (.val (.bl true)) [.val d, .val d, .non, .non, .non] := by
    have l : lenD [d] = some (.val (.int xs.length)) := by rcases hd with rfl | rfl <;> rfl
    refine vl_cmp (x := .int xs.length) (y := .int xs.length) (ol_of (r := .val (.int xs.length)) rfl (vl_bi (bi := .len) (ds := [d]) (os_cons (ol_val rfl) os_nil) rfl l)) (ol_of (r := .val (.int xs.length)) rfl (vl_bi (bi := .len) (ds := [d]) (os_cons (ol_val rfl) os_nil) rfl l)) rfl rfl ?_
    rw [eq_int, decide_eq_true rfl]
  have src : evS (callN P W k) (.zip (.var 0) (.var 1)) [.val d, .val d, .non, .non, .non] = .ok (xs.map fun x => .tup [x, x], [.val d, .val d, .non, .non, .non]) := by
    rw [← zipD_self]
    rcases hd with rfl | rfl <;> rfl
  have lc : Vl (callN P W k) [.val d, .val d, .non, .non, .non] (.lc (.call i (.cons (.var 3) (.cons (.var 4) .nil))) (.tup [(.name 3), (.name 4)]) (.zip (.var 0) (.var 1)) .nop [3, 4]) (.fresh (xs.map fun _ => .bl true)) [.val d, .val d, .non, .non, .non] :=
    ev_lc0 (C := callN P W k) (ρ' := [.val d, .val d, .non, .non, .non]) (ρw := [.val d, .val d, .non, .non, .non]) (fun x => D.tup [x, x]) (fun _ => D.bl true) xs src rfl (by rw [sizeLine_eq]; omega)
      fun x hx => ⟨[.val d, .val d, .non, .val x, .val x], rfl, rfl, dl_of (r := .val (.bl true)) (vl_callV (ds := [x, x]) (as_val rfl (dl_of (r := .val x) (vl_val rfl)) (as_val rfl (dl_of (r := .val x) (vl_val rfl)) as_nil)) (h x hx k hk))⟩
  have isf : ∀ t, isiD t [d] = some (.val (.bl false)) → Tl (callN P W k) [.val d, .val d, .non, .non, .non] (.bi (.isi t) (.cons (.var 1) .nil)) false [.val d, .val d, .non, .non, .non] := fun t ht => tl_bl rfl (vl_isi rfl ht)
  have ne : ∀ (t : String) (b : Bool), isiD t [d] = some (.val (.bl b)) → Vl (callN P W k) [.val d, .val d, .non, .non, .non] (.cmp .NotEq (.bi (.isi t) (.cons (.var 1) .nil)) (.bi (.isi t) (.cons (.var 0) .nil))) (.val (.bl false)) [.val d, .val d, .non, .non, .non] := fun t b hb =>
    vl_cmp (x := .bl b) (y := .bl b) (ol_of (r := .val (.bl b)) rfl (vl_isi rfl hb)) (ol_of (r := .val (.bl b)) rfl (vl_isi rfl hb)) rfl rfl (by cases b <;> rfl)
  refine run_rt (ρ1 := [.val d, .val d, .non, .non, .non]) ⟨rfl, by show 2 ≤ 5; decide⟩ (ss_nx (sl_ife (k := false) (tl_bl rfl (vl_cmp (x := d) (y := .non) (ol_val rfl) (ol_of (r := .val .non) rfl rfl) rfl rfl (by rcases hd with rfl | rfl <;> rfl))) ss_nl) (ss_nx (sl_ife (k := false) (isf _ (by rcases hd with rfl | rfl <;> rfl)) ss_nl) (ss_nx (sl_ife (k := false) (isf _ (by rcases hd with rfl | rfl <;> rfl)) ss_nl) (ss_nx (sl_ife (k := false) (isf _ (by rcases hd with rfl | rfl <;> rfl)) ss_nl) (ss_nx (sl_ife (k := false) (isf _ (by rcases hd with rfl | rfl <;> rfl)) ss_nl)
    (ss_nx (sl_ife (k := false) ?_ ss_nl) (ss_rt (sl_ret rfl (vl_andT (x := .bl true) (dl_of (r := .val (.bl true)) ln) rfl (vl_bi (bi := .all) (ds := [.lst (xs.map fun _ => .bl true)]) (os_cons (ol_of (r := .fresh (xs.map fun _ => .bl true)) rfl lc) os_nil) rfl ?_))))))))))  rfl
  · rcases hd with rfl | rfl
    · exact tl_bl rfl (vl_orF (x := .bl false) (dl_of (r := .val (.bl false)) (ne "tuple" true rfl)) rfl (ne "list" false rfl))
    · exact tl_bl rfl (vl_orF (x := .bl false) (dl_of (r := .val (.bl false)) (ne "tuple" false rfl)) rfl (ne "list" true rfl))
  · have q := allD_map (fun _ : D => true) xs
    rw [(List.all_eq_true.mpr fun _ _ => rfl : (xs.all fun _ => true) = true)] at q
    exact q
theorem same_int {i : Nat} (hP : P i = some (f_same i)) (n : Int) : Fn P W 1 i [.val (.int n), .val (.int n)] (.val (.bl true)) [.val (.int n), .val (.int n)] := by
  refine Fn.mk hP fun k hk => ?_
  refine run_rt (ρ1 := [.val (.int n), .val (.int n), .non, .non, .non]) ⟨rfl, by show 2 ≤ 5; decide⟩ (ss_nx (sl_ife (k := false) (tl_bl rfl (vl_cmp (x := .int n) (y := .non) (ol_val rfl) (ol_of (r := .val .non) rfl rfl) rfl rfl rfl)) ss_nl) (ss_nx (sl_ife (k := false) (tl_bl rfl (vl_isi rfl rfl)) ss_nl) (ss_rt (sl_ife (k := true) (tl_bl rfl (vl_isi rfl rfl)) (ss_rt (sl_ret rfl (vl_andT (x := .bl true) (dl_of (r := .val (.bl true)) (vl_isi rfl rfl)) rfl (vl_andT (x := .bl true) (dl_of (r := .val (.bl true)) (vl_not (k := false) (x := .bl false) (ol_of (r := .val (.bl false)) rfl (vl_isi rfl rfl)) rfl rfl)) rfl (vl_cmp (x := .int n) (y := .int n) (ol_val rfl) (ol_val rfl) rfl rfl ?_))))))))) rfl
  rw [eq_int, decide_eq_true rfl]
theorem same_bl {i : Nat} (hP : P i = some (f_same i)) (b : Bool) : Fn P W 1 i [.val (.bl b), .val (.bl b)] (.val (.bl true)) [.val (.bl b), .val (.bl b)] := by
  refine Fn.mk hP fun k hk => ?_
  refine run_rt (ρ1 := [.val (.bl b), .val (.bl b), .non, .non, .non]) ⟨rfl, by show 2 ≤ 5; decide⟩ (ss_nx (sl_ife (k := false) (tl_bl rfl (vl_cmp (x := .bl b) (y := .non) (ol_val rfl) (ol_of (r := .val .non) rfl rfl) rfl rfl rfl)) ss_nl) (ss_rt (sl_ife (k := true) (tl_bl rfl (vl_isi rfl rfl)) (ss_rt (sl_ret rfl (vl_andT (x := .bl true) (dl_of (r := .val (.bl true)) (vl_isi rfl rfl)) rfl (vl_cmp (x := .bl b) (y := .bl b) (ol_val rfl) (ol_val rfl) rfl rfl ?_))))))) rfl
  cases b <;> rfl
mutual
theorem same_fn {i : Nat} (hP : P i = some (f_same i)) : ∀ d : D, d.sm = true → Fn P W (d.dp + 1) i [.val d, .val d] (.val (.bl true)) [.val d, .val d]
  | .int n, _ => same_int hP n
  | .bl b, _ => same_bl hP b
  | .tup xs, h => by
    have h : (decide (xs.length ≤ 1000) && D.sms xs) = true := h
    rw [Bool.and_eq_true, decide_eq_true_eq] at h
    exact same_seq hP (.inl rfl) h.1 (m := D.dps xs + 1) (same_fns hP xs h.2)
  | .lst xs, h => by
    have h : (decide (xs.length ≤ 1000) && D.sms xs) = true := h
    rw [Bool.and_eq_true, decide_eq_true_eq] at h
    exact same_seq hP (.inr rfl) h.1 (m := D.dps xs + 1) (same_fns hP xs h.2)
  | .non, h => by cases h
  | .str _, h => by cases h
  | .rol _, h => by cases h
  | .dct _, h => by cases h
  | .fn _, h => by cases h
theorem same_fns {i : Nat} (hP : P i = some (f_same i)) : ∀ xs : List D, D.sms xs = true → ∀ x ∈ xs, Fn P W (D.dps xs + 1) i [.val x, .val x] (.val (.bl true)) [.val x, .val x]
  | [], _, x, hx => by cases hx
  | y :: ys, h, x, hx => by
    have h : (y.sm && D.sms ys) = true := h
    rw [Bool.and_eq_true] at h
    have e : D.dps (y :: ys) = max y.dp (D.dps ys) := rfl
    rcases List.mem_cons.mp hx with q | q
    · rw [q]
      exact (same_fn hP y h.1).up (by omega)
    · exact (same_fns hP ys h.2 x q).up (by omega)
end
end
end Cr
namespace Cr
open PySem L2
def moreP (rs : List (Int × Int)) (f : List Int) : List Int := f ++ ((rs.filter fun r => decide (r.2 ∈ f) && !decide (r.1 ∈ f)).map (·.1)).take 1
def foundP (n : Int) (rs : List (Int × Int)) : Nat → List Int
  | 0 => endsP n rs
  | i + 1 => moreP rs (foundP n rs i)
structure FoundOk (n : Int) (rs : List (Int × Int)) (f : List Int) (i : Nat) : Prop where
  nd : f.Nodup
  mem : ∀ p ∈ f, 0 ≤ p ∧ p < n
  rk : ∃ rk : Int → Nat, (∀ p ∈ f, rk p ≤ i) ∧ ∀ p ∈ f, (∀ r ∈ rs, r.1 ≠ p) ∨ ∃ q, (p, q) ∈ rs ∧ q ∈ f ∧ rk q < rk p
theorem places_nodup (n : Int) : (places n).Nodup := by
  unfold places
  refine List.pairwise_map.mpr (List.Pairwise.imp (fun {a b} h => ?_) List.nodup_range)
  exact fun e => h (by omega)
end Cr
namespace Cr
open PySem L2
section
variable {C : CallF} {P : Nat → Option Fd} {W : Nat}
theorem eq_self {d : D} (h : d.pur = true) (hd : d.py.depth ≤ 64) : eqR d d = some true := by
  obtain ⟨k, e, q⟩ := eqR_pur h h (by omega)
  rw [e, q.mpr rfl]
def f_lboard (iN iE : Nat) : Fd := ⟨1, 7, (.cons (.ife (.or (.not (.bi (.isi "tuple") (.cons (.var 0) .nil))) (.or (.cmp .NotEq (.bi .len (.cons (.var 0) .nil)) (.cst (.int 2))) (.or (.not (.call iN (.cons (.idx (.var 0) (.cst (.int 0))) (.cons (.cst (.int 1)) (.cons (.cst (.int 8)) .nil))))) (.not (.bi (.isi "tuple") (.cons (.idx (.var 0) (.cst (.int 1))) .nil)))))) (.cons (.ret (.cst (.bl false))) .nil) .nil) (.cons (.for (.name 1) (.seq (.idx (.var 0) (.cst (.int 1)))) (.cons (.ife (.or (.not (.bi (.isi "tuple") (.cons (.var 1) .nil))) (.or (.cmp .NotEq (.bi .len (.cons (.var 1) .nil)) (.cst (.int 2))) (.or (.not (.bi .all (.cons (.lc (.call iN (.cons (.var 6) (.cons (.cst (.int 0)) (.cons (.bin .Sub (.idx (.var 0) (.cst (.int 0))) (.cst (.int 1))) .nil)))) (.name 6) (.seq (.var 1)) .nop [6]) .nil))) (.cmp .Eq (.idx (.var 1) (.cst (.int 0))) (.idx (.var 1) (.cst (.int 1))))))) (.cons (.ret (.cst (.bl false))) .nil) .nil) .nil)) (.cons (.ife (.cmp .NotEq (.bi .list (.cons (.idx (.var 0) (.cst (.int 1))) .nil)) (.bi .sortedSet (.cons (.idx (.var 0) (.cst (.int 1))) .nil))) (.cons (.ret (.cst (.bl false))) .nil) .nil) (.cons (.set 2 false (.bi .list (.cons (.call iE (.cons (.var 0) .nil)) .nil))) (.cons (.for (.name 3) (.rng1 (.idx (.var 0) (.cst (.int 0)))) (.cons (.set 2 false (.bin .Add (.var 2) (.slc (.lc (.var 4) (.tup [(.name 4), (.name 5)]) (.seq (.idx (.var 0) (.cst (.int 1)))) (.and (.cmp .In (.var 5) (.var 2)) (.cmp .NotIn (.var 4) (.var 2))) [4, 5]) .nop (.cst (.int 1))))) .nil)) (.cons (.ret (.cmp .Eq (.bi .len (.cons (.var 2) .nil)) (.idx (.var 0) (.cst (.int 0))))) .nil))))))⟩
end
end Cr
namespace Cr
open PySem L2
section
variable {C : CallF} {P : Nat → Option Fd} {W : Nat}
def twoB (n : Int) (rs : List (Int × Int)) : Bool := rs.all fun r => decide (r.2 ∈ endsP n rs) || decide ((r.2, r.1) ∈ rs)
def f_ltwo (iE : Nat) : Fd := ⟨1, 4, (.cons (.set 1 false (.call iE (.cons (.var 0) .nil))) (.cons (.ret (.bi .all (.cons (.lc (.or (.cmp .In (.var 3) (.var 1)) (.cmp .In (.tup (.cons (.var 3) (.cons (.var 2) .nil))) (.idx (.var 0) (.cst (.int 1))))) (.tup [(.name 2), (.name 3)]) (.seq (.idx (.var 0) (.cst (.int 1)))) .nop [2, 3]) .nil))) .nil))⟩
def f_twoBy (iO : Nat) : Fd := ⟨1, 1, (.cons (.ret (.cmp .Eq (.call iO (.cons (.var 0) .nil)) (.lst .nil))) .nil)⟩
end
end Cr
namespace Cr
open PySem L2
abbrev XQ := Nat → Option D → Env → Prop
def NoX : XQ := fun _ _ _ => False
def Rk {α : Type} (x : Res (α × Env) Env) (Q : α → Env → Prop) (X : XQ) : Prop := match x with
  | .ok a => Q a.1 a.2
  | .exc c d ρ => X c d ρ
  | .stuck => False
theorem Rk.bd {α β : Type} {x : Res (α × Env) Env} {k : α × Env → Res (β × Env) Env} {Q : β → Env → Prop} {X : XQ} (h : Rk x (fun a ρ => Rk (k (a, ρ)) Q X) X) : Rk (x.bd k) Q X := by
  cases x with
  | ok a => exact h
  | exc c d ρ => exact h
  | stuck => exact h
theorem Rk.of {α : Type} {x : Res (α × Env) Env} {a : α} {ρ : Env} {Q : α → Env → Prop} {X : XQ} (e : x = .ok (a, ρ)) (q : Q a ρ) : Rk x Q X := by
  subst e; exact q
theorem Rk.eq {α : Type} {x : Res (α × Env) Env} {a : α} {ρ : Env} (h : Rk x (fun b ρ' => b = a ∧ ρ' = ρ) NoX) : x = .ok (a, ρ) := by
  cases x with
  | ok b => obtain ⟨h1, h2⟩ := h; rcases b with ⟨b1, b2⟩; simp only at h1 h2; rw [h1, h2]
  | exc c d ρ => exact h.elim
  | stuck => exact h.elim
theorem Rk.mono {α : Type} {x : Res (α × Env) Env} {Q Q' : α → Env → Prop} {X X' : XQ} (h : Rk x Q X) (q : ∀ a ρ, Q a ρ → Q' a ρ) (qx : ∀ c d ρ, X c d ρ → X' c d ρ) : Rk x Q' X' := by
  cases x with
  | ok b => exact q _ _ h
  | exc c d ρ => exact qx _ _ _ h
  | stuck => exact h
@[irreducible] def WE (C : CallF) (ρ : Env) (e : E) (Q : R → Env → Prop) (X : XQ) : Prop := Rk (ev C e ρ) Q X
@[irreducible] def WO (C : CallF) (ρ : Env) (e : E) (Q : Opd → Env → Prop) (X : XQ) : Prop := Rk (mkO e (ev C e) ρ) Q X
@[irreducible] def WD (C : CallF) (ρ : Env) (e : E) (Q : D → Env → Prop) (X : XQ) : Prop := Rk (mkD (ev C e) ρ) Q X
@[irreducible] def WT (C : CallF) (ρ : Env) (e : E) (Q : Bool → Env → Prop) (X : XQ) : Prop := Rk (mkT e (ev C e) ρ) Q X
@[irreducible] def WPt (C : CallF) (ρ : Env) (e : E) (Q : Option Int → Env → Prop) (X : XQ) : Prop := Rk (mkP e (ev C e) ρ) Q X
@[irreducible] def WDs (C : CallF) (ρ : Env) (es : Es) (Q : List D → Env → Prop) (X : XQ) : Prop := Rk (evDs C es ρ) Q X
@[irreducible] def WOs (C : CallF) (ρ : Env) (es : Es) (Q : List Opd → Env → Prop) (X : XQ) : Prop := Rk (evOs C es ρ) Q X
@[irreducible] def WAs (C : CallF) (ρ : Env) (es : Es) (Q : List Opd → Env → Prop) (X : XQ) : Prop := Rk (evAs C es ρ) Q X
@[irreducible] def WSr (C : CallF) (ρ : Env) (s : Sr) (Q : List D → Env → Prop) (X : XQ) : Prop := Rk (evS C s ρ) Q X
@[irreducible] def WS (C : CallF) (W : Nat) (ρ : Env) (s : S) (Q : Fl → Env → Prop) (X : XQ) : Prop := Rk (exS C W s ρ) Q X
@[irreducible] def WSs (C : CallF) (W : Nat) (ρ : Env) (s : Ss) (Q : Fl → Env → Prop) (X : XQ) : Prop := Rk (exSs C W s ρ) Q X
inductive SetAt : Nat → Sl → Env → Env → Prop
  | z {v s : Sl} {ρ : Env} : SetAt 0 v (s :: ρ) (v :: ρ)
  | s {i : Nat} {v s : Sl} {ρ ρ' : Env} : SetAt i v ρ ρ' → SetAt (i + 1) v (s :: ρ) (s :: ρ')
theorem SetAt.eq {i : Nat} {v : Sl} {ρ ρ' : Env} (h : SetAt i v ρ ρ') : ρ.set i v = ρ' ∧ i < ρ.length := by
  induction h with
  | z => exact ⟨rfl, by simp⟩
  | s _ ih => exact ⟨by rw [List.set_cons_succ, ih.1], by rw [List.length_cons]; omega⟩
inductive GetAt : Nat → Sl → Env → Prop
  | z {s : Sl} {ρ : Env} : GetAt 0 s (s :: ρ)
  | s {i : Nat} {v s : Sl} {ρ : Env} : GetAt i v ρ → GetAt (i + 1) v (s :: ρ)
theorem GetAt.eq {i : Nat} {v : Sl} {ρ : Env} (h : GetAt i v ρ) : ρ[i]? = some v := by
  induction h with
  | z => rfl
  | s _ ih => rw [List.getElem?_cons_succ, ih]
/-- a slot that a store may write at -/
def FreeS : Sl → Prop
  | .own _ true => False
  | _ => True
theorem fs_non : FreeS .non := trivial
theorem fs_val {d : D} : FreeS (.val d) := trivial
theorem fs_own {xs : List D} : FreeS (.own xs false) := trivial
/-- a loop's own slot -/
def LSl (s : Sl) : Prop := s = .non ∨ ∃ d, s = .val d
theorem lsl_non : LSl .non := .inl rfl
theorem lsl_val {d : D} : LSl (.val d) := .inr ⟨d, rfl⟩
theorem fs_lsl {s : Sl} (h : LSl s) : FreeS s := by
  rcases h with rfl | ⟨d, rfl⟩ <;> trivial
section
variable {C : CallF} {P : Nat → Option Fd} {W : Nat} {ρ ρ0 ρ1 ρ2 ρ3 : Env} {a b c e : E} {es : Es} {r : R} {x y z d : D} {o o1 o2 : Opd} {k : Bool} {i j : Nat} {Q : R → Env → Prop} {X : XQ} {s : Sl}
theorem mkD_rk {kf : Env → Res (R × Env) Env} {Q : D → Env → Prop} (h : Rk (kf ρ) (fun r ρ' => Q r.toD ρ') X) : Rk (mkD kf ρ) Q X := Rk.bd h
/-- what is told, as a value -/
@[reducible] def Rm (Q : D → Env → Prop) (r : R) (ρ : Env) : Prop := match r with
  | .val d => Q d ρ
  | .fresh xs => Q (.lst xs) ρ
theorem Rm.to {Q : D → Env → Prop} {r : R} {ρ : Env} (h : Rm Q r ρ) : Q r.toD ρ := by
  cases r <;> exact h
theorem we_var (h : GetAt i (.val d) ρ) (q : Q (.val d) ρ) : WE C ρ (.var i) Q X := by
  unfold WE; exact Rk.of (vl_val h.eq) q
theorem we_own {xs : List D} (h : GetAt i (.own xs false) ρ) (hs : SetAt i (.val (.lst xs)) ρ ρ1) (q : Q (.val (.lst xs)) ρ1) : WE C ρ (.var i) Q X := by
  unfold WE; refine Rk.of (vl_own h.eq) ?_; rw [hs.eq.1]; exact q
theorem we_cst (q : Q (.val d) ρ) : WE C ρ (.cst d) Q X := by unfold WE; exact q
theorem we_glo {n : Str} (q : Q (.val d) ρ) : WE C ρ (.glo n d) Q X := by unfold WE; exact q
theorem we_dct {kvs : List (Key × D)} (q : Q (.val (.dct kvs)) ρ) : WE C ρ (.dct kvs) Q X := by unfold WE; exact q
theorem we_fre (h : WE C ρ e Q X) : WE C ρ (.fre e) Q X := by unfold WE at *; exact h
theorem wo_var (h : GetAt i (.val d) ρ) {Q : Opd → Env → Prop} (q : Q (.slot i) ρ) : WO C ρ (.var i) Q X := by
  unfold WO; exact Rk.of (ol_val h.eq) q
theorem wo_own {xs : List D} {b : Bool} (h : GetAt i (.own xs b) ρ) {Q : Opd → Env → Prop} (q : Q (.slot i) ρ) : WO C ρ (.var i) Q X := by
  unfold WO; exact Rk.of (ol_own h.eq) q
theorem wo_e (hv : isV e = false) {Q : Opd → Env → Prop} (h : WE C ρ e (Rm fun d ρ' => Q (.val d) ρ') X) : WO C ρ e Q X := by
  unfold WO; unfold WE at h
  rw [mkO_not hv]
  exact Rk.bd (Rk.mono h (fun r ρ' q => Rm.to (Q := fun d ρ' => Q (.val d) ρ') q) fun _ _ _ q => q)
theorem wd_e {Q : D → Env → Prop} (h : WE C ρ e (Rm Q) X) : WD C ρ e Q X := by
  unfold WD; unfold WE at h
  exact mkD_rk (Rk.mono h (fun r ρ' q => Rm.to q) fun _ _ _ q => q)
inductive ResO : Env → Opd → D → Prop
  | val {ρ : Env} {d : D} : ResO ρ (.val d) d
  | slot {ρ : Env} {i : Nat} {d : D} : GetAt i (.val d) ρ → ResO ρ (.slot i) d
  | own {ρ : Env} {i : Nat} {xs : List D} {b : Bool} : GetAt i (.own xs b) ρ → ResO ρ (.slot i) (.lst xs)
theorem ResO.eq (h : ResO ρ o d) : resO ρ o = some d := by
  cases h with
  | val => rfl
  | slot h => simp only [resO, h.eq]
  | own h => simp only [resO, h.eq]
inductive ResOs : Env → List Opd → List D → Prop
  | nil {ρ : Env} : ResOs ρ [] []
  | cons {ρ : Env} {o : Opd} {os : List Opd} {d : D} {ds : List D} : ResO ρ o d → ResOs ρ os ds → ResOs ρ (o :: os) (d :: ds)
theorem ResOs.eq {os : List Opd} {ds : List D} (h : ResOs ρ os ds) : resOs ρ os = some ds := by
  induction h with
  | nil => rfl
  | cons h _ ih => simp only [resOs, h.eq, ih]
@[irreducible] def B2 (ρ : Env) (o1 o2 : Opd) (f : D → D → Option R) (Q : R → Env → Prop) : Prop := ∃ x y r, resO ρ o1 = some x ∧ resO ρ o2 = some y ∧ f x y = some r ∧ Q r ρ
theorem b2 {f : D → D → Option R} (h1 : ResO ρ o1 x) (h2 : ResO ρ o2 y) (h3 : f x y = some r) (q : Q r ρ) : B2 ρ o1 o2 f Q := by
  unfold B2; exact ⟨x, y, r, h1.eq, h2.eq, h3, q⟩
theorem two_rk {X1 : Res (Opd × Env) Env} {Y : Env → Res (Opd × Env) Env} {f : D → D → Option R} (h : Rk X1 (fun o1 ρ1 => Rk (Y ρ1) (fun o2 ρ2 => B2 ρ2 o1 o2 f Q) X) X) : Rk (two X1 Y f) Q X := by
  refine Rk.bd (Rk.mono h (fun o1 ρ1 h => Rk.bd (Rk.mono h (fun o2 ρ2 h => ?_) fun _ _ _ q => q)) fun _ _ _ q => q)
  unfold B2 at h
  obtain ⟨x, y, r, h1, h2, h3, q⟩ := h
  simp only [h1, h2, h3]
  exact q
theorem one_rk {X1 : Res (Opd × Env) Env} {f : D → Option R} (h : Rk X1 (fun o1 ρ1 => ∃ x r, resO ρ1 o1 = some x ∧ f x = some r ∧ Q r ρ1) X) : Rk (one X1 f) Q X := by
  refine Rk.bd (Rk.mono h (fun o1 ρ1 h => ?_) fun _ _ _ q => q)
  obtain ⟨x, r, h1, h3, q⟩ := h
  simp only [h1, h3]
  exact q
theorem wo_rk {Q : Opd → Env → Prop} (h : WO C ρ e Q X) : Rk (mkO e (ev C e) ρ) Q X := by unfold WO at h; exact h
theorem wd_rk {Q : D → Env → Prop} (h : WD C ρ e Q X) : Rk (mkD (ev C e) ρ) Q X := by unfold WD at h; exact h
theorem wt_rk {Q : Bool → Env → Prop} (h : WT C ρ e Q X) : Rk (mkT e (ev C e) ρ) Q X := by unfold WT at h; exact h
theorem we_rk (h : WE C ρ e Q X) : Rk (ev C e ρ) Q X := by unfold WE at h; exact h
theorem woo_rk {Q : Opd → Opd → Env → Prop} (h : WO C ρ a (fun o1 ρ1 => WO C ρ1 b (fun o2 ρ2 => Q o1 o2 ρ2) X) X) : Rk (mkO a (ev C a) ρ) (fun o1 ρ1 => Rk (mkO b (ev C b) ρ1) (fun o2 ρ2 => Q o1 o2 ρ2) X) X :=
  Rk.mono (wo_rk h) (fun _ _ h => wo_rk h) fun _ _ _ q => q
theorem we_bin {op : Operator} (h : WO C ρ a (fun o1 ρ1 => WO C ρ1 b (fun o2 ρ2 => B2 ρ2 o1 o2 (binD op) Q) X) X) : WE C ρ (.bin op a b) Q X := by
  unfold WE; exact two_rk (woo_rk h)
@[irreducible] def C2 (ρ : Env) (o1 o2 : Opd) (op : CmpOp) (Q : R → Env → Prop) : Prop := ∃ x y k, resO ρ o1 = some x ∧ resO ρ o2 = some y ∧ cmpD op x y = some k ∧ Q (.val (.bl k)) ρ
theorem c2 {op : CmpOp} (h1 : ResO ρ o1 x) (h2 : ResO ρ o2 y) (h3 : cmpD op x y = some k) (q : Q (.val (.bl k)) ρ) : C2 ρ o1 o2 op Q := by
  unfold C2; exact ⟨x, y, k, h1.eq, h2.eq, h3, q⟩
theorem we_cmp {op : CmpOp} (h : WO C ρ a (fun o1 ρ1 => WO C ρ1 b (fun o2 ρ2 => C2 ρ2 o1 o2 op Q) X) X) : WE C ρ (.cmp op a b) Q X := by
  unfold WE
  refine two_rk (woo_rk (Q := fun o1 o2 ρ2 => B2 ρ2 o1 o2 _ Q) ?_)
  unfold WO at h ⊢
  refine Rk.mono h (fun o1 ρ1 h => Rk.mono h (fun o2 ρ2 h => ?_) fun _ _ _ q => q) fun _ _ _ q => q
  unfold C2 at h; unfold B2
  obtain ⟨x, y, k, h1, h2, h3, q⟩ := h
  exact ⟨x, y, _, h1, h2, by simp only [h3]; rfl, q⟩
@[irreducible] def I2 (ρ : Env) (o1 o2 : Opd) (Q : R → Env → Prop) : Prop := ∃ x y d, resO ρ o1 = some x ∧ resO ρ o2 = some y ∧ idxD x y = some d ∧ Q (.val d) ρ
theorem i2 (h1 : ResO ρ o1 x) (h2 : ResO ρ o2 y) (h3 : idxD x y = some d) (q : Q (.val d) ρ) : I2 ρ o1 o2 Q := by
  unfold I2; exact ⟨x, y, d, h1.eq, h2.eq, h3, q⟩
theorem we_idx (h : WO C ρ a (fun o1 ρ1 => WO C ρ1 b (fun o2 ρ2 => I2 ρ2 o1 o2 Q) X) X) : WE C ρ (.idx a b) Q X := by
  unfold WE
  refine two_rk (woo_rk (Q := fun o1 o2 ρ2 => B2 ρ2 o1 o2 _ Q) ?_)
  unfold WO at h ⊢
  refine Rk.mono h (fun o1 ρ1 h => Rk.mono h (fun o2 ρ2 h => ?_) fun _ _ _ q => q) fun _ _ _ q => q
  unfold I2 at h; unfold B2
  obtain ⟨x, y, k, h1, h2, h3, q⟩ := h
  exact ⟨x, y, _, h1, h2, by simp only [h3]; rfl, q⟩
@[irreducible] def Ch1 (C : CallF) (ρ : Env) (o1 o2 : Opd) (p1 p2 : CmpOp) (c : E) (Q : R → Env → Prop) (X : XQ) : Prop := ∃ x y k1, resO ρ o1 = some x ∧ resO ρ o2 = some y ∧ cmpD p1 x y = some k1 ∧ (k1 = true → WO C ρ c (fun o3 ρ3 => C2 ρ3 o2 o3 p2 Q) X) ∧ (k1 = false → Q (.val (.bl false)) ρ)
theorem ch1 {p1 p2 : CmpOp} {k1 : Bool} (h1 : ResO ρ o1 x) (h2 : ResO ρ o2 y) (h3 : cmpD p1 x y = some k1) (q1 : k1 = true → WO C ρ c (fun o3 ρ3 => C2 ρ3 o2 o3 p2 Q) X) (q2 : k1 = false → Q (.val (.bl false)) ρ) : Ch1 C ρ o1 o2 p1 p2 c Q X := by
  unfold Ch1; exact ⟨x, y, k1, h1.eq, h2.eq, h3, q1, q2⟩
/-- without another state -/
theorem ch1B {p1 p2 : CmpOp} {k1 k2 : Bool} (h1 : ResO ρ o1 x) (h2 : ResO ρ o2 y) (h3 : cmpD p1 x y = some k1) (q1 : k1 = true → WO C ρ c (fun o3 ρ3 => C2 ρ3 o2 o3 p2 fun r ρ' => r = .val (.bl k2) ∧ ρ' = ρ) X) (q : Q (.val (.bl (k1 && k2))) ρ) : Ch1 C ρ o1 o2 p1 p2 c Q X := by
  refine ch1 h1 h2 h3 (fun e => ?_) fun e => by rw [e] at q; exact q
  have := q1 e
  unfold WO at this ⊢
  refine Rk.mono this (fun o3 ρ3 h => ?_) fun _ _ _ q => q
  unfold C2 at h ⊢
  obtain ⟨x, y, k, h1, h2, h3, h4, h5⟩ := h
  refine ⟨x, y, k, h1, h2, h3, ?_⟩
  rw [h4, h5]
  rw [e, Bool.true_and] at q
  exact q
theorem we_chn {p1 p2 : CmpOp} (h : WO C ρ a (fun o1 ρ1 => WO C ρ1 b (fun o2 ρ2 => Ch1 C ρ2 o1 o2 p1 p2 c Q X) X) X) : WE C ρ (.chn p1 p2 a b c) Q X := by
  unfold WE
  refine Rk.bd (Rk.mono (wo_rk h) (fun o1 ρ1 h => Rk.bd (Rk.mono (wo_rk h) (fun o2 ρ2 h => ?_) fun _ _ _ q => q)) fun _ _ _ q => q)
  unfold Ch1 at h
  obtain ⟨x, y, k1, h1, h2, h3, q1, q2⟩ := h
  simp only [h1, h2, h3]
  cases k1 with
  | false => exact q2 rfl
  | true =>
    refine Rk.bd (Rk.mono (wo_rk (q1 rfl)) (fun o3 ρ3 h => ?_) fun _ _ _ q => q)
    unfold C2 at h
    obtain ⟨x, y, k, h1, h2, h3, q⟩ := h
    simp only [h1, h2, h3]
    exact q
@[irreducible] def N1 (ρ : Env) (o : Opd) (Q : R → Env → Prop) : Prop := ∃ x k, resO ρ o = some x ∧ x.truth = some k ∧ Q (.val (.bl (!k))) ρ
theorem n1 (h1 : ResO ρ o x) (h2 : x.truth = some k) (q : Q (.val (.bl (!k))) ρ) : N1 ρ o Q := by
  unfold N1; exact ⟨x, k, h1.eq, h2, q⟩
theorem we_not (h : WO C ρ a (fun o1 ρ1 => N1 ρ1 o1 Q) X) : WE C ρ (.not a) Q X := by
  unfold WE
  refine one_rk (Rk.mono (wo_rk h) (fun o1 ρ1 h => ?_) fun _ _ _ q => q)
  unfold N1 at h
  obtain ⟨x, k, h1, h2, q⟩ := h
  exact ⟨x, _, h1, by rw [h2]; rfl, q⟩
@[irreducible] def G1 (ρ : Env) (o : Opd) (Q : R → Env → Prop) : Prop := ∃ n : Int, resO ρ o = some (.int n) ∧ Q (.val (.int (-n))) ρ
theorem g1 {n : Int} (h1 : ResO ρ o (.int n)) (q : Q (.val (.int (-n))) ρ) : G1 ρ o Q := by
  unfold G1; exact ⟨n, h1.eq, q⟩
theorem we_neg (h : WO C ρ a (fun o1 ρ1 => G1 ρ1 o1 Q) X) : WE C ρ (.neg a) Q X := by
  unfold WE
  refine one_rk (Rk.mono (wo_rk h) (fun o1 ρ1 h => ?_) fun _ _ _ q => q)
  unfold G1 at h
  obtain ⟨n, h1, q⟩ := h
  exact ⟨_, _, h1, rfl, q⟩
@[irreducible] def Tr (ρ : Env) (o : Opd) (Q : Bool → Env → Prop) : Prop := ∃ x k, resO ρ o = some x ∧ x.truth = some k ∧ Q k ρ
theorem tr {Q : Bool → Env → Prop} (h1 : ResO ρ o x) (h2 : x.truth = some k) (q : Q k ρ) : Tr ρ o Q := by
  unfold Tr; exact ⟨x, k, h1.eq, h2, q⟩
theorem wt_o {Q : Bool → Env → Prop} (h : WO C ρ e (fun o ρ1 => Tr ρ1 o Q) X) : WT C ρ e Q X := by
  unfold WT
  refine Rk.bd (Rk.mono (wo_rk h) (fun o ρ1 h => ?_) fun _ _ _ q => q)
  unfold Tr at h
  obtain ⟨x, k, h1, h2, q⟩ := h
  simp only [h1, h2, Option.bind_some]
  exact q
/-- two ways -/
structure Bra (k : Bool) (A B : Prop) : Prop where
  t : k = true → A
  f : k = false → B
theorem br_T {A B : Prop} (h : A) : Bra true A B := ⟨fun _ => h, fun e => by cases e⟩
theorem br_F {A B : Prop} (h : B) : Bra false A B := ⟨fun e => (by cases e), fun _ => h⟩
theorem br_t {A B : Prop} (e : k = true) (h : A) : Bra k A B := by subst e; exact br_T h
theorem br_f {A B : Prop} (e : k = false) (h : B) : Bra k A B := by subst e; exact br_F h
theorem we_ife (h : WT C ρ c (fun k ρ1 => Bra k (WE C ρ1 a Q X) (WE C ρ1 b Q X)) X) : WE C ρ (.ife c a b) Q X := by
  unfold WE
  refine Rk.bd (Rk.mono (wt_rk h) (fun k ρ1 h => ?_) fun _ _ _ q => q)
  cases k with
  | true => exact we_rk (h.t rfl)
  | false => exact we_rk (h.f rfl)
/-- both parts are values and nothing changes -/
theorem br_E {d1 d2 : D} (h1 : k = true → WE C ρ a (fun r ρ' => r = .val d1 ∧ ρ' = ρ) X) (h2 : k = false → WE C ρ b (fun r ρ' => r = .val d2 ∧ ρ' = ρ) X) (q : Q (.val (if k = true then d1 else d2)) ρ) : Bra k (WE C ρ a Q X) (WE C ρ b Q X) := by
  refine ⟨fun e => ?_, fun e => ?_⟩
  · subst e
    have := h1 rfl
    unfold WE at this ⊢
    exact Rk.mono this (fun r ρ' h => by rw [h.1, h.2]; exact q) fun _ _ _ q => q
  · subst e
    have := h2 rfl
    unfold WE at this ⊢
    exact Rk.mono this (fun r ρ' h => by rw [h.1, h.2]; exact q) fun _ _ _ q => q
@[irreducible] def An (C : CallF) (ρ : Env) (x : D) (b : E) (Q : R → Env → Prop) (X : XQ) : Prop := ∃ k, x.truth = some k ∧ (k = true → WE C ρ b Q X) ∧ (k = false → Q (.val x) ρ)
theorem an_T (h : WE C ρ b Q X) : An C ρ (.bl true) b Q X := by
  unfold An; exact ⟨true, rfl, fun _ => h, fun e => by cases e⟩
theorem an_F (h : Q (.val (.bl false)) ρ) : An C ρ (.bl false) b Q X := by
  unfold An; exact ⟨false, rfl, fun e => (by cases e), fun _ => h⟩
theorem an_B {p q : Bool} (h : p = true → WE C ρ b (fun r ρ' => r = .val (.bl q) ∧ ρ' = ρ) X) (hq : Q (.val (.bl (p && q))) ρ) : An C ρ (.bl p) b Q X := by
  unfold An
  refine ⟨p, rfl, fun e => ?_, fun e => by subst e; exact hq⟩
  subst e
  have := h rfl
  unfold WE at this ⊢
  exact Rk.mono this (fun r ρ' h => by rw [h.1, h.2]; exact hq) fun _ _ _ q => q
theorem we_and (h : WD C ρ a (fun x ρ1 => An C ρ1 x b Q X) X) : WE C ρ (.and a b) Q X := by
  unfold WE
  refine Rk.bd (Rk.mono (wd_rk h) (fun x ρ1 h => ?_) fun _ _ _ q => q)
  unfold An at h
  obtain ⟨k, h1, h2, h3⟩ := h
  simp only [h1]
  cases k with
  | true => exact we_rk (h2 rfl)
  | false => exact h3 rfl
@[irreducible] def Oo (C : CallF) (ρ : Env) (x : D) (b : E) (Q : R → Env → Prop) (X : XQ) : Prop := ∃ k, x.truth = some k ∧ (k = false → WE C ρ b Q X) ∧ (k = true → Q (.val x) ρ)
theorem oo_F (h : WE C ρ b Q X) : Oo C ρ (.bl false) b Q X := by
  unfold Oo; exact ⟨false, rfl, fun _ => h, fun e => by cases e⟩
theorem oo_T (h : Q (.val (.bl true)) ρ) : Oo C ρ (.bl true) b Q X := by
  unfold Oo; exact ⟨true, rfl, fun e => (by cases e), fun _ => h⟩
theorem oo_B {p q : Bool} (h : p = false → WE C ρ b (fun r ρ' => r = .val (.bl q) ∧ ρ' = ρ) X) (hq : Q (.val (.bl (p || q))) ρ) : Oo C ρ (.bl p) b Q X := by
  unfold Oo
  refine ⟨p, rfl, fun e => ?_, fun e => by subst e; exact hq⟩
  subst e
  have := h rfl
  unfold WE at this ⊢
  exact Rk.mono this (fun r ρ' h => by rw [h.1, h.2]; exact hq) fun _ _ _ q => q
theorem we_or (h : WD C ρ a (fun x ρ1 => Oo C ρ1 x b Q X) X) : WE C ρ (.or a b) Q X := by
  unfold WE
  refine Rk.bd (Rk.mono (wd_rk h) (fun x ρ1 h => ?_) fun _ _ _ q => q)
  unfold Oo at h
  obtain ⟨k, h1, h2, h3⟩ := h
  simp only [h1]
  cases k with
  | true => exact h3 rfl
  | false => exact we_rk (h2 rfl)
theorem wds_nil {Q : List D → Env → Prop} (q : Q [] ρ) : WDs C ρ .nil Q X := by unfold WDs; exact q
theorem wds_cons {Q : List D → Env → Prop} (h : WD C ρ e (fun d ρ1 => WDs C ρ1 es (fun ds ρ2 => Q (d :: ds) ρ2) X) X) : WDs C ρ (.cons e es) Q X := by
  unfold WDs
  refine Rk.bd (Rk.mono (wd_rk h) (fun d ρ1 h => ?_) fun _ _ _ q => q)
  unfold WDs at h
  exact Rk.bd (Rk.mono h (fun ds ρ2 q => q) fun _ _ _ q => q)
theorem wos_nil {Q : List Opd → Env → Prop} (q : Q [] ρ) : WOs C ρ .nil Q X := by unfold WOs; exact q
theorem wos_cons {Q : List Opd → Env → Prop} (h : WO C ρ e (fun d ρ1 => WOs C ρ1 es (fun ds ρ2 => Q (d :: ds) ρ2) X) X) : WOs C ρ (.cons e es) Q X := by
  unfold WOs
  refine Rk.bd (Rk.mono (wo_rk h) (fun d ρ1 h => ?_) fun _ _ _ q => q)
  unfold WOs at h
  exact Rk.bd (Rk.mono h (fun ds ρ2 q => q) fun _ _ _ q => q)
theorem was_nil {Q : List Opd → Env → Prop} (q : Q [] ρ) : WAs C ρ .nil Q X := by unfold WAs; exact q
theorem was_val (hm : isM e = false) {Q : List Opd → Env → Prop} (h : WD C ρ e (fun d ρ1 => WAs C ρ1 es (fun os ρ2 => Q (.val d :: os) ρ2) X) X) : WAs C ρ (.cons e es) Q X := by
  unfold WAs
  have z : mkA e (ev C e) ρ = (mkD (ev C e) ρ).bd fun (d, ρ') => .ok (.val d, ρ') := by
    cases e <;> first | rfl | cases hm
  show Rk ((mkA e (ev C e) ρ).bd _) Q X
  rw [z]
  refine Rk.bd (Rk.bd (Rk.mono (wd_rk h) (fun d ρ1 h => ?_) fun _ _ _ q => q))
  unfold WAs at h
  exact Rk.bd (Rk.mono h (fun ds ρ2 q => q) fun _ _ _ q => q)
theorem was_ref {xs : List D} {b : Bool} (h1 : GetAt i (.own xs b) ρ) {Q : List Opd → Env → Prop} (h : WAs C ρ es (fun os ρ2 => Q (.slot i :: os) ρ2) X) : WAs C ρ (.cons (.mref i) es) Q X := by
  unfold WAs
  have z : mkA (.mref i) (ev C (.mref i)) ρ = .ok (.slot i, ρ) := by
    show (match ρ[i]? with
      | some (.own _ _) => Res.ok (Opd.slot i, ρ)
      | _ => .stuck) = _
    rw [h1.eq]
  show Rk ((mkA (.mref i) (ev C (.mref i)) ρ).bd _) Q X
  rw [z]
  unfold WAs at h
  show Rk ((evAs C es ρ).bd _) Q X
  exact Rk.bd (Rk.mono h (fun ds ρ2 q => q) fun _ _ _ q => q)
theorem was_fre {Q : List Opd → Env → Prop} (h : WE C ρ e (fun r ρ1 => ∃ xs, r = .fresh xs ∧ WAs C ρ1 es (fun os ρ2 => Q (.tmp xs :: os) ρ2) X) X) : WAs C ρ (.cons (.fre e) es) Q X := by
  unfold WAs
  show Rk ((mkA (.fre e) (ev C (.fre e)) ρ).bd _) Q X
  refine Rk.bd ?_
  show Rk ((ev C e ρ).bd _) _ X
  refine Rk.bd (Rk.mono (we_rk h) (fun r ρ1 h => ?_) fun _ _ _ q => q)
  obtain ⟨xs, rfl, h⟩ := h
  unfold WAs at h
  exact Rk.bd (Rk.mono h (fun ds ρ2 q => q) fun _ _ _ q => q)
theorem we_tup (h : WDs C ρ es (fun ds ρ1 => ds.length ≤ sizeLine ∧ Q (.val (.tup ds)) ρ1) X) : WE C ρ (.tup es) Q X := by
  unfold WE; unfold WDs at h
  refine Rk.bd (Rk.mono h (fun ds ρ1 h => ?_) fun _ _ _ q => q)
  show Rk (if ds.length ≤ sizeLine then Res.ok (R.val (.tup ds), ρ1) else .stuck) Q X
  rw [if_pos h.1]; exact h.2
theorem we_lst (h : WDs C ρ es (fun ds ρ1 => ds.length ≤ sizeLine ∧ Q (.fresh ds) ρ1) X) : WE C ρ (.lst es) Q X := by
  unfold WE; unfold WDs at h
  refine Rk.bd (Rk.mono h (fun ds ρ1 h => ?_) fun _ _ _ q => q)
  show Rk (if ds.length ≤ sizeLine then Res.ok (R.fresh ds, ρ1) else .stuck) Q X
  rw [if_pos h.1]; exact h.2
@[irreducible] def Bik (ρ : Env) (os : List Opd) (b : Bi) (Q : R → Env → Prop) : Prop := ∃ ds r, resOs ρ os = some ds ∧ biD b ds = some r ∧ Q r ρ
theorem bk {os : List Opd} {ds : List D} {b : Bi} (h1 : ResOs ρ os ds) (h2 : biD b ds = some r) (q : Q r ρ) : Bik ρ os b Q := by
  unfold Bik; exact ⟨ds, r, h1.eq, h2, q⟩
theorem we_bi {b : Bi} (h : WOs C ρ es (fun os ρ1 => Bik ρ1 os b Q) X) : WE C ρ (.bi b es) Q X := by
  unfold WE; unfold WOs at h
  refine Rk.bd (Rk.mono h (fun os ρ1 h => ?_) fun _ _ _ q => q)
  unfold Bik at h
  obtain ⟨ds, r, h1, h2, q⟩ := h
  simp only [h1, h2]
  exact q
@[irreducible] def Ck (C : CallF) (f : Nat) (os : List Opd) (ρ : Env) (Q : R → Env → Prop) (X : XQ) : Prop := Rk (callR C f os ρ) Q X
theorem we_call {f : Nat} (h : WAs C ρ es (fun os ρ1 => Ck C f os ρ1 Q X) X) : WE C ρ (.call f es) Q X := by
  unfold WE; unfold WAs at h
  refine Rk.bd (Rk.mono h (fun os ρ1 h => ?_) fun _ _ _ q => q)
  unfold Ck at h
  exact h
inductive PermR : List Nat → List Opd → List Opd → Prop
  | nil {os : List Opd} : PermR [] os []
  | cons {i : Nat} {pm : List Nat} {os os' : List Opd} {o : Opd} : os[i]? = some o → PermR pm os os' → PermR (i :: pm) os (o :: os')
theorem PermR.eq {pm : List Nat} {os os' : List Opd} (h : PermR pm os os') : permL pm os = os' := by
  induction h with
  | nil => rfl
  | cons h _ ih =>
    unfold permL at *
    rw [List.filterMap_cons, h, ih]
@[irreducible] def Pk (C : CallF) (f : Nat) (pm : List Nat) (os : List Opd) (ρ : Env) (Q : R → Env → Prop) (X : XQ) : Prop := Ck C f (permL pm os) ρ Q X
theorem pk {f : Nat} {pm : List Nat} {os os' : List Opd} (h : PermR pm os os') (q : Ck C f os' ρ Q X) : Pk C f pm os ρ Q X := by
  unfold Pk; rw [h.eq]; exact q
theorem we_callk {f : Nat} {pm : List Nat} (h : WAs C ρ es (fun os ρ1 => Pk C f pm os ρ1 Q X) X) : WE C ρ (.callk f es pm) Q X := by
  unfold WE; unfold WAs at h
  refine Rk.bd (Rk.mono h (fun os ρ1 h => ?_) fun _ _ _ q => q)
  unfold Pk Ck at h
  exact h
inductive ArgR (ρ : Env) : List Opd → List Arg → Prop
  | nil : ArgR ρ [] []
  | val {d : D} {os : List Opd} {as : List Arg} : ArgR ρ os as → ArgR ρ (.val d :: os) (.val d :: as)
  | slot {i : Nat} {xs : List D} {b : Bool} {os : List Opd} {as : List Arg} : GetAt i (.own xs b) ρ → ArgR ρ os as → ArgR ρ (.slot i :: os) (.mut xs :: as)
  | tmp {xs : List D} {os : List Opd} {as : List Arg} : ArgR ρ os as → ArgR ρ (.tmp xs :: os) (.mut xs :: as)
theorem ArgR.eq {os : List Opd} {as : List Arg} (h : ArgR ρ os as) : argsOf ρ os = some as := by
  induction h with
  | nil => rfl
  | val _ ih => simp only [argsOf, argOf, ih]
  | slot h _ ih => simp only [argsOf, argOf, h.eq, ih]
  | tmp _ ih => simp only [argsOf, argOf, ih]
inductive BackR : Env → List Opd → List Arg → Env → Prop
  | nil {ρ : Env} : BackR ρ [] [] ρ
  | val {ρ ρ' : Env} {d d' : D} {os : List Opd} {as : List Arg} : BackR ρ os as ρ' → BackR ρ (.val d :: os) (.val d' :: as) ρ'
  | slot {ρ ρ1 ρ' : Env} {i : Nat} {xs ys : List D} {b : Bool} {os : List Opd} {as : List Arg} : GetAt i (.own xs b) ρ → SetAt i (.own ys b) ρ ρ1 → BackR ρ1 os as ρ' → BackR ρ (.slot i :: os) (.mut ys :: as) ρ'
  | tmp {ρ ρ' : Env} {xs ys : List D} {os : List Opd} {as : List Arg} : BackR ρ os as ρ' → BackR ρ (.tmp xs :: os) (.mut ys :: as) ρ'
theorem BackR.eq {ρ ρ' : Env} {os : List Opd} {as : List Arg} (h : BackR ρ os as ρ') : backS ρ os as = some ρ' := by
  induction h with
  | nil => rfl
  | val _ ih => exact ih
  | slot h1 h2 _ ih => simp only [backS, h1.eq, h2.eq.1, ih]
  | tmp _ ih => exact ih
/-- what a call does -/
def Co (C : CallF) (f : Nat) (as : List Arg) (Post : R → List Arg → Prop) (XP : Nat → Option D → List Arg → Prop) : Prop := match C f as with
  | .ok a => Post a.1 a.2
  | .exc c d bs => XP c d bs
  | .stuck => False
theorem ck {f : Nat} {os : List Opd} {as : List Arg} {Post : R → List Arg → Prop} {XP : Nat → Option D → List Arg → Prop} (hn : (nodupB (slotsOf os) && decide (tmps os ≤ 1)) = true) (ha : ArgR ρ os as) (hc : Co C f as Post XP)
    (q : ∀ r bs, Post r bs → ∃ ρ', BackR ρ os bs ρ' ∧ Q r ρ') (qx : ∀ c d bs, XP c d bs → ∃ ρ', BackR ρ os bs ρ' ∧ X c d ρ') : Ck C f os ρ Q X := by
  unfold Ck
  unfold callR
  rw [hn, ha.eq]
  dsimp only
  unfold Co at hc
  cases hr : C f as with
  | ok a =>
    rw [hr] at hc
    obtain ⟨ρ', h1, h2⟩ := q _ _ hc
    rcases a with ⟨r, bs⟩
    simp only [h1.eq]
    exact h2
  | exc c d bs =>
    rw [hr] at hc
    obtain ⟨ρ', h1, h2⟩ := qx _ _ _ hc
    simp only [h1.eq]
    exact h2
  | stuck => rw [hr] at hc; exact hc.elim
/-- a call of a function that lets nothing out -/
theorem ck_q {f : Nat} {os : List Opd} {as : List Arg} {Post : R → List Arg → Prop} (ha : ArgR ρ os as) (hc : Co C f as Post fun _ _ _ => False) (hn : (nodupB (slotsOf os) && decide (tmps os ≤ 1)) = true)
    (q : ∀ r bs, Post r bs → ∃ ρ', BackR ρ os bs ρ' ∧ Q r ρ') : Ck C f os ρ Q X := ck hn ha hc q fun _ _ _ h => h.elim
/-- a call with values alone, told in advance -/
inductive AllV : List Opd → List D → Prop
  | nil : AllV [] []
  | cons {d : D} {os : List Opd} {ds : List D} : AllV os ds → AllV (.val d :: os) (d :: ds)
theorem AllV.eq {os : List Opd} {ds : List D} (h : AllV os ds) : os = ds.map .val := by
  induction h with
  | nil => rfl
  | cons _ ih => rw [ih]; rfl
/-- from a depth on a function tells just this, and changes nothing -/
def Fp (P : Nat → Option Fd) (W d f : Nat) (ds : List D) (r : R) : Prop := ∀ k, d ≤ k → callN P W k f (ds.map .val) = .ok (r, ds.map .val)
theorem Fp.up {d d' f : Nat} {ds : List D} (h : Fp P W d f ds r) (hd : d ≤ d') : Fp P W d' f ds r := fun k hk => h k (by omega)
theorem ck_p {f : Nat} {os : List Opd} {ds : List D} {kk : Nat} {dd : Nat} (hv : AllV os ds) (h : Fp P W dd f ds r) (hk : dd ≤ kk) (q : Q r ρ) : Ck (callN P W kk) f os ρ Q X := by
  rw [hv.eq]
  have a1 : ∀ ds : List D, slotsOf (ds.map Opd.val) = [] := fun ds => by
    induction ds with
    | nil => rfl
    | cons d ds ih => exact ih
  have a2 : ∀ ds : List D, tmps (ds.map Opd.val) = 0 := fun ds => by
    induction ds with
    | nil => rfl
    | cons d ds ih => exact ih
  have a3 : ∀ ds : List D, ArgR ρ (ds.map Opd.val) (ds.map .val) := fun ds => by
    induction ds with
    | nil => exact .nil
    | cons d ds ih => exact .val ih
  have a4 : ∀ ds : List D, BackR ρ (ds.map Opd.val) (ds.map .val) ρ := fun ds => by
    induction ds with
    | nil => exact .nil
    | cons d ds ih => exact .val ih
  refine ck_q (Post := fun r' bs => r' = r ∧ bs = ds.map .val) (a3 ds) ?_ (by rw [a1, a2]; rfl) fun r' bs h => ?_
  · unfold Co; rw [h kk hk]; exact ⟨rfl, rfl⟩
  · rw [h.1, h.2]; exact ⟨ρ, a4 ds, q⟩
/-- a function's promise -/
def Fy (P : Nat → Option Fd) (W d f : Nat) (as : List Arg) (Post : R → List Arg → Prop) (XP : Nat → Option D → List Arg → Prop) : Prop := ∀ k, d ≤ k → Co (callN P W k) f as Post XP
theorem Fp.fy {d f : Nat} {ds : List D} (h : Fp P W d f ds r) : Fy P W d f (ds.map .val) (fun r' bs => r' = r ∧ bs = ds.map .val) fun _ _ _ => False := fun k hk => by
  unfold Co; rw [h k hk]; exact ⟨rfl, rfl⟩
@[irreducible] def Mk (ρ : Env) (m : Mo) (o : Nat) (ds : List D) (Q : R → Env → Prop) : Prop := ∃ xs b rd ys, ρ[o]? = some (.own xs b) ∧ moD m xs ds = some (rd, ys) ∧ Q (.val rd) (ρ.set o (.own ys b))
theorem mk {m : Mo} {o : Nat} {ds : List D} {xs ys : List D} {b : Bool} {rd : D} (h1 : GetAt o (.own xs b) ρ) (h2 : moD m xs ds = some (rd, ys)) (h3 : SetAt o (.own ys b) ρ ρ1) (q : Q (.val rd) ρ1) : Mk ρ m o ds Q := by
  unfold Mk; exact ⟨xs, b, rd, ys, h1.eq, h2, by rw [h3.eq.1]; exact q⟩
theorem we_mo {m : Mo} {o : Nat} {x0 : List D} {b0 : Bool} (h0 : GetAt o (.own x0 b0) ρ) (h : WDs C ρ es (fun ds ρ1 => Mk ρ1 m o ds Q) X) : WE C ρ (.mo m o es) Q X := by
  unfold WE; unfold WDs at h
  show Rk (match ρ[o]? with
    | some (.own _ _) => (evDs C es ρ).bd fun (ds, ρ1) => (match ρ1[o]? with
      | some (.own xs b) => (match moD m xs ds with
        | some (r, ys) => Res.ok (R.val r, ρ1.set o (.own ys b))
        | none => .stuck)
      | _ => .stuck)
    | _ => .stuck) Q X
  rw [h0.eq]
  refine Rk.bd (Rk.mono h (fun ds ρ1 h => ?_) fun _ _ _ q => q)
  unfold Mk at h
  obtain ⟨xs, b, rd, ys, h1, h2, q⟩ := h
  simp only [h1, h2]
  exact q
theorem wpt_nop {Q : Option Int → Env → Prop} (q : Q none ρ) : WPt C ρ .nop Q X := by unfold WPt; exact q
@[reducible] def Im (Q : Option Int → Env → Prop) (d : D) (ρ : Env) : Prop := match d with
  | .int i => Q (some i) ρ
  | _ => False
theorem wpt_int (hn : isNop e = false) {Q : Option Int → Env → Prop} (h : WD C ρ e (Im Q) X) : WPt C ρ e Q X := by
  unfold WPt mkP
  rw [if_neg (by rw [hn]; decide)]
  refine Rk.bd (Rk.mono (wd_rk h) (fun d ρ' h => ?_) fun _ _ _ q => q)
  cases d <;> first | exact h | exact h.elim
@[irreducible] def Lk (ρ : Env) (o : Opd) (l h : Option Int) (Q : R → Env → Prop) : Prop := ∃ x r, resO ρ o = some x ∧ slcD x l h = some r ∧ Q r ρ
theorem lk {l h : Option Int} (h1 : ResO ρ o x) (h2 : slcD x l h = some r) (q : Q r ρ) : Lk ρ o l h Q := by
  unfold Lk; exact ⟨x, r, h1.eq, h2, q⟩
theorem we_slc (h : WO C ρ a (fun o ρ1 => WPt C ρ1 b (fun l ρ2 => WPt C ρ2 c (fun h ρ3 => Lk ρ3 o l h Q) X) X) X) : WE C ρ (.slc a b c) Q X := by
  unfold WE
  refine Rk.bd (Rk.mono (wo_rk h) (fun o ρ1 h => ?_) fun _ _ _ q => q)
  unfold WPt at h
  refine Rk.bd (Rk.mono h (fun l ρ2 h => Rk.bd (Rk.mono h (fun h ρ3 hh => ?_) fun _ _ _ q => q)) fun _ _ _ q => q)
  unfold Lk at hh
  obtain ⟨x, r, h1, h2, q⟩ := hh
  simp only [h1, h2]
  exact q
theorem wr_seq {Q : List D → Env → Prop} (h : WD C ρ e (fun d ρ1 => ∃ xs, d.seq? = some xs ∧ Q xs ρ1) X) : WSr C ρ (.seq e) Q X := by
  unfold WSr
  refine Rk.bd (Rk.mono (wd_rk h) (fun d ρ1 h => ?_) fun _ _ _ q => q)
  obtain ⟨xs, h1, q⟩ := h
  simp only [h1]
  exact q
@[reducible] def Im1 (Q : Int → Env → Prop) (d : D) (ρ : Env) : Prop := match d with
  | .int i => Q i ρ
  | _ => False
theorem wr_rng1 {Q : List D → Env → Prop} (h : WD C ρ e (Im1 fun n ρ1 => RgOkB 0 n = true ∧ Q (rngD 0 n) ρ1) X) : WSr C ρ (.rng1 e) Q X := by
  unfold WSr
  refine Rk.bd (Rk.mono (wd_rk h) (fun d ρ1 h => ?_) fun _ _ _ q => q)
  cases d <;> first | exact h.elim | skip
  obtain ⟨h1, h2⟩ := h
  simp only [h1, if_true]
  exact h2
theorem wr_rng2 {Q : List D → Env → Prop} (h : WD C ρ a (Im1 fun m ρ1 => WD C ρ1 b (Im1 fun n ρ2 => RgOkB m n = true ∧ Q (rngD m n) ρ2) X) X) : WSr C ρ (.rng2 a b) Q X := by
  unfold WSr
  refine Rk.bd (Rk.mono (wd_rk h) (fun d ρ1 h => ?_) fun _ _ _ q => q)
  cases d <;> first | exact h.elim | skip
  refine Rk.bd (Rk.mono (wd_rk h) (fun d ρ1 h => ?_) fun _ _ _ q => q)
  cases d <;> first | exact h.elim | skip
  obtain ⟨h1, h2⟩ := h
  simp only [h1, if_true]
  exact h2
@[reducible] def Lm (Q : List D → Env → Prop) (d : D) (ρ : Env) : Prop := match d with
  | .lst xs => Q xs ρ
  | _ => False
theorem wr_enum {Q : List D → Env → Prop} (h : WD C ρ e (Lm fun xs ρ1 => Q (enumD 0 xs) ρ1) X) : WSr C ρ (.enum e) Q X := by
  unfold WSr
  refine Rk.bd (Rk.mono (wd_rk h) (fun d ρ1 h => ?_) fun _ _ _ q => q)
  cases d <;> first | exact h.elim | exact h
@[reducible] def Zm (Q : List D → Env → Prop) (d d' : D) (ρ : Env) : Prop := match d, d' with
  | .lst xs, .lst ys => Q (zipD xs ys) ρ
  | .tup xs, .tup ys => Q (zipD xs ys) ρ
  | _, _ => False
theorem wr_zip {Q : List D → Env → Prop} (h : WD C ρ a (fun d ρ1 => WD C ρ1 b (fun d' ρ2 => Zm Q d d' ρ2) X) X) : WSr C ρ (.zip a b) Q X := by
  unfold WSr
  refine Rk.bd (Rk.mono (wd_rk h) (fun d ρ1 h => ?_) fun _ _ _ q => q)
  refine Rk.bd (Rk.mono (wd_rk h) (fun d' ρ2 h => ?_) fun _ _ _ q => q)
  cases d <;> cases d' <;> first | exact h.elim | exact h
end
end Cr
namespace Cr
open PySem L2
theorem we_cut {C : CallF} {ρ : Env} {e : E} {I Q : R → Env → Prop} {X : XQ} (h : WE C ρ e I X) (q : ∀ r ρ', I r ρ' → Q r ρ') : WE C ρ e Q X := by
  unfold WE at *; exact Rk.mono h q fun _ _ _ q => q
theorem we_int {C : CallF} {ρ : Env} {e : E} {Q : R → Env → Prop} {X : XQ} (h : WE C ρ e (fun r ρ' => ∃ c : Int, r = .val (.int c) ∧ ρ' = ρ) X) (q : ∀ c : Int, Q (.val (.int c)) ρ) : WE C ρ e Q X :=
  we_cut h fun r ρ' ⟨c, h1, h2⟩ => by rw [h1, h2]; exact q c
mutual
inductive SetTR : T → D → Env → Env → Prop
  | name {i : Nat} {s : Sl} {d : D} {ρ ρ' : Env} : GetAt i s ρ → FreeS s → SetAt i (.val d) ρ ρ' → SetTR (.name i) d ρ ρ'
  | tup {ts : List T} {ds : List D} {ρ ρ' : Env} : SetTRs ts ds ρ ρ' → SetTR (.tup ts) (.tup ds) ρ ρ'
  | sub {o : Nat} {k : Int} {xs : List D} {b : Bool} {j : Nat} {d : D} {ρ ρ' : Env} : GetAt o (.own xs b) ρ → ixN xs.length k = some j → SetAt o (.own (xs.set j d) b) ρ ρ' → SetTR (.sub o k) d ρ ρ'
inductive SetTRs : List T → List D → Env → Env → Prop
  | nil {ρ : Env} : SetTRs [] [] ρ ρ
  | cons {t : T} {ts : List T} {d : D} {ds : List D} {ρ ρ1 ρ2 : Env} : SetTR t d ρ ρ1 → SetTRs ts ds ρ1 ρ2 → SetTRs (t :: ts) (d :: ds) ρ ρ2
end
mutual
theorem SetTR.eq : ∀ {t : T} {d : D} {ρ ρ' : Env}, SetTR t d ρ ρ' → setT t d ρ = some ρ'
  | _, _, _, _, .name (i := i) (s := s) (ρ := ρ) h1 h2 h3 => by
    have e := h1.eq
    have l := h3.eq
    unfold setT
    rw [if_pos l.2, e, l.1]
    cases s with
    | own xs b => cases b with
      | true => exact h2.elim
      | false => rfl
    | non => rfl
    | val d => rfl
  | _, _, _, _, .tup h => by
    unfold setT
    exact SetTRs.eq h
  | _, _, _, _, .sub h1 h2 h3 => by
    unfold setT
    rw [h1.eq]
    dsimp only
    rw [h2]
    dsimp only
    rw [h3.eq.1]
theorem SetTRs.eq : ∀ {t : List T} {d : List D} {ρ ρ' : Env}, SetTRs t d ρ ρ' → setT.setTs t d ρ = some ρ'
  | _, _, _, _, .nil => by unfold setT.setTs; rfl
  | _, _, _, _, .cons h1 h2 => by
    unfold setT.setTs
    rw [SetTR.eq h1, Option.bind_some]
    exact SetTRs.eq h2
end
def NotOwn : Sl → Prop
  | .own _ _ => False
  | _ => True
theorem no_non : NotOwn .non := trivial
theorem no_val {d : D} : NotOwn (.val d) := trivial
theorem no_lsl {s : Sl} (h : LSl s) : NotOwn s := by
  rcases h with rfl | ⟨d, rfl⟩ <;> trivial
inductive WipeR : Env → List Nat → Env → Prop
  | nil {ρ : Env} : WipeR ρ [] ρ
  | cons {ρ ρ1 ρ2 : Env} {v : Nat} {vs : List Nat} {s : Sl} : WipeR ρ vs ρ1 → GetAt v s ρ1 → NotOwn s → SetAt v .non ρ1 ρ2 → WipeR ρ (v :: vs) ρ2
theorem WipeR.eq {ρ ρ' : Env} {vs : List Nat} (h : WipeR ρ vs ρ') : wipeQ ρ vs = some ρ' := by
  induction h with
  | nil => rfl
  | cons _ h1 h2 h3 ih =>
    rename_i s _
    unfold wipeQ
    rw [ih, Option.bind_some, h1.eq, ← h3.eq.1]
    cases s with
    | own xs b => exact h2.elim
    | non => rfl
    | val d => rfl
theorem restR_get {ρ0 : Env} : ∀ {ρ : Env} {vs : List Nat} {i : Nat}, ρ.length = ρ0.length → (restR ρ0 ρ vs)[i]? = if i ∈ vs then ρ0[i]? else ρ[i]?
  | ρ, [], i, hl => by simp [restR]
  | ρ, v :: vs, i, hl => by
    have ih := restR_get (ρ := ρ) (vs := vs) (i := i) hl
    have ln : ∀ vs, (restR ρ0 ρ vs).length = ρ.length := fun vs => by
      induction vs with
      | nil => rfl
      | cons w ws ih => unfold restR; rw [List.length_set, ih]
    unfold restR
    rw [List.getElem?_set]
    by_cases h : v = i
    · subst h
      have hm : v ∈ v :: vs := List.mem_cons_self
      rw [if_pos rfl, ln, hl, if_pos hm]
      by_cases hi : v < ρ0.length
      · rw [if_pos hi, List.getElem?_eq_getElem hi]; rfl
      · rw [if_neg hi, List.getElem?_eq_none (by omega)]
    · rw [if_neg h, ih]
      have : (i ∈ v :: vs) ↔ i ∈ vs := by
        rw [List.mem_cons]
        constructor
        · rintro (e | e)
          · exact absurd e.symm h
          · exact e
        · exact .inr
      by_cases hm : i ∈ vs
      · rw [if_pos hm, if_pos (this.mpr hm)]
      · rw [if_neg hm, if_neg (fun z => hm (this.mp z))]
theorem wipeR_get : ∀ {ρ ρ' : Env} {vs : List Nat}, wipeQ ρ vs = some ρ' → ρ'.length = ρ.length ∧ ∀ i, i ∉ vs → ρ'[i]? = ρ[i]?
  | ρ, ρ', [], h => by
    unfold wipeQ at h; cases h; exact ⟨rfl, fun _ _ => rfl⟩
  | ρ, ρ', v :: vs, h => by
    unfold wipeQ at h
    obtain ⟨ρ1, h1, h2⟩ := Option.bind_eq_some_iff.mp h
    obtain ⟨l, g⟩ := wipeR_get h1
    split at h2
    · cases h2
    · cases h2
      refine ⟨by rw [List.length_set, l], fun i hi => ?_⟩
      rw [List.mem_cons, not_or] at hi
      rw [List.getElem?_set_ne (fun z => hi.1 z.symm), g i hi.2]
theorem rest_wipe {ρ ρ' : Env} {vs : List Nat} (h : wipeQ ρ vs = some ρ') : restR ρ ρ' vs = ρ := by
  obtain ⟨l, g⟩ := wipeR_get h
  apply List.ext_getElem?
  intro i
  rw [restR_get l]
  split
  · rfl
  · rename_i hi; exact g i hi
section
variable {C : CallF} {P : Nat → Option Fd} {W : Nat} {ρ ρ0 ρ1 ρ2 ρ3 ρw : Env} {a b c e : E} {es : Es} {r : R} {x y z d : D} {o o1 o2 : Opd} {k : Bool} {i j : Nat} {Q : R → Env → Prop} {X : XQ} {s : Sl}
@[irreducible] def Lck (C : CallF) (elt : E) (t : T) (c : E) (own : List Nat) (items : List D) (ρ : Env) (Q : R → Env → Prop) (X : XQ) : Prop := Rk (match wipeQ ρ own with
    | some ρw => (match lcGo t (testE C c) (ev C elt) own items ρw [] with
      | .ok (ds, ρ2) => Res.ok (R.fresh ds, restR ρ ρ2 own)
      | _ => Res.stuck)
    | none => Res.stuck) Q X
theorem we_lc {t : T} {s : Sr} {own : List Nat} (h : WSr C ρ s (fun items ρ1 => Lck C e t c own items ρ1 Q X) X) : WE C ρ (.lc e t s c own) Q X := by
  unfold WE; unfold WSr at h
  show Rk ((evS C s ρ).bd (fun (items, ρ1) => match wipeQ ρ1 own with
    | some ρw => (match lcGo t (testE C c) (ev C e) own items ρw [] with
      | .ok (ds, ρ2) => Res.ok (R.fresh ds, restR ρ1 ρ2 own)
      | _ => Res.stuck)
    | none => Res.stuck)) Q X
  refine Rk.bd (Rk.mono h (fun items ρ1 h => ?_) fun _ _ _ q => q)
  unfold Lck at h
  exact h
/-- an element of a comprehension -/
structure LcE (C : CallF) (t : T) (c e : E) (own : List Nat) (x : D) (ρw : Env) (p : Bool) (g : D) : Prop where
  mk' ::
  ex : ∃ ρx, SetTR t x ρw ρx ∧ WipeR ρx own ρw ∧ WT C ρx c (fun k ρ' => k = p ∧ ρ' = ρx) NoX ∧ (p = true → WD C ρx e (fun d ρ' => d = g ∧ ρ' = ρx) NoX)
theorem LcE.mk {t : T} {own : List Nat} {ρx : Env} {p : Bool} {g : D} (h1 : SetTR t x ρw ρx) (h2 : WipeR ρx own ρw) (h3 : WT C ρx c (fun k ρ' => k = p ∧ ρ' = ρx) NoX) (h4 : p = true → WD C ρx e (fun d ρ' => d = g ∧ ρ' = ρx) NoX) : LcE C t c e own x ρw p g := ⟨⟨ρx, h1, h2, h3, h4⟩⟩
structure LcE0 (C : CallF) (t : T) (e : E) (own : List Nat) (x : D) (ρw : Env) (g : D) : Prop where
  mk' ::
  ex : ∃ ρx, SetTR t x ρw ρx ∧ WipeR ρx own ρw ∧ WD C ρx e (fun d ρ' => d = g ∧ ρ' = ρx) NoX
theorem LcE0.mk {t : T} {own : List Nat} {ρx : Env} {g : D} (h1 : SetTR t x ρw ρx) (h2 : WipeR ρx own ρw) (h4 : WD C ρx e (fun d ρ' => d = g ∧ ρ' = ρx) NoX) : LcE0 C t e own x ρw g := ⟨⟨ρx, h1, h2, h4⟩⟩
theorem wd_ok {g : D} (h : WD C ρ e (fun d ρ' => d = g ∧ ρ' = ρ) NoX) : mkD (ev C e) ρ = .ok (g, ρ) := by
  unfold WD at h; exact Rk.eq h
theorem wt_ok (h : WT C ρ e (fun d ρ' => d = k ∧ ρ' = ρ) NoX) : mkT e (ev C e) ρ = .ok (k, ρ) := by
  unfold WT at h; exact Rk.eq h
/-- a comprehension whose parts change nothing -/
theorem lc_map {α : Type} {t : T} {own : List Nat} {items : List D} {enc : α → D} {p : α → Bool} {g : α → D} {xs : List α} (he : items = xs.map enc) (hn : isNop c = false) (hw : WipeR ρ own ρw) (hl : xs.length ≤ sizeLine)
    (h : ∀ x ∈ xs, LcE C t c e own (enc x) ρw (p x) (g x)) (q : Q (.fresh ((xs.filter p).map g)) ρ) : Lck C e t c own items ρ Q X := by
  unfold Lck
  subst he
  rw [hw.eq]
  dsimp only
  rw [lcGo_pure enc p g xs [] (by simpa using hl) fun x hx => ?_]
  · dsimp only
    rw [rest_wipe hw.eq]
    exact q
  · obtain ⟨ρx, h1, h2, h3, h4⟩ := (h x hx).ex
    refine ⟨ρx, h1.eq, h2.eq, ?_, fun hp => wd_ok (h4 hp)⟩
    unfold testE
    rw [if_neg (by rw [hn]; decide)]
    exact wt_ok h3
theorem lc_map0 {α : Type} {t : T} {own : List Nat} {items : List D} {enc : α → D} {g : α → D} {xs : List α} (he : items = xs.map enc) (hw : WipeR ρ own ρw) (hl : xs.length ≤ sizeLine)
    (h : ∀ x ∈ xs, LcE0 C t e own (enc x) ρw (g x)) (q : Q (.fresh (xs.map g)) ρ) : Lck C e t .nop own items ρ Q X := by
  unfold Lck
  subst he
  rw [hw.eq]
  dsimp only
  rw [lcGo_pure enc (fun _ => true) g xs [] (by simpa using hl) fun x hx => ?_]
  · dsimp only
    rw [rest_wipe hw.eq, List.filter_eq_self.mpr fun _ _ => rfl]
    exact q
  · obtain ⟨ρx, h1, h2, h4⟩ := (h x hx).ex
    exact ⟨ρx, h1.eq, h2.eq, rfl, fun hp => wd_ok h4⟩
@[irreducible] def Ptk (ρ : Env) (i : Nat) (o : Bool) (r : R) (K : Env → Prop) : Prop := ∃ ρ', putS ρ i o r = some ρ' ∧ K ρ'
theorem put_of {r : R} {oo : Bool} {v : Sl} (hv : (match oo, r with | true, .fresh xs => Sl.own xs false | _, r => .val r.toD) = v) (h1 : GetAt i s ρ) (h2 : FreeS s) (h3 : SetAt i v ρ ρ1) : putS ρ i oo r = some ρ1 := by
  unfold putS
  rw [if_pos h3.eq.2, h1.eq]
  subst hv
  rw [← h3.eq.1]
  cases s with
  | own xs b => cases b with
    | true => exact h2.elim
    | false => cases oo <;> cases r <;> rfl
  | non => cases oo <;> cases r <;> rfl
  | val d => cases oo <;> cases r <;> rfl
theorem pt_v {oo : Bool} {K : Env → Prop} (h1 : GetAt i s ρ) (h2 : FreeS s) (h3 : SetAt i (.val d) ρ ρ1) (q : K ρ1) : Ptk ρ i oo (.val d) K := by
  unfold Ptk; exact ⟨ρ1, put_of (by cases oo <;> rfl) h1 h2 h3, q⟩
theorem pt_o {xs : List D} {K : Env → Prop} (h1 : GetAt i s ρ) (h2 : FreeS s) (h3 : SetAt i (.own xs false) ρ ρ1) (q : K ρ1) : Ptk ρ i true (.fresh xs) K := by
  unfold Ptk; exact ⟨ρ1, put_of rfl h1 h2 h3, q⟩
theorem pt_f {xs : List D} {K : Env → Prop} (h1 : GetAt i s ρ) (h2 : FreeS s) (h3 : SetAt i (.val (.lst xs)) ρ ρ1) (q : K ρ1) : Ptk ρ i false (.fresh xs) K := by
  unfold Ptk; exact ⟨ρ1, put_of rfl h1 h2 h3, q⟩
/-- what comes behind a statement -/
@[reducible] def Sq (C : CallF) (W : Nat) (ss : Ss) (Q : Fl → Env → Prop) (X : XQ) (f : Fl) (ρ : Env) : Prop := match f with
  | .nx => WSs C W ρ ss Q X
  | .rt r => Q (.rt r) ρ
variable {st : S} {ss su : Ss} {F : Fl → Env → Prop}
theorem wss_nil (q : F .nx ρ) : WSs C W ρ .nil F X := by unfold WSs; exact q
theorem wss_cons (h : WS C W ρ st (Sq C W ss F X) X) : WSs C W ρ (.cons st ss) F X := by
  unfold WSs; unfold WS at h
  refine Rk.bd (Rk.mono h (fun f ρ1 h => ?_) fun _ _ _ q => q)
  cases f with
  | nx => have h : WSs C W ρ1 ss F X := h; unfold WSs at h; exact h
  | rt r => exact h
theorem ws_set {oo : Bool} (h : WE C ρ e (fun r ρ1 => Ptk ρ1 i oo r fun ρ2 => F .nx ρ2) X) : WS C W ρ (.set i oo e) F X := by
  unfold WS
  refine Rk.bd (Rk.mono (we_rk h) (fun r ρ1 h => ?_) fun _ _ _ q => q)
  unfold Ptk at h
  obtain ⟨ρ', h1, q⟩ := h
  simp only [h1]
  exact q
theorem ws_set2 {o1 o2 : Bool} (h : WE C ρ a (fun r ρ1 => WE C ρ1 b (fun r' ρ2 => Ptk ρ2 i o1 r fun ρ3 => Ptk ρ3 j o2 r' fun ρ4 => F .nx ρ4) X) X) : WS C W ρ (.set2 i j o1 o2 a b) F X := by
  unfold WS
  refine Rk.bd (Rk.mono (we_rk h) (fun r ρ1 h => Rk.bd (Rk.mono (we_rk h) (fun r' ρ2 h => ?_) fun _ _ _ q => q)) fun _ _ _ q => q)
  unfold Ptk at h
  obtain ⟨ρ3, h1, ρ4, h2, q⟩ := h
  simp only [h1, h2]
  exact q
@[irreducible] def Tgk (t : T) (d : D) (ρ : Env) (K : Env → Prop) : Prop := ∃ ρ', setT t d ρ = some ρ' ∧ K ρ'
theorem tgk {t : T} {K : Env → Prop} (h : SetTR t d ρ ρ1) (q : K ρ1) : Tgk t d ρ K := by
  unfold Tgk; exact ⟨ρ1, h.eq, q⟩
theorem ws_asg {t : T} (h : WD C ρ e (fun d ρ1 => Tgk t d ρ1 fun ρ2 => F .nx ρ2) X) : WS C W ρ (.asg t e) F X := by
  unfold WS
  refine Rk.bd (Rk.mono (wd_rk h) (fun d ρ1 h => ?_) fun _ _ _ q => q)
  unfold Tgk at h
  obtain ⟨ρ', h1, q⟩ := h
  simp only [h1]
  exact q
@[irreducible] def Sxk (ρ : Env) (o : Nat) (ix d : D) (K : Env → Prop) : Prop := ∃ xs b ys, ρ[o]? = some (.own xs b) ∧ setIx xs ix d = some ys ∧ K (ρ.set o (.own ys b))
theorem ws_exp (h : WE C ρ e (fun _ ρ1 => F .nx ρ1) X) : WS C W ρ (.exp e) F X := by
  unfold WS
  exact Rk.bd (Rk.mono (we_rk h) (fun r ρ1 h => h) fun _ _ _ q => q)
theorem ws_ret (hv : isV e = false) (h : WE C ρ e (fun r ρ1 => F (.rt r) ρ1) X) : WS C W ρ (.ret e) F X := by
  unfold WS
  show Rk (retE C e ρ) F X
  rw [retE_not hv]
  exact Rk.bd (Rk.mono (we_rk h) (fun r ρ1 h => h) fun _ _ _ q => q)
theorem ws_retv (h : GetAt i (.val d) ρ) (q : F (.rt (.val d)) ρ) : WS C W ρ (.ret (.var i)) F X := by
  unfold WS
  exact Rk.of (sl_retv (W := W) h.eq) q
theorem ws_reto {xs : List D} (h : GetAt i (.own xs false) ρ) (h2 : SetAt i .non ρ ρ1) (q : F (.rt (.fresh xs)) ρ1) : WS C W ρ (.ret (.var i)) F X := by
  unfold WS
  refine Rk.of (sl_reto (W := W) h.eq) ?_
  rw [h2.eq.1]; exact q
theorem ws_ife (h : WT C ρ c (fun k ρ1 => Bra k (WSs C W ρ1 ss F X) (WSs C W ρ1 su F X)) X) : WS C W ρ (.ife c ss su) F X := by
  unfold WS
  refine Rk.bd (Rk.mono (wt_rk h) (fun k ρ1 h => ?_) fun _ _ _ q => q)
  cases k with
  | true => have := h.t rfl; unfold WSs at this; exact this
  | false => have := h.f rfl; unfold WSs at this; exact this
theorem ws_pass (q : F .nx ρ) : WS C W ρ .pass F X := by unfold WS; exact q
@[irreducible] def Fok (C : CallF) (W : Nat) (t : T) (b : Ss) (items : List D) (ρ : Env) (F : Fl → Env → Prop) (X : XQ) : Prop := Rk (forGo t (exSs C W b) items ρ) F X
theorem ws_for {t : T} {sr : Sr} (h : WSr C ρ sr (fun items ρ1 => Fok C W t ss items ρ1 F X) X) : WS C W ρ (.for t sr ss) F X := by
  unfold WS; unfold WSr at h
  refine Rk.bd (Rk.mono h (fun items ρ1 h => ?_) fun _ _ _ q => q)
  unfold Fok at h
  exact h
/-- a loop's body, from a state on -/
@[reducible] def Ivk (Iv : Env → Prop) (F : Fl → Env → Prop) (f : Fl) (ρ : Env) : Prop := match f with
  | .nx => Iv ρ
  | .rt r => F (.rt r) ρ
theorem for_map {α : Type} {t : T} {items : List D} {enc : α → D} {xs : List α} (Iv : Nat → Env → Prop) (he : items = xs.map enc) (h0 : Iv 0 ρ) (step : ∀ (j : Nat) (x : α) (ρ : Env), xs[j]? = some x → Iv j ρ → ∃ ρ1, SetTR t (enc x) ρ ρ1 ∧ WSs C W ρ1 ss (Ivk (Iv (j + 1)) F) X)
    (fin : ∀ ρ, Iv xs.length ρ → F .nx ρ) : Fok C W t ss items ρ F X := by
  unfold Fok
  subst he
  have key : ∀ (ys : List α) (j : Nat) (ρ : Env), Iv j ρ → (∀ i, ys[i]? = xs[j + i]?) → (j + ys.length = xs.length) → Rk (forGo t (exSs C W ss) (ys.map enc) ρ) F X := by
    intro ys
    induction ys with
    | nil => intro j ρ hI _ hl; exact fin ρ (by rw [List.length_nil, Nat.add_zero] at hl; rw [← hl]; exact hI)
    | cons y ys ih =>
      intro j ρ hI hx hl
      obtain ⟨ρ1, h1, h2⟩ := step j y ρ (by have := hx 0; rw [Nat.add_zero] at this; rw [← this]; rfl) hI
      have hx' : ∀ i, ys[i]? = xs[j + 1 + i]? := fun i => by
        have := hx (i + 1)
        rw [List.getElem?_cons_succ] at this
        rw [this]; congr 1; omega
      rw [List.map_cons]
      show Rk (match setT t (enc y) ρ with
        | none => Res.stuck
        | some ρ1 => (exSs C W ss ρ1).bd fun (f, ρ2) => match f with
          | Fl.nx => forGo t (exSs C W ss) (ys.map enc) ρ2
          | Fl.rt r => Res.ok (Fl.rt r, ρ2)) F X
      simp only [h1.eq]
      unfold WSs at h2
      refine Rk.bd (Rk.mono h2 (fun f ρ2 h => ?_) fun _ _ _ q => q)
      cases f with
      | nx => exact ih (j + 1) ρ2 h hx' (by rw [List.length_cons] at hl; omega)
      | rt r => exact h
  exact key xs 0 ρ h0 (fun i => by rw [Nat.zero_add]) (by rw [Nat.zero_add])
@[irreducible] def Whk (C : CallF) (W : Nat) (c : E) (b : Ss) (ρ : Env) (F : Fl → Env → Prop) (X : XQ) : Prop := Rk (whlGo (evT C c) (exSs C W b) W ρ) F X
theorem ws_whl (h : Whk C W c ss ρ F X) : WS C W ρ (.whl c ss) F X := by
  unfold WS; unfold Whk at h; exact h
theorem whl_inv (Iv : Nat → Env → Prop) {n : Nat} (hn : n < W) (h0 : Iv n ρ) (step : ∀ m ρ, Iv m ρ → WT C ρ c (fun k ρ1 => Bra k (WSs C W ρ1 ss (Ivk (fun ρ2 => ∃ m', m' < m ∧ Iv m' ρ2) F) X) (F .nx ρ1)) X) : Whk C W c ss ρ F X := by
  unfold Whk
  have key : ∀ (w n : Nat) (ρ : Env), n < w → Iv n ρ → Rk (whlGo (evT C c) (exSs C W ss) w ρ) F X := by
    intro w
    induction w with
    | zero => intro n ρ h _; omega
    | succ w ih =>
      intro n ρ hn hI
      have h := step n ρ hI
      unfold WT at h
      show Rk ((evT C c ρ).bd _) F X
      refine Rk.bd (Rk.mono h (fun k ρ1 h => ?_) fun _ _ _ q => q)
      cases k with
      | false => exact h.f rfl
      | true =>
        have h := h.t rfl
        unfold WSs at h
        refine Rk.bd (Rk.mono h (fun f ρ2 h => ?_) fun _ _ _ q => q)
        cases f with
        | nx => obtain ⟨m', h1, h2⟩ := h; exact ih m' ρ2 (by omega) h2
        | rt r => exact h
  exact key W n ρ hn h0
inductive InR : List Arg → Nat → Env → Prop
  | nil : InR [] 0 []
  | non {n : Nat} {ρ : Env} : InR [] n ρ → InR [] (n + 1) (.non :: ρ)
  | val {d : D} {as : List Arg} {n : Nat} {ρ : Env} : InR as n ρ → InR (.val d :: as) n (.val d :: ρ)
  | mm {xs : List D} {as : List Arg} {n : Nat} {ρ : Env} : InR as n ρ → InR (.mut xs :: as) n (.own xs true :: ρ)
theorem InR.eq {as : List Arg} {n : Nat} {ρ : Env} (h : InR as n ρ) : as.map sl0 ++ List.replicate n .non = ρ := by
  induction h with
  | nil => rfl
  | non _ ih => rw [List.replicate_succ]; rw [← ih]; rfl
  | val _ ih => rw [List.map_cons, List.cons_append, ih]; rfl
  | mm _ ih => rw [List.map_cons, List.cons_append, ih]; rfl
inductive BaR : List Arg → Env → List Arg → Prop
  | nil {ρ : Env} : BaR [] ρ []
  | val {d : D} {s : Sl} {as bs : List Arg} {ρ : Env} : BaR as ρ bs → BaR (.val d :: as) (s :: ρ) (.val d :: bs)
  | mm {xs ys : List D} {as bs : List Arg} {ρ : Env} : BaR as ρ bs → BaR (.mut xs :: as) (.own ys true :: ρ) (.mut ys :: bs)
theorem BaR.eq {as bs : List Arg} {ρ : Env} (h : BaR as ρ bs) : backA as ρ = some bs := by
  induction h with
  | nil => cases ‹Env› <;> rfl
  | val _ ih => unfold backA; rw [ih]; rfl
  | mm _ ih => unfold backA; rw [ih]; rfl
def FinF (as : List Arg) (Post : R → List Arg → Prop) (f : Fl) (ρ : Env) : Prop := match f with
  | .nx => ∃ bs, BaR as ρ bs ∧ Post (.val .non) bs
  | .rt r => ∃ bs, BaR as ρ bs ∧ Post r bs
theorem fin_nx {as bs : List Arg} {Post : R → List Arg → Prop} (h : BaR as ρ bs) (q : Post (.val .non) bs) : FinF as Post .nx ρ := ⟨bs, h, q⟩
theorem fin_rt {as bs : List Arg} {Post : R → List Arg → Prop} (h : BaR as ρ bs) (q : Post r bs) : FinF as Post (.rt r) ρ := ⟨bs, h, q⟩
def FinX (as : List Arg) (XP : Nat → Option D → List Arg → Prop) : XQ := fun c d ρ => ∃ bs, BaR as ρ bs ∧ XP c d bs
theorem fy_mk {d f : Nat} {fd : Fd} {as : List Arg} {Post : R → List Arg → Prop} {XP : Nat → Option D → List Arg → Prop} {n : Nat} (hP : P f = some fd) (hl : as.length = fd.np ∧ fd.np + n = fd.nl) (hi : InR as n ρ0)
    (h : ∀ k, d ≤ k → WSs (callN P W k) W ρ0 fd.body (FinF as Post) (FinX as XP)) : Fy P W (d + 1) f as Post XP := by
  intro k hk
  obtain ⟨j, rfl⟩ : ∃ j, k = j + 1 := ⟨k - 1, by omega⟩
  have e : callN P W (j + 1) f as = runF (callN P W j) W fd as := by
    show (match P f with
      | some fd => runF (callN P W j) W fd as
      | none => .stuck) = _
    rw [hP]
  unfold Co
  rw [e]
  unfold runF
  rw [if_pos ⟨hl.1, by omega⟩, show fd.nl - fd.np = n by omega, hi.eq]
  have q := h j (by omega)
  unfold WSs at q
  cases hx : exSs (callN P W j) W fd.body ρ0 with
  | ok a =>
    rw [hx] at q
    rcases a with ⟨f, ρ⟩
    cases f with
    | nx => obtain ⟨bs, h1, h2⟩ := q; simp only [h1.eq]; exact h2
    | rt r => obtain ⟨bs, h1, h2⟩ := q; simp only [h1.eq]; exact h2
  | exc c d ρ =>
    rw [hx] at q
    obtain ⟨bs, h1, h2⟩ := q
    simp only [h1.eq]; exact h2
  | stuck => rw [hx] at q; exact q.elim
/-- a function with values alone, whose answer is known -/
def FinP (n : Nat) (r : R) (f : Fl) (ρ : Env) : Prop := n ≤ ρ.length ∧ (match f with
  | .nx => R.val .non
  | .rt r => r) = r
inductive InV : List D → Nat → Env → Prop
  | nil : InV [] 0 []
  | non {n : Nat} {ρ : Env} : InV [] n ρ → InV [] (n + 1) (.non :: ρ)
  | val {d : D} {as : List D} {n : Nat} {ρ : Env} : InV as n ρ → InV (d :: as) n (.val d :: ρ)
theorem InV.to {ds : List D} {n : Nat} {ρ : Env} (h : InV ds n ρ) : InR (ds.map .val) n ρ := by
  induction h with
  | nil => exact .nil
  | non _ ih => exact .non ih
  | val _ ih => exact .val ih
theorem bar_mk : ∀ (ds : List D) (ρ : Env), ds.length ≤ ρ.length → BaR (ds.map .val) ρ (ds.map .val)
  | [], ρ, h => .nil
  | d :: ds, [], h => by simp at h
  | d :: ds, s :: ρ, h => .val (bar_mk ds ρ (by simpa using h))
theorem fp_mk {d f : Nat} {fd : Fd} {ds : List D} {n : Nat} (hP : P f = some fd) (hl : ds.length = fd.np ∧ fd.np + n = fd.nl) (hi : InV ds n ρ0)
    (h : ∀ k, d ≤ k → WSs (callN P W k) W ρ0 fd.body (FinP ds.length r) NoX) : Fp P W (d + 1) f ds r := by
  intro k hk
  have q := fy_mk (P := P) (W := W) (as := ds.map .val) (Post := fun r' bs => r' = r ∧ bs = ds.map .val) (XP := fun _ _ _ => False) hP (by rw [List.length_map]; exact hl) hi.to (d := d) (fun k hk => by
    have := h k hk
    unfold WSs at this ⊢
    refine Rk.mono this (fun f ρ h => ?_) fun _ _ _ q => q.elim
    cases f with
    | nx => exact ⟨_, bar_mk ds ρ h.1, h.2, rfl⟩
    | rt r => exact ⟨_, bar_mk ds ρ h.1, h.2, rfl⟩) k hk
  unfold Co at q
  cases hc : callN P W k f (ds.map .val) with
  | ok a =>
    rw [hc] at q
    rcases a with ⟨r', bs⟩
    obtain ⟨h1, h2⟩ := q
    simp only at h1 h2
    rw [h1, h2]
  | exc c d ρ => rw [hc] at q; exact q.elim
  | stuck => rw [hc] at q; exact q.elim
end
end Cr
namespace Cr
open PySem L2
section
variable {C : CallF} {P : Nat → Option Fd} {W : Nat} {ρ ρ0 ρ1 ρ2 ρ3 ρw : Env} {a b c e : E} {es : Es} {r r' : R} {x y z d : D} {o o1 o2 : Opd} {k : Bool} {i j : Nat} {Q : R → Env → Prop} {X : XQ} {s : Sl}
theorem getAt_of : ∀ {ρ : Env} {i : Nat} {s : Sl}, ρ[i]? = some s → GetAt i s ρ
  | [], i, s, h => by simp at h
  | t :: ρ, 0, s, h => by
    rw [List.getElem?_cons_zero] at h
    cases h; exact .z
  | t :: ρ, i + 1, s, h => by
    rw [List.getElem?_cons_succ] at h
    exact .s (getAt_of h)
theorem prop_id {p : Prop} (h : p) : p := h
theorem le_via {m k d : Nat} (h : m ≤ k) (h2 : d ≤ m) : d ≤ k := Nat.le_trans h2 h
theorem finP_rt {n : Nat} (h : Nat.ble n ρ.length = true) (e : r' = r) : FinP n r (.rt r') ρ := ⟨Nat.le_of_ble_eq_true h, e⟩
theorem finP_nx {n : Nat} (h : Nat.ble n ρ.length = true) (e : R.val .non = r) : FinP n r .nx ρ := ⟨Nat.le_of_ble_eq_true h, e⟩
theorem sizeLine_le {n : Nat} (h : n ≤ 100000) : n ≤ sizeLine := by rw [sizeLine_eq]; omega
theorem small_lit {i : Int} (h : -18446744073709551616 < i ∧ i < 18446744073709551616) : small64 i = true := by
  unfold small64
  rw [decide_eq_true (by omega : -(2 ^ 64) < i), decide_eq_true (by omega : i < 2 ^ 64)]; rfl
theorem bd_mulIR {i j : Int} (h : -18446744073709551616 < j ∧ j < 18446744073709551616) : binD .Mult (.int i) (.int j) = some (.val (.int (i * j))) := by
  show (if (small64 i || small64 j || decide (i.natAbs.log2 + j.natAbs.log2 < 1000000)) = true then some (R.val (.int (i * j))) else none) = _
  rw [if_pos (by rw [small_lit h, Bool.or_true, Bool.true_or])]
theorem bd_mulIL {i j : Int} (h : -18446744073709551616 < i ∧ i < 18446744073709551616) : binD .Mult (.int i) (.int j) = some (.val (.int (i * j))) := by
  show (if (small64 i || small64 j || decide (i.natAbs.log2 + j.natAbs.log2 < 1000000)) = true then some (R.val (.int (i * j))) else none) = _
  rw [if_pos (by rw [small_lit h, Bool.true_or, Bool.true_or])]
/-- by a positive number -/
theorem bd_modP {i j : Int} (h : 0 < j) : binD .Mod (.int i) (.int j) = some (.val (.int (i % j))) := by
  show (if decide (j ≠ 0) = true then some (R.val (.int (i.fmod j))) else none) = _
  rw [if_pos (decide_eq_true (by omega)), Int.fmod_eq_emod_of_nonneg _ (by omega)]
theorem bd_divP {i j : Int} (h : 0 < j) (h2 : j < 1073741824) : binD .FloorDiv (.int i) (.int j) = some (.val (.int (i / j))) := by
  show (if (decide (j ≠ 0) && decide (j.natAbs < 1073741824)) = true then some (R.val (.int (i.fdiv j))) else if (decide (0 < j) && decide (j.natAbs.log2 < 9000)) = true then some (.val (.int (i / j))) else none) = _
  rw [if_pos (by rw [decide_eq_true (by omega : j ≠ 0), decide_eq_true (by omega : j.natAbs < 1073741824)]; rfl), Int.fdiv_eq_ediv_of_nonneg _ (by omega)]
theorem bd_addT {xs ys : List D} (h : xs.length + ys.length ≤ 100000) : binD .Add (.tup xs) (.tup ys) = some (.val (.tup (xs ++ ys))) := by
  show (if xs.length + ys.length ≤ sizeLine then some (R.val (.tup (xs ++ ys))) else none) = _
  rw [if_pos (sizeLine_le h)]
theorem bd_addL {xs ys : List D} (h : xs.length + ys.length ≤ 100000) : binD .Add (.lst xs) (.lst ys) = some (.fresh (xs ++ ys)) := by
  show (if xs.length + ys.length ≤ sizeLine then some (R.fresh (xs ++ ys)) else none) = _
  rw [if_pos (sizeLine_le h)]
theorem bd_powI {n : Int} {k : Int} (h0 : 0 ≤ k) (h : k ≤ 1000000) (hn : n.natAbs < 18446744073709551616) : binD .Pow (.int n) (.int k) = some (.val (.int (n ^ k.toNat))) := by
  show (if (decide ((0 : Int) ≤ k) && decide (k ≤ 1000000) && decide (n.natAbs < 2 ^ 64)) = true then some (R.val (.int (n ^ (k.toNat)))) else none) = _
  rw [if_pos (by rw [decide_eq_true h0, decide_eq_true h, decide_eq_true (by omega : n.natAbs < 2 ^ 64)]; rfl)]
theorem cd_neI (i j : Int) : cmpD .NotEq (.int i) (.int j) = some (!decide (i = j)) := by
  show (eqR (.int i) (.int j)).map (!·) = _
  have e : eqR (.int i) (.int j) = some (decide (i = j)) := rfl
  rw [e]; rfl
theorem bk_len_t {α : Type} {f : α → D} {xs : List α} : biD .len [.tup (xs.map f)] = some (.val (.int xs.length)) := by
  show some (R.val (.int ((xs.map f).length))) = _
  rw [List.length_map]
theorem bk_len_l {α : Type} {f : α → D} {xs : List α} : biD .len [.lst (xs.map f)] = some (.val (.int xs.length)) := by
  show some (R.val (.int ((xs.map f).length))) = _
  rw [List.length_map]
theorem bk_len_r {α : Type} {f : α → D} {xs : List α} : biD .len [.rol (xs.map f)] = some (.val (.int xs.length)) := by
  show some (R.val (.int ((xs.map f).length))) = _
  rw [List.length_map]
theorem bls_mapf {α : Type} {p : α → Bool} {g : α → D} (hg : ∀ x, g x = .bl (p x)) : ∀ xs : List α, D.bls (xs.map g) = some (xs.map p)
  | [] => rfl
  | x :: xs => by
    rw [List.map_cons, hg]
    show (D.bls (xs.map g)).map (p x :: ·) = _
    rw [bls_mapf hg xs]; rfl
theorem bk_all {α : Type} {p : α → Bool} {g : α → D} {xs : List α} (hg : ∀ x, g x = .bl (p x)) : biD .all [.lst (xs.map g)] = some (.val (.bl (xs.all p))) := by
  show (D.bls (xs.map g)).map (fun bs => R.val (.bl (bs.all id))) = _
  rw [bls_mapf hg, Option.map_some, List.all_map]; rfl
theorem bk_any {α : Type} {p : α → Bool} {g : α → D} {xs : List α} (hg : ∀ x, g x = .bl (p x)) : biD .any [.lst (xs.map g)] = some (.val (.bl (xs.any p))) := by
  show (D.bls (xs.map g)).map (fun bs => R.val (.bl (bs.any id))) = _
  rw [bls_mapf hg, Option.map_some, List.any_map]; rfl
theorem ints_mapf {α : Type} {p : α → Int} {g : α → D} (hg : ∀ x, g x = .int (p x)) : ∀ xs : List α, D.ints (xs.map g) = some (xs.map p)
  | [] => rfl
  | x :: xs => by
    rw [List.map_cons, hg]
    show (D.ints (xs.map g)).map (p x :: ·) = _
    rw [ints_mapf hg xs]; rfl
theorem bk_sum {α : Type} {p : α → Int} {g : α → D} {xs : List α} (hg : ∀ x, g x = .int (p x)) : biD .sum [.lst (xs.map g)] = some (.val (.int (xs.map p).sum)) := by
  show (D.ints (xs.map g)).map (fun ns => R.val (.int ns.sum)) = _
  rw [ints_mapf hg]; rfl
theorem map_intf {α : Type} {p : α → Int} {g : α → D} {xs : List α} (hg : ∀ x, g x = .int (p x)) : xs.map g = (xs.map p).map D.int := by
  rw [List.map_map]; exact List.map_congr_left fun x _ => hg x
/-- a place in a list -/
theorem idx_map {α : Type} [Inhabited α] {f : α → D} {xs : List α} {v : Int} (h0 : 0 ≤ v) (h1 : v < xs.length) {d : D} (hd : d = .tup (xs.map f) ∨ d = .lst (xs.map f) ∨ d = .rol (xs.map f)) : idxD d (.int v) = some (f (xs.getD v.toNat default)) := by
  have hl : v.toNat < xs.length := by omega
  have q : atI (xs.map f) v = some (f (xs.getD v.toNat default)) := by
    unfold atI ixN
    rw [if_pos h0, if_pos (by rw [List.length_map]; exact h1)]
    show (xs.map f)[v.toNat]? = _
    rw [List.getElem?_map, List.getElem?_eq_getElem hl, List.getD_eq_getElem?_getD, List.getElem?_eq_getElem hl]
    rfl
  rcases hd with rfl | rfl | rfl <;> exact q
theorem idx_t {α : Type} [Inhabited α] {f : α → D} {xs : List α} {v : Int} (h : 0 ≤ v ∧ v < xs.length) : idxD (.tup (xs.map f)) (.int v) = some (f (xs.getD v.toNat default)) := idx_map h.1 h.2 (.inl rfl)
theorem idx_l {α : Type} [Inhabited α] {f : α → D} {xs : List α} {v : Int} (h : 0 ≤ v ∧ v < xs.length) : idxD (.lst (xs.map f)) (.int v) = some (f (xs.getD v.toNat default)) := idx_map h.1 h.2 (.inr (.inl rfl))
theorem idx_r {α : Type} [Inhabited α] {f : α → D} {xs : List α} {v : Int} (h : 0 ≤ v ∧ v < xs.length) : idxD (.rol (xs.map f)) (.int v) = some (f (xs.getD v.toNat default)) := idx_map h.1 h.2 (.inr (.inr rfl))
theorem bk_lrange {n : Int} (h : 0 ≤ n ∧ n ≤ 10000) : biD .lrange1 [.int n] = some (.fresh (rngD 0 n)) := by
  show (if RgOkB 0 n then some (R.fresh (rngD 0 n)) else none) = _
  have : RgOkB 0 n = true := by
    unfold RgOkB
    simp only [Bool.and_eq_true, decide_eq_true_eq]
    refine ⟨⟨⟨⟨?_, ?_⟩, ?_⟩, ?_⟩, ?_⟩ <;> omega
  rw [if_pos this]
theorem rgOk {m n : Int} (h : -10000 ≤ m ∧ m ≤ 10000 ∧ -10000 ≤ n ∧ n ≤ 10000) : RgOkB m n = true := by
  unfold RgOkB
  simp only [Bool.and_eq_true, decide_eq_true_eq]
  refine ⟨⟨⟨⟨?_, ?_⟩, ?_⟩, ?_⟩, ?_⟩ <;> omega
def rngI (m n : Int) : List Int := (List.range (n - m).toNat).map fun i => m + (i : Nat)
theorem rngD_eq (m n : Int) : rngD m n = (rngI m n).map .int := by
  unfold rngD rngI; rw [List.map_map]; rfl
theorem rngI_len (m n : Int) : (rngI m n).length = (n - m).toNat := by simp [rngI]
theorem mo_app {xs : List D} (h : xs.length < 100000) : moD .append xs [y] = some (.non, xs ++ [y]) := by
  show (if xs.length < sizeLine then some (D.non, xs ++ [y]) else none) = _
  rw [if_pos (by rw [sizeLine_eq]; omega)]
theorem enumD_map {α : Type} (f : α → D) : ∀ (xs : List α) (i : Nat), enumD i (xs.map f) = (xs.zipIdx i).map fun p => .tup [.int (p.2 : Nat), f p.1]
  | [], i => rfl
  | x :: xs, i => by
    rw [List.map_cons, List.zipIdx_cons, List.map_cons]
    show D.tup [.int (i : Int), f x] :: enumD (i + 1) (xs.map f) = _
    rw [enumD_map f xs (i + 1)]
@[irreducible] def BinR (op : Operator) (x y : D) (r : R) : Prop := binD op x y = some r
@[irreducible] def CmpR (op : CmpOp) (x y : D) (k : Bool) : Prop := cmpD op x y = some k
@[irreducible] def IdxR (x y d : D) : Prop := idxD x y = some d
@[irreducible] def BiR (b : Bi) (ds : List D) (r : R) : Prop := biD b ds = some r
@[irreducible] def MoR (m : Mo) (xs ds : List D) (d : D) (ys : List D) : Prop := moD m xs ds = some (d, ys)
@[irreducible] def SlcR (x : D) (l h : Option Int) (r : R) : Prop := slcD x l h = some r
@[irreducible] def TruR (x : D) (k : Bool) : Prop := x.truth = some k
theorem bin_of {op : Operator} (h : binD op x y = some r) : BinR op x y r := by unfold BinR; exact h
theorem cmp_of {op : CmpOp} (h : cmpD op x y = some k) : CmpR op x y k := by unfold CmpR; exact h
theorem idx_of (h : idxD x y = some d) : IdxR x y d := by unfold IdxR; exact h
theorem bi_of {b : Bi} {ds : List D} (h : biD b ds = some r) : BiR b ds r := by unfold BiR; exact h
theorem mo_of {m : Mo} {xs ds ys : List D} (h : moD m xs ds = some (d, ys)) : MoR m xs ds d ys := by unfold MoR; exact h
theorem slc_of {l h : Option Int} (hh : slcD x l h = some r) : SlcR x l h r := by unfold SlcR; exact hh
theorem truR_of (h : x.truth = some k) : TruR x k := by unfold TruR; exact h
theorem b2' {op : Operator} (h1 : ResO ρ o1 x) (h2 : ResO ρ o2 y) (h3 : BinR op x y r) (q : Q r ρ) : B2 ρ o1 o2 (binD op) Q := b2 h1 h2 (by unfold BinR at h3; exact h3) q
theorem c2' {op : CmpOp} (h1 : ResO ρ o1 x) (h2 : ResO ρ o2 y) (h3 : CmpR op x y k) (q : Q (.val (.bl k)) ρ) : C2 ρ o1 o2 op Q := c2 h1 h2 (by unfold CmpR at h3; exact h3) q
theorem i2' (h1 : ResO ρ o1 x) (h2 : ResO ρ o2 y) (h3 : IdxR x y d) (q : Q (.val d) ρ) : I2 ρ o1 o2 Q := i2 h1 h2 (by unfold IdxR at h3; exact h3) q
theorem bk' {os : List Opd} {ds : List D} {b : Bi} (h1 : ResOs ρ os ds) (h2 : BiR b ds r) (q : Q r ρ) : Bik ρ os b Q := bk h1 (by unfold BiR at h2; exact h2) q
theorem mk' {m : Mo} {o : Nat} {ds : List D} {xs ys : List D} {b : Bool} {rd : D} (h1 : GetAt o (.own xs b) ρ) (h2 : MoR m xs ds rd ys) (h3 : SetAt o (.own ys b) ρ ρ1) (q : Q (.val rd) ρ1) : Mk ρ m o ds Q := mk h1 (by unfold MoR at h2; exact h2) h3 q
theorem lk' {l h : Option Int} (h1 : ResO ρ o x) (h2 : SlcR x l h r) (q : Q r ρ) : Lk ρ o l h Q := lk h1 (by unfold SlcR at h2; exact h2) q
theorem tr' {Q : Bool → Env → Prop} (h1 : ResO ρ o x) (h2 : TruR x k) (q : Q k ρ) : Tr ρ o Q := tr h1 (by unfold TruR at h2; exact h2) q
theorem n1' (h1 : ResO ρ o x) (h2 : TruR x k) (q : Q (.val (.bl (!k))) ρ) : N1 ρ o Q := n1 h1 (by unfold TruR at h2; exact h2) q
theorem ch1B' {p1 p2 : CmpOp} {k1 k2 : Bool} (h1 : ResO ρ o1 x) (h2 : ResO ρ o2 y) (h3 : CmpR p1 x y k1) (q1 : k1 = true → WO C ρ c (fun o3 ρ3 => C2 ρ3 o2 o3 p2 fun r ρ' => r = .val (.bl k2) ∧ ρ' = ρ) X) (q : Q (.val (.bl (k1 && k2))) ρ) : Ch1 C ρ o1 o2 p1 p2 c Q X := ch1B h1 h2 (by unfold CmpR at h3; exact h3) q1 q
theorem truR_bl : TruR (.bl k) k := truR_of rfl
theorem Nb.addI (i j : Int) : BinR .Add (.int i) (.int j) (.val (.int (i + j))) := bin_of rfl
theorem Nb.subI (i j : Int) : BinR .Sub (.int i) (.int j) (.val (.int (i - j))) := bin_of rfl
theorem Nb.mulR {i j : Int} (h : -18446744073709551616 < j ∧ j < 18446744073709551616) : BinR .Mult (.int i) (.int j) (.val (.int (i * j))) := bin_of (bd_mulIR h)
theorem Nb.mulL {i j : Int} (h : -18446744073709551616 < i ∧ i < 18446744073709551616) : BinR .Mult (.int i) (.int j) (.val (.int (i * j))) := bin_of (bd_mulIL h)
theorem Nb.modP {i j : Int} (h : 0 < j) : BinR .Mod (.int i) (.int j) (.val (.int (i % j))) := bin_of (bd_modP h)
theorem Nb.divP {i j : Int} (h : 0 < j) (h2 : j < 1073741824) : BinR .FloorDiv (.int i) (.int j) (.val (.int (i / j))) := bin_of (bd_divP h h2)
theorem Nb.addT {xs ys : List D} (h : xs.length + ys.length ≤ 100000) : BinR .Add (.tup xs) (.tup ys) (.val (.tup (xs ++ ys))) := bin_of (bd_addT h)
theorem Nb.addL {xs ys : List D} (h : xs.length + ys.length ≤ 100000) : BinR .Add (.lst xs) (.lst ys) (.fresh (xs ++ ys)) := bin_of (bd_addL h)
theorem Nb.powI {n : Int} {k : Int} (h0 : 0 ≤ k) (h : k ≤ 1000000) (hn : n.natAbs < 18446744073709551616) : BinR .Pow (.int n) (.int k) (.val (.int (n ^ k.toNat))) := bin_of (bd_powI h0 h hn)
theorem Nc.eqI (i j : Int) : CmpR .Eq (.int i) (.int j) (decide (i = j)) := cmp_of rfl
theorem Nc.neI (i j : Int) : CmpR .NotEq (.int i) (.int j) (!decide (i = j)) := cmp_of (cd_neI i j)
theorem Nc.ltI (i j : Int) : CmpR .Lt (.int i) (.int j) (decide (i < j)) := cmp_of rfl
theorem Nc.leI (i j : Int) : CmpR .LtE (.int i) (.int j) (decide (i ≤ j)) := cmp_of rfl
theorem Nc.gtI (i j : Int) : CmpR .Gt (.int i) (.int j) (decide (j < i)) := cmp_of rfl
theorem Nc.geI (i j : Int) : CmpR .GtE (.int i) (.int j) (decide (j ≤ i)) := cmp_of rfl
theorem Nc.isT (b : Bool) : CmpR .Is (.bl b) (.bl true) b := cmp_of (by cases b <;> rfl)
theorem Nc.isF (b : Bool) : CmpR .Is (.bl b) (.bl false) (!b) := cmp_of (by cases b <;> rfl)
theorem Nc.nisT (b : Bool) : CmpR .IsNot (.bl b) (.bl true) (!b) := cmp_of (by cases b <;> rfl)
theorem Nc.nisF (b : Bool) : CmpR .IsNot (.bl b) (.bl false) b := cmp_of (by cases b <;> rfl)
theorem Nk.lenT {α : Type} {f : α → D} {xs : List α} : BiR .len [.tup (xs.map f)] (.val (.int xs.length)) := bi_of bk_len_t
theorem Nk.lenL {α : Type} {f : α → D} {xs : List α} : BiR .len [.lst (xs.map f)] (.val (.int xs.length)) := bi_of bk_len_l
theorem Nk.lenR {α : Type} {f : α → D} {xs : List α} : BiR .len [.rol (xs.map f)] (.val (.int xs.length)) := bi_of bk_len_r
theorem Nk.lenT' {xs : List D} : BiR .len [.tup xs] (.val (.int xs.length)) := bi_of rfl
theorem Nk.lenL' {xs : List D} : BiR .len [.lst xs] (.val (.int xs.length)) := bi_of rfl
theorem Nk.lenR' {xs : List D} : BiR .len [.rol xs] (.val (.int xs.length)) := bi_of rfl
theorem Nk.tupT {xs : List D} : BiR .tuple [.tup xs] (.val (.tup xs)) := bi_of rfl
theorem Nk.tupL {xs : List D} : BiR .tuple [.lst xs] (.val (.tup xs)) := bi_of rfl
theorem Nk.lstT {xs : List D} : BiR .list [.tup xs] (.fresh xs) := bi_of rfl
theorem Nk.lstL {xs : List D} : BiR .list [.lst xs] (.fresh xs) := bi_of rfl
theorem Nk.all {α : Type} {p : α → Bool} {g : α → D} {xs : List α} (hg : ∀ x, g x = .bl (p x)) : BiR .all [.lst (xs.map g)] (.val (.bl (xs.all p))) := bi_of (bk_all hg)
theorem Nk.any {α : Type} {p : α → Bool} {g : α → D} {xs : List α} (hg : ∀ x, g x = .bl (p x)) : BiR .any [.lst (xs.map g)] (.val (.bl (xs.any p))) := bi_of (bk_any hg)
theorem Nk.sum {α : Type} {p : α → Int} {g : α → D} {xs : List α} (hg : ∀ x, g x = .int (p x)) : BiR .sum [.lst (xs.map g)] (.val (.int (xs.map p).sum)) := bi_of (bk_sum hg)
theorem Nk.int (i : Int) : BiR .int [.int i] (.val (.int i)) := bi_of rfl
theorem Nk.abs (i : Int) : BiR .abs [.int i] (.val (.int (if i < 0 then -i else i))) := bi_of rfl
theorem Nk.min2 (i j : Int) : BiR .min2 [.int i, .int j] (.val (.int (if j < i then j else i))) := bi_of rfl
theorem Nk.max2 (i j : Int) : BiR .max2 [.int i, .int j] (.val (.int (if j > i then j else i))) := bi_of rfl
theorem Nk.divmod {i j : Int} (h : 0 < j) (h2 : j < 1073741824) : BiR .divmod [.int i, .int j] (.val (.tup [.int (i / j), .int (i % j)])) := bi_of (by
  show (if (decide (0 < j) && decide (j < 1073741824)) = true then some (R.val (.tup [.int (i / j), .int (i % j)])) else none) = _
  rw [if_pos (by rw [decide_eq_true h, decide_eq_true h2]; rfl)])
theorem Nk.isi {t u : String} {b : Bool} (h1 : d.ty = some u) (h2 : kitB u t = some b) : BiR (.isi t) [d] (.val (.bl b)) := bi_of (by
  show (match d.ty with
    | some u => (kitB u t).map fun r => R.val (.bl r)
    | none => none) = _
  rw [h1]
  show ((kitB u t).map fun r => R.val (.bl r)) = _
  rw [h2]; rfl)
theorem Ni.tx {α : Type} [Inhabited α] {f : α → D} {xs : List α} {v : Int} (h : 0 ≤ v ∧ v < xs.length) : IdxR (.tup (xs.map f)) (.int v) (f (xs.getD v.toNat default)) := idx_of (idx_t h)
theorem Ni.lx {α : Type} [Inhabited α] {f : α → D} {xs : List α} {v : Int} (h : 0 ≤ v ∧ v < xs.length) : IdxR (.lst (xs.map f)) (.int v) (f (xs.getD v.toNat default)) := idx_of (idx_l h)
theorem Ni.rx {α : Type} [Inhabited α] {f : α → D} {xs : List α} {v : Int} (h : 0 ≤ v ∧ v < xs.length) : IdxR (.rol (xs.map f)) (.int v) (f (xs.getD v.toNat default)) := idx_of (idx_r h)
theorem Nm.app {xs : List D} (h : xs.length < 100000) : MoR .append xs [y] .non (xs ++ [y]) := mo_of (mo_app h)
end
end Cr
namespace Cr
open PySem L2
theorem bk_lrangeP {n : Int} (h : 0 ≤ n ∧ n ≤ 10000) : biD .lrange1 [.int n] = some (.fresh ((places n).map .int)) := by rw [bk_lrange h, rng_places]
theorem in_lstf {α : Type} {p : α → Int} {g : α → D} {xs : List α} {v : Int} (hg : ∀ x, g x = .int (p x)) : cmpD .In (.int v) (.lst (xs.map g)) = some (decide (v ∈ xs.map p)) := by
  rw [map_intf hg]; exact in_lst _ _
theorem in_tupf {α : Type} {p : α → Int} {g : α → D} {xs : List α} {v : Int} (hg : ∀ x, g x = .int (p x)) : cmpD .In (.int v) (.tup (xs.map g)) = some (decide (v ∈ xs.map p)) := by
  rw [map_intf hg]; exact in_tup _ _
section
variable {C : CallF} {W : Nat} {ρ : Env} {e : E} {es : Es} {s : S} {ss : Ss} {sr : Sr} {X : XQ}
theorem id_we {Q : R → Env → Prop} (h : WE C ρ e Q X) : WE C ρ e Q X := h
theorem id_wo {Q : Opd → Env → Prop} (h : WO C ρ e Q X) : WO C ρ e Q X := h
theorem id_wds {Q : List D → Env → Prop} (h : WDs C ρ es Q X) : WDs C ρ es Q X := h
theorem id_wos {Q : List Opd → Env → Prop} (h : WOs C ρ es Q X) : WOs C ρ es Q X := h
theorem id_was {Q : List Opd → Env → Prop} (h : WAs C ρ es Q X) : WAs C ρ es Q X := h
theorem id_wsr {Q : List D → Env → Prop} (h : WSr C ρ sr Q X) : WSr C ρ sr Q X := h
theorem id_wss {Q : Fl → Env → Prop} (h : WSs C W ρ ss Q X) : WSs C W ρ ss Q X := h
theorem id_ws {Q : Fl → Env → Prop} (h : WS C W ρ s Q X) : WS C W ρ s Q X := h
theorem id_ck {f : Nat} {os : List Opd} {Q : R → Env → Prop} (h : Ck C f os ρ Q X) : Ck C f os ρ Q X := h
theorem id_lck {elt c : E} {t : T} {own : List Nat} {items : List D} {Q : R → Env → Prop} (h : Lck C elt t c own items ρ Q X) : Lck C elt t c own items ρ Q X := h
theorem id_br {k : Bool} {A B : Prop} (h : Bra k A B) : Bra k A B := h
theorem id_ptk {i : Nat} {o : Bool} {r : R} {K : Env → Prop} (h : Ptk ρ i o r K) : Ptk ρ i o r K := h
theorem id_an {x : D} {Q : R → Env → Prop} (h : An C ρ x e Q X) : An C ρ x e Q X := h
theorem id_oo {x : D} {Q : R → Env → Prop} (h : Oo C ρ x e Q X) : Oo C ρ x e Q X := h
theorem id_bin {op : Operator} {x y : D} {r : R} (h : BinR op x y r) : BinR op x y r := h
theorem id_cmp {op : CmpOp} {x y : D} {r : Bool} (h : CmpR op x y r) : CmpR op x y r := h
theorem id_bi {b : Bi} {x : List D} {r : R} (h : BiR b x r) : BiR b x r := h
theorem id_idx {x y d : D} (h : IdxR x y d) : IdxR x y d := h
theorem id_mo {m : Mo} {x y z : List D} {d : D} (h : MoR m x y d z) : MoR m x y d z := h
end
theorem Nk.lrange {n : Int} (h : 0 ≤ n ∧ n ≤ 10000) : BiR .lrange1 [.int n] (.fresh ((places n).map .int)) := bi_of (bk_lrangeP h)
theorem Nc.inL (v : Int) (xs : List Int) : CmpR .In (.int v) (.lst (xs.map .int)) (decide (v ∈ xs)) := cmp_of (in_lst _ _)
theorem Nc.inT (v : Int) (xs : List Int) : CmpR .In (.int v) (.tup (xs.map .int)) (decide (v ∈ xs)) := cmp_of (in_tup _ _)
theorem Nc.ninL (v : Int) (xs : List Int) : CmpR .NotIn (.int v) (.lst (xs.map .int)) (!decide (v ∈ xs)) := cmp_of (by
  show (inR (.int v) (xs.map .int)).map (!·) = _
  rw [in_ints]; rfl)
theorem Nc.ninT (v : Int) (xs : List Int) : CmpR .NotIn (.int v) (.tup (xs.map .int)) (!decide (v ∈ xs)) := cmp_of (by
  show (inR (.int v) (xs.map .int)).map (!·) = _
  rw [in_ints]; rfl)
theorem Nc.inLf {α : Type} {p : α → Int} {g : α → D} {xs : List α} {v : Int} (hg : ∀ x, g x = .int (p x)) : CmpR .In (.int v) (.lst (xs.map g)) (decide (v ∈ xs.map p)) := cmp_of (in_lstf hg)
theorem Nc.inTf {α : Type} {p : α → Int} {g : α → D} {xs : List α} {v : Int} (hg : ∀ x, g x = .int (p x)) : CmpR .In (.int v) (.tup (xs.map g)) (decide (v ∈ xs.map p)) := cmp_of (in_tupf hg)
theorem Nc.inP (r : Int × Int) (rs : List (Int × Int)) : CmpR .In (pD r) (.tup (rs.map pD)) (decide (r ∈ rs)) := cmp_of (inT_pD _ _)
theorem Nc.ninP (r : Int × Int) (rs : List (Int × Int)) : CmpR .NotIn (pD r) (.tup (rs.map pD)) (!decide (r ∈ rs)) := cmp_of (notin_pD _ _)
theorem Nc.inP' (a b : Int) (rs : List (Int × Int)) : CmpR .In (.tup [.int a, .int b]) (.tup (rs.map pD)) (decide ((a, b) ∈ rs)) := cmp_of (inT_pD (a, b) _)
theorem Nc.ninP' (a b : Int) (rs : List (Int × Int)) : CmpR .NotIn (.tup [.int a, .int b]) (.tup (rs.map pD)) (!decide ((a, b) ∈ rs)) := cmp_of (notin_pD (a, b) _)
theorem Nc.eqTn (xs : List Int) : CmpR .Eq (.tup (xs.map .int)) (.tup []) (decide (xs = [])) := cmp_of (eq_tup_nil xs)
theorem Nc.eqLn (xs : List Int) : CmpR .Eq (.lst (xs.map .int)) (.lst []) (decide (xs = [])) := cmp_of (eq_lst_nil xs)
theorem Nc.neTn (xs : List Int) : CmpR .NotEq (.tup (xs.map .int)) (.tup []) (!decide (xs = [])) := cmp_of (ne_tup_nil xs)
mutual
/-- no function within, and no list or tuple of more than 1000 -/
def D.nf : D → Bool
  | .fn _ => false
  | .rol _ => false
  | .tup xs => decide (xs.length ≤ 1000) && D.nfs xs
  | .lst xs => decide (xs.length ≤ 1000) && D.nfs xs
  | _ => true
def D.nfs : List D → Bool
  | [] => true
  | x :: xs => x.nf && D.nfs xs
end
theorem nfs_all : ∀ xs : List D, D.nfs xs = xs.all D.nf
  | [] => rfl
  | x :: xs => by
    show (x.nf && D.nfs xs) = _
    rw [nfs_all xs]; rfl
theorem nf_ty {d : D} (h : d.nf = true) : d.ty.isSome = true := by
  cases d <;> first | rfl | cases h
theorem nf_tup {xs : List D} (h : (D.tup xs).nf = true) : xs.length ≤ 1000 ∧ ∀ x ∈ xs, x.nf = true := by
  have h : (decide (xs.length ≤ 1000) && D.nfs xs) = true := h
  rw [Bool.and_eq_true, decide_eq_true_eq, nfs_all, List.all_eq_true] at h
  exact h
theorem nf_tup_of {xs : List D} (h1 : xs.length ≤ 1000) (h2 : ∀ x ∈ xs, x.nf = true) : (D.tup xs).nf = true := by
  show (decide (xs.length ≤ 1000) && D.nfs xs) = true
  rw [Bool.and_eq_true, decide_eq_true_eq, nfs_all, List.all_eq_true]
  exact ⟨h1, h2⟩
def wholeB : D → Bool
  | .int _ => true
  | _ => false
def btwB (a b : Int) : D → Bool
  | .int v => decide (a ≤ v) && decide (v ≤ b)
  | _ => false
def tupOfB (n : Int) : D → Bool
  | .tup xs => decide ((xs.length : Int) = n)
  | _ => false
def ixsB (n : Int) : D → Bool
  | .tup xs => xs.all (btwB 0 (n - 1))
  | _ => false
def D.asI : D → Int
  | .int v => v
  | _ => 0
/-- a road, whatever it is -/
def roadD (n : Int) : D → Bool
  | .tup [.int a, .int b] => (decide (0 ≤ a) && decide (a ≤ n - 1)) && (decide (0 ≤ b) && decide (b ≤ n - 1)) && !decide (a = b)
  | _ => false
def D.toP : D → Int × Int
  | .tup [.int a, .int b] => (a, b)
  | _ => (0, 0)
theorem roadD_p {n : Int} {d : D} (h : roadD n d = true) : pD d.toP = d ∧ 0 ≤ d.toP.1 ∧ d.toP.1 < n ∧ 0 ≤ d.toP.2 ∧ d.toP.2 < n ∧ d.toP.1 ≠ d.toP.2 := by
  unfold roadD at h
  split at h
  · simp only [Bool.and_eq_true, Bool.not_eq_true', decide_eq_true_eq, decide_eq_false_iff_not] at h
    obtain ⟨⟨⟨h1, h2⟩, h3, h4⟩, h5⟩ := h
    refine ⟨rfl, h1, ?_, h3, ?_, h5⟩
    · show _ < _; simp only [D.toP]; omega
    · show _ < _; simp only [D.toP]; omega
  · cases h
theorem roads_p {n : Int} {xs : List D} (h : xs.all (roadD n) = true) : (xs.map D.toP).map pD = xs ∧ ∀ r ∈ xs.map D.toP, 0 ≤ r.1 ∧ r.1 < n ∧ 0 ≤ r.2 ∧ r.2 < n ∧ r.1 ≠ r.2 := by
  rw [List.all_eq_true] at h
  refine ⟨?_, fun r hr => ?_⟩
  · rw [List.map_map]
    conv => rhs; rw [← List.map_id xs]
    exact List.map_congr_left fun x hx => (roadD_p (h x hx)).1
  · obtain ⟨d, hd, rfl⟩ := List.mem_map.mp hr
    exact (roadD_p (h d hd)).2
def roadsD (n : Int) : D → Bool
  | .tup xs => xs.all (roadD n) && risingB (xs.map D.toP)
  | _ => false
def boardB : D → Bool
  | .tup [.int n, .tup xs] => (decide (1 ≤ n) && decide (n ≤ 8)) && (xs.all (roadD n) && risingB (xs.map D.toP) && decide (((iterP n (xs.map D.toP) n.toNat).length : Int) = n))
  | _ => false
theorem tupOf2 {d : D} (h2 : tupOfB 2 d = true) : ∃ x y, d = .tup [x, y] := by
  cases d with
  | tup xs =>
    have h2 : decide ((xs.length : Int) = 2) = true := h2
    match xs, h2 with
    | [x, y], _ => exact ⟨x, y, rfl⟩
    | [], h => simp at h
    | [x], h => simp at h
    | x :: y :: z :: r, h => simp at h; omega
  | _ => cases h2
theorem Nc.eqLP (rs : List (Int × Int)) : CmpR .Eq (.lst (rs.map pD)) (.lst []) (decide (rs = [])) := cmp_of (by
  obtain ⟨j, e, h⟩ := eqR_pur (a := .lst (rs.map pD)) (b := .lst []) (purs_pD _) rfl (by show min (PyData.depthAll (D.pys (rs.map pD)) + 1) (0 + 1) ≤ 64; omega)
  show eqR _ _ = _
  rw [e]
  congr 1
  rw [Bool.eq_iff_iff, h, decide_eq_true_eq]
  constructor
  · intro q
    injection q with q
    exact List.map_eq_nil_iff.mp q
  · intro q
    rw [q]; rfl)
theorem Fx.co {P : Nat → Option Fd} {W d f k : Nat} {as : List Arg} {Post : R → List Arg → Prop} (h : Fx P W d f as Post) (hk : d ≤ k) : Co (callN P W k) f as Post fun _ _ _ => False := by
  obtain ⟨r, bs, e, p⟩ := h k hk
  unfold Co; rw [e]; exact p
theorem co_x {P : Nat → Option Fd} {W d f : Nat} {as : List Arg} {Post : R → List Arg → Prop} (h : Fy P W d f as Post fun _ _ _ => False) : Fx P W d f as Post := fun k hk => by
  have := h k hk
  unfold Co at this
  cases e : callN P W k f as with
  | ok a => rw [e] at this; exact ⟨a.1, a.2, rfl, this⟩
  | exc c d bs => rw [e] at this; exact this.elim
  | stuck => rw [e] at this; exact this.elim
end Cr
namespace Cr
open PySem L2
theorem br_EE {C : CallF} {ρ : Env} {a b : E} {k : Bool} {r : R} {Q : R → Env → Prop} {X : XQ} (h1 : k = true → WE C ρ a (fun r' ρ' => r' = r ∧ ρ' = ρ) X) (h2 : k = false → WE C ρ b (fun r' ρ' => r' = r ∧ ρ' = ρ) X) (q : Q r ρ) : Bra k (WE C ρ a Q X) (WE C ρ b Q X) := by
  refine ⟨fun e => ?_, fun e => ?_⟩
  · exact we_cut (h1 e) fun r ρ' h => by rw [h.1, h.2]; exact q
  · exact we_cut (h2 e) fun r ρ' h => by rw [h.1, h.2]; exact q
theorem perm_sorted_eq : ∀ {a b : List Int}, a.Perm b → a.Pairwise (· ≤ ·) → b.Pairwise (· ≤ ·) → a = b
  | [], b, h, _, _ => h.nil_eq
  | x :: a, [], h, _, _ => h.eq_nil
  | x :: a, y :: b, h, ha, hb => by
    obtain ⟨a1, a2⟩ := List.pairwise_cons.mp ha
    obtain ⟨b1, b2⟩ := List.pairwise_cons.mp hb
    have e : x = y := by
      have h1 : x ∈ y :: b := h.mem_iff.mp List.mem_cons_self
      have h2 : y ∈ x :: a := h.mem_iff.mpr List.mem_cons_self
      rcases List.mem_cons.mp h1 with h1 | h1
      · exact h1
      · rcases List.mem_cons.mp h2 with h2 | h2
        · exact h2.symm
        · have := a1 y h2; have := b1 x h1; omega
    subst e
    rw [perm_sorted_eq (List.perm_cons x |>.mp h) a2 b2]
theorem sortI_eqm {l m : List Int} (h : l.Perm m) (hm : m.Pairwise (· ≤ ·)) : sortI l = m := perm_sorted_eq ((sortI_perm l).trans h) (sortI_sorted l) hm
theorem ints_map : ∀ xs : List Int, D.ints (xs.map .int) = some xs
  | [] => rfl
  | x :: xs => by
    show (D.ints (xs.map .int)).map (x :: ·) = _
    rw [ints_map xs]; rfl
theorem Nk.sortL {xs ys : List Int} (h : sortI xs = ys) : BiR .sorted [.lst (xs.map .int)] (.fresh (ys.map .int)) := bi_of (by
  show sortedD [.lst (xs.map .int)] = _
  unfold sortedD
  simp only [D.seq?, ints_map]
  rw [h])
theorem Nk.sortT {xs ys : List Int} (h : sortI xs = ys) : BiR .sorted [.tup (xs.map .int)] (.fresh (ys.map .int)) := bi_of (by
  show sortedD [.tup (xs.map .int)] = _
  unfold sortedD
  simp only [D.seq?, ints_map]
  rw [h])
theorem nxt_sorted {rs : List (Int × Int)} (h : rs.Pairwise ltP) (p : Int) : (nxt rs p).Pairwise (· ≤ ·) := by
  unfold nxt
  refine List.pairwise_map.mpr ?_
  refine List.Pairwise.imp_of_mem (fun {a b} ha hb hab => ?_) (h.filter _)
  have e1 : a.1 = p := by simpa using (List.mem_filter.mp ha).2
  have e2 : b.1 = p := by simpa using (List.mem_filter.mp hb).2
  rcases hab with h | h <;> omega
theorem nxt_sort {rs : List (Int × Int)} (h : rs.Pairwise ltP) (p : Int) : sortI (nxt rs p) = nxt rs p := sortI_eqm (.refl _) (nxt_sorted h p)
theorem enumD_places {n : Int} (f : Int → D) : enumD 0 ((places n).map f) = (places n).map fun p => .tup [.int p, f p] := by
  rw [enumD_map]
  unfold places
  apply List.ext_getElem?
  intro i
  simp only [List.getElem?_map, List.getElem?_zipIdx, Option.map_map]
  by_cases h : i < n.toNat
  · simp [List.getElem?_range h]
  · simp [List.getElem?_eq_none (l := List.range n.toNat) (by simpa using h)]
theorem Nc.neSelf {d : D} (hp : d.pur = true) (hd : d.py.depth ≤ 64) : CmpR .NotEq d d false := cmp_of (by
  show (eqR d d).map (!·) = _
  rw [eq_self hp hd]; rfl)
theorem Nc.neSelfL (xs : List Int) : CmpR .NotEq (.lst (xs.map .int)) (.lst (xs.map .int)) false := Nc.neSelf (purs_ints xs) (by show PyData.depthAll (D.pys (xs.map .int)) + 1 ≤ 64; rw [depth_ints]; decide)
theorem bd_nf {n : Int} {rs : List (Int × Int)} (hl : rs.length ≤ 1000) : (bdD n rs).nf = true := by
  refine nf_tup_of (by simp) fun x hx => ?_
  simp only [List.mem_cons, List.not_mem_nil, or_false] at hx
  rcases hx with rfl | rfl
  · rfl
  · refine nf_tup_of (by simpa using hl) fun x hx => ?_
    obtain ⟨r, _, rfl⟩ := List.mem_map.mp hx
    rfl
theorem map_toP (rs : List (Int × Int)) : (rs.map pD).map D.toP = rs := by
  rw [List.map_map]
  conv => rhs; rw [← List.map_id rs]
  rfl
theorem bd_boardB {n : Int} {rs : List (Int × Int)} (h : IsBd n rs) : boardB (bdD n rs) = true := by
  show ((decide (1 ≤ n) && decide (n ≤ 8)) && ((rs.map pD).all (roadD n) && risingB ((rs.map pD).map D.toP) && decide (((iterP n ((rs.map pD).map D.toP) n.toNat).length : Int) = n))) = true
  have e := roads_of h
  rw [Bool.and_eq_true] at e
  rw [map_toP, e.2, iter_all h, decide_eq_true h.n1, decide_eq_true h.n8]
  have : (rs.map pD).all (roadD n) = true := by
    rw [List.all_map, ← e.1]
    congr 1
  rw [this]
  simp
theorem sms_all : ∀ xs : List D, D.sms xs = xs.all D.sm
  | [] => rfl
  | x :: xs => by
    show (x.sm && D.sms xs) = _
    rw [sms_all xs]; rfl
theorem sm_tup {xs : List D} (h1 : xs.length ≤ 1000) (h2 : ∀ x ∈ xs, x.sm = true) : (D.tup xs).sm = true := by
  show (decide (xs.length ≤ 1000) && D.sms xs) = true
  rw [decide_eq_true h1, sms_all, Bool.true_and, List.all_eq_true]
  exact h2
theorem dps_le {m : Nat} : ∀ {xs : List D}, (∀ x ∈ xs, x.dp ≤ m) → D.dps xs ≤ m
  | [], _ => Nat.zero_le _
  | x :: xs, h => by
    show max x.dp (D.dps xs) ≤ m
    have h1 := h x List.mem_cons_self
    have h2 := dps_le (xs := xs) fun y hy => h y (List.mem_cons_of_mem _ hy)
    omega
theorem dp_tup {m : Nat} {xs : List D} (h : ∀ x ∈ xs, x.dp ≤ m) : (D.tup xs).dp ≤ m + 1 := by
  show D.dps xs + 1 ≤ m + 1
  have := dps_le h
  omega
theorem pool_ok {p : Bool} {a b : Int} (ha : 0 ≤ a) : PoolOk [if p = true then .int a else .int 0, .int (b % 2147483647), .int 0] := by
  refine ⟨if p = true then a else 0, b % 2147483647, 0, ?_, ?_, Int.emod_nonneg _ (by decide), Int.emod_lt_of_pos _ (by decide), by decide⟩
  · cases p <;> rfl
  · cases p
    · exact Int.le_refl 0
    · exact ha
end Cr
namespace Cr
open PySem L2
theorem nxt_len (rs : List (Int × Int)) (p : Int) : (nxt rs p).length ≤ rs.length := by
  unfold nxt; rw [List.length_map]; exact List.length_filter_le _ _
theorem ends_len (n : Int) (rs : List (Int × Int)) : (endsP n rs).length ≤ n.toNat := by
  unfold endsP; rw [← places_len n]; exact List.length_filter_le _ _
theorem inner_len (n : Int) (rs : List (Int × Int)) : (innerP n rs).length ≤ n.toNat := by
  unfold innerP; rw [← places_len n]; exact List.length_filter_le _ _
theorem sm_map {α : Type} {f : α → D} {xs : List α} (hl : xs.length ≤ 1000) (h : ∀ x ∈ xs, (f x).sm = true) : (D.tup (xs.map f)).sm = true := sm_tup (by rw [List.length_map]; exact hl) fun y hy => by
  obtain ⟨x, hx, rfl⟩ := List.mem_map.mp hy; exact h x hx
theorem sm_nil : (D.tup []).sm = true := rfl
theorem sm_cons {x : D} {xs : List D} (h : x.sm = true) (ht : (D.tup xs).sm = true) (hl : xs.length < 1000) : (D.tup (x :: xs)).sm = true := by
  have ht : (decide (xs.length ≤ 1000) && D.sms xs) = true := ht
  rw [Bool.and_eq_true] at ht
  show (decide ((x :: xs).length ≤ 1000) && (x.sm && D.sms xs)) = true
  rw [ht.2, h, decide_eq_true (by rw [List.length_cons]; omega)]; rfl
theorem sm_int (i : Int) : (D.int i).sm = true := rfl
theorem sm_bl (b : Bool) : (D.bl b).sm = true := rfl
/-- depth -/
theorem dpk {d : D} {m k j : Nat} (hk : j ≤ k) (h : d.dp ≤ m) (hm : m + 1 ≤ j) : d.dp + 1 ≤ k := by omega
theorem dp_int {m : Nat} (i : Int) : (D.int i).dp ≤ m := Nat.zero_le _
theorem dp_bl {m : Nat} (i : Bool) : (D.bl i).dp ≤ m := Nat.zero_le _
theorem dp_nil {m : Nat} : (D.tup []).dp ≤ m + 1 := dp_tup (by simp)
theorem dp_cons {m : Nat} {x : D} {xs : List D} (h : x.dp ≤ m) (ht : (D.tup xs).dp ≤ m + 1) : (D.tup (x :: xs)).dp ≤ m + 1 := by
  have ht : D.dps xs + 1 ≤ m + 1 := ht
  show max x.dp (D.dps xs) + 1 ≤ m + 1
  omega
theorem dp_map {α : Type} {m : Nat} {f : α → D} {xs : List α} (h : ∀ x ∈ xs, (f x).dp ≤ m) : (D.tup (xs.map f)).dp ≤ m + 1 := dp_tup fun y hy => by
  obtain ⟨x, hx, rfl⟩ := List.mem_map.mp hy; exact h x hx
theorem Nc.neP (a b : Int × Int) : CmpR .NotEq (pD a) (pD b) (!decide (a = b)) := cmp_of (by
  obtain ⟨k, e, h⟩ := eqR_pur (a := pD a) (b := pD b) rfl rfl (by show min (max 0 (max 0 0) + 1) (max 0 (max 0 0) + 1) ≤ 64; decide)
  show (eqR (pD a) (pD b)).map (!·) = _
  rw [e]
  show some (!k) = _
  congr 2
  by_cases hx : a = b
  · rw [decide_eq_true hx]; exact h.mpr (by rw [hx])
  · rw [decide_eq_false hx]
    cases k with
    | false => rfl
    | true => exact absurd (pD_inj (h.mp rfl)) hx)
theorem Nc.eqP (a b : Int × Int) : CmpR .Eq (pD a) (pD b) (decide (a = b)) := cmp_of (by
  obtain ⟨k, e, h⟩ := eqR_pur (a := pD a) (b := pD b) rfl rfl (by show min (max 0 (max 0 0) + 1) (max 0 (max 0 0) + 1) ≤ 64; decide)
  show eqR (pD a) (pD b) = _
  rw [e]
  congr 1
  by_cases hx : a = b
  · rw [decide_eq_true hx]; exact h.mpr (by rw [hx])
  · rw [decide_eq_false hx]
    cases k with
    | false => rfl
    | true => exact absurd (pD_inj (h.mp rfl)) hx)
/-- a part of a law: it draws, and tells True -/
def TrueP (P : Nat → Option Fd) (W d f : Nat) : Prop := ∀ l, PoolOk l → Fy P W d f [.mut l] (fun r bs => ∃ l', PoolOk l' ∧ r = .val (.bl true) ∧ bs = [.mut l']) fun _ _ _ => False
theorem ck_T {P : Nat → Option Fd} {W d f k : Nat} {X : XQ} {ρ : Env} {Q : R → Env → Prop} {os : List Opd} {l : List D} (h : TrueP P W d f) (ha : ArgR ρ os [.mut l]) (hn : (nodupB (slotsOf os) && decide (tmps os ≤ 1)) = true) (hl : PoolOk l) (hk : d ≤ k)
    (q : ∀ l', PoolOk l' → ∃ ρ', BackR ρ os [.mut l'] ρ' ∧ Q (.val (.bl true)) ρ') : Ck (callN P W k) f os ρ Q X :=
  ck_q ha (h l hl k hk) hn fun r bs ⟨l', h1, h2, h3⟩ => by subst h2; subst h3; exact q l' h1
end Cr
namespace Cr
open PySem L2
/-- the first step at which a place is found -/
def firstAt (n : Int) (rs : List (Int × Int)) (p : Int) : Nat → Nat
  | 0 => 0
  | i + 1 => if p ∈ iterP n rs i then firstAt n rs p i else i + 1
theorem sub_len : ∀ {f l : List Int}, f.Nodup → (∀ x ∈ f, x ∈ l) → f.length ≤ l.length
  | [], l, _, _ => Nat.zero_le _
  | x :: f, l, nd, h => by
    obtain ⟨n1, n2⟩ := List.nodup_cons.mp nd
    have hx := h x List.mem_cons_self
    have := sub_len (f := f) (l := l.erase x) n2 fun y hy => (List.mem_erase_of_ne (fun e => n1 (by rw [← e]; exact hy))).mpr (h y (List.mem_cons_of_mem _ hy))
    rw [List.length_erase_of_mem hx] at this
    have := List.length_pos_of_mem hx
    rw [List.length_cons]; omega
theorem Nc.neLP (a b : List (Int × Int)) : CmpR .NotEq (.lst (a.map pD)) (.lst (b.map pD)) (!decide (a = b)) := cmp_of (by
  obtain ⟨k, e, h⟩ := eqR_pur (a := .lst (a.map pD)) (b := .lst (b.map pD)) (purs_pD _) (purs_pD _) (by show min (PyData.depthAll (D.pys (a.map pD)) + 1) _ ≤ 64; have := depth_pD a; omega)
  show (eqR (.lst (a.map pD)) (.lst (b.map pD))).map (!·) = _
  rw [e]
  show some (!k) = _
  congr 2
  have inj : a.map pD = b.map pD → a = b := fun q => by
    have := congrArg (List.map D.toP) q
    rwa [map_toP, map_toP] at this
  by_cases hx : a = b
  · rw [decide_eq_true hx]; exact h.mpr (by rw [hx])
  · rw [decide_eq_false hx]
    cases k with
    | false => rfl
    | true =>
      have := h.mp rfl
      injection this with this
      exact absurd (inj this) hx)
/-- few roads, if it is a pair with a tuple -/
def fewB : D → Bool
  | .tup [_, .tup xs] => decide (xs.length < 64)
  | _ => true
theorem Nl.take1 {α : Type} {g : α → D} {xs : List α} : SlcR (.lst (xs.map g)) none (some 1) (.fresh ((xs.take 1).map g)) := slc_of (by
  show some (R.fresh (cutL (xs.map g) none (some 1))) = _
  rw [cut1, List.map_take])
end Cr
namespace Cr
open PySem L2
def goodT (d : D) : Bool := d.nf && fewB d
def goodL (xs : List D) : Prop := ∀ x ∈ xs, goodT x = true
theorem Nc.nePn (rs : List (Int × Int)) : CmpR .NotEq (.tup (rs.map pD)) (.tup []) (!decide (rs = [])) := cmp_of (by
  obtain ⟨k, e, h⟩ := eqR_pur (a := .tup (rs.map pD)) (b := .tup []) (purs_pD _) rfl (by show min (PyData.depthAll (D.pys (rs.map pD)) + 1) (0 + 1) ≤ 64; omega)
  show (eqR (.tup (rs.map pD)) (.tup [])).map (!·) = _
  rw [e]
  show some (!k) = _
  congr 2
  rw [Bool.eq_iff_iff, h, decide_eq_true_eq]
  constructor
  · intro q
    injection q with q
    exact List.map_eq_nil_iff.mp q
  · intro q
    rw [q]; rfl)
theorem Nk.str {i : Int} (h : 0 ≤ i ∧ i < 1000) : BiR .str [.int i] (.val (.str (toString i : String))) := bi_of (by
  show (if i.natAbs.log2 < 1920 then some (R.val (.str (toString i : String))) else none) = _
  rw [if_pos]
  have : i.natAbs.log2 ≤ i.natAbs := Nat.log2_le_self _
  omega)
@[irreducible] def R1k (ρ : Env) (o : Opd) (Q : R → Env → Prop) : Prop := ∃ x r, resO ρ o = some x ∧ revD x = some r ∧ Q r ρ
theorem we_rev {C : CallF} {ρ : Env} {a : E} {Q : R → Env → Prop} {X : XQ} (h : WO C ρ a (fun o1 ρ1 => R1k ρ1 o1 Q) X) : WE C ρ (.rev a) Q X := by
  unfold WE
  refine one_rk (Rk.mono (wo_rk h) (fun o1 ρ1 h => ?_) fun _ _ _ q => q)
  unfold R1k at h
  exact h
theorem r1_t {ρ : Env} {o : Opd} {Q : R → Env → Prop} {xs : List D} (h : ResO ρ o (.tup xs)) (q : Q (.val (.tup xs.reverse)) ρ) : R1k ρ o Q := by
  unfold R1k; exact ⟨_, _, h.eq, rfl, q⟩
theorem r1_l {ρ : Env} {o : Opd} {Q : R → Env → Prop} {xs : List D} (h : ResO ρ o (.lst xs)) (q : Q (.fresh xs.reverse) ρ) : R1k ρ o Q := by
  unfold R1k; exact ⟨_, _, h.eq, rfl, q⟩
section
variable {n : Int} {rs : List (Int × Int)} (hl : rs.length ≤ 24)
include hl
end
end Cr
namespace Cr
open PySem L2
@[irreducible] def MdR (m : Md) (o : D) (ds : List D) (r : R) : Prop := mdD m o ds = some r
theorem md_of {m : Md} {o : D} {ds : List D} {r : R} (h : mdD m o ds = some r) : MdR m o ds r := by unfold MdR; exact h
theorem id_md {m : Md} {o : D} {ds : List D} {r : R} (h : MdR m o ds r) : MdR m o ds r := h
section
variable {C : CallF} {ρ ρ' : Env} {a e : E} {es : Es} {r : R} {d d0 : D} {o : Opd} {os : List Opd} {ds : List D} {m : Md} {Q : R → Env → Prop} {X : XQ} {n i : Nat}
@[irreducible] def Md2 (ρ : Env) (x : Opd) (k : Nat) (m : Md) (os : List Opd) (Q : R → Env → Prop) : Prop := ∃ d ds r, resO ρ x = some d ∧ d.seqK = k ∧ resOs ρ os = some ds ∧ mdD m d ds = some r ∧ Q r ρ
@[irreducible] def Md1 (C : CallF) (ρ : Env) (m : Md) (x : Opd) (es : Es) (Q : R → Env → Prop) (X : XQ) : Prop := ∃ d0, resO ρ x = some d0 ∧ d0.seqK ≠ 0 ∧ WOs C ρ es (fun os ρ2 => Md2 ρ2 x d0.seqK m os Q) X
theorem md1 (h1 : ResO ρ o d0) (hs : Nat.ble 1 d0.seqK = true) (h : WOs C ρ es (fun os ρ2 => Md2 ρ2 o d0.seqK m os Q) X) : Md1 C ρ m o es Q X := by
  unfold Md1
  exact ⟨d0, h1.eq, (fun z => by rw [z] at hs; cases hs), h⟩
theorem md2 {k : Nat} (h1 : ResO ρ o d) (hk : d.seqK = k) (h2 : ResOs ρ os ds) (h3 : MdR m d ds r) (q : Q r ρ) : Md2 ρ o k m os Q := by
  unfold Md2; unfold MdR at h3
  exact ⟨d, ds, r, h1.eq, hk, h2.eq, h3, q⟩
theorem we_md (h : WO C ρ a (fun x ρ1 => Md1 C ρ1 m x es Q X) X) : WE C ρ (.md m a es) Q X := by
  unfold WE; unfold WO at h
  refine Rk.bd (Rk.mono h (fun x ρ1 h => ?_) fun _ _ _ q => q)
  unfold Md1 at h
  obtain ⟨d0, h1, h2, h3⟩ := h
  simp only [h1, h2, if_false]
  unfold WOs at h3
  refine Rk.bd (Rk.mono h3 (fun os ρ2 h => ?_) fun _ _ _ q => q)
  unfold Md2 at h
  obtain ⟨d, ds, r, k1, k2, k3, k4, q⟩ := h
  simp only [k1, k3, k2, k4, if_true]
  exact q
theorem we_callv {f : Nat} (h1 : GetAt i (.val (.fn f)) ρ) (hf : Nat.blt f n = true) (h : WAs C ρ es (fun os ρ1 => Ck C f os ρ1 Q X) X) : WE C ρ (.callv n i es) Q X := by
  unfold WE
  have hf' : f < n := by
    have : Nat.ble (f + 1) n = true := hf
    exact Nat.le_of_ble_eq_true this
  show Rk (match ρ[i]? with
    | some (.val (.fn f)) => if f < n then (evAs C es ρ).bd fun (os, ρ1) => callR C f os ρ1 else .stuck
    | _ => .stuck) Q X
  rw [h1.eq]
  dsimp only
  rw [if_pos hf']
  unfold WAs at h
  refine Rk.bd (Rk.mono h (fun os ρ1 h => ?_) fun _ _ _ q => q)
  unfold Ck at h
  exact h
end
theorem flat_ints : ∀ xs : List Int, (xs.map D.int).all D.isFlat = true
  | [] => rfl
  | x :: xs => by
    show (true && (xs.map D.int).all D.isFlat) = true
    rw [flat_ints xs]; rfl
theorem idxOf_ints (v : Int) : ∀ xs : List Int, v ∈ xs → idxOfD (.int v) (xs.map .int) = some (xs.idxOf v)
  | [], h => by cases h
  | x :: xs, h => by
    have e : PyData.eqv (D.int x).py (D.int v).py = decide (x = v) := rfl
    unfold idxOfD
    rw [List.map_cons, List.findIdx?_cons, e, List.idxOf_cons]
    by_cases hx : x = v
    · subst hx
      simp
    · have hb : (x == v) = false := by simpa using hx
      rw [decide_eq_false hx, hb]
      simp only [Bool.false_eq_true, if_false, cond_false]
      have h' : v ∈ xs := by
        rcases List.mem_cons.mp h with h | h
        · exact absurd h.symm hx
        · exact h
      have ih := idxOf_ints v xs h'
      unfold idxOfD at ih
      rw [ih]; rfl
theorem index_ints {xs : List Int} {v : Int} (h : v ∈ xs) : indexD (xs.map .int) [.int v] = some (.val (.int (xs.idxOf v : Nat))) := by
  show (if (D.isFlat (.int v) && (xs.map D.int).all D.isFlat) = true then _ else _) = _
  rw [flat_ints, idxOf_ints v xs h]; rfl
theorem Nx.tup {xs : List Int} {v : Int} (h : v ∈ xs) : MdR .index (.tup (xs.map .int)) [.int v] (.val (.int (xs.idxOf v : Nat))) := md_of (index_ints h)
theorem Nx.lst {xs : List Int} {v : Int} (h : v ∈ xs) : MdR .index (.lst (xs.map .int)) [.int v] (.val (.int (xs.idxOf v : Nat))) := md_of (index_ints h)
theorem ded_nodup : ∀ (xs acc : List Int), (acc ++ xs).Nodup → dedI acc xs = acc ++ xs
  | [], acc, _ => by simp [dedI]
  | x :: xs, acc, h => by
    have hx : acc.any (· == x) = false := by
      rw [List.any_eq_false]
      intro y hy
      have := (List.nodup_append.mp h).2.2 y hy x List.mem_cons_self
      simpa using this
    unfold dedI
    rw [hx, if_neg (by decide), ded_nodup xs (acc ++ [x]) (by rw [List.append_assoc]; exact h), List.append_assoc]; rfl
theorem Nk.lenSetT {xs : List Int} (h : xs.Nodup) (hl : xs.length < 1000) : BiR .lenSet [.tup (xs.map .int)] (.val (.int (xs.length : Nat))) := bi_of (by
  show lenSetD [.tup (xs.map .int)] = _
  unfold lenSetD
  simp only [D.seq?, ints_map, if_pos hl]
  rw [ded_nodup xs [] (by simpa using h)]; rfl)
theorem Nk.gcd (a b : Int) : BiR .gcd [.int a, .int b] (.val (.int ((Nat.gcd a.natAbs b.natAbs : Nat) : Int))) := bi_of rfl
theorem Nc.neLn (xs : List Int) : CmpR .NotEq (.lst (xs.map .int)) (.lst []) (!decide (xs = [])) := cmp_of (by
  show (eqR (.lst (xs.map .int)) (.lst [])).map (!·) = _
  have := eq_lst_nil xs
  have e : eqR (.lst (xs.map .int)) (.lst []) = some (decide (xs = [])) := this
  rw [e]; rfl)
theorem Ni.lastI {xs : List Int} (h : xs ≠ []) : IdxR (.lst (xs.map .int)) (.int (-1)) (.int (xs.getLastD 0)) := idx_of (by
  show atI (xs.map D.int) (-1) = _
  have e : xs = xs.dropLast ++ [xs.getLastD 0] := by
    have := List.dropLast_concat_getLast h
    rw [List.getLastD_eq_getLast?, List.getLast?_eq_some_getLast h]
    exact this.symm
  conv => lhs; rw [e]
  rw [List.map_append]
  exact atI_last _ _)
theorem Ni.headI {xs : List Int} (h : xs ≠ []) : IdxR (.lst (xs.map .int)) (.int 0) (.int (xs.headD 0)) := idx_of (by
  cases xs with
  | nil => exact absurd rfl h
  | cons x xs =>
    show atI (D.int x :: xs.map D.int) 0 = some (D.int x)
    exact atI_nat (xs := D.int x :: xs.map D.int) (j := 0) rfl)
theorem cut_drop {α : Type} (xs : List α) (j : Nat) : cutL xs (some (j : Int)) none = xs.drop j := by
  unfold cutL
  have e1 : HT.sIx xs.length 0 (some (j : Int)) = min j xs.length := by
    unfold HT.sIx
    simp only
    split <;> omega
  have e2 : HT.sIx xs.length xs.length none = xs.length := rfl
  rw [e1, e2]
  by_cases h : j ≤ xs.length
  · rw [Nat.min_eq_left h, List.take_of_length_le (by rw [List.length_drop]; omega)]
  · rw [Nat.min_eq_right (by omega), List.drop_of_length_le (Nat.le_refl _), List.drop_of_length_le (by omega)]; simp
theorem cut_last {α : Type} (xs : List α) : cutL xs none (some (-1)) = xs.dropLast := by
  unfold cutL
  have e1 : HT.sIx xs.length 0 none = 0 := rfl
  have e2 : HT.sIx xs.length xs.length (some (-1)) = xs.length - 1 := by
    unfold HT.sIx
    simp only
    split <;> omega
  rw [e1, e2, List.drop_zero, Nat.sub_zero, List.dropLast_eq_take]
theorem Nl.dropL {α : Type} {g : α → D} {xs : List α} {j : Nat} : SlcR (.lst (xs.map g)) (some (j : Int)) none (.fresh ((xs.drop j).map g)) := slc_of (by
  show some (R.fresh (cutL (xs.map g) (some (j : Int)) none)) = _
  rw [cut_drop, List.map_drop])
theorem Nl.dropT {α : Type} {g : α → D} {xs : List α} {j : Nat} : SlcR (.tup (xs.map g)) (some (j : Int)) none (.val (.tup ((xs.drop j).map g))) := slc_of (by
  show some (R.val (.tup (cutL (xs.map g) (some (j : Int)) none))) = _
  rw [cut_drop, List.map_drop])
theorem Nl.take1T {α : Type} {g : α → D} {xs : List α} : SlcR (.tup (xs.map g)) none (some 1) (.val (.tup ((xs.take 1).map g))) := slc_of (by
  show some (R.val (.tup (cutL (xs.map g) none (some 1)))) = _
  rw [cut1, List.map_take])
theorem Nl.initL {α : Type} {g : α → D} {xs : List α} : SlcR (.lst (xs.map g)) none (some (-1)) (.fresh ((xs.dropLast).map g)) := slc_of (by
  show some (R.fresh (cutL (xs.map g) none (some (-1)))) = _
  rw [cut_last, List.map_dropLast])
def lastO (rs : List (Int × Int)) (left : List Int) : List Int := left.filter fun p => !((nxt rs p).any fun q => decide (q ∈ left))
theorem mem_last {rs : List (Int × Int)} {left : List Int} {p : Int} : p ∈ lastO rs left ↔ p ∈ left ∧ ∀ q, (p, q) ∈ rs → q ∉ left := by
  unfold lastO
  rw [List.mem_filter, Bool.not_eq_true', List.any_eq_false]
  refine and_congr_right fun _ => ?_
  constructor
  · intro h q hq hl
    exact h q (mem_nxt.mpr hq) (decide_eq_true hl)
  · intro h q hq hh
    exact h q (mem_nxt.mp hq) (of_decide_eq_true hh)
def peel (rs : List (Int × Int)) : Nat → List Int → List Int → List Int × List Int
  | 0, left, order => (left, order)
  | k + 1, left, order => if lastO rs left = [] then (left, order) else peel rs k (left.filter fun p => !decide (p ∈ lastO rs left)) (lastO rs left ++ order)
structure PeelI (n : Int) (rs : List (Int × Int)) (left order : List Int) : Prop where
  perm : (order ++ left).Perm (places n)
  cl : ∀ p ∈ order, ∀ q, (p, q) ∈ rs → q ∈ order
  pw : order.Pairwise fun a b => (b, a) ∉ rs
section
variable {n : Int} {rs : List (Int × Int)} {left order : List Int}
theorem PeelI.nd (h : PeelI n rs left order) : (order ++ left).Nodup := h.perm.nodup_iff.mpr (places_nodup n)
theorem PeelI.start : PeelI n rs (places n) [] := ⟨by simp, fun p hp => (by cases hp), .nil⟩
theorem filter_mem_last : left.filter (fun p => decide (p ∈ lastO rs left)) = lastO rs left := by
  conv => rhs; unfold lastO
  refine List.filter_congr fun p hp => ?_
  rw [Bool.eq_iff_iff, decide_eq_true_eq]
  unfold lastO
  rw [List.mem_filter]
  exact ⟨fun h => h.2, fun h => ⟨hp, h⟩⟩
theorem PeelI.step (h : PeelI n rs left order) (hg : ∀ r ∈ rs, 0 ≤ r.2 ∧ r.2 < n) : PeelI n rs (left.filter fun p => !decide (p ∈ lastO rs left)) (lastO rs left ++ order) := by
  have nd := h.nd
  have dj : ∀ a ∈ order, ∀ b ∈ left, a ≠ b := (List.nodup_append.mp nd).2.2
  refine ⟨?_, fun p hp q hq => ?_, ?_⟩
  · have e1 : (lastO rs left ++ left.filter fun p => !decide (p ∈ lastO rs left)).Perm left := by
      have := List.filter_append_perm (fun p => decide (p ∈ lastO rs left)) left
      rw [filter_mem_last] at this
      exact this
    have e2 : (lastO rs left ++ order ++ left.filter fun p => !decide (p ∈ lastO rs left)).Perm (order ++ (lastO rs left ++ left.filter fun p => !decide (p ∈ lastO rs left))) := by
      rw [← List.append_assoc]
      exact List.Perm.append_right _ List.perm_append_comm
    exact (e2.trans (List.Perm.append_left _ e1)).trans h.perm
  · rcases List.mem_append.mp hp with hp | hp
    · have hl := (mem_last.mp hp).2 q hq
      have hqp : q ∈ places n := mem_places.mpr (hg _ hq)
      rcases List.mem_append.mp (h.perm.mem_iff.mpr hqp) with z | z
      · exact List.mem_append_right _ z
      · exact absurd z hl
    · exact List.mem_append_right _ (h.cl p hp q hq)
  · refine List.pairwise_append.mpr ⟨?_, h.pw, fun a ha b hb hr => ?_⟩
    · refine List.pairwise_of_forall_mem_list fun a ha b hb hr => ?_
      exact (mem_last.mp hb).2 a hr (mem_last.mp ha).1
    · exact dj a (h.cl b hb a hr) a (mem_last.mp ha).1 rfl
theorem filter_less (hn : lastO rs left ≠ []) : (left.filter fun p => !decide (p ∈ lastO rs left)).length < left.length := by
  obtain ⟨x, hx⟩ := List.exists_mem_of_ne_nil _ hn
  have hxl := (mem_last.mp hx).1
  have e := List.filter_append_perm (fun p => decide (p ∈ lastO rs left)) left
  have l := e.length_eq
  rw [List.length_append, filter_mem_last] at l
  have : 0 < (lastO rs left).length := List.length_pos_iff.mpr hn
  omega
theorem peel_ok (hg : ∀ r ∈ rs, 0 ≤ r.2 ∧ r.2 < n) : ∀ (k : Nat) (left order : List Int), left.length ≤ k → PeelI n rs left order → PeelI n rs (peel rs k left order).1 (peel rs k left order).2 ∧ lastO rs (peel rs k left order).1 = []
  | 0, left, order, hl, h => by
    have : left = [] := List.length_eq_zero_iff.mp (by omega)
    subst this
    exact ⟨h, rfl⟩
  | k + 1, left, order, hl, h => by
    unfold peel
    split
    · exact ⟨h, by assumption⟩
    · rename_i hne
      have := filter_less hne
      exact peel_ok hg k _ _ (by omega) (h.step hg)
def leftO (n : Int) (rs : List (Int × Int)) : List Int × List Int := peel rs n.toNat (places n) []
theorem leftO_ok (hg : ∀ r ∈ rs, 0 ≤ r.2 ∧ r.2 < n) : PeelI n rs (leftO n rs).1 (leftO n rs).2 ∧ lastO rs (leftO n rs).1 = [] := peel_ok hg _ _ _ (by rw [places_len]; exact Nat.le_refl _) PeelI.start
/-- each of what is left has a next one in it -/
theorem left_next (h : lastO rs left = []) {p : Int} (hp : p ∈ left) : ∃ q, (p, q) ∈ rs ∧ q ∈ left := by
  refine Classical.byContradiction fun z => ?_
  have : p ∈ lastO rs left := mem_last.mpr ⟨hp, fun q hq hl => z ⟨q, hq, hl⟩⟩
  rw [h] at this
  cases this
/-- an order of all places: each road leads to a later one -/
theorem order_ok (hg : ∀ r ∈ rs, 0 ≤ r.1 ∧ r.1 < n ∧ 0 ≤ r.2 ∧ r.2 < n ∧ r.1 ≠ r.2) (h : PeelI n rs [] order) : order.Nodup ∧ (order.length : Int) = (n.toNat : Nat) ∧ (∀ p, p ∈ order ↔ 0 ≤ p ∧ p < n) ∧ ∀ r ∈ rs, order.idxOf r.1 < order.idxOf r.2 := by
  have pm := h.perm
  rw [List.append_nil] at pm
  have nd := pm.nodup_iff.mpr (places_nodup n)
  have mem : ∀ p, p ∈ order ↔ 0 ≤ p ∧ p < n := fun p => (pm.mem_iff).trans mem_places
  refine ⟨nd, by rw [pm.length_eq, places_len], mem, fun r hr => ?_⟩
  obtain ⟨g1, g2, g3, g4, g5⟩ := hg r hr
  have m1 := (mem r.1).mpr ⟨g1, g2⟩
  have m2 := (mem r.2).mpr ⟨g3, g4⟩
  have l1 := List.idxOf_lt_length_of_mem m1
  have l2 := List.idxOf_lt_length_of_mem m2
  have e1 : order[order.idxOf r.1]'l1 = r.1 := List.getElem_idxOf l1
  have e2 : order[order.idxOf r.2]'l2 = r.2 := List.getElem_idxOf l2
  rcases Nat.lt_trichotomy (order.idxOf r.1) (order.idxOf r.2) with z | z | z
  · exact z
  · exfalso
    apply g5
    rw [← e1, ← e2]
    congr 1
  · have := List.pairwise_iff_getElem.mp h.pw _ _ l2 l1 z
    rw [e1, e2] at this
    exact absurd hr this
end
def nextIn (rs : List (Int × Int)) (left : List Int) (p : Int) : Int := ((nxt rs p).filter fun q => decide (q ∈ left)).headD 0
def goOn (rs : List (Int × Int)) (left : List Int) : Nat → List Int → List Int
  | 0, f => f
  | k + 1, f => if f.getLastD 0 ∈ f.dropLast then f else goOn rs left k (f ++ [nextIn rs left (f.getLastD 0)])
structure GoI (rs : List (Int × Int)) (left f : List Int) : Prop where
  ne : f ≠ []
  nd : f.dropLast.Nodup
  mem : ∀ x ∈ f, x ∈ left
  ch : ∀ i x y, f[i]? = some x → f[i + 1]? = some y → (x, y) ∈ rs
section
variable {n : Int} {rs : List (Int × Int)} {left f : List Int}
theorem nextIn_ok (h : lastO rs left = []) {p : Int} (hp : p ∈ left) : (p, nextIn rs left p) ∈ rs ∧ nextIn rs left p ∈ left := by
  obtain ⟨q, h1, h2⟩ := left_next h hp
  have hm : q ∈ (nxt rs p).filter fun q => decide (q ∈ left) := List.mem_filter.mpr ⟨mem_nxt.mpr h1, by simpa using h2⟩
  unfold nextIn
  cases e : (nxt rs p).filter fun q => decide (q ∈ left) with
  | nil => rw [e] at hm; cases hm
  | cons y ys =>
    have : y ∈ (nxt rs p).filter fun q => decide (q ∈ left) := by rw [e]; exact List.mem_cons_self
    obtain ⟨m1, m2⟩ := List.mem_filter.mp this
    exact ⟨mem_nxt.mp m1, by simpa using m2⟩
theorem last_split (h : f ≠ []) : f = f.dropLast ++ [f.getLastD 0] := by
  have := List.dropLast_concat_getLast h
  rw [List.getLastD_eq_getLast?, List.getLast?_eq_some_getLast h]
  exact this.symm
theorem GoI.last_mem (h : GoI rs left f) : f.getLastD 0 ∈ left := by
  refine h.mem _ ?_
  rw [last_split h.ne]
  simp
theorem GoI.step (h : GoI rs left f) (hl : lastO rs left = []) (hx : f.getLastD 0 ∉ f.dropLast) : GoI rs left (f ++ [nextIn rs left (f.getLastD 0)]) := by
  have k := nextIn_ok hl h.last_mem
  have sp := last_split h.ne
  refine ⟨by simp, ?_, fun x hx => ?_, fun i x y h1 h2 => ?_⟩
  · rw [List.dropLast_concat]
    have q : (f.dropLast ++ [f.getLastD 0]).Nodup := List.nodup_append.mpr ⟨h.nd, by simp, fun a ha b hb => by
      rw [List.mem_singleton] at hb; subst hb
      exact fun z => hx (z ▸ ha)⟩
    rw [← sp] at q
    exact q
  · rcases List.mem_append.mp hx with hx | hx
    · exact h.mem x hx
    · rw [List.mem_singleton] at hx; subst hx; exact k.2
  · by_cases hi : i + 1 < f.length
    · rw [List.getElem?_append_left (by omega)] at h1 h2
      exact h.ch i x y h1 h2
    · have hlen : i + 1 < (f ++ [nextIn rs left (f.getLastD 0)]).length := (List.getElem?_eq_some_iff.mp h2).1
      rw [List.length_append, List.length_singleton] at hlen
      have hi' : i + 1 = f.length := by omega
      rw [List.getElem?_append_right (by omega), hi', Nat.sub_self] at h2
      rw [List.getElem?_append_left (by omega)] at h1
      have e2 : nextIn rs left (f.getLastD 0) = y := by simpa using h2
      have e1 : f.getLastD 0 = x := by
        rw [List.getLastD_eq_getLast?, List.getLast?_eq_getElem?, show f.length - 1 = i by omega, h1]; rfl
      rw [← e1, ← e2]; exact k.1
theorem nd_len {l m : List Int} (hd : l.Nodup) (hs : ∀ x ∈ l, x ∈ m) : l.length ≤ m.length := sub_len hd hs
theorem GoI.len (h : GoI rs left f) : f.length ≤ left.length + 1 := by
  have a := nd_len h.nd fun x hx => h.mem x (List.dropLast_subset _ hx)
  rw [List.length_dropLast] at a
  omega
theorem goOn_ok (hl : lastO rs left = []) : ∀ (k : Nat) (f : List Int), left.length + 1 ≤ k + f.length → GoI rs left f → GoI rs left (goOn rs left k f) ∧ (goOn rs left k f).getLastD 0 ∈ (goOn rs left k f).dropLast
  | 0, f, hk, h => by
    refine ⟨h, Classical.byContradiction fun hx => ?_⟩
    have := (h.step hl hx).len
    rw [List.length_append, List.length_singleton] at this
    omega
  | k + 1, f, hk, h => by
    unfold goOn
    split
    · exact ⟨h, by assumption⟩
    · rename_i hx
      exact goOn_ok hl k _ (by rw [List.length_append, List.length_singleton]; omega) (h.step hl hx)
/-- the ring in it -/
def ringIn (f : List Int) : List Int := f.drop (f.idxOf (f.getLastD 0) + 1)
structure IsRing (rs : List (Int × Int)) (r : List Int) : Prop where
  two : 2 ≤ r.length
  nd : r.Nodup
  ch : ∀ p ∈ r.zip (r.drop 1 ++ r.take 1), p ∈ rs
theorem ring_ok (h : GoI rs left f) (hx : f.getLastD 0 ∈ f.dropLast) (hne : ∀ r ∈ rs, r.1 ≠ r.2) : IsRing rs (ringIn f) := by
  have sp := last_split h.ne
  have hl0 : f.dropLast.length = f.length - 1 := List.length_dropLast
  have hi1 : f.idxOf (f.getLastD 0) = f.dropLast.idxOf (f.getLastD 0) := by
    conv => lhs; rw [sp]
    rw [List.getLastD_concat, List.idxOf_append, if_pos hx]
  have hi2 : f.dropLast.idxOf (f.getLastD 0) < f.dropLast.length := List.idxOf_lt_length_of_mem hx
  generalize hi : f.dropLast.idxOf (f.getLastD 0) = i at hi1 hi2
  have ei : f.dropLast[i]? = some (f.getLastD 0) := by
    rw [List.getElem?_eq_getElem hi2]
    congr 1
    subst hi
    exact List.getElem_idxOf hi2
  have ei' : f[i]? = some (f.getLastD 0) := by
    conv => lhs; rw [sp]
    rw [List.getElem?_append_left hi2]; exact ei
  have elast : f[f.length - 1]? = some (f.getLastD 0) := by
    rw [List.getLastD_eq_getLast?, ← List.getLast?_eq_getElem?, List.getLast?_eq_some_getLast h.ne]; rfl
  have hr : ringIn f = f.drop (i + 1) := by unfold ringIn; rw [hi1]
  have hrl : (ringIn f).length = f.length - (i + 1) := by rw [hr, List.length_drop]
  have two : 2 ≤ (ringIn f).length := by
    rw [hrl]
    refine Classical.byContradiction fun z => ?_
    have e : f.length - 1 = i + 1 := by omega
    rw [e] at elast
    exact hne _ (h.ch i _ _ ei' elast) rfl
  have get : ∀ j, (ringIn f)[j]? = f[i + 1 + j]? := fun j => by rw [hr, List.getElem?_drop]
  refine ⟨two, ?_, fun p hp => ?_⟩
  · rw [hr]
    have e : f.drop (i + 1) = f.dropLast.drop (i + 1) ++ [f.getLastD 0] := by
      conv => lhs; rw [sp]
      rw [List.drop_append_of_le_length (by omega)]
    rw [e, List.nodup_append]
    refine ⟨h.nd.sublist (List.drop_sublist _ _), by simp, fun a ha b hb => ?_⟩
    rw [List.mem_singleton] at hb; subst hb
    intro z
    subst z
    obtain ⟨j, hj⟩ := List.getElem?_of_mem ha
    rw [List.getElem?_drop] at hj
    obtain ⟨l1, e1⟩ := List.getElem?_eq_some_iff.mp hj
    obtain ⟨l2, e2⟩ := List.getElem?_eq_some_iff.mp ei
    exact List.pairwise_iff_getElem.mp h.nd _ _ l2 l1 (by omega) (e2.trans e1.symm)
  · obtain ⟨j, hj⟩ := List.getElem?_of_mem hp
    rw [List.getElem?_zip_eq_some] at hj
    obtain ⟨j1, j2⟩ := hj
    obtain ⟨a, b⟩ := p
    dsimp only at j1 j2
    have hjl : j < (ringIn f).length := (List.getElem?_eq_some_iff.mp j1).1
    by_cases hj2 : j + 1 < (ringIn f).length
    · rw [List.getElem?_append_left (by rw [List.length_drop]; omega), List.getElem?_drop, get] at j2
      rw [get] at j1
      exact h.ch (i + 1 + j) a b j1 (by rw [← j2]; congr 1; omega)
    · have hj3 : j = (ringIn f).length - 1 := by omega
      rw [List.getElem?_append_right (by rw [List.length_drop]; omega), List.length_drop, hj3, Nat.sub_self, List.getElem?_take, if_pos (by decide), get, Nat.add_zero] at j2
      have ea : a = f.getLastD 0 := by
        rw [get, hj3, hrl, show i + 1 + (f.length - (i + 1) - 1) = f.length - 1 by omega, elast] at j1
        exact (Option.some.inj j1).symm
      subst ea
      exact h.ch i _ _ ei' j2
theorem ring_mem (h : GoI rs left f) {x : Int} (hx : x ∈ ringIn f) : x ∈ left := h.mem x (List.mem_of_mem_drop hx)
end
/-- what a_ring tells -/
def ringO (n : Int) (rs : List (Int × Int)) : List Int := ringIn (goOn rs (leftO n rs).1 9 [(leftO n rs).1.headD 0])
section
variable {n : Int} {rs : List (Int × Int)}
theorem PeelI.mem {left order : List Int} (h : PeelI n rs left order) {x : Int} (hx : x ∈ left) : 0 ≤ x ∧ x < n := mem_places.mp (h.perm.mem_iff.mp (List.mem_append_right _ hx))
theorem PeelI.len {left order : List Int} (h : PeelI n rs left order) : left.length ≤ n.toNat := by
  have := h.perm.length_eq
  rw [List.length_append, places_len] at this
  omega
theorem ringO_ok (hB : IsBd n rs) (hne : (leftO n rs).1 ≠ []) : IsRing rs (ringO n rs) ∧ ∀ x ∈ ringO n rs, 0 ≤ x ∧ x < n := by
  obtain ⟨h1, h2⟩ := leftO_ok (n := n) (rs := rs) fun r hr => ⟨(hB.rg r hr).2.2.1, (hB.rg r hr).2.2.2.1⟩
  have hl := h1.len
  have h8 := hB.n8
  have g0 : GoI rs (leftO n rs).1 [(leftO n rs).1.headD 0] := ⟨by simp, by simp, fun x hx => by
    rw [List.mem_singleton] at hx
    subst hx
    cases e : (leftO n rs).1 with
    | nil => exact absurd e hne
    | cons y ys => exact List.mem_cons_self, fun i x y a b => by
    have := (List.getElem?_eq_some_iff.mp b).1
    simp at this⟩
  obtain ⟨k1, k2⟩ := goOn_ok h2 9 _ (by rw [List.length_singleton]; omega) g0
  exact ⟨ring_ok k1 k2 fun r hr => (hB.rg r hr).2.2.2.2, fun x hx => h1.mem (ring_mem k1 hx)⟩
/-- places to which nothing leads, by the law's own taking away -/
def freeO (rs : List (Int × Int)) (left : List Int) : List Int := left.filter fun p => !(rs.any fun r => decide (r.2 = p) && decide (r.1 ∈ left))
theorem mem_free {left : List Int} {p : Int} : p ∈ freeO rs left ↔ p ∈ left ∧ ∀ q, (q, p) ∈ rs → q ∉ left := by
  unfold freeO
  rw [List.mem_filter, Bool.not_eq_true', List.any_eq_false]
  refine and_congr_right fun _ => ?_
  constructor
  · intro h q hq hl
    exact h (q, p) hq (by simpa using hl)
  · intro h b hq hh
    obtain ⟨q, q2⟩ := b
    simp only [Bool.and_eq_true, decide_eq_true_eq] at hh
    obtain ⟨rfl, h2⟩ := hh
    exact h q hq h2
/-- without rings there is always such a place -/
theorem free_some (hB : IsBd n rs) (he : (leftO n rs).1 = []) {left : List Int} (hs : ∀ x ∈ left, 0 ≤ x ∧ x < n) (hne : left ≠ []) : freeO rs left ≠ [] := by
  obtain ⟨h1, _⟩ := leftO_ok (n := n) (rs := rs) fun r hr => ⟨(hB.rg r hr).2.2.1, (hB.rg r hr).2.2.2.1⟩
  rw [he] at h1
  obtain ⟨_, _, _, k⟩ := order_ok hB.rg h1
  have : ∃ x ∈ left, ∀ y ∈ left, (leftO n rs).2.idxOf x ≤ (leftO n rs).2.idxOf y := by
    generalize (leftO n rs).2 = o
    clear k h1 he hs
    induction left with
    | nil => exact absurd rfl hne
    | cons a l ih =>
      by_cases hl : l = []
      · subst hl
        exact ⟨a, List.mem_cons_self, fun y hy => by rw [List.mem_singleton] at hy; subst hy; exact Nat.le_refl _⟩
      · obtain ⟨x, hx, hm⟩ := ih hl
        by_cases c : o.idxOf a ≤ o.idxOf x
        · exact ⟨a, List.mem_cons_self, fun y hy => by
            rcases List.mem_cons.mp hy with rfl | hy
            · exact Nat.le_refl _
            · exact Nat.le_trans c (hm y hy)⟩
        · exact ⟨x, List.mem_cons_of_mem _ hx, fun y hy => by
            rcases List.mem_cons.mp hy with rfl | hy
            · omega
            · exact hm y hy⟩
  obtain ⟨x, hx, hm⟩ := this
  have : x ∈ freeO rs left := mem_free.mpr ⟨hx, fun q hq hl => by
    have a := k _ hq
    have b := hm q hl
    dsimp only at a
    omega⟩
  exact List.ne_nil_of_mem this
/-- with one: something that leads on stays -/
structure StayI (rs : List (Int × Int)) (L left : List Int) : Prop where
  ne : ∃ x, x ∈ left ∧ x ∈ L
  cl : ∀ x, x ∈ left → x ∈ L → ∃ q, (x, q) ∈ rs ∧ q ∈ left ∧ q ∈ L
theorem StayI.step {L left : List Int} (h : StayI rs L left) (hne : ∀ r ∈ rs, r.1 ≠ r.2) : StayI rs L (left.filter fun p => !decide (p ∈ (freeO rs left).take 1)) := by
  cases ef : freeO rs left with
  | nil =>
    have : left.filter (fun p => !decide (p ∈ ([] : List Int).take 1)) = left := List.filter_eq_self.mpr fun x _ => by simp
    rw [this]; exact h
  | cons y ys =>
    have hy : y ∈ freeO rs left := by rw [ef]; exact List.mem_cons_self
    obtain ⟨y1, y2⟩ := mem_free.mp hy
    have mm : ∀ x, x ∈ left.filter (fun p => !decide (p ∈ (y :: ys).take 1)) ↔ x ∈ left ∧ x ≠ y := fun x => by
      rw [List.mem_filter]
      simp
    refine ⟨?_, fun x hx hL => ?_⟩
    · obtain ⟨x, h1, h2⟩ := h.ne
      by_cases e : x = y
      · subst e
        obtain ⟨q, q1, q2, q3⟩ := h.cl x h1 h2
        exact ⟨q, (mm q).mpr ⟨q2, fun z => hne _ q1 z.symm⟩, q3⟩
      · exact ⟨x, (mm x).mpr ⟨h1, e⟩, h2⟩
    · obtain ⟨h1, h2⟩ := (mm x).mp hx
      obtain ⟨q, q1, q2, q3⟩ := h.cl x h1 hL
      exact ⟨q, q1, (mm q).mpr ⟨q2, fun z => y2 x (z ▸ q1) h1⟩, q3⟩
theorem take_less {left : List Int} (nd : left.Nodup) (hne : freeO rs left ≠ []) : (left.filter fun p => !decide (p ∈ (freeO rs left).take 1)).length + 1 = left.length := by
  cases ef : freeO rs left with
  | nil => exact absurd ef hne
  | cons y ys =>
    have hy : y ∈ left := (mem_free.mp (by rw [ef]; exact List.mem_cons_self)).1
    have e : left.filter (fun p => !decide (p ∈ (y :: ys).take 1)) = left.erase y := by
      rw [nd.erase_eq_filter]
      refine List.filter_congr fun x _ => ?_
      rw [Bool.eq_iff_iff]
      simp [bne]
    rw [e, List.length_erase_of_mem hy]
    have := List.length_pos_of_mem hy
    omega
end
end Cr
namespace Lw
open PySem PySem.Spec PyProof.Rows L2
abbrev prg : Program := PySem.Challenge.pw_bidboards_k04_whole_rings_and_orders
def top (i : Nat) : Stmt := prg.main.body.getD i (.Pass ⟨0, 0, 0, 0⟩)
def tb0 : Cr.Tab := ⟨"is_whole", top 1, ["value"], ["value"], []⟩
def tb1 : Cr.Tab := ⟨"is_between", top 2, ["value", "low", "high"], ["value", "low", "high"], []⟩
def tb2 : Cr.Tab := ⟨"is_tuple_of", top 3, ["value", "many"], ["value", "many"], []⟩
def tb3 : Cr.Tab := ⟨"are_indexes", top 4, ["many", "value", "each"], ["many", "value"], []⟩
def tb4 : Cr.Tab := ⟨"are_rising", top 5, ["value", "index"], ["value"], []⟩
def tb5 : Cr.Tab := ⟨"is_road", top 10, ["many", "value"], ["many", "value"], []⟩
def tb6 : Cr.Tab := ⟨"are_roads", top 11, ["many", "value", "road"], ["many", "value"], []⟩
def tb7 : Cr.Tab := ⟨"is_board_by", top 12, ["value"], ["value"], []⟩
def tb8 : Cr.Tab := ⟨"places_of", top 13, ["board"], ["board"], []⟩
def tb9 : Cr.Tab := ⟨"next_places_by", top 14, ["board", "place", "one", "two"], ["board", "place"], []⟩
def tb10 : Cr.Tab := ⟨"ends_by", top 15, ["board", "place"], ["board"], []⟩
def tb11 : Cr.Tab := ⟨"with_those_ahead", top 16, ["board", "found", "ahead", "one", "two", "place"], ["board", "found"], []⟩
def tb12 : Cr.Tab := ⟨"do_all_end", top 17, ["board", "found", "_"], ["board"], []⟩
def tb13 : Cr.Tab := ⟨"last_ones", top 18, ["board", "left", "place", "two"], ["board", "left"], []⟩
def tb14 : Cr.Tab := ⟨"left_in_rings", top 19, ["board", "left", "order", "last", "place"], ["board"], []⟩
def tb15 : Cr.Tab := ⟨"an_order_by", top 20, ["board", "left", "order"], ["board"], []⟩
def tb16 : Cr.Tab := ⟨"a_ring_by", top 21, ["board", "left", "_", "found", "two"], ["board"], ["found"]⟩
def tb17 : Cr.Tab := ⟨"check_board", top 27, ["value"], ["value"], []⟩
def tb18 : Cr.Tab := ⟨"check_place", top 28, ["board", "value"], ["board", "value"], []⟩
def tb19 : Cr.Tab := ⟨"check_board_place", top 29, ["board", "place"], ["board", "place"], []⟩
def tb20 : Cr.Tab := ⟨"next_places", top 31, ["board", "place"], ["board", "place"], []⟩
def tb21 : Cr.Tab := ⟨"a_ring", top 32, ["board"], ["board"], []⟩
def tb22 : Cr.Tab := ⟨"an_order", top 33, ["board"], ["board"], []⟩
def tb23 : Cr.Tab := ⟨"_law_pool", top 35, ["script", "lap", "cell", "stirred", "each"], ["script", "lap"], []⟩
def tb24 : Cr.Tab := ⟨"_law_below", top 36, ["pool", "many", "stirred", "figure"], ["pool", "many"], ["pool"]⟩
def tb25 : Cr.Tab := ⟨"_law_one", top 37, ["pool", "some"], ["pool", "some"], ["pool"]⟩
def tb26 : Cr.Tab := ⟨"_law_order", top 38, ["pool", "some", "left", "found", "lap"], ["pool", "some"], ["pool", "left", "found"]⟩
def tb27 : Cr.Tab := ⟨"_law_board", top 39, ["pool", "most", "many", "order", "far", "roads", "at", "turn", "other"], ["pool", "most"], ["pool", "roads"]⟩
def tb28 : Cr.Tab := ⟨"_law_is_number", top 40, ["thing", "low", "high"], ["thing", "low", "high"], []⟩
def tb29 : Cr.Tab := ⟨"_law_same", top 41, ["told", "due", "key", "x", "y"], ["told", "due"], []⟩
def tb30 : Cr.Tab := ⟨"_law_has_ring", top 42, ["board", "left", "lap", "free", "place", "here", "to"], ["board"], []⟩
def tb31 : Cr.Tab := ⟨"_law_is_places", top 43, ["board", "thing", "place"], ["board", "thing"], []⟩
def tb32 : Cr.Tab := ⟨"_law_right", top 44, ["pool", "lap", "loop", "board", "due", "ring", "order", "one", "two", "here", "to"], ["pool"], ["pool"]⟩
def tb33 : Cr.Tab := ⟨"law", top 45, ["script", "lap"], ["script"], []⟩
def tabs : List Cr.Tab := [tb0, tb1, tb2, tb3, tb4, tb5, tb6, tb7, tb8, tb9, tb10, tb11, tb12, tb13, tb14, tb15, tb16, tb17, tb18, tb19, tb20, tb21, tb22, tb23, tb24, tb25, tb26, tb27, tb28, tb29, tb30, tb31, tb32, tb33]
def glL : List (Str × Cr.Gd) := [
  (("is_whole" : Str), .fn 0 [false] ["value"]),
  (("is_between" : Str), .fn 1 [false, false, false] ["value", "low", "high"]),
  (("is_tuple_of" : Str), .fn 2 [false, false] ["value", "many"]),
  (("are_indexes" : Str), .fn 3 [false, false] ["many", "value"]),
  (("are_rising" : Str), .fn 4 [false] ["value"]),
  (("is_road" : Str), .fn 5 [false, false] ["many", "value"]),
  (("are_roads" : Str), .fn 6 [false, false] ["many", "value"]),
  (("is_board_by" : Str), .fn 7 [false] ["value"]),
  (("places_of" : Str), .fn 8 [false] ["board"]),
  (("next_places_by" : Str), .fn 9 [false, false] ["board", "place"]),
  (("ends_by" : Str), .fn 10 [false] ["board"]),
  (("with_those_ahead" : Str), .fn 11 [false, false] ["board", "found"]),
  (("do_all_end" : Str), .fn 12 [false] ["board"]),
  (("last_ones" : Str), .fn 13 [false, false] ["board", "left"]),
  (("left_in_rings" : Str), .fn 14 [false] ["board"]),
  (("an_order_by" : Str), .fn 15 [false] ["board"]),
  (("a_ring_by" : Str), .fn 16 [false] ["board"]),
  (("check_board" : Str), .fn 17 [false] ["value"]),
  (("check_place" : Str), .fn 18 [false, false] ["board", "value"]),
  (("check_board_place" : Str), .fn 19 [false, false] ["board", "place"]),
  (("next_places" : Str), .fn 20 [false, false] ["board", "place"]),
  (("a_ring" : Str), .fn 21 [false] ["board"]),
  (("an_order" : Str), .fn 22 [false] ["board"]),
  (("_law_pool" : Str), .fn 23 [false, false] ["script", "lap"]),
  (("_law_below" : Str), .fn 24 [true, false] ["pool", "many"]),
  (("_law_one" : Str), .fn 25 [true, false] ["pool", "some"]),
  (("_law_order" : Str), .fn 26 [true, false] ["pool", "some"]),
  (("_law_board" : Str), .fn 27 [true, false] ["pool", "most"]),
  (("_law_is_number" : Str), .fn 28 [false, false, false] ["thing", "low", "high"]),
  (("_law_same" : Str), .fn 29 [false, false] ["told", "due"]),
  (("_law_has_ring" : Str), .fn 30 [false] ["board"]),
  (("_law_is_places" : Str), .fn 31 [false, false] ["board", "thing"]),
  (("_law_right" : Str), .fn 32 [true] ["pool"]),
  (("law" : Str), .fn 33 [false] ["script"]),
  (("MOST_PLACES" : Str), .con (.int 8)),
  (("PLACES" : Str), .con (.int 0)),
  (("ROADS" : Str), .con (.int 1)),
  (("ValueError" : Str), .free),
  (("all" : Str), .free),
  (("list" : Str), .free),
  (("tuple" : Str), .free),
  (("range" : Str), .free),
  (("isinstance" : Str), .free),
  (("bool" : Str), .free),
  (("int" : Str), .free),
  (("str" : Str), .free),
  (("dict" : Str), .free),
  (("len" : Str), .free),
  (("divmod" : Str), .free),
  (("min" : Str), .free),
  (("sorted" : Str), .free),
  (("any" : Str), .free),
  (("set" : Str), .free),
  (("abs" : Str), .free),
  (("zip" : Str), .free),
  (("max" : Str), .free)]
abbrev gl (x : Str) : Option Cr.Gd := glL.lookup x
def kw : List (Nat × Nat × List Str) := [(21, 0, ["board"]), (22, 0, ["board"])]
def Wn : Nat := 40000
abbrev P : Nat → Option Cr.Fd := Cr.progOf gl kw tabs
open Cr
abbrev i_is_whole : Nat := 0
abbrev i_is_between : Nat := 1
abbrev i_is_tuple_of : Nat := 2
abbrev i_are_indexes : Nat := 3
abbrev i_are_rising : Nat := 4
abbrev i_is_road : Nat := 5
abbrev i_are_roads : Nat := 6
abbrev i_is_board_by : Nat := 7
abbrev i_places_of : Nat := 8
abbrev i_next_places_by : Nat := 9
abbrev i_ends_by : Nat := 10
abbrev i_with_those_ahead : Nat := 11
abbrev i_do_all_end : Nat := 12
abbrev i_last_ones : Nat := 13
abbrev i_left_in_rings : Nat := 14
abbrev i_an_order_by : Nat := 15
abbrev i_a_ring_by : Nat := 16
abbrev i_check_board : Nat := 17
abbrev i_check_place : Nat := 18
abbrev i_check_board_place : Nat := 19
abbrev i_next_places : Nat := 20
abbrev i_a_ring : Nat := 21
abbrev i_an_order : Nat := 22
abbrev i__law_pool : Nat := 23
abbrev i__law_below : Nat := 24
abbrev i__law_one : Nat := 25
abbrev i__law_order : Nat := 26
abbrev i__law_board : Nat := 27
abbrev i__law_is_number : Nat := 28
abbrev i__law_same : Nat := 29
abbrev i__law_has_ring : Nat := 30
abbrev i__law_is_places : Nat := 31
abbrev i__law_right : Nat := 32
abbrev i_law : Nat := 33
def d_is_whole : Nat := 1
def d_is_between : Nat := 2
def d_is_tuple_of : Nat := 1
def d_are_indexes : Nat := 3
def d_are_rising : Nat := 1
def d_is_road : Nat := 4
def d_are_roads : Nat := 5
def d_is_board_by : Nat := 6
def d_places_of : Nat := 1
def d_next_places_by : Nat := 1
def d_ends_by : Nat := 2
def d_with_those_ahead : Nat := 2
def d_do_all_end : Nat := 3
def d_last_ones : Nat := 2
def d_left_in_rings : Nat := 3
def d_an_order_by : Nat := 4
def d_a_ring_by : Nat := 4
def d_check_board : Nat := 7
def d_check_place : Nat := 3
def d_check_board_place : Nat := 8
def d_next_places : Nat := 9
def d_a_ring : Nat := 8
def d_an_order : Nat := 8
def d__law_pool : Nat := 1
def d__law_below : Nat := 1
def d__law_one : Nat := 2
def d__law_order : Nat := 2
def d__law_board : Nat := 3
def d__law_is_number : Nat := 1
def d__law_same : Nat := 1
def d__law_has_ring : Nat := 1
def d__law_is_places : Nat := 2
def d__law_right : Nat := 10
def d_law : Nat := 11
def f_is_whole : Fd := ⟨1, 1, (.cons (.ret (.and (.bi (.isi "int") (.cons (.var 0) .nil)) (.not (.bi (.isi "bool") (.cons (.var 0) .nil))))) .nil)⟩
theorem pr_is_whole : P i_is_whole = some f_is_whole := by kernel_rfl
def f_is_between : Fd := ⟨3, 3, (.cons (.ret (.and (.call i_is_whole (.cons (.var 0) .nil)) (.chn .LtE .LtE (.var 1) (.var 0) (.var 2)))) .nil)⟩
theorem pr_is_between : P i_is_between = some f_is_between := by kernel_rfl
def f_is_tuple_of : Fd := ⟨2, 2, (.cons (.ret (.and (.bi (.isi "tuple") (.cons (.var 0) .nil)) (.cmp .Eq (.bi .len (.cons (.var 0) .nil)) (.var 1)))) .nil)⟩
theorem pr_is_tuple_of : P i_is_tuple_of = some f_is_tuple_of := by kernel_rfl
def f_are_indexes : Fd := ⟨2, 3, (.cons (.ret (.and (.bi (.isi "tuple") (.cons (.var 1) .nil)) (.bi .all (.cons (.lc (.call i_is_between (.cons (.var 2) (.cons (.cst (.int 0)) (.cons (.bin .Sub (.var 0) (.cst (.int 1))) .nil)))) (.name 2) (.seq (.var 1)) .nop [2]) .nil)))) .nil)⟩
theorem pr_are_indexes : P i_are_indexes = some f_are_indexes := by kernel_rfl
def f_are_rising : Fd := ⟨1, 2, (.cons (.ret (.bi .all (.cons (.lc (.cmp .Lt (.idx (.var 0) (.bin .Sub (.var 1) (.cst (.int 1)))) (.idx (.var 0) (.var 1))) (.name 1) (.rng2 (.cst (.int 1)) (.bi .len (.cons (.var 0) .nil))) .nop [1]) .nil))) .nil)⟩
theorem pr_are_rising : P i_are_rising = some f_are_rising := by kernel_rfl
def f_is_road : Fd := ⟨2, 2, (.cons (.ret (.and (.call i_is_tuple_of (.cons (.var 1) (.cons (.cst (.int 2)) .nil))) (.and (.call i_are_indexes (.cons (.var 0) (.cons (.var 1) .nil))) (.cmp .NotEq (.idx (.var 1) (.cst (.int 0))) (.idx (.var 1) (.cst (.int 1))))))) .nil)⟩
theorem pr_is_road : P i_is_road = some f_is_road := by kernel_rfl
def f_are_roads : Fd := ⟨2, 3, (.cons (.ret (.and (.bi (.isi "tuple") (.cons (.var 1) .nil)) (.and (.bi .all (.cons (.lc (.call i_is_road (.cons (.var 0) (.cons (.var 2) .nil))) (.name 2) (.seq (.var 1)) .nop [2]) .nil)) (.call i_are_rising (.cons (.var 1) .nil))))) .nil)⟩
theorem pr_are_roads : P i_are_roads = some f_are_roads := by kernel_rfl
def f_is_board_by : Fd := ⟨1, 1, (.cons (.ife (.or (.not (.call i_is_tuple_of (.cons (.var 0) (.cons (.cst (.int 2)) .nil)))) (.not (.call i_is_between (.cons (.idx (.var 0) (.glo "PLACES" (.int 0))) (.cons (.cst (.int 1)) (.cons (.glo "MOST_PLACES" (.int 8)) .nil)))))) (.cons (.ret (.cst (.bl false))) .nil) .nil) (.cons (.ret (.and (.call i_are_roads (.cons (.idx (.var 0) (.glo "PLACES" (.int 0))) (.cons (.idx (.var 0) (.glo "ROADS" (.int 1))) .nil))) (.call i_do_all_end (.cons (.var 0) .nil)))) .nil))⟩
theorem pr_is_board_by : P i_is_board_by = some f_is_board_by := by kernel_rfl
def f_places_of : Fd := ⟨1, 1, (.cons (.ret (.bi .lrange1 (.cons (.idx (.var 0) (.glo "PLACES" (.int 0))) .nil))) .nil)⟩
theorem pr_places_of : P i_places_of = some f_places_of := by kernel_rfl
def f_next_places_by : Fd := ⟨2, 4, (.cons (.ret (.bi .tuple (.cons (.lc (.var 3) (.tup [(.name 2), (.name 3)]) (.seq (.idx (.var 0) (.glo "ROADS" (.int 1)))) (.cmp .Eq (.var 2) (.var 1)) [2, 3]) .nil))) .nil)⟩
theorem pr_next_places_by : P i_next_places_by = some f_next_places_by := by kernel_rfl
def f_ends_by : Fd := ⟨1, 2, (.cons (.ret (.bi .tuple (.cons (.lc (.var 1) (.name 1) (.seq (.call i_places_of (.cons (.var 0) .nil))) (.cmp .Eq (.call i_next_places_by (.cons (.var 0) (.cons (.var 1) .nil))) (.tup .nil)) [1]) .nil))) .nil)⟩
theorem pr_ends_by : P i_ends_by = some f_ends_by := by kernel_rfl
def f_with_those_ahead : Fd := ⟨2, 6, (.cons (.set 2 false (.lc (.var 3) (.tup [(.name 3), (.name 4)]) (.seq (.idx (.var 0) (.glo "ROADS" (.int 1)))) (.cmp .In (.var 4) (.var 1)) [3, 4])) (.cons (.ret (.lc (.var 5) (.name 5) (.seq (.call i_places_of (.cons (.var 0) .nil))) (.or (.cmp .In (.var 5) (.var 1)) (.cmp .In (.var 5) (.var 2))) [5])) .nil))⟩
theorem pr_with_those_ahead : P i_with_those_ahead = some f_with_those_ahead := by kernel_rfl
def f_do_all_end : Fd := ⟨1, 3, (.cons (.set 1 false (.bi .list (.cons (.call i_ends_by (.cons (.var 0) .nil)) .nil))) (.cons (.for (.name 2) (.seq (.call i_places_of (.cons (.var 0) .nil))) (.cons (.set 1 false (.call i_with_those_ahead (.cons (.var 0) (.cons (.var 1) .nil)))) .nil)) (.cons (.ret (.cmp .Eq (.bi .len (.cons (.var 1) .nil)) (.idx (.var 0) (.glo "PLACES" (.int 0))))) .nil)))⟩
theorem pr_do_all_end : P i_do_all_end = some f_do_all_end := by kernel_rfl
def f_last_ones : Fd := ⟨2, 4, (.cons (.ret (.lc (.var 2) (.name 2) (.seq (.var 1)) (.not (.bi .any (.cons (.lc (.cmp .In (.var 3) (.var 1)) (.name 3) (.seq (.call i_next_places_by (.cons (.var 0) (.cons (.var 2) .nil)))) .nop [3]) .nil))) [2])) .nil)⟩
theorem pr_last_ones : P i_last_ones = some f_last_ones := by kernel_rfl
def f_left_in_rings : Fd := ⟨1, 5, (.cons (.set2 1 2 false false (.call i_places_of (.cons (.var 0) .nil)) (.tup .nil)) (.cons (.set 3 false (.call i_last_ones (.cons (.var 0) (.cons (.var 1) .nil)))) (.cons (.whl (.cmp .NotEq (.var 3) (.lst .nil)) (.cons (.set 2 false (.bin .Add (.bi .tuple (.cons (.var 3) .nil)) (.var 2))) (.cons (.set 1 false (.lc (.var 4) (.name 4) (.seq (.var 1)) (.cmp .NotIn (.var 4) (.var 3)) [4])) (.cons (.set 3 false (.call i_last_ones (.cons (.var 0) (.cons (.var 1) .nil)))) .nil)))) (.cons (.ret (.tup (.cons (.var 1) (.cons (.var 2) .nil)))) .nil))))⟩
theorem pr_left_in_rings : P i_left_in_rings = some f_left_in_rings := by kernel_rfl
def f_an_order_by : Fd := ⟨1, 3, (.cons (.asg (.tup [(.name 1), (.name 2)]) (.call i_left_in_rings (.cons (.var 0) .nil))) (.cons (.ret (.ife (.cmp .Eq (.var 1) (.lst .nil)) (.var 2) (.cst .non))) .nil))⟩
theorem pr_an_order_by : P i_an_order_by = some f_an_order_by := by kernel_rfl
def f_a_ring_by : Fd := ⟨1, 5, (.cons (.asg (.tup [(.name 1), (.name 2)]) (.call i_left_in_rings (.cons (.var 0) .nil))) (.cons (.ife (.cmp .Eq (.var 1) (.lst .nil)) (.cons (.ret (.cst .non)) .nil) .nil) (.cons (.set 3 true (.lst (.cons (.idx (.var 1) (.cst (.int 0))) .nil))) (.cons (.whl (.cmp .NotIn (.idx (.var 3) (.neg (.cst (.int 1)))) (.slc (.var 3) .nop (.neg (.cst (.int 1))))) (.cons (.exp (.mo .append 3 (.cons (.idx (.lc (.var 4) (.name 4) (.seq (.call i_next_places_by (.cons (.var 0) (.cons (.idx (.var 3) (.neg (.cst (.int 1)))) .nil)))) (.cmp .In (.var 4) (.var 1)) [4]) (.cst (.int 0))) .nil))) .nil)) (.cons (.ret (.bi .tuple (.cons (.slc (.var 3) (.bin .Add (.md .index (.var 3) (.cons (.idx (.var 3) (.neg (.cst (.int 1)))) .nil)) (.cst (.int 1))) .nop) .nil))) .nil)))))⟩
theorem pr_a_ring_by : P i_a_ring_by = some f_a_ring_by := by kernel_rfl
def f_check_board : Fd := ⟨1, 1, (.cons (.ife (.not (.call i_is_board_by (.cons (.var 0) .nil))) (.cons (.exp .bad) .nil) .nil) .nil)⟩
theorem pr_check_board : P i_check_board = some f_check_board := by kernel_rfl
def f_check_place : Fd := ⟨2, 2, (.cons (.ife (.not (.call i_is_between (.cons (.var 1) (.cons (.cst (.int 0)) (.cons (.bin .Sub (.bi .len (.cons (.call i_places_of (.cons (.var 0) .nil)) .nil)) (.cst (.int 1))) .nil))))) (.cons (.exp .bad) .nil) .nil) .nil)⟩
theorem pr_check_place : P i_check_place = some f_check_place := by kernel_rfl
def f_check_board_place : Fd := ⟨2, 2, (.cons (.exp (.call i_check_board (.cons (.var 0) .nil))) (.cons (.exp (.call i_check_place (.cons (.var 0) (.cons (.var 1) .nil)))) .nil))⟩
theorem pr_check_board_place : P i_check_board_place = some f_check_board_place := by kernel_rfl
def f_next_places : Fd := ⟨2, 2, (.cons (.exp (.call i_check_board_place (.cons (.var 0) (.cons (.var 1) .nil)))) (.cons (.ret (.call i_next_places_by (.cons (.var 0) (.cons (.var 1) .nil)))) .nil))⟩
theorem pr_next_places : P i_next_places = some f_next_places := by kernel_rfl
def f_a_ring : Fd := ⟨1, 1, (.cons (.exp (.call i_check_board (.cons (.var 0) .nil))) (.cons (.ret (.call i_a_ring_by (.cons (.var 0) .nil))) .nil))⟩
theorem pr_a_ring : P i_a_ring = some f_a_ring := by kernel_rfl
def f_an_order : Fd := ⟨1, 1, (.cons (.exp (.call i_check_board (.cons (.var 0) .nil))) (.cons (.ret (.call i_an_order_by (.cons (.var 0) .nil))) .nil))⟩
theorem pr_an_order : P i_an_order = some f_an_order := by kernel_rfl
def f__law_pool : Fd := ⟨2, 5, (.cons (.set 2 false (.ife (.cmp .Lt (.var 1) (.bi .len (.cons (.var 0) .nil))) (.bi .int (.cons (.idx (.var 0) (.var 1)) .nil)) (.bin .Add (.bin .Mult (.cst (.int 4231)) (.var 1)) (.cst (.int 867))))) (.cons (.set 3 false (.bin .Add (.cst (.int 42829)) (.bin .Mult (.cst (.int 9413)) (.var 1)))) (.cons (.for (.name 4) (.seq (.slc (.var 0) .nop (.cst (.int 12)))) (.cons (.set 3 false (.bin .Mod (.bi .int (.cons (.bin .Add (.bin .Add (.bin .Mult (.var 3) (.cst (.int 51447))) (.bin .Mod (.bi .int (.cons (.var 4) .nil)) (.cst (.int 2147483587)))) (.cst (.int 15))) .nil)) (.cst (.int 2147483647)))) .nil)) (.cons (.set 3 false (.bin .Mod (.bi .int (.cons (.bin .Add (.bin .Add (.bin .Mult (.var 3) (.cst (.int 85))) (.bin .Mult (.bin .Mod (.bi .int (.cons (.var 2) .nil)) (.cst (.int 2147483587))) (.cst (.int 20261)))) (.cst (.int 11))) .nil)) (.cst (.int 2147483647)))) (.cons (.ret (.lst (.cons (.ife (.or (.cmp .Lt (.var 2) (.cst (.int 0))) (.cmp .GtE (.var 2) (.bin .Pow (.cst (.int 10)) (.cst (.int 15))))) (.bin .Mod (.bi .int (.cons (.bi .abs (.cons (.var 2) .nil)) .nil)) (.bin .Pow (.cst (.int 10)) (.cst (.int 60)))) (.cst (.int 0))) (.cons (.var 3) (.cons (.cst (.int 0)) .nil))))) .nil)))))⟩
theorem pr__law_pool : P i__law_pool = some f__law_pool := by kernel_rfl
def f__law_below : Fd := ⟨2, 4, (.cons (.ife (.cmp .Gt (.idx (.var 0) (.cst (.int 0))) (.cst (.int 0))) (.cons (.asg (.tup [(.sub 0 0), (.name 3)]) (.bi .divmod (.cons (.idx (.var 0) (.cst (.int 0))) (.cons (.var 1) .nil)))) (.cons (.ret (.var 3)) .nil)) .nil) (.cons (.asg (.sub 0 2) (.bin .Add (.idx (.var 0) (.cst (.int 2))) (.cst (.int 1)))) (.cons (.set 2 false (.bin .Mod (.bi .int (.cons (.bin .Add (.bin .Add (.bin .Mult (.idx (.var 0) (.cst (.int 1))) (.cst (.int 37517))) (.bin .Mult (.cst (.int 7623)) (.idx (.var 0) (.cst (.int 2))))) (.cst (.int 71))) .nil)) (.cst (.int 2147483563)))) (.cons (.asg (.sub 0 1) (.bin .Mod (.bi .int (.cons (.bin .Add (.bin .Mult (.var 2) (.bin .Add (.bin .Mod (.bi .int (.cons (.var 2) .nil)) (.cst (.int 3989))) (.cst (.int 18849)))) (.idx (.var 0) (.cst (.int 2)))) .nil)) (.cst (.int 2147483563)))) (.cons (.ret (.bin .Mod (.bi .int (.cons (.bin .FloorDiv (.idx (.var 0) (.cst (.int 1))) (.cst (.int 359))) .nil)) (.var 1))) .nil)))))⟩
theorem pr__law_below : P i__law_below = some f__law_below := by kernel_rfl
def f__law_one : Fd := ⟨2, 2, (.cons (.ret (.idx (.var 1) (.call i__law_below (.cons (.mref 0) (.cons (.bi .len (.cons (.var 1) .nil)) .nil))))) .nil)⟩
theorem pr__law_one : P i__law_one = some f__law_one := by kernel_rfl
def f__law_order : Fd := ⟨2, 5, (.cons (.set2 2 3 true true (.bi .list (.cons (.var 1) .nil)) (.lst .nil)) (.cons (.for (.name 4) (.rng1 (.bi .len (.cons (.var 2) .nil))) (.cons (.exp (.mo .append 3 (.cons (.mo .popAt 2 (.cons (.call i__law_below (.cons (.mref 0) (.cons (.bi .len (.cons (.var 2) .nil)) .nil))) .nil)) .nil))) .nil)) (.cons (.ret (.var 3)) .nil)))⟩
theorem pr__law_order : P i__law_order = some f__law_order := by kernel_rfl
def f__law_board : Fd := ⟨2, 9, (.cons (.set 2 false (.bin .Add (.cst (.int 1)) (.call i__law_below (.cons (.mref 0) (.cons (.var 1) .nil))))) (.cons (.set 3 false (.call i__law_order (.cons (.mref 0) (.cons (.bi .lrange1 (.cons (.var 2) .nil)) .nil)))) (.cons (.set 4 false (.bin .Add (.cst (.int 1)) (.call i__law_below (.cons (.mref 0) (.cons (.bi .min2 (.cons (.cst (.int 3)) (.cons (.var 2) .nil))) .nil))))) (.cons (.set 5 true (.lst .nil)) (.cons (.for (.name 6) (.rng2 (.var 4) (.var 2)) (.cons (.exp (.mo .append 5 (.cons (.tup (.cons (.idx (.var 3) (.var 6)) (.cons (.call i__law_one (.cons (.mref 0) (.cons (.slc (.var 3) .nop (.var 6)) .nil))) .nil))) .nil))) (.cons (.for (.name 7) (.rng1 (.call i__law_below (.cons (.mref 0) (.cons (.cst (.int 3)) .nil)))) (.cons (.set 8 false (.call i__law_below (.cons (.mref 0) (.cons (.var 2) .nil)))) (.cons (.set 5 true (.bin .Add (.var 5) (.ife (.cmp .NotEq (.var 8) (.idx (.var 3) (.var 6))) (.lst (.cons (.tup (.cons (.idx (.var 3) (.var 6)) (.cons (.var 8) .nil))) .nil)) (.lst .nil)))) .nil))) .nil))) (.cons (.ret (.tup (.cons (.var 2) (.cons (.bi .tuple (.cons (.bi .sortedSet (.cons (.var 5) .nil)) .nil)) .nil)))) .nil))))))⟩
theorem pr__law_board : P i__law_board = some f__law_board := by kernel_rfl
def f__law_is_number : Fd := ⟨3, 3, (.cons (.ret (.and (.bi (.isi "int") (.cons (.var 0) .nil)) (.and (.not (.bi (.isi "bool") (.cons (.var 0) .nil))) (.chn .LtE .LtE (.var 1) (.var 0) (.var 2))))) .nil)⟩
theorem pr__law_is_number : P i__law_is_number = some f__law_is_number := by kernel_rfl
def f__law_same : Fd := ⟨2, 5, (.cons (.ife (.cmp .Is (.var 1) (.cst .non)) (.cons (.ret (.cmp .Is (.var 0) (.cst .non))) .nil) .nil) (.cons (.ife (.bi (.isi "bool") (.cons (.var 1) .nil)) (.cons (.ret (.and (.bi (.isi "bool") (.cons (.var 0) .nil)) (.cmp .Eq (.var 0) (.var 1)))) .nil) .nil) (.cons (.ife (.bi (.isi "int") (.cons (.var 1) .nil)) (.cons (.ret (.and (.bi (.isi "int") (.cons (.var 0) .nil)) (.and (.not (.bi (.isi "bool") (.cons (.var 0) .nil))) (.cmp .Eq (.var 0) (.var 1))))) .nil) .nil) (.cons (.ife (.bi (.isi "str") (.cons (.var 1) .nil)) (.cons (.ret (.and (.bi (.isi "str") (.cons (.var 0) .nil)) (.cmp .Eq (.var 0) (.var 1)))) .nil) .nil) (.cons (.ife (.bi (.isi "dict") (.cons (.var 1) .nil)) (.cons (.ife (.or (.not (.bi (.isi "dict") (.cons (.var 0) .nil))) (.cmp .NotEq (.bi .len (.cons (.var 0) .nil)) (.bi .len (.cons (.var 1) .nil)))) (.cons (.ret (.cst (.bl false))) .nil) .nil) (.cons (.ret (.bi .all (.cons (.lc (.and (.cmp .In (.var 2) (.var 0)) (.call i__law_same (.cons (.idx (.var 0) (.var 2)) (.cons (.idx (.var 1) (.var 2)) .nil)))) (.name 2) (.seq (.var 1)) .nop [2]) .nil))) .nil)) .nil) (.cons (.ife (.or (.cmp .NotEq (.bi (.isi "tuple") (.cons (.var 1) .nil)) (.bi (.isi "tuple") (.cons (.var 0) .nil))) (.cmp .NotEq (.bi (.isi "list") (.cons (.var 1) .nil)) (.bi (.isi "list") (.cons (.var 0) .nil)))) (.cons (.ret (.cst (.bl false))) .nil) .nil) (.cons (.ret (.and (.cmp .Eq (.bi .len (.cons (.var 0) .nil)) (.bi .len (.cons (.var 1) .nil))) (.bi .all (.cons (.lc (.call i__law_same (.cons (.var 3) (.cons (.var 4) .nil))) (.tup [(.name 3), (.name 4)]) (.zip (.var 0) (.var 1)) .nop [3, 4]) .nil)))) .nil)))))))⟩
theorem pr__law_same : P i__law_same = some f__law_same := by kernel_rfl
def f__law_has_ring : Fd := ⟨1, 7, (.cons (.set 1 false (.bi .lrange1 (.cons (.idx (.var 0) (.cst (.int 0))) .nil))) (.cons (.for (.name 2) (.rng1 (.idx (.var 0) (.cst (.int 0)))) (.cons (.set 3 false (.lc (.var 4) (.name 4) (.seq (.var 1)) (.not (.bi .any (.cons (.lc (.and (.cmp .Eq (.var 6) (.var 4)) (.cmp .In (.var 5) (.var 1))) (.tup [(.name 5), (.name 6)]) (.seq (.idx (.var 0) (.cst (.int 1)))) .nop [5, 6]) .nil))) [4])) (.cons (.set 1 false (.lc (.var 4) (.name 4) (.seq (.var 1)) (.cmp .NotIn (.var 4) (.slc (.var 3) .nop (.cst (.int 1)))) [4])) (.cons (.ife (.cmp .Eq (.var 3) (.lst .nil)) (.cons (.ret (.cst (.bl true))) .nil) .nil) .nil)))) (.cons (.ret (.cst (.bl false))) .nil)))⟩
theorem pr__law_has_ring : P i__law_has_ring = some f__law_has_ring := by kernel_rfl
def f__law_is_places : Fd := ⟨2, 3, (.cons (.ret (.and (.bi (.isi "tuple") (.cons (.var 1) .nil)) (.and (.bi .all (.cons (.lc (.call i__law_is_number (.cons (.var 2) (.cons (.cst (.int 0)) (.cons (.bin .Sub (.idx (.var 0) (.cst (.int 0))) (.cst (.int 1))) .nil)))) (.name 2) (.seq (.var 1)) .nop [2]) .nil)) (.cmp .Eq (.bi .lenSet (.cons (.var 1) .nil)) (.bi .len (.cons (.var 1) .nil)))))) .nil)⟩
theorem pr__law_is_places : P i__law_is_places = some f__law_is_places := by kernel_rfl
def f__law_right : Fd := ⟨1, 11, (.cons (.for (.name 1) (.rng1 (.cst (.int 30))) (.cons (.set 3 false (.call i__law_board (.cons (.mref 0) (.cons (.cst (.int 8)) .nil)))) (.cons (.set 4 false (.call i__law_has_ring (.cons (.var 3) .nil))) (.cons (.asg (.tup [(.name 5), (.name 6)]) (.ife (.cmp .Eq (.var 1) (.cst (.int 1))) (.tup (.cons (.callk i_a_ring (.cons (.var 3) .nil) [0]) (.cons (.callk i_an_order (.cons (.var 3) .nil) [0]) .nil))) (.tup (.cons (.call i_a_ring (.cons (.var 3) .nil)) (.cons (.call i_an_order (.cons (.var 3) .nil)) .nil))))) (.cons (.ife (.or (.cmp .NotEq (.cmp .IsNot (.var 5) (.cst .non)) (.var 4)) (.cmp .NotEq (.cmp .Is (.var 6) (.cst .non)) (.var 4))) (.cons (.ret (.cst (.bl false))) .nil) .nil) (.cons (.ife (.var 4) (.cons (.ife (.or (.not (.call i__law_is_places (.cons (.var 3) (.cons (.var 5) .nil)))) (.or (.cmp .Lt (.bi .len (.cons (.var 5) .nil)) (.cst (.int 2))) (.not (.bi .all (.cons (.lc (.cmp .In (.var 8) (.call i_next_places (.cons (.var 3) (.cons (.var 7) .nil)))) (.tup [(.name 7), (.name 8)]) (.zip (.var 5) (.bin .Add (.slc (.var 5) (.cst (.int 1)) .nop) (.slc (.var 5) .nop (.cst (.int 1))))) .nop [7, 8]) .nil))))) (.cons (.ret (.cst (.bl false))) .nil) .nil) .nil) (.cons (.ife (.or (.not (.call i__law_is_places (.cons (.var 3) (.cons (.var 6) .nil)))) (.or (.cmp .NotEq (.bi .len (.cons (.var 6) .nil)) (.idx (.var 3) (.cst (.int 0)))) (.not (.bi .all (.cons (.lc (.cmp .Lt (.md .index (.var 6) (.cons (.var 9) .nil)) (.md .index (.var 6) (.cons (.var 10) .nil))) (.tup [(.name 9), (.name 10)]) (.seq (.idx (.var 3) (.cst (.int 1)))) .nop [9, 10]) .nil))))) (.cons (.ret (.cst (.bl false))) .nil) .nil) .nil)) .nil)))))) (.cons (.set 2 false (.tup (.cons (.cst (.int 3)) (.cons (.tup (.cons (.tup (.cons (.cst (.int 0)) (.cons (.cst (.int 1)) .nil))) (.cons (.tup (.cons (.cst (.int 1)) (.cons (.cst (.int 0)) .nil))) (.cons (.tup (.cons (.cst (.int 1)) (.cons (.cst (.int 2)) .nil))) .nil)))) .nil)))) (.cons (.ret (.and (.cmp .Eq (.bi .sorted (.cons (.call i_a_ring (.cons (.var 2) .nil)) .nil)) (.lst (.cons (.cst (.int 0)) (.cons (.cst (.int 1)) .nil)))) (.and (.cmp .Is (.call i_an_order (.cons (.var 2) .nil)) (.cst .non)) (.and (.cmp .Is (.call i_a_ring (.cons (.tup (.cons (.cst (.int 2)) (.cons (.tup (.cons (.tup (.cons (.cst (.int 1)) (.cons (.cst (.int 0)) .nil))) .nil)) .nil))) .nil)) (.cst .non)) (.cmp .Eq (.call i_an_order (.cons (.tup (.cons (.cst (.int 2)) (.cons (.tup (.cons (.tup (.cons (.cst (.int 1)) (.cons (.cst (.int 0)) .nil))) .nil)) .nil))) .nil)) (.tup (.cons (.cst (.int 1)) (.cons (.cst (.int 0)) .nil)))))))) .nil)))⟩
theorem pr__law_right : P i__law_right = some f__law_right := by kernel_rfl
def f_law : Fd := ⟨1, 2, (.cons (.ret (.bi .all (.cons (.lc (.call i__law_right (.cons (.fre (.call i__law_pool (.cons (.var 0) (.cons (.var 1) .nil)))) .nil)) (.name 1) (.rng1 (.bi .max2 (.cons (.cst (.int 1)) (.cons (.bi .min2 (.cons (.bi .len (.cons (.var 0) .nil)) (.cons (.cst (.int 2)) .nil))) .nil)))) .nop [1]) .nil))) .nil)⟩
theorem pr_law : P i_law = some f_law := by kernel_rfl
theorem go_is_whole {r : R} (d0 : D) (h : ∀ k, 0 ≤ k → WSs (callN P Wn k) Wn [.val d0] f_is_whole.body (FinP 1 r) NoX) : Fp P Wn d_is_whole i_is_whole [d0] r := fp_mk (ρ0 := [.val d0]) (n := 0) pr_is_whole ⟨rfl, rfl⟩ (.val .nil) h
theorem go_is_between {r : R} (d0 d1 d2 : D) (h : ∀ k, 1 ≤ k → WSs (callN P Wn k) Wn [.val d0, .val d1, .val d2] f_is_between.body (FinP 3 r) NoX) : Fp P Wn d_is_between i_is_between [d0, d1, d2] r := fp_mk (ρ0 := [.val d0, .val d1, .val d2]) (n := 0) pr_is_between ⟨rfl, rfl⟩ (.val (.val (.val .nil))) h
theorem go_is_tuple_of {r : R} (d0 d1 : D) (h : ∀ k, 0 ≤ k → WSs (callN P Wn k) Wn [.val d0, .val d1] f_is_tuple_of.body (FinP 2 r) NoX) : Fp P Wn d_is_tuple_of i_is_tuple_of [d0, d1] r := fp_mk (ρ0 := [.val d0, .val d1]) (n := 0) pr_is_tuple_of ⟨rfl, rfl⟩ (.val (.val .nil)) h
theorem go_are_indexes {r : R} (d0 d1 : D) (h : ∀ k, 2 ≤ k → WSs (callN P Wn k) Wn [.val d0, .val d1, .non] f_are_indexes.body (FinP 2 r) NoX) : Fp P Wn d_are_indexes i_are_indexes [d0, d1] r := fp_mk (ρ0 := [.val d0, .val d1, .non]) (n := 1) pr_are_indexes ⟨rfl, rfl⟩ (.val (.val (.non .nil))) h
theorem go_is_road {r : R} (d0 d1 : D) (h : ∀ k, 3 ≤ k → WSs (callN P Wn k) Wn [.val d0, .val d1] f_is_road.body (FinP 2 r) NoX) : Fp P Wn d_is_road i_is_road [d0, d1] r := fp_mk (ρ0 := [.val d0, .val d1]) (n := 0) pr_is_road ⟨rfl, rfl⟩ (.val (.val .nil)) h
theorem go_are_roads {r : R} (d0 d1 : D) (h : ∀ k, 4 ≤ k → WSs (callN P Wn k) Wn [.val d0, .val d1, .non] f_are_roads.body (FinP 2 r) NoX) : Fp P Wn d_are_roads i_are_roads [d0, d1] r := fp_mk (ρ0 := [.val d0, .val d1, .non]) (n := 1) pr_are_roads ⟨rfl, rfl⟩ (.val (.val (.non .nil))) h
theorem go_is_board_by {r : R} (d0 : D) (h : ∀ k, 5 ≤ k → WSs (callN P Wn k) Wn [.val d0] f_is_board_by.body (FinP 1 r) NoX) : Fp P Wn d_is_board_by i_is_board_by [d0] r := fp_mk (ρ0 := [.val d0]) (n := 0) pr_is_board_by ⟨rfl, rfl⟩ (.val .nil) h
theorem go_places_of {r : R} (d0 : D) (h : ∀ k, 0 ≤ k → WSs (callN P Wn k) Wn [.val d0] f_places_of.body (FinP 1 r) NoX) : Fp P Wn d_places_of i_places_of [d0] r := fp_mk (ρ0 := [.val d0]) (n := 0) pr_places_of ⟨rfl, rfl⟩ (.val .nil) h
theorem go_next_places_by {r : R} (d0 d1 : D) (h : ∀ k, 0 ≤ k → WSs (callN P Wn k) Wn [.val d0, .val d1, .non, .non] f_next_places_by.body (FinP 2 r) NoX) : Fp P Wn d_next_places_by i_next_places_by [d0, d1] r := fp_mk (ρ0 := [.val d0, .val d1, .non, .non]) (n := 2) pr_next_places_by ⟨rfl, rfl⟩ (.val (.val (.non (.non .nil)))) h
theorem go_ends_by {r : R} (d0 : D) (h : ∀ k, 1 ≤ k → WSs (callN P Wn k) Wn [.val d0, .non] f_ends_by.body (FinP 1 r) NoX) : Fp P Wn d_ends_by i_ends_by [d0] r := fp_mk (ρ0 := [.val d0, .non]) (n := 1) pr_ends_by ⟨rfl, rfl⟩ (.val (.non .nil)) h
theorem go_with_those_ahead {r : R} (d0 d1 : D) (h : ∀ k, 1 ≤ k → WSs (callN P Wn k) Wn [.val d0, .val d1, .non, .non, .non, .non] f_with_those_ahead.body (FinP 2 r) NoX) : Fp P Wn d_with_those_ahead i_with_those_ahead [d0, d1] r := fp_mk (ρ0 := [.val d0, .val d1, .non, .non, .non, .non]) (n := 4) pr_with_those_ahead ⟨rfl, rfl⟩ (.val (.val (.non (.non (.non (.non .nil)))))) h
theorem go_do_all_end {r : R} (d0 : D) (h : ∀ k, 2 ≤ k → WSs (callN P Wn k) Wn [.val d0, .non, .non] f_do_all_end.body (FinP 1 r) NoX) : Fp P Wn d_do_all_end i_do_all_end [d0] r := fp_mk (ρ0 := [.val d0, .non, .non]) (n := 2) pr_do_all_end ⟨rfl, rfl⟩ (.val (.non (.non .nil))) h
theorem go_last_ones {r : R} (d0 d1 : D) (h : ∀ k, 1 ≤ k → WSs (callN P Wn k) Wn [.val d0, .val d1, .non, .non] f_last_ones.body (FinP 2 r) NoX) : Fp P Wn d_last_ones i_last_ones [d0, d1] r := fp_mk (ρ0 := [.val d0, .val d1, .non, .non]) (n := 2) pr_last_ones ⟨rfl, rfl⟩ (.val (.val (.non (.non .nil)))) h
theorem go_left_in_rings {r : R} (d0 : D) (h : ∀ k, 2 ≤ k → WSs (callN P Wn k) Wn [.val d0, .non, .non, .non, .non] f_left_in_rings.body (FinP 1 r) NoX) : Fp P Wn d_left_in_rings i_left_in_rings [d0] r := fp_mk (ρ0 := [.val d0, .non, .non, .non, .non]) (n := 4) pr_left_in_rings ⟨rfl, rfl⟩ (.val (.non (.non (.non (.non .nil))))) h
theorem go_an_order_by {r : R} (d0 : D) (h : ∀ k, 3 ≤ k → WSs (callN P Wn k) Wn [.val d0, .non, .non] f_an_order_by.body (FinP 1 r) NoX) : Fp P Wn d_an_order_by i_an_order_by [d0] r := fp_mk (ρ0 := [.val d0, .non, .non]) (n := 2) pr_an_order_by ⟨rfl, rfl⟩ (.val (.non (.non .nil))) h
theorem go_a_ring_by {r : R} (d0 : D) (h : ∀ k, 3 ≤ k → WSs (callN P Wn k) Wn [.val d0, .non, .non, .non, .non] f_a_ring_by.body (FinP 1 r) NoX) : Fp P Wn d_a_ring_by i_a_ring_by [d0] r := fp_mk (ρ0 := [.val d0, .non, .non, .non, .non]) (n := 4) pr_a_ring_by ⟨rfl, rfl⟩ (.val (.non (.non (.non (.non .nil))))) h
theorem go_check_board {r : R} (d0 : D) (h : ∀ k, 6 ≤ k → WSs (callN P Wn k) Wn [.val d0] f_check_board.body (FinP 1 r) NoX) : Fp P Wn d_check_board i_check_board [d0] r := fp_mk (ρ0 := [.val d0]) (n := 0) pr_check_board ⟨rfl, rfl⟩ (.val .nil) h
theorem go_check_place {r : R} (d0 d1 : D) (h : ∀ k, 2 ≤ k → WSs (callN P Wn k) Wn [.val d0, .val d1] f_check_place.body (FinP 2 r) NoX) : Fp P Wn d_check_place i_check_place [d0, d1] r := fp_mk (ρ0 := [.val d0, .val d1]) (n := 0) pr_check_place ⟨rfl, rfl⟩ (.val (.val .nil)) h
theorem go_check_board_place {r : R} (d0 d1 : D) (h : ∀ k, 7 ≤ k → WSs (callN P Wn k) Wn [.val d0, .val d1] f_check_board_place.body (FinP 2 r) NoX) : Fp P Wn d_check_board_place i_check_board_place [d0, d1] r := fp_mk (ρ0 := [.val d0, .val d1]) (n := 0) pr_check_board_place ⟨rfl, rfl⟩ (.val (.val .nil)) h
theorem go_next_places {r : R} (d0 d1 : D) (h : ∀ k, 8 ≤ k → WSs (callN P Wn k) Wn [.val d0, .val d1] f_next_places.body (FinP 2 r) NoX) : Fp P Wn d_next_places i_next_places [d0, d1] r := fp_mk (ρ0 := [.val d0, .val d1]) (n := 0) pr_next_places ⟨rfl, rfl⟩ (.val (.val .nil)) h
theorem go_a_ring {r : R} (d0 : D) (h : ∀ k, 7 ≤ k → WSs (callN P Wn k) Wn [.val d0] f_a_ring.body (FinP 1 r) NoX) : Fp P Wn d_a_ring i_a_ring [d0] r := fp_mk (ρ0 := [.val d0]) (n := 0) pr_a_ring ⟨rfl, rfl⟩ (.val .nil) h
theorem go_an_order {r : R} (d0 : D) (h : ∀ k, 7 ≤ k → WSs (callN P Wn k) Wn [.val d0] f_an_order.body (FinP 1 r) NoX) : Fp P Wn d_an_order i_an_order [d0] r := fp_mk (ρ0 := [.val d0]) (n := 0) pr_an_order ⟨rfl, rfl⟩ (.val .nil) h
theorem goy__law_pool {Post : R → List Cr.Arg → Prop} {XP : Nat → Option D → List Cr.Arg → Prop} (d0 : D) (d1 : D) (h : ∀ k, 0 ≤ k → WSs (callN P Wn k) Wn [.val d0, .val d1, .non, .non, .non] f__law_pool.body (FinF [.val d0, .val d1] Post) (FinX [.val d0, .val d1] XP)) : Fy P Wn d__law_pool i__law_pool [.val d0, .val d1] Post XP := fy_mk (ρ0 := [.val d0, .val d1, .non, .non, .non]) (n := 3) pr__law_pool ⟨rfl, rfl⟩ (.val (.val (.non (.non (.non .nil))))) h
theorem goy__law_below {Post : R → List Cr.Arg → Prop} {XP : Nat → Option D → List Cr.Arg → Prop} (d0 : List D) (d1 : D) (h : ∀ k, 0 ≤ k → WSs (callN P Wn k) Wn [.own d0 true, .val d1, .non, .non] f__law_below.body (FinF [.mut d0, .val d1] Post) (FinX [.mut d0, .val d1] XP)) : Fy P Wn d__law_below i__law_below [.mut d0, .val d1] Post XP := fy_mk (ρ0 := [.own d0 true, .val d1, .non, .non]) (n := 2) pr__law_below ⟨rfl, rfl⟩ (.mm (.val (.non (.non .nil)))) h
theorem go__law_is_number {r : R} (d0 d1 d2 : D) (h : ∀ k, 0 ≤ k → WSs (callN P Wn k) Wn [.val d0, .val d1, .val d2] f__law_is_number.body (FinP 3 r) NoX) : Fp P Wn d__law_is_number i__law_is_number [d0, d1, d2] r := fp_mk (ρ0 := [.val d0, .val d1, .val d2]) (n := 0) pr__law_is_number ⟨rfl, rfl⟩ (.val (.val (.val .nil))) h
theorem go__law_has_ring {r : R} (d0 : D) (h : ∀ k, 0 ≤ k → WSs (callN P Wn k) Wn [.val d0, .non, .non, .non, .non, .non, .non] f__law_has_ring.body (FinP 1 r) NoX) : Fp P Wn d__law_has_ring i__law_has_ring [d0] r := fp_mk (ρ0 := [.val d0, .non, .non, .non, .non, .non, .non]) (n := 6) pr__law_has_ring ⟨rfl, rfl⟩ (.val (.non (.non (.non (.non (.non (.non .nil))))))) h
theorem go__law_is_places {r : R} (d0 d1 : D) (h : ∀ k, 1 ≤ k → WSs (callN P Wn k) Wn [.val d0, .val d1, .non] f__law_is_places.body (FinP 2 r) NoX) : Fp P Wn d__law_is_places i__law_is_places [d0, d1] r := fp_mk (ρ0 := [.val d0, .val d1, .non]) (n := 1) pr__law_is_places ⟨rfl, rfl⟩ (.val (.val (.non .nil))) h
theorem goy__law_right {Post : R → List Cr.Arg → Prop} {XP : Nat → Option D → List Cr.Arg → Prop} (d0 : List D) (h : ∀ k, 9 ≤ k → WSs (callN P Wn k) Wn [.own d0 true, .non, .non, .non, .non, .non, .non, .non, .non, .non, .non] f__law_right.body (FinF [.mut d0] Post) (FinX [.mut d0] XP)) : Fy P Wn d__law_right i__law_right [.mut d0] Post XP := fy_mk (ρ0 := [.own d0 true, .non, .non, .non, .non, .non, .non, .non, .non, .non, .non]) (n := 10) pr__law_right ⟨rfl, rfl⟩ (.mm (.non (.non (.non (.non (.non (.non (.non (.non (.non (.non .nil))))))))))) h
theorem goy_law {Post : R → List Cr.Arg → Prop} {XP : Nat → Option D → List Cr.Arg → Prop} (d0 : D) (h : ∀ k, 10 ≤ k → WSs (callN P Wn k) Wn [.val d0, .non] f_law.body (FinF [.val d0] Post) (FinX [.val d0] XP)) : Fy P Wn d_law i_law [.val d0] Post XP := fy_mk (ρ0 := [.val d0, .non]) (n := 1) pr_law ⟨rfl, rfl⟩ (.val (.non .nil)) h
end Lw
namespace Lw
open PySem L2 Cr
local macro_rules | `(tactic| k_ne) => `(tactic| first
  | exact prop_id (by assumption) | exact Nat.le_trans (nxt_len _ _) (by omega) | exact sizeLine_le (Nat.le_trans (nxt_len _ _) (by omega)) | exact Nat.le_trans (ends_len _ _) (by omega) | exact Nat.le_trans (inner_len _ _) (by omega) | exact Nat.le_of_ble_eq_true rfl | exact nf_ty (by assumption) | exact nxt_sort (by assumption) _ | exact mem_places.mp (by assumption) | (refine nf_ty ?_; apply_assumption; assumption) | (apply_assumption; assumption) | omega | (simp only [List.length_map, List.length_take, List.length_append, places_len, rngI_len, List.length_cons, List.length_nil]; omega) | exact sizeLine_le (by first | exact Nat.le_of_ble_eq_true rfl | omega | (simp only [List.length_map, places_len, rngI_len, List.length_cons, List.length_nil]; omega)) | decide)
local macro_rules | `(tactic| mul_fits) => `(tactic| first
  | (apply id_bin; first | exact Nb.addI _ _ | exact Nb.subI _ _ | exact Nb.mulR (by omega) | exact Nb.mulL (by omega) | exact Nb.modP (by omega) | exact Nb.divP (by omega) (by omega) | exact Nb.addT (by k_ne) | exact Nb.addL (by k_ne) | exact bin_of (by exact rfl))
  | (apply id_cmp; first | exact Nc.eqI _ _ | exact Nc.neI _ _ | exact Nc.ltI _ _ | exact Nc.leI _ _ | exact Nc.gtI _ _ | exact Nc.geI _ _ | exact Nc.inL _ _ | exact Nc.inT _ _ | exact Nc.ninL _ _ | exact Nc.ninT _ _ | exact Nc.inLf (fun _ => rfl) | exact Nc.inTf (fun _ => rfl) | exact Nc.inP _ _ | exact Nc.ninP _ _ | exact Nc.inP' _ _ _ | exact Nc.ninP' _ _ _ | exact Nc.neP _ _ | exact Nc.neLP _ _ | exact Nc.eqP _ _ | exact Nc.eqTn _ | exact Nc.eqLn _ | exact Nc.eqLP _ | exact Nc.neTn _ | exact Nc.neLn _ | exact Nc.nePn _ | exact Nc.neSelfL _ | exact Nc.isT _ | exact Nc.isF _ | exact Nc.nisT _ | exact Nc.nisF _ | exact cmp_of (by exact rfl))
  | (apply id_bi; first | exact Nk.isi (by exact rfl) (by exact rfl) | exact Nk.lenT | exact Nk.lenL | exact Nk.lenR | exact Nk.lenT' | exact Nk.lenL' | exact Nk.lenR' | exact Nk.tupL | exact Nk.tupT | exact Nk.lstT | exact Nk.lstL | exact Nk.all (fun _ => rfl) | exact Nk.any (fun _ => rfl) | exact Nk.sum (fun _ => rfl) | exact Nk.lrange (by k_ne) | exact Nk.sortL (by k_ne) | exact Nk.sortT (by k_ne) | exact Nk.int _ | exact Nk.abs _ | exact Nk.min2 _ _ | exact Nk.max2 _ _ | exact Nk.divmod (by omega) (by omega) | exact Nk.gcd _ _ | exact Nk.lenSetT (by k_ne) (by k_ne) | exact bi_of (by exact rfl))
  | (apply id_idx; first | exact idx_of (by exact rfl) | exact Ni.tx (by k_ne) | exact Ni.lx (by k_ne) | exact Ni.rx (by k_ne))
  | (apply id_md; first | exact Nx.tup (by k_ne) | exact Nx.lst (by k_ne) | exact md_of (by exact rfl))
  | (apply id_mo; first | exact Nm.app (by k_ne) | exact mo_of (by exact rfl))
  | exact truR_bl | exact truR_of (by exact rfl) | exact slc_of (by exact rfl) | exact rfl)
local macro_rules | `(tactic| fin_range) => `(tactic| (refine' prop_id ?_; first
  | (refine' id_we ?_; first
    | refine' we_var (getAt_of rfl) ?_ | refine' we_cst ?_ | refine' we_idx ?_ | refine' we_call ?_ | refine' we_bin ?_ | refine' we_cmp ?_ | refine' we_bi ?_ | refine' we_glo ?_ | refine' we_and ?_ | refine' we_or ?_ | refine' we_not ?_ | refine' we_lc ?_ | refine' we_tup ?_ | refine' we_lst ?_ | refine' we_ife ?_ | refine' we_chn ?_ | refine' we_slc ?_ | refine' we_neg ?_ | refine' we_callk ?_ | refine' we_mo (getAt_of rfl) ?_ | refine' we_own (getAt_of rfl) ?_ ?_ | refine' we_fre ?_ | refine' we_dct ?_ | refine' we_rev ?_ | refine' we_md ?_ | refine' we_callv (getAt_of rfl) rfl ?_)
  | (refine' id_wo ?_; first
    | refine' wo_var (getAt_of rfl) ?_ | refine' wo_own (getAt_of rfl) ?_ | refine' wo_e rfl ?_)
  | refine' wd_e ?_
  | (refine' id_wos ?_; first | refine' wos_cons ?_ | refine' wos_nil ?_)
  | (refine' id_was ?_; first | refine' was_val rfl ?_ | refine' was_nil ?_ | refine' was_ref (getAt_of rfl) ?_ | refine' was_fre ?_)
  | (refine' id_wds ?_; first | refine' wds_cons ?_ | refine' wds_nil ⟨sizeLine_le (by k_ne), ?_⟩ | refine' wds_nil ?_)
  | refine' i2' ?_ ?_ ?_ ?_ | refine' c2' ?_ ?_ ?_ ?_ | refine' b2' ?_ ?_ ?_ ?_ | refine' bk' ?_ ?_ ?_
  | exact ResO.val | exact ResO.slot (getAt_of rfl) | exact ResO.own (getAt_of rfl)
  | exact ResOs.nil | refine' ResOs.cons ?_ ?_
  | (refine' id_ck ?_; dict_keeps)
  | exact AllV.nil | refine' AllV.cons ?_
  | exact le_via (by assumption) (by decide)
  | mul_fits
  | refine' wt_o ?_ | refine' tr' ?_ ?_ ?_ | refine' n1' ?_ ?_ ?_ | refine' g1 ?_ ?_
  | (refine' id_an ?_; first | refine' an_T ?_ | refine' an_F ?_ | refine' an_B (fun _ => ?_) ?_)
  | (refine' id_oo ?_; first | refine' oo_F ?_ | refine' oo_T ?_ | refine' oo_B (fun _ => ?_) ?_)
  | (refine' id_br ?_; first | refine' br_T ?_ | refine' br_F ?_ | refine' br_t (by assumption) ?_ | refine' br_f (by assumption) ?_ | refine' br_EE (fun _ => ?_) (fun _ => ?_) ?_)
  | exact SetAt.z | refine' SetAt.s ?_ | exact getAt_of rfl
  | (refine' id_wss ?_; first | refine' wss_cons ?_ | refine' wss_nil ?_)
  | (refine' id_ws ?_; first | refine' ws_set ?_ | refine' ws_ife ?_ | refine' ws_retv (getAt_of rfl) ?_ | refine' ws_reto (getAt_of rfl) ?_ ?_ | refine' ws_ret rfl ?_ | refine' ws_exp ?_ | refine' ws_for ?_ | refine' ws_asg ?_ | refine' ws_set2 ?_ | refine' ws_whl ?_ | refine' ws_pass ?_)
  | (refine' id_ptk ?_; first | refine' pt_v (getAt_of rfl) ?_ ?_ ?_ | refine' pt_o (getAt_of rfl) ?_ ?_ ?_ | refine' pt_f (getAt_of rfl) ?_ ?_ ?_)
  | exact fs_val | exact fs_non | exact fs_own | exact fs_lsl (by assumption) | exact prop_id (by assumption) | exact no_val | exact no_non | exact no_lsl (by assumption)
  | (refine' id_wsr ?_; first | refine' wr_seq ?_ | refine' wr_rng1 ?_ | refine' wr_rng2 ?_ | refine' wr_enum ?_ | refine' wr_zip ?_)
  | (refine' id_lck ?_; first
    | refine' lc_map0 (rng_places _) ?_ ?_ (fun x hx => ?_) ?_ | refine' lc_map0 (rngD_eq _ _) ?_ ?_ (fun x hx => ?_) ?_ | refine' lc_map0 rfl ?_ ?_ (fun x hx => ?_) ?_ | refine' lc_map0 (List.map_id _).symm ?_ ?_ (fun x hx => ?_) ?_
    | refine' lc_map (enumD_places _) rfl ?_ ?_ (fun x hx => ?_) ?_ | refine' lc_map (rng_places _) rfl ?_ ?_ (fun x hx => ?_) ?_ | refine' lc_map (rngD_eq _ _) rfl ?_ ?_ (fun x hx => ?_) ?_ | refine' lc_map rfl rfl ?_ ?_ (fun x hx => ?_) ?_ | refine' lc_map (List.map_id _).symm rfl ?_ ?_ (fun x hx => ?_) ?_)
  | refine' LcE.mk ?_ ?_ ?_ (fun _ => ?_) | refine' LcE0.mk ?_ ?_ ?_
  | refine' SetTR.name (getAt_of rfl) ?_ ?_ | refine' SetTR.tup ?_ | refine' SetTR.sub (getAt_of rfl) rfl ?_ | exact SetTRs.nil | refine' SetTRs.cons ?_ ?_
  | exact WipeR.nil | refine' WipeR.cons ?_ ?_ ?_ ?_
  | refine' r1_t ?_ ?_ | refine' r1_l ?_ ?_ | refine' lk' ?_ ?_ ?_ | refine' ch1B' ?_ ?_ ?_ (fun _ => ?_) ?_
  | refine' mk' (getAt_of rfl) ?_ ?_ ?_ | refine' wpt_nop ?_ | refine' wpt_int rfl ?_
  | exact PermR.nil | refine' PermR.cons rfl ?_ | refine' pk ?_ ?_
  | exact ArgR.nil | refine' ArgR.val ?_ | refine' ArgR.slot (getAt_of rfl) ?_ | refine' ArgR.tmp ?_
  | exact BackR.nil | refine' BackR.val ?_ | refine' BackR.slot (getAt_of rfl) ?_ ?_ | refine' BackR.tmp ?_
  | refine' tgk ?_ ?_ | refine' md1 ?_ ?_ ?_ | refine' md2 ?_ ?_ ?_ ?_ ?_
  | refine' finP_rt rfl ?_ | refine' finP_nx rfl ?_ | refine' fin_nx ?_ ?_ | refine' fin_rt ?_ ?_
  | exact BaR.nil | refine' BaR.val ?_ | refine' BaR.mm ?_
  | exact InR.nil | refine' InR.non ?_ | refine' InR.val ?_ | refine' InR.mm ?_ | exact InV.nil | refine' InV.non ?_ | refine' InV.val ?_
  | exact ⟨rfl, rfl⟩ | refine' ⟨_, rfl, ?_⟩ | refine' ⟨sizeLine_le (by k_ne), ?_⟩ | refine' ⟨rgOk (by k_ne), ?_⟩
  | mul_fits | k_ne))
theorem is_whole_fn (d : D) (h : d.ty.isSome = true) : Fp P Wn d_is_whole i_is_whole [d] (.val (.bl (wholeB d))) := by
  refine go_is_whole _ fun k hk => ?_
  cases d <;> first | (cases h; done) | (repeat' fin_range)
local macro_rules | `(tactic| dict_keeps) => `(tactic| refine' ck_p ?_ (is_whole_fn _ ?_) ?_ ?_)
theorem is_between_fn (d : D) (a b : Int) (h : d.ty.isSome = true) : Fp P Wn d_is_between i_is_between [d, .int a, .int b] (.val (.bl (btwB a b d))) := by
  refine go_is_between _ _ _ fun k hk => ?_
  cases d with
  | fn f => cases h
  | _ => repeat' fin_range
local macro_rules | `(tactic| dict_keeps) => `(tactic| refine' ck_p ?_ (is_between_fn _ _ _ ?_) ?_ ?_)
theorem is_tuple_of_fn (d : D) (n : Int) (h : d.ty.isSome = true) : Fp P Wn d_is_tuple_of i_is_tuple_of [d, .int n] (.val (.bl (tupOfB n d))) := by
  refine go_is_tuple_of _ _ fun k hk => ?_
  cases d with
  | fn f => cases h
  | _ => repeat' fin_range
local macro_rules | `(tactic| dict_keeps) => `(tactic| refine' ck_p ?_ (is_tuple_of_fn _ _ ?_) ?_ ?_)
theorem are_indexes_fn (n : Int) (d : D) (h : d.nf = true) : Fp P Wn d_are_indexes i_are_indexes [.int n, d] (.val (.bl (ixsB n d))) := by
  refine go_are_indexes _ _ fun k hk => ?_
  cases d with
  | tup xs =>
    obtain ⟨hl, hx⟩ := nf_tup h
    repeat' fin_range
  | fn f => cases h
  | _ => repeat' fin_range
local macro_rules | `(tactic| dict_keeps) => `(tactic| refine' ck_p ?_ (are_indexes_fn _ _ ?_) ?_ ?_)
theorem are_rising_fn (rs : List (Int × Int)) (hl : rs.length ≤ 1000) : Fp P Wn d_are_rising i_are_rising [.tup (rs.map pD)] (.val (.bl (risingB rs))) := rising_fn (i := i_are_rising) pr_are_rising rs hl
local macro_rules | `(tactic| dict_keeps) => `(tactic| refine' ck_p ?_ (are_rising_fn _ ?_) ?_ ?_)
theorem is_road_fn (n : Int) (d : D) (h : d.nf = true) : Fp P Wn d_is_road i_is_road [.int n, d] (.val (.bl (roadD n d))) := by
  refine go_is_road _ _ fun k hk => ?_
  by_cases h2 : tupOfB 2 d = true
  · obtain ⟨x, y, rfl⟩ : ∃ x y, d = .tup [x, y] := by
      cases d with
      | tup xs =>
        have h2 : decide ((xs.length : Int) = 2) = true := h2
        match xs, h2 with
        | [x, y], _ => exact ⟨x, y, rfl⟩
        | [], h => simp at h
        | [x], h => simp at h
        | x :: y :: z :: r, h => simp at h; omega
      | _ => cases h2
    by_cases h3 : ixsB n (.tup [x, y]) = true
    · have h4 : [x, y].all (btwB 0 (n - 1)) = true := h3
      simp only [List.all_cons, List.all_nil, Bool.and_true, Bool.and_eq_true] at h4
      obtain ⟨a, rfl⟩ : ∃ a, x = .int a := by cases x <;> first | exact ⟨_, rfl⟩ | cases h4.1
      obtain ⟨b, rfl⟩ : ∃ b, y = .int b := by cases y <;> first | exact ⟨_, rfl⟩ | cases h4.2
      repeat' fin_range
      show R.val (.bl (true && (ixsB n (.tup [.int a, .int b]) && !decide (a = b)))) = _
      simp [ixsB, btwB, roadD]
    · have e : ixsB n (.tup [x, y]) = false := by simpa using h3
      have z : roadD n (.tup [x, y]) = false := by
        cases x <;> try rfl
        cases y <;> try rfl
        have e : [D.int _, .int _].all (btwB 0 (n - 1)) = false := e
        simp only [List.all_cons, List.all_nil, Bool.and_true, btwB] at e
        simp only [roadD, e, Bool.false_and]
      have f := are_indexes_fn n (.tup [x, y]) h
      rw [e] at f
      rw [z]
      repeat' (first | refine' ck_p ?_ f ?_ ?_ | fin_range)
  · have e : tupOfB 2 d = false := by simpa using h2
    have z : roadD n d = false := by
      unfold roadD
      split
      · cases e
      · rfl
    have f := is_tuple_of_fn d 2 (nf_ty h)
    rw [e] at f
    rw [z]
    repeat' (first | refine' ck_p ?_ f ?_ ?_ | fin_range)
local macro_rules | `(tactic| dict_keeps) => `(tactic| refine' ck_p ?_ (is_road_fn _ _ ?_) ?_ ?_)
theorem are_roads_fn (n : Int) (d : D) (h : d.nf = true) : Fp P Wn d_are_roads i_are_roads [.int n, d] (.val (.bl (roadsD n d))) := by
  refine go_are_roads _ _ fun k hk => ?_
  cases d with
  | tup xs =>
    obtain ⟨hl, hx⟩ := nf_tup h
    by_cases h2 : xs.all (roadD n) = true
    · obtain ⟨e, _⟩ := roads_p h2
      have f := are_rising_fn (xs.map D.toP) (by rw [List.length_map]; exact hl)
      rw [e] at f
      have g : ∀ x ∈ xs, Fp P Wn d_is_road i_is_road [.int n, x] (.val (.bl (roadD n x))) := fun x hx' => is_road_fn n x (hx x hx')
      repeat' (first | refine' ck_p ?_ f ?_ ?_ | fin_range)
    · have h2 : xs.all (roadD n) = false := by simpa using h2
      have z : roadsD n (.tup xs) = false := by show (xs.all (roadD n) && _) = false; rw [h2]; rfl
      rw [z]
      have a : BiR .all [.lst (xs.map fun x => .bl (roadD n x))] (.val (.bl false)) := bi_of (by rw [bk_all (p := roadD n) (fun _ => rfl), h2])
      repeat' (first | exact a | fin_range)
  | fn f => cases h
  | _ => repeat' fin_range
local macro_rules | `(tactic| dict_keeps) => `(tactic| refine' ck_p ?_ (are_roads_fn _ _ ?_) ?_ ?_)
theorem places_of_fn (n : Int) (rs : List (Int × Int)) (h : 0 ≤ n ∧ n ≤ 1000) : Fp P Wn d_places_of i_places_of [bdD n rs] (.fresh ((places n).map .int)) := by
  refine go_places_of _ fun k hk => ?_
  repeat' fin_range
local macro_rules | `(tactic| dict_keeps) => `(tactic| refine' ck_p ?_ (places_of_fn _ _ ?_) ?_ ?_)
theorem next_places_by_fn (n : Int) (rs : List (Int × Int)) (p : Int) (hl : rs.length ≤ 1000) : Fp P Wn d_next_places_by i_next_places_by [bdD n rs, .int p] (.val (.tup ((nxt rs p).map .int))) := by
  refine go_next_places_by _ _ fun k hk => ?_
  repeat' fin_range
  unfold nxt; rw [List.map_map]; rfl
local macro_rules | `(tactic| dict_keeps) => `(tactic| refine' ck_p ?_ (next_places_by_fn _ _ _ ?_) ?_ ?_)
theorem ends_by_fn (n : Int) (rs : List (Int × Int)) (h : 0 ≤ n ∧ n ≤ 1000) (hl : rs.length ≤ 1000) : Fp P Wn d_ends_by i_ends_by [bdD n rs] (.val (.tup ((endsP n rs).map .int))) := by
  refine go_ends_by _ fun k hk => ?_
  repeat' fin_range
local macro_rules | `(tactic| dict_keeps) => `(tactic| refine' ck_p ?_ (ends_by_fn _ _ ?_ ?_) ?_ ?_)
theorem with_those_ahead_fn (n : Int) (rs : List (Int × Int)) (found : List Int) (h : 0 ≤ n ∧ n ≤ 1000) (hl : rs.length ≤ 1000) : Fp P Wn d_with_those_ahead i_with_those_ahead [bdD n rs, .lst (found.map .int)] (.fresh ((stepP n rs found).map .int)) := by
  refine go_with_those_ahead _ _ fun k hk => ?_
  repeat' fin_range
local macro_rules | `(tactic| dict_keeps) => `(tactic| refine' ck_p ?_ (with_those_ahead_fn _ _ _ ?_ ?_) ?_ ?_)
theorem do_all_end_fn (n : Int) (rs : List (Int × Int)) (h : 0 ≤ n ∧ n ≤ 1000) (hl : rs.length ≤ 1000) : Fp P Wn d_do_all_end i_do_all_end [bdD n rs] (.val (.bl (decide (((iterP n rs n.toNat).length : Int) = n)))) := by
  refine go_do_all_end _ fun k hk => ?_
  repeat' fin_range
  refine for_map (enc := D.int) (xs := places n) (fun j ρ => ∃ s, LSl s ∧ ρ = [.val (bdD n rs), .val (.lst ((iterP n rs j).map .int)), s]) rfl ⟨_, lsl_non, rfl⟩ (fun j x ρ hx hI => ?_) fun ρ hI => ?_
  · obtain ⟨s, hs, rfl⟩ := hI
    refine ⟨_, .name (getAt_of rfl) (fs_lsl hs) (.s (.s .z)), ?_⟩
    repeat' fin_range
    exact ⟨_, lsl_val, rfl⟩
  · obtain ⟨s, hs, rfl⟩ := hI
    rw [places_len]
    repeat' fin_range
local macro_rules | `(tactic| dict_keeps) => `(tactic| refine' ck_p ?_ (do_all_end_fn _ _ ?_ ?_) ?_ ?_)
theorem is_board_by_fn (d : D) (h : d.nf = true) : Fp P Wn d_is_board_by i_is_board_by [d] (.val (.bl (boardB d))) := by
  refine go_is_board_by _ fun k hk => ?_
  by_cases h2 : tupOfB 2 d = true
  · obtain ⟨x, y, rfl⟩ : ∃ x y, d = .tup [x, y] := tupOf2 h2
    obtain ⟨_, hx⟩ := nf_tup h
    have nx := hx x (by simp)
    have ny := hx y (by simp)
    by_cases h3 : btwB 1 8 x = true
    · obtain ⟨n, rfl⟩ : ∃ n, x = .int n := by cases x <;> first | exact ⟨_, rfl⟩ | cases h3
      have hn : 1 ≤ n ∧ n ≤ 8 := by simpa [btwB] using h3
      have f1 := is_between_fn (.int n) 1 8 rfl
      rw [h3] at f1
      by_cases h4 : roadsD n y = true
      · obtain ⟨xs, rfl⟩ : ∃ xs, y = .tup xs := by cases y <;> first | exact ⟨_, rfl⟩ | cases h4
        have h5 : (xs.all (roadD n) && risingB (xs.map D.toP)) = true := h4
        rw [Bool.and_eq_true] at h5
        obtain ⟨e, _⟩ := roads_p h5.1
        obtain ⟨hl, _⟩ := nf_tup ny
        have f := do_all_end_fn n (xs.map D.toP) ⟨by omega, by omega⟩ (by rw [List.length_map]; exact hl)
        unfold bdD at f
        rw [e] at f
        have z : boardB (.tup [.int n, .tup xs]) = decide (((iterP n (xs.map D.toP) n.toNat).length : Int) = n) := by
          show ((decide (1 ≤ n) && decide (n ≤ 8)) && (xs.all (roadD n) && risingB (xs.map D.toP) && decide (((iterP n (xs.map D.toP) n.toNat).length : Int) = n))) = _
          rw [h5.1, h5.2, decide_eq_true hn.1, decide_eq_true hn.2]; rfl
        rw [z]
        have f2 := are_roads_fn n (.tup xs) ny
        rw [h4] at f2
        repeat' (first | refine' ck_p ?_ f1 ?_ ?_ | refine' ck_p ?_ f ?_ ?_ | refine' ck_p ?_ f2 ?_ ?_ | fin_range)
      · have h4 : roadsD n y = false := by simpa using h4
        have f2 := are_roads_fn n y ny
        rw [h4] at f2
        have z : boardB (.tup [.int n, y]) = false := by
          cases y <;> try rfl
          have h4 : (_ && risingB (List.map D.toP _)) = false := h4
          show ((decide (1 ≤ n) && decide (n ≤ 8)) && (_ && risingB _ && _)) = false
          rw [h4, Bool.false_and, Bool.and_false]
        rw [z]
        repeat' (first | refine' ck_p ?_ f1 ?_ ?_ | refine' ck_p ?_ f2 ?_ ?_ | fin_range)
    · have h3 : btwB 1 8 x = false := by simpa using h3
      have f1 := is_between_fn x 1 8 (nf_ty nx)
      rw [h3] at f1
      have z : boardB (.tup [x, y]) = false := by
        cases x with
        | int v =>
          have h3 : (decide (1 ≤ v) && decide (v ≤ 8)) = false := h3
          cases y with
          | tup ys => 
            show ((decide (1 ≤ v) && decide (v ≤ 8)) && _) = false
            rw [h3]; rfl
          | _ => rfl
        | _ => rfl
      rw [z]
      repeat' (first | refine' ck_p ?_ f1 ?_ ?_ | fin_range)
  · have e : tupOfB 2 d = false := by simpa using h2
    have z : boardB d = false := by
      unfold boardB
      split
      · cases e
      · rfl
    have f := is_tuple_of_fn d 2 (nf_ty h)
    rw [e] at f
    rw [z]
    repeat' (first | refine' ck_p ?_ f ?_ ?_ | fin_range)
local macro_rules | `(tactic| dict_keeps) => `(tactic| refine' ck_p ?_ (is_board_by_fn _ ?_) ?_ ?_)
theorem law_pool_y (li : List Int) (hl : li.length ≤ 1000) (lap : Int) (h0 : 0 ≤ lap) : Fy P Wn d__law_pool i__law_pool [.val (.rol (li.map .int)), .val (.int lap)] (fun r bs => ∃ l, PoolOk l ∧ r = .fresh l ∧ bs = [.val (.rol (li.map .int)), .val (.int lap)]) fun _ _ _ => False := by
  refine goy__law_pool _ _ fun k hk => ?_
  refine wss_cons (ws_set (we_int ?_ fun c => ?_))
  · repeat' (first | (refine' id_br ?_; refine ⟨fun h => ?_, fun h => ?_⟩ <;> simp only [decide_eq_true_eq, decide_eq_false_iff_not] at h) | fin_range)
  · repeat' fin_range
    have e : cutL (li.map D.int) none (some 12) = (cutL li none (some 12)).map D.int := by
      unfold cutL; rw [List.length_map, List.map_take, List.map_drop]
    rw [e]
    refine for_map (enc := D.int) (xs := cutL li none (some 12)) (fun j ρ => ∃ (s : Sl) (v : Int), LSl s ∧ ρ = [.val (.rol (li.map .int)), .val (.int lap), .val (.int c), .val (.int v), s]) rfl ⟨_, _, lsl_non, rfl⟩ (fun j x ρ hx hI => ?_) fun ρ hI => ?_
    · obtain ⟨s, v, hs, rfl⟩ := hI
      refine ⟨_, .name (getAt_of rfl) (fs_lsl hs) (.s (.s (.s (.s .z)))), ?_⟩
      repeat' fin_range
      exact ⟨_, _, lsl_val, rfl⟩
    · obtain ⟨s, v, hs, rfl⟩ := hI
      have pw : ∀ k : Nat, k ≤ 1000 → BinR .Pow (.int 10) (.int (k : Nat)) (.val (.int (10 ^ k))) := fun k hk => by
        have := Nb.powI (n := 10) (k := (k : Int)) (by omega) (by omega) (by decide)
        rwa [Int.toNat_natCast] at this
      have p15 := pw 15 (by omega)
      have p60 := pw 60 (by omega)
      have g15 : BinR .Pow (.int 10) (.int 15) (.val (.int (10 ^ 15))) := p15
      have g60 : BinR .Pow (.int 10) (.int 60) (.val (.int (10 ^ 60))) := p60
      repeat' (first | exact g15 | exact g60 | (refine' id_br ?_; refine' br_E (fun _ => ?_) (fun _ => ?_) ?_) | fin_range)
      exact ⟨_, pool_ok (Int.emod_nonneg _ (by decide)), rfl, rfl⟩
theorem ck_pool {X : XQ} {ρ : Cr.Env} {Q : R → Cr.Env → Prop} {os : List Opd} {k : Nat} {li : List Int} {lap : Int} (ha : ArgR ρ os [.val (.rol (li.map .int)), .val (.int lap)]) (hn : (nodupB (slotsOf os) && decide (tmps os ≤ 1)) = true) (hl : li.length ≤ 1000) (h0 : 0 ≤ lap) (hk : d__law_pool ≤ k)
    (q : ∀ l, PoolOk l → ∃ ρ', BackR ρ os [.val (.rol (li.map .int)), .val (.int lap)] ρ' ∧ Q (.fresh l) ρ') : Ck (callN P Wn k) i__law_pool os ρ Q X :=
  ck_q ha (law_pool_y li hl lap h0 k hk) hn fun r bs ⟨l, h1, h2, h3⟩ => by subst h2; subst h3; exact q l h1
local macro_rules | `(tactic| dict_keeps) => `(tactic| refine' ck_pool ?_ rfl ?_ ?_ ?_ (fun l hl => ⟨_, ?_, ?_⟩))
theorem below_X : BelowX P Wn i__law_below := fun l m hl hm hm2 => by
  obtain ⟨a, b, c, rfl, ha, hb, hb2, hc⟩ := hl
  refine co_x (d := d__law_below) (goy__law_below _ _ fun k hk => ?_)
  repeat' (first | (refine' id_br ?_; refine ⟨fun h => ?_, fun h => ?_⟩) | fin_range)
  · exact ⟨_, [.int (a / m), .int b, .int c], Int.emod_nonneg _ (by omega), Int.emod_lt_of_pos _ hm, ⟨_, _, _, rfl, Int.ediv_nonneg ha (by omega), hb, hb2, hc⟩, rfl, rfl⟩
  · exact ⟨_, [.int a, .int (_ % 2147483563), .int (c + 1)], Int.emod_nonneg _ (by omega), Int.emod_lt_of_pos _ hm, ⟨_, _, _, rfl, ha, Int.emod_nonneg _ (by decide), Int.lt_trans (Int.emod_lt_of_pos _ (by decide)) (by decide), by omega⟩, rfl, rfl⟩
theorem ck_below {X : XQ} {ρ : Cr.Env} {Q : R → Cr.Env → Prop} {os : List Opd} {k : Nat} {l : List D} {m : Int} (ha : ArgR ρ os [.mut l, .val (.int m)]) (hn : (nodupB (slotsOf os) && decide (tmps os ≤ 1)) = true) (hl : PoolOk l) (hm : 0 < m ∧ m < 1073741824) (hk : d__law_below ≤ k)
    (q : ∀ v l', 0 ≤ v → v < m → PoolOk l' → ∃ ρ', BackR ρ os [.mut l', .val (.int m)] ρ' ∧ Q (.val (.int v)) ρ') : Ck (callN P Wn k) i__law_below os ρ Q X :=
  ck_q ha ((below_X l m hl hm.1 hm.2).co hk) hn fun r bs ⟨v, l', h1, h2, h3, h4, h5⟩ => by subst h4; subst h5; exact q v l' h1 h2 h3
local macro_rules | `(tactic| dict_keeps) => `(tactic| refine' ck_below ?_ rfl (by assumption) ?_ ?_ (fun v l' hv0 hv1 hl' => ⟨_, ?_, ?_⟩))
theorem one_X : OneX P Wn i__law_one := fun l s xs hl hs h0 h1 => one_x below_X pr__law_one hl hs h0 h1
theorem ck_one {X : XQ} {ρ : Cr.Env} {Q : R → Cr.Env → Prop} {os : List Opd} {k : Nat} {l : List D} {s : D} {xs : List D} (ha : ArgR ρ os [.mut l, .val s]) (hs : s = .tup xs ∨ s = .lst xs) (hn : (nodupB (slotsOf os) && decide (tmps os ≤ 1)) = true) (hl : PoolOk l) (hm : 0 < xs.length ∧ xs.length < 1073741824) (hk : d__law_one ≤ k)
    (q : ∀ x l', x ∈ xs → PoolOk l' → ∃ ρ', BackR ρ os [.mut l', .val s] ρ' ∧ Q (.val x) ρ') : Ck (callN P Wn k) i__law_one os ρ Q X :=
  ck_q ha ((one_X l s xs hl hs hm.1 hm.2).co hk) hn fun r bs ⟨v, l', h1, h3, h4, h5⟩ => by subst h4; subst h5; exact q v l' h1 h3
local macro_rules | `(tactic| dict_keeps) => `(tactic| refine' ck_one ?_ (.inl rfl) rfl (by assumption) ?_ ?_ (fun x l' hx hl' => ⟨_, ?_, ?_⟩))
local macro_rules | `(tactic| dict_keeps) => `(tactic| refine' ck_one ?_ (.inr rfl) rfl (by assumption) ?_ ?_ (fun x l' hx hl' => ⟨_, ?_, ?_⟩))
theorem order_X : OrderX P Wn i__law_order := fun l xs hl h1 => order_x below_X pr__law_order hl h1
theorem ck_order {X : XQ} {ρ : Cr.Env} {Q : R → Cr.Env → Prop} {os : List Opd} {k : Nat} {l : List D} {xs : List D} (ha : ArgR ρ os [.mut l, .val (.lst xs)]) (hn : (nodupB (slotsOf os) && decide (tmps os ≤ 1)) = true) (hl : PoolOk l) (hm : xs.length ≤ 1000) (hk : d__law_order ≤ k)
    (q : ∀ ys l', ys.Perm xs → PoolOk l' → ∃ ρ', BackR ρ os [.mut l', .val (.lst xs)] ρ' ∧ Q (.fresh ys) ρ') : Ck (callN P Wn k) i__law_order os ρ Q X :=
  ck_q ha ((order_X l xs hl hm).co hk) hn fun r bs ⟨v, l', h1, h3, h4, h5⟩ => by subst h4; subst h5; exact q v l' h1 h3
local macro_rules | `(tactic| dict_keeps) => `(tactic| refine' ck_order ?_ rfl (by assumption) ?_ ?_ (fun ys l' hys hl' => ⟨_, ?_, ?_⟩))
theorem board_X : BoardX P Wn i__law_board := board_x below_X one_X order_X pr__law_board
theorem ck_board {X : XQ} {ρ : Cr.Env} {Q : R → Cr.Env → Prop} {os : List Opd} {k : Nat} {l : List D} {m : Int} (ha : ArgR ρ os [.mut l, .val (.int m)]) (hn : (nodupB (slotsOf os) && decide (tmps os ≤ 1)) = true) (hl : PoolOk l) (hm : 1 ≤ m ∧ m ≤ 8) (hk : d__law_board ≤ k)
    (q : ∀ n rs l', IsBd n rs → 1 ≤ n → n ≤ m → rs.length ≤ 24 → rs.Pairwise ltP → PoolOk l' → ∃ ρ', BackR ρ os [.mut l', .val (.int m)] ρ' ∧ Q (.val (bdD n rs)) ρ') : Ck (callN P Wn k) i__law_board os ρ Q X :=
  ck_q ha ((board_X l m hl hm.1 hm.2).co hk) hn fun r bs ⟨n, rs, l', h1, h2, h3, h4, h5, h6⟩ => by subst h5; subst h6; exact q n rs l' h1 h1.n1 h2 h3 h1.srt h4
local macro_rules | `(tactic| dict_keeps) => `(tactic| refine' ck_board ?_ rfl (by assumption) ?_ ?_ (fun n rs l' hB hn1 hn hrs hsr hl' => ⟨_, ?_, ?_⟩))
theorem law_same_fn (d : D) (h : d.sm = true) : Fp P Wn (d.dp + 1) i__law_same [d, d] (.val (.bl true)) := same_fn pr__law_same d h
/-- of two that are the same -/
theorem ck_same {X : XQ} {ρ : Cr.Env} {Q : R → Cr.Env → Prop} {d e : D} {k : Nat} (he : d = e) (h : d.sm = true) (hk : d.dp + 1 ≤ k) (q : Q (.val (.bl true)) ρ) : Ck (callN P Wn k) i__law_same [.val d, .val e] ρ Q X := by
  subst he
  exact ck_p (.cons (.cons .nil)) (law_same_fn d h) hk q
local macro_rules | `(tactic| kd_in) => `(tactic| (refine' ck_same (by exact rfl) ?_ ?_ ?_; rotate_left; (refine' dpk (m := 4) (by assumption) ?_ (by decide); repeat' (first | exact dp_int _ | exact dp_bl _ | exact dp_nil | refine' dp_cons ?_ ?_ | refine' dp_map (fun _ _ => ?_))); rotate_left; (repeat' (first | exact sm_int _ | exact sm_bl _ | exact sm_nil | refine' sm_cons ?_ ?_ ?_ | refine' sm_map ?_ (fun _ _ => ?_) | k_ne))))
theorem check_board_fn (d : D) (h : d.nf = true) (hb : boardB d = true) : Fp P Wn d_check_board i_check_board [d] (.val .non) := by
  refine go_check_board _ fun k hk => ?_
  have f := is_board_by_fn d h
  rw [hb] at f
  repeat' (first | refine' ck_p ?_ f ?_ ?_ | fin_range)
local macro_rules | `(tactic| dict_keeps) => `(tactic| refine' ck_p ?_ (check_board_fn _ ?_ ?_) ?_ ?_)
theorem check_place_fn (n : Int) (rs : List (Int × Int)) (v : Int) (h : 0 ≤ n ∧ n ≤ 1000) (hv : 0 ≤ v ∧ v < n) : Fp P Wn d_check_place i_check_place [bdD n rs, .int v] (.val .non) := by
  refine go_check_place _ _ fun k hk => ?_
  have f := is_between_fn (.int v) 0 ((places n).length - 1) rfl
  have e : btwB 0 ((places n).length - 1) (.int v) = true := by
    show (decide (0 ≤ v) && decide (v ≤ (((places n).length : Nat) : Int) - 1)) = true
    rw [places_len, decide_eq_true hv.1, decide_eq_true (by omega)]; rfl
  rw [e] at f
  repeat' (first | refine' ck_p ?_ f ?_ ?_ | fin_range)
local macro_rules | `(tactic| dict_keeps) => `(tactic| refine' ck_p ?_ (check_place_fn _ _ _ ?_ ?_) ?_ ?_)
theorem check_board_place_fn (n : Int) (rs : List (Int × Int)) (v : Int) (hB : IsBd n rs) (hl : rs.length ≤ 1000) (hv : 0 ≤ v ∧ v < n) : Fp P Wn d_check_board_place i_check_board_place [bdD n rs, .int v] (.val .non) := by
  refine go_check_board_place _ _ fun k hk => ?_
  have b := bd_boardB hB
  have nf := bd_nf (n := n) hl
  have h := hB.n1
  have h' := hB.n8
  repeat' fin_range
local macro_rules | `(tactic| dict_keeps) => `(tactic| refine' ck_p ?_ (check_board_place_fn _ _ _ ?_ ?_ ?_) ?_ ?_)
theorem next_places_fn (n : Int) (rs : List (Int × Int)) (v : Int) (hB : IsBd n rs) (hl : rs.length ≤ 1000) (hv : 0 ≤ v ∧ v < n) : Fp P Wn d_next_places i_next_places [bdD n rs, .int v] (.val (.tup ((nxt rs v).map .int))) := by
  refine go_next_places _ _ fun k hk => ?_
  repeat' fin_range
local macro_rules | `(tactic| dict_keeps) => `(tactic| refine' ck_p ?_ (next_places_fn _ _ _ ?_ ?_ ?_) ?_ ?_)
theorem Nb.addIL {xs ys : List Int} (h : xs.length + ys.length ≤ 1000) : BinR .Add (.tup (xs.map .int)) (.tup (ys.map .int)) (.val (.tup ((xs ++ ys).map .int))) := by
  rw [List.map_append]
  exact Nb.addT (by rw [List.length_map, List.length_map]; omega)
theorem last_ones_fn (n : Int) (rs : List (Int × Int)) (left : List Int) (hl : rs.length ≤ 1000) (hf : left.length ≤ 1000) : Fp P Wn d_last_ones i_last_ones [bdD n rs, .lst (left.map .int)] (.fresh ((lastO rs left).map .int)) := by
  refine go_last_ones _ _ fun k hk => ?_
  repeat' fin_range
local macro_rules | `(tactic| dict_keeps) => `(tactic| refine' ck_p ?_ (last_ones_fn _ _ _ ?_ ?_) ?_ ?_)
theorem left_in_rings_fn (n : Int) (rs : List (Int × Int)) (hB : IsBd n rs) (hl : rs.length ≤ 1000) : Fp P Wn d_left_in_rings i_left_in_rings [bdD n rs] (.val (.tup [.lst ((leftO n rs).1.map .int), .tup ((leftO n rs).2.map .int)])) := by
  refine go_left_in_rings _ fun k hk => ?_
  have h1 := hB.n1
  have h8 := hB.n8
  have hg : ∀ r ∈ rs, 0 ≤ r.2 ∧ r.2 < n := fun r hr => ⟨(hB.rg r hr).2.2.1, (hB.rg r hr).2.2.2.1⟩
  have pl := places_len n
  repeat' fin_range
  refine whl_inv (fun m ρ => ∃ (left order : List Int), m = left.length ∧ PeelI n rs left order ∧ (∃ j, left.length ≤ j ∧ peel rs j left order = leftO n rs) ∧ ρ = [.val (bdD n rs), .val (.lst (left.map .int)), .val (.tup (order.map .int)), .val (.lst ((lastO rs left).map .int)), .non]) (n := (places n).length) (by rw [pl]; unfold Wn; omega) ⟨_, _, rfl, PeelI.start, ⟨n.toNat, by omega, rfl⟩, rfl⟩ fun m ρ hI => ?_
  obtain ⟨left, order, rfl, hP, ⟨j, hj, ej⟩, rfl⟩ := hI
  have hlen := hP.len
  have hol : order.length ≤ n.toNat := by
    have := hP.perm.length_eq
    rw [List.length_append, places_len] at this
    omega
  have hla : (lastO rs left).length ≤ left.length := List.length_filter_le _ _
  repeat' fin_range
  refine ⟨fun h => ?_, fun h => ?_⟩
  · have hne : lastO rs left ≠ [] := by simpa using h
    have less := filter_less hne
    have hP' := hP.step hg
    have hle := hP'.perm.length_eq
    rw [List.length_append, List.length_append, places_len] at hle
    repeat' (first | exact Nb.addIL (by omega) | fin_range)
    refine ⟨_, less, _, _, rfl, hP', ⟨j - 1, by omega, ?_⟩, rfl⟩
    rw [← ej]
    cases j with
    | zero => omega
    | succ j =>
      conv => rhs; unfold peel
      rw [if_neg hne]; rfl
  · have he : lastO rs left = [] := by simpa using h
    repeat' fin_range
    rw [← ej]
    cases j with
    | zero => rfl
    | succ j =>
      unfold peel
      rw [if_pos he]
local macro_rules | `(tactic| dict_keeps) => `(tactic| refine' ck_p ?_ (left_in_rings_fn _ _ ?_ ?_) ?_ ?_)
theorem an_order_by_0 (n : Int) (rs : List (Int × Int)) (hB : IsBd n rs) (hl : rs.length ≤ 1000) (he : (leftO n rs).1 = []) : Fp P Wn d_an_order_by i_an_order_by [bdD n rs] (.val (.tup ((leftO n rs).2.map .int))) := by
  refine go_an_order_by _ fun k hk => ?_
  repeat' (first | (refine' id_br ?_; refine' br_t (decide_eq_true he) ?_) | fin_range)
theorem an_order_by_1 (n : Int) (rs : List (Int × Int)) (hB : IsBd n rs) (hl : rs.length ≤ 1000) (he : (leftO n rs).1 ≠ []) : Fp P Wn d_an_order_by i_an_order_by [bdD n rs] (.val .non) := by
  refine go_an_order_by _ fun k hk => ?_
  repeat' (first | (refine' id_br ?_; refine' br_f (decide_eq_false he) ?_) | fin_range)
theorem a_ring_by_0 (n : Int) (rs : List (Int × Int)) (hB : IsBd n rs) (hl : rs.length ≤ 1000) (he : (leftO n rs).1 = []) : Fp P Wn d_a_ring_by i_a_ring_by [bdD n rs] (.val .non) := by
  refine go_a_ring_by _ fun k hk => ?_
  repeat' fin_range
  refine br_t (decide_eq_true he) ?_
  repeat' fin_range
theorem a_ring_by_1 (n : Int) (rs : List (Int × Int)) (hB : IsBd n rs) (hl : rs.length ≤ 1000) (he : (leftO n rs).1 ≠ []) : Fp P Wn d_a_ring_by i_a_ring_by [bdD n rs] (.val (.tup ((ringO n rs).map .int))) := by
  refine go_a_ring_by _ fun k hk => ?_
  obtain ⟨hP, hla⟩ := leftO_ok (n := n) (rs := rs) fun r hr => ⟨(hB.rg r hr).2.2.1, (hB.rg r hr).2.2.2.1⟩
  have h1 := hB.n1
  have h8 := hB.n8
  have hll := hP.len
  repeat' fin_range
  refine br_f (decide_eq_false he) ?_
  repeat' (first | exact Ni.headI he | fin_range)
  have g0 : GoI rs (leftO n rs).1 [(leftO n rs).1.headD 0] := ⟨by simp, by simp, fun x hx => by
    rw [List.mem_singleton] at hx
    subst hx
    cases e : (leftO n rs).1 with
    | nil => exact absurd e he
    | cons y ys => exact List.mem_cons_self, fun i x y a b => by
    have := (List.getElem?_eq_some_iff.mp b).1
    simp at this⟩
  refine whl_inv (fun m ρ => ∃ (f : List Int), m + f.length = (leftO n rs).1.length + 1 ∧ GoI rs (leftO n rs).1 f ∧ (∃ j, (leftO n rs).1.length + 1 ≤ j + f.length ∧ ringIn (goOn rs (leftO n rs).1 j f) = ringO n rs) ∧ ρ = [.val (bdD n rs), .val (.lst ((leftO n rs).1.map .int)), .val (.tup ((leftO n rs).2.map .int)), .own (f.map .int) false, .non]) (n := (leftO n rs).1.length) (by unfold Wn; omega) ⟨[(leftO n rs).1.headD 0], rfl, g0, ⟨9, by rw [List.length_singleton]; omega, rfl⟩, rfl⟩ fun m ρ hI => ?_
  obtain ⟨f, hm, hG, ⟨j, hj, ej⟩, rfl⟩ := hI
  have hfl := hG.len
  have hne := hG.ne
  have hlm : f.getLastD 0 ∈ f := by
    have q : f.getLastD 0 ∈ f.dropLast ++ [f.getLastD 0] := List.mem_append_right _ (List.mem_singleton.mpr rfl)
    rw [← last_split hne] at q
    exact q
  repeat' (first | exact Ni.lastI hne | exact Nl.initL | fin_range)
  refine ⟨fun h => ?_, fun h => ?_⟩
  · have hx : f.getLastD 0 ∉ f.dropLast := by simpa using h
    have hG' := hG.step hla hx
    have hfl' := hG'.len
    rw [List.length_append, List.length_singleton] at hfl'
    obtain ⟨k1, k2⟩ := nextIn_ok hla hG.last_mem
    have hne2 : ((nxt rs (f.getLastD 0)).filter fun q => decide (q ∈ (leftO n rs).1)) ≠ [] := List.ne_nil_of_mem (List.mem_filter.mpr ⟨mem_nxt.mpr k1, by simpa using k2⟩)
    repeat' (first | exact Ni.lastI hne | exact Nl.initL | exact Ni.headI hne2 | fin_range)
    refine ⟨m - 1, by omega, f ++ [nextIn rs (leftO n rs).1 (f.getLastD 0)], by rw [List.length_append, List.length_singleton]; omega, hG', ⟨j - 1, by rw [List.length_append, List.length_singleton]; omega, ?_⟩, ?_⟩
    · rw [← ej]
      cases j with
      | zero => omega
      | succ j =>
        conv => rhs; unfold goOn
        rw [if_neg hx]; rfl
    · rw [List.map_append]; rfl
  · have hx : f.getLastD 0 ∈ f.dropLast := by simpa using h
    have sl : SlcR (.lst (f.map .int)) (some (((f.idxOf (f.getLastD 0) : Nat) : Int) + 1)) none (.fresh ((ringIn f).map .int)) := Nl.dropL (j := f.idxOf (f.getLastD 0) + 1)
    have er : ringIn f = ringO n rs := by
      rw [← ej]
      cases j with
      | zero => rfl
      | succ j =>
        unfold goOn
        rw [if_pos hx]
    rw [er] at sl
    repeat' (first | exact Ni.lastI hne | exact sl | fin_range)
theorem a_ring_0 (n : Int) (rs : List (Int × Int)) (hB : IsBd n rs) (hl : rs.length ≤ 1000) (he : (leftO n rs).1 = []) : Fp P Wn d_a_ring i_a_ring [bdD n rs] (.val .non) := by
  refine go_a_ring _ fun k hk => ?_
  have b := bd_boardB hB
  have nf := bd_nf (n := n) hl
  repeat' (first | refine' ck_p ?_ (a_ring_by_0 n rs hB hl he) ?_ ?_ | fin_range)
theorem a_ring_1 (n : Int) (rs : List (Int × Int)) (hB : IsBd n rs) (hl : rs.length ≤ 1000) (he : (leftO n rs).1 ≠ []) : Fp P Wn d_a_ring i_a_ring [bdD n rs] (.val (.tup ((ringO n rs).map .int))) := by
  refine go_a_ring _ fun k hk => ?_
  have b := bd_boardB hB
  have nf := bd_nf (n := n) hl
  repeat' (first | refine' ck_p ?_ (a_ring_by_1 n rs hB hl he) ?_ ?_ | fin_range)
theorem an_order_0 (n : Int) (rs : List (Int × Int)) (hB : IsBd n rs) (hl : rs.length ≤ 1000) (he : (leftO n rs).1 = []) : Fp P Wn d_an_order i_an_order [bdD n rs] (.val (.tup ((leftO n rs).2.map .int))) := by
  refine go_an_order _ fun k hk => ?_
  have b := bd_boardB hB
  have nf := bd_nf (n := n) hl
  repeat' (first | refine' ck_p ?_ (an_order_by_0 n rs hB hl he) ?_ ?_ | fin_range)
theorem an_order_1 (n : Int) (rs : List (Int × Int)) (hB : IsBd n rs) (hl : rs.length ≤ 1000) (he : (leftO n rs).1 ≠ []) : Fp P Wn d_an_order i_an_order [bdD n rs] (.val .non) := by
  refine go_an_order _ fun k hk => ?_
  have b := bd_boardB hB
  have nf := bd_nf (n := n) hl
  repeat' (first | refine' ck_p ?_ (an_order_by_1 n rs hB hl he) ?_ ?_ | fin_range)
theorem law_is_number_fn (d : D) (a b : Int) (h : d.ty.isSome = true) : Fp P Wn d__law_is_number i__law_is_number [d, .int a, .int b] (.val (.bl (btwB a b d))) := by
  refine go__law_is_number _ _ _ fun k hk => ?_
  cases d with
  | fn f => cases h
  | _ => repeat' fin_range
local macro_rules | `(tactic| dict_keeps) => `(tactic| refine' ck_p ?_ (law_is_number_fn _ _ _ ?_) ?_ ?_)
theorem zipD_ints : ∀ xs ys : List Int, zipD (xs.map .int) (ys.map .int) = (xs.zip ys).map pD
  | [], _ => rfl
  | _ :: _, [] => rfl
  | x :: xs, y :: ys => by
    show D.tup [.int x, .int y] :: zipD (xs.map .int) (ys.map .int) = _
    rw [zipD_ints xs ys]; rfl
theorem law_is_places_fn (n : Int) (rs : List (Int × Int)) (xs : List Int) (hn : xs.Nodup) (hl : xs.length ≤ 100) (hr : ∀ x ∈ xs, 0 ≤ x ∧ x < n) : Fp P Wn d__law_is_places i__law_is_places [bdD n rs, .tup (xs.map .int)] (.val (.bl true)) := by
  refine go__law_is_places _ _ fun k hk => ?_
  have e : (xs.all fun x => btwB 0 (n - 1) (.int x)) = true := by
    rw [List.all_eq_true]
    intro x hx
    have := hr x hx
    show (decide (0 ≤ x) && decide (x ≤ n - 1)) = true
    rw [decide_eq_true this.1, decide_eq_true (by omega)]; rfl
  repeat' (first | exact Nk.lenSetT hn (by omega) | fin_range)
  show R.val (.bl (true && ((xs.all fun x => btwB 0 (n - 1) (.int x)) && decide ((xs.length : Int) = (xs.length : Int))))) = _
  rw [e, decide_eq_true rfl]; rfl
local macro_rules | `(tactic| dict_keeps) => `(tactic| refine' ck_p ?_ (law_is_places_fn _ _ _ ?_ ?_ ?_) ?_ ?_)
theorem law_has_ring_0 (n : Int) (rs : List (Int × Int)) (hB : IsBd n rs) (hl : rs.length ≤ 1000) (he : (leftO n rs).1 = []) : Fp P Wn d__law_has_ring i__law_has_ring [bdD n rs] (.val (.bl false)) := by
  refine go__law_has_ring _ fun k hk => ?_
  have h1 := hB.n1
  have h8 := hB.n8
  repeat' fin_range
  refine for_map (enc := D.int) (xs := places n) (fun j ρ => ∃ (left : List Int) (s2 s3 : Sl), left.Nodup ∧ (∀ x ∈ left, 0 ≤ x ∧ x < n) ∧ left.length + j = n.toNat ∧ LSl s2 ∧ LSl s3 ∧ ρ = [.val (bdD n rs), .val (.lst (left.map .int)), s2, s3, .non, .non, .non]) (rng_places _) ⟨places n, _, _, places_nodup n, fun x hx => mem_places.mp hx, by rw [places_len]; rfl, lsl_non, lsl_non, rfl⟩ (fun j lap ρ hx hI => ?_) fun ρ hI => ?_
  · obtain ⟨left, s2, s3, nd, hr, hlen, h2, h3, rfl⟩ := hI
    have hjn : j < n.toNat := by
      have := (List.getElem?_eq_some_iff.mp hx).1
      rwa [places_len] at this
    have hne : freeO rs left ≠ [] := free_some hB he hr (fun z => by rw [z, List.length_nil] at hlen; omega)
    have less := take_less nd hne
    have fl : (freeO rs left).length ≤ left.length := List.length_filter_le _ _
    refine ⟨_, .name (getAt_of rfl) (fs_lsl h2) (.s (.s .z)), ?_⟩
    repeat' (first | exact Nl.take1 | fin_range)
    refine br_f (decide_eq_false hne) ?_
    repeat' fin_range
    exact ⟨_, _, _, nd.filter _, fun x hx => hr x (List.mem_filter.mp hx).1, by show (left.filter fun p => !decide (p ∈ (freeO rs left).take 1)).length + (j + 1) = _; omega, lsl_val, lsl_val, rfl⟩
  · obtain ⟨left, s2, s3, nd, hr, hlen, h2, h3, rfl⟩ := hI
    repeat' fin_range
theorem law_has_ring_1 (n : Int) (rs : List (Int × Int)) (hB : IsBd n rs) (hl : rs.length ≤ 1000) (he : (leftO n rs).1 ≠ []) : Fp P Wn d__law_has_ring i__law_has_ring [bdD n rs] (.val (.bl true)) := by
  refine go__law_has_ring _ fun k hk => ?_
  have h1 := hB.n1
  have h8 := hB.n8
  obtain ⟨hP, hla⟩ := leftO_ok (n := n) (rs := rs) fun r hr => ⟨(hB.rg r hr).2.2.1, (hB.rg r hr).2.2.2.1⟩
  have st0 : StayI rs (leftO n rs).1 (places n) := by
    refine ⟨?_, fun x hx hL => ?_⟩
    · obtain ⟨x, hx⟩ := List.exists_mem_of_ne_nil _ he
      exact ⟨x, mem_places.mpr (hP.mem hx), hx⟩
    · obtain ⟨q, q1, q2⟩ := left_next hla hL
      exact ⟨q, q1, mem_places.mpr (hP.mem q2), q2⟩
  repeat' fin_range
  refine for_map (enc := D.int) (xs := places n) (fun j ρ => ∃ (left : List Int) (s2 s3 : Sl), left.Nodup ∧ StayI rs (leftO n rs).1 left ∧ left.length + j = n.toNat ∧ LSl s2 ∧ LSl s3 ∧ ρ = [.val (bdD n rs), .val (.lst (left.map .int)), s2, s3, .non, .non, .non]) (rng_places _) ⟨places n, _, _, places_nodup n, st0, by rw [places_len]; rfl, lsl_non, lsl_non, rfl⟩ (fun j lap ρ hx hI => ?_) fun ρ hI => ?_
  · obtain ⟨left, s2, s3, nd, hr, hlen, h2, h3, rfl⟩ := hI
    have fl : (freeO rs left).length ≤ left.length := List.length_filter_le _ _
    refine ⟨_, .name (getAt_of rfl) (fs_lsl h2) (.s (.s .z)), ?_⟩
    repeat' (first | exact Nl.take1 | (refine' id_br ?_; refine ⟨fun h => ?_, fun h => ?_⟩) | fin_range)
    have hne : freeO rs left ≠ [] := of_decide_eq_false h
    have e := take_less nd hne
    exact ⟨_, _, _, nd.filter _, hr.step fun r hr => (hB.rg r hr).2.2.2.2, by show (left.filter fun p => !decide (p ∈ (freeO rs left).take 1)).length + (j + 1) = _; omega, lsl_val, lsl_val, rfl⟩
  · obtain ⟨left, s2, s3, nd, hr, hlen, h2, h3, rfl⟩ := hI
    exfalso
    rw [places_len] at hlen
    have : left = [] := List.length_eq_zero_iff.mp (by omega)
    obtain ⟨x, hx, _⟩ := hr.ne
    rw [this] at hx
    cases hx
theorem k04_loop_bd : IsBd 3 [(0, 1), (1, 0), (1, 2)] := ⟨by decide, by decide, by decide, by decide, ⟨fun p => if p = 0 then 2 else if p = 1 then 1 else 0, fun p h0 h1 => by
  have : p = 0 ∨ p = 1 ∨ p = 2 := by omega
  rcases this with rfl | rfl | rfl
  · exact .inr ⟨1, by decide, by decide⟩
  · exact .inr ⟨2, by decide, by decide⟩
  · exact .inl (by decide)⟩⟩
theorem k04_two_bd : IsBd 2 [(1, 0)] := ⟨by decide, by decide, by decide, by decide, ⟨fun p => if p = 1 then 1 else 0, fun p h0 h1 => by
  have : p = 0 ∨ p = 1 := by omega
  rcases this with rfl | rfl
  · exact .inl (by decide)
  · exact .inr ⟨0, by decide, by decide⟩⟩⟩
theorem law_right_y : TrueP P Wn d__law_right i__law_right := by
  intro l hl
  refine goy__law_right _ fun k hk => ?_
  repeat' fin_range
  refine for_map (enc := D.int) (xs := places 30) (fun j ρ => ∃ (l : List D) (s1 s3 s4 s5 s6 : Sl), PoolOk l ∧ LSl s1 ∧ LSl s3 ∧ LSl s4 ∧ LSl s5 ∧ LSl s6 ∧ ρ = [.own l true, s1, .non, s3, s4, s5, s6, .non, .non, .non, .non]) (rng_places 30) ⟨l, _, _, _, _, _, hl, lsl_non, lsl_non, lsl_non, lsl_non, lsl_non, rfl⟩ (fun j lap ρ hx hI => ?_) fun ρ hI => ?_
  · obtain ⟨l, s1, s3, s4, s5, s6, hl, h1, h3, h4, h5, h6, rfl⟩ := hI
    refine ⟨_, .name (getAt_of rfl) (fs_lsl h1) (.s .z), ?_⟩
    repeat' fin_range
    rename_i n rs l' hB hn1 hn hrs hsr hl'
    have hg2 : ∀ r ∈ rs, 0 ≤ r.2 ∧ r.2 < n := fun r hr => ⟨(hB.rg r hr).2.2.1, (hB.rg r hr).2.2.2.1⟩
    have hl : rs.length ≤ 1000 := by omega
    obtain ⟨hP, hla⟩ := leftO_ok (n := n) (rs := rs) hg2
    by_cases he : (leftO n rs).1 = []
    · have fR := law_has_ring_0 n rs hB hl he
      have fa := a_ring_0 n rs hB hl he
      have fo := an_order_0 n rs hB hl he
      rw [he] at hP
      obtain ⟨o1, o2, o3, o4⟩ := order_ok hB.rg hP
      have ho : ((leftO n rs).2.length : Int) = n := by rw [o2]; omega
      have ho8 : (leftO n rs).2.length ≤ 100 := by omega
      have ho9 : ∀ x ∈ (leftO n rs).2, 0 ≤ x ∧ x < n := fun x hx => (o3 x).mp hx
      have hm1 : ∀ r ∈ rs, r.1 ∈ (leftO n rs).2 := fun r hr => (o3 _).mpr ⟨(hB.rg r hr).1, (hB.rg r hr).2.1⟩
      have hm2 : ∀ r ∈ rs, r.2 ∈ (leftO n rs).2 := fun r hr => (o3 _).mpr (hg2 r hr)
      repeat' (first | (refine' id_ck ?_; first | refine' ck_p ?_ fR ?_ ?_ | refine' ck_p ?_ fa ?_ ?_ | refine' ck_p ?_ fo ?_ ?_) | fin_range)
      refine br_f ?_ ?_
      · rw [decide_eq_true ho, Bool.not_true, Bool.false_or, Bool.not_eq_false', List.all_eq_true]
        exact fun r hr => decide_eq_true (by have := o4 r hr; omega)
      repeat' fin_range
      exact ⟨_, _, _, _, _, _, hl', lsl_val, lsl_val, lsl_val, lsl_val, lsl_val, rfl⟩
    · have fR := law_has_ring_1 n rs hB hl he
      have fa := a_ring_1 n rs hB hl he
      have fo := an_order_1 n rs hB hl he
      obtain ⟨hr, hrm⟩ := ringO_ok hB he
      have r8 : (ringO n rs).length ≤ 100 := by
        have := sub_len hr.nd (l := places n) fun x hx => mem_places.mpr (hrm x hx)
        rw [places_len] at this
        omega
      have r2 := hr.two
      have rnd := hr.nd
      have hz : ∀ p ∈ (ringO n rs).zip ((ringO n rs).drop 1 ++ (ringO n rs).take 1), 0 ≤ p.1 ∧ p.1 < n := fun p hp => ⟨(hB.rg _ (hr.ch p hp)).1, (hB.rg _ (hr.ch p hp)).2.1⟩
      have hzl : ((ringO n rs).zip ((ringO n rs).drop 1 ++ (ringO n rs).take 1)).length ≤ 100 := by rw [List.length_zip]; omega
      have hrd : ((ringO n rs).drop 1).length + ((ringO n rs).take 1).length ≤ 1000 := by rw [List.length_drop, List.length_take]; omega
      repeat' (first | (refine' id_ck ?_; first | refine' ck_p ?_ fR ?_ ?_ | refine' ck_p ?_ fa ?_ ?_ | refine' ck_p ?_ fo ?_ ?_) | exact hz _ (by assumption) | exact Nl.dropT (j := 1) | exact Nl.take1T | exact Nb.addIL hrd | (refine' id_lck ?_; refine' lc_map0 (zipD_ints _ _) ?_ ?_ (fun x hx => ?_) ?_) | fin_range)
      refine br_f ?_ ?_
      · rw [decide_eq_false (by omega), Bool.false_or, Bool.not_eq_false', List.all_eq_true]
        exact fun p hp => decide_eq_true (mem_nxt.mpr (hr.ch p hp))
      repeat' fin_range
      exact ⟨_, _, _, _, _, _, hl', lsl_val, lsl_val, lsl_val, lsl_val, lsl_val, rfl⟩
  · obtain ⟨l, s1, s3, s4, s5, s6, hl, h1, h3, h4, h5, h6, rfl⟩ := hI
    have a1 := a_ring_1 3 [(0, 1), (1, 0), (1, 2)] k04_loop_bd (by decide) (by decide)
    have a2 := an_order_1 3 [(0, 1), (1, 0), (1, 2)] k04_loop_bd (by decide) (by decide)
    have a3 := a_ring_0 2 [(1, 0)] k04_two_bd (by decide) (by decide)
    have a4 := an_order_0 2 [(1, 0)] k04_two_bd (by decide) (by decide)
    have e1 : (ringO 3 [(0, 1), (1, 0), (1, 2)]) = [1, 0] := by decide
    have e2 : (leftO 2 [(1, 0)]).2 = [1, 0] := by decide
    rw [e1] at a1
    rw [e2] at a4
    repeat' (first
      | (refine' id_ck ?_; first | refine' ck_p (.cons .nil) a1 ?_ ?_ | refine' ck_p (.cons .nil) a2 ?_ ?_ | refine' ck_p (.cons .nil) a3 ?_ ?_ | refine' ck_p (.cons .nil) a4 ?_ ?_)
      | fin_range)
    exact ⟨_, hl, by rfl, rfl⟩
local macro_rules | `(tactic| dict_keeps) => `(tactic| refine' ck_T law_right_y ?_ rfl (by assumption) ?_ (fun l' hl' => ⟨_, ?_, ?_⟩))
theorem law_y (ns : List Int) (hl : ns.length ≤ 63) : Fy P Wn d_law i_law [.val (.rol (ns.map .int))] (fun r bs => r = .val (.bl true)) fun _ _ _ => False := by
  refine goy_law _ fun k hk => ?_
  repeat' fin_range
  · exact (mem_places.mp (by assumption)).1
  · rw [List.all_eq_true.mpr fun _ _ => rfl]
theorem good : Cr.Good glL kw tabs Wn 40 i_law := fun ns hl => by
  obtain ⟨r, bs, e, h⟩ := co_x (law_y ns hl) 40 (by decide)
  exact ⟨bs, by rw [e, h]⟩
end Lw
namespace Lw
open PySem PySem.Spec PyProof.Rows L2
theorem bd0 {K : PySem.W.Frag} {f : Addr} {fd : FuncData} (F : FunD K tb0.name tb0.name (defArgs tb0.st) (defBody tb0.st) (defScope tb0.st) [] [] f fd) : (∀ (s : Shared) (us : List Value), us.length = tb0.ps.length → BindsTo s fd ⟨us, []⟩ (tb0.ps.zip us)) ∧ ∀ n ks, (0, n, ks) ∈ kw → Cr.KwBind fd tb0.ps n ks (Cr.permOf tb0.ps n ks) := by
  refine ⟨fun s us hl => FunD.bindsA (ps := tb0.ps) F (fun _ _ _ _ _ _ us hl => match us, hl with | [_], _ => rfl) s us hl, fun n ks h => ?_⟩
  simp [kw] at h
theorem bd1 {K : PySem.W.Frag} {f : Addr} {fd : FuncData} (F : FunD K tb1.name tb1.name (defArgs tb1.st) (defBody tb1.st) (defScope tb1.st) [] [] f fd) : (∀ (s : Shared) (us : List Value), us.length = tb1.ps.length → BindsTo s fd ⟨us, []⟩ (tb1.ps.zip us)) ∧ ∀ n ks, (1, n, ks) ∈ kw → Cr.KwBind fd tb1.ps n ks (Cr.permOf tb1.ps n ks) := by
  refine ⟨fun s us hl => FunD.bindsA (ps := tb1.ps) F (fun _ _ _ _ _ _ us hl => match us, hl with | [_, _, _], _ => rfl) s us hl, fun n ks h => ?_⟩
  simp [kw] at h
theorem bd2 {K : PySem.W.Frag} {f : Addr} {fd : FuncData} (F : FunD K tb2.name tb2.name (defArgs tb2.st) (defBody tb2.st) (defScope tb2.st) [] [] f fd) : (∀ (s : Shared) (us : List Value), us.length = tb2.ps.length → BindsTo s fd ⟨us, []⟩ (tb2.ps.zip us)) ∧ ∀ n ks, (2, n, ks) ∈ kw → Cr.KwBind fd tb2.ps n ks (Cr.permOf tb2.ps n ks) := by
  refine ⟨fun s us hl => FunD.bindsA (ps := tb2.ps) F (fun _ _ _ _ _ _ us hl => match us, hl with | [_, _], _ => rfl) s us hl, fun n ks h => ?_⟩
  simp [kw] at h
theorem bd3 {K : PySem.W.Frag} {f : Addr} {fd : FuncData} (F : FunD K tb3.name tb3.name (defArgs tb3.st) (defBody tb3.st) (defScope tb3.st) [] [] f fd) : (∀ (s : Shared) (us : List Value), us.length = tb3.ps.length → BindsTo s fd ⟨us, []⟩ (tb3.ps.zip us)) ∧ ∀ n ks, (3, n, ks) ∈ kw → Cr.KwBind fd tb3.ps n ks (Cr.permOf tb3.ps n ks) := by
  refine ⟨fun s us hl => FunD.bindsA (ps := tb3.ps) F (fun _ _ _ _ _ _ us hl => match us, hl with | [_, _], _ => rfl) s us hl, fun n ks h => ?_⟩
  simp [kw] at h
theorem bd4 {K : PySem.W.Frag} {f : Addr} {fd : FuncData} (F : FunD K tb4.name tb4.name (defArgs tb4.st) (defBody tb4.st) (defScope tb4.st) [] [] f fd) : (∀ (s : Shared) (us : List Value), us.length = tb4.ps.length → BindsTo s fd ⟨us, []⟩ (tb4.ps.zip us)) ∧ ∀ n ks, (4, n, ks) ∈ kw → Cr.KwBind fd tb4.ps n ks (Cr.permOf tb4.ps n ks) := by
  refine ⟨fun s us hl => FunD.bindsA (ps := tb4.ps) F (fun _ _ _ _ _ _ us hl => match us, hl with | [_], _ => rfl) s us hl, fun n ks h => ?_⟩
  simp [kw] at h
theorem bd5 {K : PySem.W.Frag} {f : Addr} {fd : FuncData} (F : FunD K tb5.name tb5.name (defArgs tb5.st) (defBody tb5.st) (defScope tb5.st) [] [] f fd) : (∀ (s : Shared) (us : List Value), us.length = tb5.ps.length → BindsTo s fd ⟨us, []⟩ (tb5.ps.zip us)) ∧ ∀ n ks, (5, n, ks) ∈ kw → Cr.KwBind fd tb5.ps n ks (Cr.permOf tb5.ps n ks) := by
  refine ⟨fun s us hl => FunD.bindsA (ps := tb5.ps) F (fun _ _ _ _ _ _ us hl => match us, hl with | [_, _], _ => rfl) s us hl, fun n ks h => ?_⟩
  simp [kw] at h
theorem bd6 {K : PySem.W.Frag} {f : Addr} {fd : FuncData} (F : FunD K tb6.name tb6.name (defArgs tb6.st) (defBody tb6.st) (defScope tb6.st) [] [] f fd) : (∀ (s : Shared) (us : List Value), us.length = tb6.ps.length → BindsTo s fd ⟨us, []⟩ (tb6.ps.zip us)) ∧ ∀ n ks, (6, n, ks) ∈ kw → Cr.KwBind fd tb6.ps n ks (Cr.permOf tb6.ps n ks) := by
  refine ⟨fun s us hl => FunD.bindsA (ps := tb6.ps) F (fun _ _ _ _ _ _ us hl => match us, hl with | [_, _], _ => rfl) s us hl, fun n ks h => ?_⟩
  simp [kw] at h
theorem bd7 {K : PySem.W.Frag} {f : Addr} {fd : FuncData} (F : FunD K tb7.name tb7.name (defArgs tb7.st) (defBody tb7.st) (defScope tb7.st) [] [] f fd) : (∀ (s : Shared) (us : List Value), us.length = tb7.ps.length → BindsTo s fd ⟨us, []⟩ (tb7.ps.zip us)) ∧ ∀ n ks, (7, n, ks) ∈ kw → Cr.KwBind fd tb7.ps n ks (Cr.permOf tb7.ps n ks) := by
  refine ⟨fun s us hl => FunD.bindsA (ps := tb7.ps) F (fun _ _ _ _ _ _ us hl => match us, hl with | [_], _ => rfl) s us hl, fun n ks h => ?_⟩
  simp [kw] at h
theorem bd8 {K : PySem.W.Frag} {f : Addr} {fd : FuncData} (F : FunD K tb8.name tb8.name (defArgs tb8.st) (defBody tb8.st) (defScope tb8.st) [] [] f fd) : (∀ (s : Shared) (us : List Value), us.length = tb8.ps.length → BindsTo s fd ⟨us, []⟩ (tb8.ps.zip us)) ∧ ∀ n ks, (8, n, ks) ∈ kw → Cr.KwBind fd tb8.ps n ks (Cr.permOf tb8.ps n ks) := by
  refine ⟨fun s us hl => FunD.bindsA (ps := tb8.ps) F (fun _ _ _ _ _ _ us hl => match us, hl with | [_], _ => rfl) s us hl, fun n ks h => ?_⟩
  simp [kw] at h
theorem bd9 {K : PySem.W.Frag} {f : Addr} {fd : FuncData} (F : FunD K tb9.name tb9.name (defArgs tb9.st) (defBody tb9.st) (defScope tb9.st) [] [] f fd) : (∀ (s : Shared) (us : List Value), us.length = tb9.ps.length → BindsTo s fd ⟨us, []⟩ (tb9.ps.zip us)) ∧ ∀ n ks, (9, n, ks) ∈ kw → Cr.KwBind fd tb9.ps n ks (Cr.permOf tb9.ps n ks) := by
  refine ⟨fun s us hl => FunD.bindsA (ps := tb9.ps) F (fun _ _ _ _ _ _ us hl => match us, hl with | [_, _], _ => rfl) s us hl, fun n ks h => ?_⟩
  simp [kw] at h
theorem bd10 {K : PySem.W.Frag} {f : Addr} {fd : FuncData} (F : FunD K tb10.name tb10.name (defArgs tb10.st) (defBody tb10.st) (defScope tb10.st) [] [] f fd) : (∀ (s : Shared) (us : List Value), us.length = tb10.ps.length → BindsTo s fd ⟨us, []⟩ (tb10.ps.zip us)) ∧ ∀ n ks, (10, n, ks) ∈ kw → Cr.KwBind fd tb10.ps n ks (Cr.permOf tb10.ps n ks) := by
  refine ⟨fun s us hl => FunD.bindsA (ps := tb10.ps) F (fun _ _ _ _ _ _ us hl => match us, hl with | [_], _ => rfl) s us hl, fun n ks h => ?_⟩
  simp [kw] at h
theorem bd11 {K : PySem.W.Frag} {f : Addr} {fd : FuncData} (F : FunD K tb11.name tb11.name (defArgs tb11.st) (defBody tb11.st) (defScope tb11.st) [] [] f fd) : (∀ (s : Shared) (us : List Value), us.length = tb11.ps.length → BindsTo s fd ⟨us, []⟩ (tb11.ps.zip us)) ∧ ∀ n ks, (11, n, ks) ∈ kw → Cr.KwBind fd tb11.ps n ks (Cr.permOf tb11.ps n ks) := by
  refine ⟨fun s us hl => FunD.bindsA (ps := tb11.ps) F (fun _ _ _ _ _ _ us hl => match us, hl with | [_, _], _ => rfl) s us hl, fun n ks h => ?_⟩
  simp [kw] at h
theorem bd12 {K : PySem.W.Frag} {f : Addr} {fd : FuncData} (F : FunD K tb12.name tb12.name (defArgs tb12.st) (defBody tb12.st) (defScope tb12.st) [] [] f fd) : (∀ (s : Shared) (us : List Value), us.length = tb12.ps.length → BindsTo s fd ⟨us, []⟩ (tb12.ps.zip us)) ∧ ∀ n ks, (12, n, ks) ∈ kw → Cr.KwBind fd tb12.ps n ks (Cr.permOf tb12.ps n ks) := by
  refine ⟨fun s us hl => FunD.bindsA (ps := tb12.ps) F (fun _ _ _ _ _ _ us hl => match us, hl with | [_], _ => rfl) s us hl, fun n ks h => ?_⟩
  simp [kw] at h
theorem bd13 {K : PySem.W.Frag} {f : Addr} {fd : FuncData} (F : FunD K tb13.name tb13.name (defArgs tb13.st) (defBody tb13.st) (defScope tb13.st) [] [] f fd) : (∀ (s : Shared) (us : List Value), us.length = tb13.ps.length → BindsTo s fd ⟨us, []⟩ (tb13.ps.zip us)) ∧ ∀ n ks, (13, n, ks) ∈ kw → Cr.KwBind fd tb13.ps n ks (Cr.permOf tb13.ps n ks) := by
  refine ⟨fun s us hl => FunD.bindsA (ps := tb13.ps) F (fun _ _ _ _ _ _ us hl => match us, hl with | [_, _], _ => rfl) s us hl, fun n ks h => ?_⟩
  simp [kw] at h
theorem bd14 {K : PySem.W.Frag} {f : Addr} {fd : FuncData} (F : FunD K tb14.name tb14.name (defArgs tb14.st) (defBody tb14.st) (defScope tb14.st) [] [] f fd) : (∀ (s : Shared) (us : List Value), us.length = tb14.ps.length → BindsTo s fd ⟨us, []⟩ (tb14.ps.zip us)) ∧ ∀ n ks, (14, n, ks) ∈ kw → Cr.KwBind fd tb14.ps n ks (Cr.permOf tb14.ps n ks) := by
  refine ⟨fun s us hl => FunD.bindsA (ps := tb14.ps) F (fun _ _ _ _ _ _ us hl => match us, hl with | [_], _ => rfl) s us hl, fun n ks h => ?_⟩
  simp [kw] at h
theorem bd15 {K : PySem.W.Frag} {f : Addr} {fd : FuncData} (F : FunD K tb15.name tb15.name (defArgs tb15.st) (defBody tb15.st) (defScope tb15.st) [] [] f fd) : (∀ (s : Shared) (us : List Value), us.length = tb15.ps.length → BindsTo s fd ⟨us, []⟩ (tb15.ps.zip us)) ∧ ∀ n ks, (15, n, ks) ∈ kw → Cr.KwBind fd tb15.ps n ks (Cr.permOf tb15.ps n ks) := by
  refine ⟨fun s us hl => FunD.bindsA (ps := tb15.ps) F (fun _ _ _ _ _ _ us hl => match us, hl with | [_], _ => rfl) s us hl, fun n ks h => ?_⟩
  simp [kw] at h
theorem bd16 {K : PySem.W.Frag} {f : Addr} {fd : FuncData} (F : FunD K tb16.name tb16.name (defArgs tb16.st) (defBody tb16.st) (defScope tb16.st) [] [] f fd) : (∀ (s : Shared) (us : List Value), us.length = tb16.ps.length → BindsTo s fd ⟨us, []⟩ (tb16.ps.zip us)) ∧ ∀ n ks, (16, n, ks) ∈ kw → Cr.KwBind fd tb16.ps n ks (Cr.permOf tb16.ps n ks) := by
  refine ⟨fun s us hl => FunD.bindsA (ps := tb16.ps) F (fun _ _ _ _ _ _ us hl => match us, hl with | [_], _ => rfl) s us hl, fun n ks h => ?_⟩
  simp [kw] at h
theorem bd17 {K : PySem.W.Frag} {f : Addr} {fd : FuncData} (F : FunD K tb17.name tb17.name (defArgs tb17.st) (defBody tb17.st) (defScope tb17.st) [] [] f fd) : (∀ (s : Shared) (us : List Value), us.length = tb17.ps.length → BindsTo s fd ⟨us, []⟩ (tb17.ps.zip us)) ∧ ∀ n ks, (17, n, ks) ∈ kw → Cr.KwBind fd tb17.ps n ks (Cr.permOf tb17.ps n ks) := by
  refine ⟨fun s us hl => FunD.bindsA (ps := tb17.ps) F (fun _ _ _ _ _ _ us hl => match us, hl with | [_], _ => rfl) s us hl, fun n ks h => ?_⟩
  simp [kw] at h
theorem bd18 {K : PySem.W.Frag} {f : Addr} {fd : FuncData} (F : FunD K tb18.name tb18.name (defArgs tb18.st) (defBody tb18.st) (defScope tb18.st) [] [] f fd) : (∀ (s : Shared) (us : List Value), us.length = tb18.ps.length → BindsTo s fd ⟨us, []⟩ (tb18.ps.zip us)) ∧ ∀ n ks, (18, n, ks) ∈ kw → Cr.KwBind fd tb18.ps n ks (Cr.permOf tb18.ps n ks) := by
  refine ⟨fun s us hl => FunD.bindsA (ps := tb18.ps) F (fun _ _ _ _ _ _ us hl => match us, hl with | [_, _], _ => rfl) s us hl, fun n ks h => ?_⟩
  simp [kw] at h
theorem bd19 {K : PySem.W.Frag} {f : Addr} {fd : FuncData} (F : FunD K tb19.name tb19.name (defArgs tb19.st) (defBody tb19.st) (defScope tb19.st) [] [] f fd) : (∀ (s : Shared) (us : List Value), us.length = tb19.ps.length → BindsTo s fd ⟨us, []⟩ (tb19.ps.zip us)) ∧ ∀ n ks, (19, n, ks) ∈ kw → Cr.KwBind fd tb19.ps n ks (Cr.permOf tb19.ps n ks) := by
  refine ⟨fun s us hl => FunD.bindsA (ps := tb19.ps) F (fun _ _ _ _ _ _ us hl => match us, hl with | [_, _], _ => rfl) s us hl, fun n ks h => ?_⟩
  simp [kw] at h
theorem bd20 {K : PySem.W.Frag} {f : Addr} {fd : FuncData} (F : FunD K tb20.name tb20.name (defArgs tb20.st) (defBody tb20.st) (defScope tb20.st) [] [] f fd) : (∀ (s : Shared) (us : List Value), us.length = tb20.ps.length → BindsTo s fd ⟨us, []⟩ (tb20.ps.zip us)) ∧ ∀ n ks, (20, n, ks) ∈ kw → Cr.KwBind fd tb20.ps n ks (Cr.permOf tb20.ps n ks) := by
  refine ⟨fun s us hl => FunD.bindsA (ps := tb20.ps) F (fun _ _ _ _ _ _ us hl => match us, hl with | [_, _], _ => rfl) s us hl, fun n ks h => ?_⟩
  simp [kw] at h
theorem bd21 {K : PySem.W.Frag} {f : Addr} {fd : FuncData} (F : FunD K tb21.name tb21.name (defArgs tb21.st) (defBody tb21.st) (defScope tb21.st) [] [] f fd) : (∀ (s : Shared) (us : List Value), us.length = tb21.ps.length → BindsTo s fd ⟨us, []⟩ (tb21.ps.zip us)) ∧ ∀ n ks, (21, n, ks) ∈ kw → Cr.KwBind fd tb21.ps n ks (Cr.permOf tb21.ps n ks) := by
  refine ⟨fun s us hl => FunD.bindsA (ps := tb21.ps) F (fun _ _ _ _ _ _ us hl => match us, hl with | [_], _ => rfl) s us hl, fun n ks h => ?_⟩
  simp [kw] at h
  rcases h with ⟨rfl, rfl⟩
  · exact Cr.kw_bind F fun _ _ _ _ _ _ us ws h1 h2 => match us, ws, h1, h2 with | [], [_], _, _ => rfl
theorem bd22 {K : PySem.W.Frag} {f : Addr} {fd : FuncData} (F : FunD K tb22.name tb22.name (defArgs tb22.st) (defBody tb22.st) (defScope tb22.st) [] [] f fd) : (∀ (s : Shared) (us : List Value), us.length = tb22.ps.length → BindsTo s fd ⟨us, []⟩ (tb22.ps.zip us)) ∧ ∀ n ks, (22, n, ks) ∈ kw → Cr.KwBind fd tb22.ps n ks (Cr.permOf tb22.ps n ks) := by
  refine ⟨fun s us hl => FunD.bindsA (ps := tb22.ps) F (fun _ _ _ _ _ _ us hl => match us, hl with | [_], _ => rfl) s us hl, fun n ks h => ?_⟩
  simp [kw] at h
  rcases h with ⟨rfl, rfl⟩
  · exact Cr.kw_bind F fun _ _ _ _ _ _ us ws h1 h2 => match us, ws, h1, h2 with | [], [_], _, _ => rfl
theorem bd23 {K : PySem.W.Frag} {f : Addr} {fd : FuncData} (F : FunD K tb23.name tb23.name (defArgs tb23.st) (defBody tb23.st) (defScope tb23.st) [] [] f fd) : (∀ (s : Shared) (us : List Value), us.length = tb23.ps.length → BindsTo s fd ⟨us, []⟩ (tb23.ps.zip us)) ∧ ∀ n ks, (23, n, ks) ∈ kw → Cr.KwBind fd tb23.ps n ks (Cr.permOf tb23.ps n ks) := by
  refine ⟨fun s us hl => FunD.bindsA (ps := tb23.ps) F (fun _ _ _ _ _ _ us hl => match us, hl with | [_, _], _ => rfl) s us hl, fun n ks h => ?_⟩
  simp [kw] at h
theorem bd24 {K : PySem.W.Frag} {f : Addr} {fd : FuncData} (F : FunD K tb24.name tb24.name (defArgs tb24.st) (defBody tb24.st) (defScope tb24.st) [] [] f fd) : (∀ (s : Shared) (us : List Value), us.length = tb24.ps.length → BindsTo s fd ⟨us, []⟩ (tb24.ps.zip us)) ∧ ∀ n ks, (24, n, ks) ∈ kw → Cr.KwBind fd tb24.ps n ks (Cr.permOf tb24.ps n ks) := by
  refine ⟨fun s us hl => FunD.bindsA (ps := tb24.ps) F (fun _ _ _ _ _ _ us hl => match us, hl with | [_, _], _ => rfl) s us hl, fun n ks h => ?_⟩
  simp [kw] at h
theorem bd25 {K : PySem.W.Frag} {f : Addr} {fd : FuncData} (F : FunD K tb25.name tb25.name (defArgs tb25.st) (defBody tb25.st) (defScope tb25.st) [] [] f fd) : (∀ (s : Shared) (us : List Value), us.length = tb25.ps.length → BindsTo s fd ⟨us, []⟩ (tb25.ps.zip us)) ∧ ∀ n ks, (25, n, ks) ∈ kw → Cr.KwBind fd tb25.ps n ks (Cr.permOf tb25.ps n ks) := by
  refine ⟨fun s us hl => FunD.bindsA (ps := tb25.ps) F (fun _ _ _ _ _ _ us hl => match us, hl with | [_, _], _ => rfl) s us hl, fun n ks h => ?_⟩
  simp [kw] at h
theorem bd26 {K : PySem.W.Frag} {f : Addr} {fd : FuncData} (F : FunD K tb26.name tb26.name (defArgs tb26.st) (defBody tb26.st) (defScope tb26.st) [] [] f fd) : (∀ (s : Shared) (us : List Value), us.length = tb26.ps.length → BindsTo s fd ⟨us, []⟩ (tb26.ps.zip us)) ∧ ∀ n ks, (26, n, ks) ∈ kw → Cr.KwBind fd tb26.ps n ks (Cr.permOf tb26.ps n ks) := by
  refine ⟨fun s us hl => FunD.bindsA (ps := tb26.ps) F (fun _ _ _ _ _ _ us hl => match us, hl with | [_, _], _ => rfl) s us hl, fun n ks h => ?_⟩
  simp [kw] at h
theorem bd27 {K : PySem.W.Frag} {f : Addr} {fd : FuncData} (F : FunD K tb27.name tb27.name (defArgs tb27.st) (defBody tb27.st) (defScope tb27.st) [] [] f fd) : (∀ (s : Shared) (us : List Value), us.length = tb27.ps.length → BindsTo s fd ⟨us, []⟩ (tb27.ps.zip us)) ∧ ∀ n ks, (27, n, ks) ∈ kw → Cr.KwBind fd tb27.ps n ks (Cr.permOf tb27.ps n ks) := by
  refine ⟨fun s us hl => FunD.bindsA (ps := tb27.ps) F (fun _ _ _ _ _ _ us hl => match us, hl with | [_, _], _ => rfl) s us hl, fun n ks h => ?_⟩
  simp [kw] at h
theorem bd28 {K : PySem.W.Frag} {f : Addr} {fd : FuncData} (F : FunD K tb28.name tb28.name (defArgs tb28.st) (defBody tb28.st) (defScope tb28.st) [] [] f fd) : (∀ (s : Shared) (us : List Value), us.length = tb28.ps.length → BindsTo s fd ⟨us, []⟩ (tb28.ps.zip us)) ∧ ∀ n ks, (28, n, ks) ∈ kw → Cr.KwBind fd tb28.ps n ks (Cr.permOf tb28.ps n ks) := by
  refine ⟨fun s us hl => FunD.bindsA (ps := tb28.ps) F (fun _ _ _ _ _ _ us hl => match us, hl with | [_, _, _], _ => rfl) s us hl, fun n ks h => ?_⟩
  simp [kw] at h
theorem bd29 {K : PySem.W.Frag} {f : Addr} {fd : FuncData} (F : FunD K tb29.name tb29.name (defArgs tb29.st) (defBody tb29.st) (defScope tb29.st) [] [] f fd) : (∀ (s : Shared) (us : List Value), us.length = tb29.ps.length → BindsTo s fd ⟨us, []⟩ (tb29.ps.zip us)) ∧ ∀ n ks, (29, n, ks) ∈ kw → Cr.KwBind fd tb29.ps n ks (Cr.permOf tb29.ps n ks) := by
  refine ⟨fun s us hl => FunD.bindsA (ps := tb29.ps) F (fun _ _ _ _ _ _ us hl => match us, hl with | [_, _], _ => rfl) s us hl, fun n ks h => ?_⟩
  simp [kw] at h
theorem bd30 {K : PySem.W.Frag} {f : Addr} {fd : FuncData} (F : FunD K tb30.name tb30.name (defArgs tb30.st) (defBody tb30.st) (defScope tb30.st) [] [] f fd) : (∀ (s : Shared) (us : List Value), us.length = tb30.ps.length → BindsTo s fd ⟨us, []⟩ (tb30.ps.zip us)) ∧ ∀ n ks, (30, n, ks) ∈ kw → Cr.KwBind fd tb30.ps n ks (Cr.permOf tb30.ps n ks) := by
  refine ⟨fun s us hl => FunD.bindsA (ps := tb30.ps) F (fun _ _ _ _ _ _ us hl => match us, hl with | [_], _ => rfl) s us hl, fun n ks h => ?_⟩
  simp [kw] at h
theorem bd31 {K : PySem.W.Frag} {f : Addr} {fd : FuncData} (F : FunD K tb31.name tb31.name (defArgs tb31.st) (defBody tb31.st) (defScope tb31.st) [] [] f fd) : (∀ (s : Shared) (us : List Value), us.length = tb31.ps.length → BindsTo s fd ⟨us, []⟩ (tb31.ps.zip us)) ∧ ∀ n ks, (31, n, ks) ∈ kw → Cr.KwBind fd tb31.ps n ks (Cr.permOf tb31.ps n ks) := by
  refine ⟨fun s us hl => FunD.bindsA (ps := tb31.ps) F (fun _ _ _ _ _ _ us hl => match us, hl with | [_, _], _ => rfl) s us hl, fun n ks h => ?_⟩
  simp [kw] at h
theorem bd32 {K : PySem.W.Frag} {f : Addr} {fd : FuncData} (F : FunD K tb32.name tb32.name (defArgs tb32.st) (defBody tb32.st) (defScope tb32.st) [] [] f fd) : (∀ (s : Shared) (us : List Value), us.length = tb32.ps.length → BindsTo s fd ⟨us, []⟩ (tb32.ps.zip us)) ∧ ∀ n ks, (32, n, ks) ∈ kw → Cr.KwBind fd tb32.ps n ks (Cr.permOf tb32.ps n ks) := by
  refine ⟨fun s us hl => FunD.bindsA (ps := tb32.ps) F (fun _ _ _ _ _ _ us hl => match us, hl with | [_], _ => rfl) s us hl, fun n ks h => ?_⟩
  simp [kw] at h
theorem bd33 {K : PySem.W.Frag} {f : Addr} {fd : FuncData} (F : FunD K tb33.name tb33.name (defArgs tb33.st) (defBody tb33.st) (defScope tb33.st) [] [] f fd) : (∀ (s : Shared) (us : List Value), us.length = tb33.ps.length → BindsTo s fd ⟨us, []⟩ (tb33.ps.zip us)) ∧ ∀ n ks, (33, n, ks) ∈ kw → Cr.KwBind fd tb33.ps n ks (Cr.permOf tb33.ps n ks) := by
  refine ⟨fun s us hl => FunD.bindsA (ps := tb33.ps) F (fun _ _ _ _ _ _ us hl => match us, hl with | [_], _ => rfl) s us hl, fun n ks h => ?_⟩
  simp [kw] at h
theorem binds : Cr.BindsOk tabs kw := ⟨fun i t h => match i, h with
  | 0, h => by cases (show some tb0 = some t from h); exact fun F => bd0 F
  | 1, h => by cases (show some tb1 = some t from h); exact fun F => bd1 F
  | 2, h => by cases (show some tb2 = some t from h); exact fun F => bd2 F
  | 3, h => by cases (show some tb3 = some t from h); exact fun F => bd3 F
  | 4, h => by cases (show some tb4 = some t from h); exact fun F => bd4 F
  | 5, h => by cases (show some tb5 = some t from h); exact fun F => bd5 F
  | 6, h => by cases (show some tb6 = some t from h); exact fun F => bd6 F
  | 7, h => by cases (show some tb7 = some t from h); exact fun F => bd7 F
  | 8, h => by cases (show some tb8 = some t from h); exact fun F => bd8 F
  | 9, h => by cases (show some tb9 = some t from h); exact fun F => bd9 F
  | 10, h => by cases (show some tb10 = some t from h); exact fun F => bd10 F
  | 11, h => by cases (show some tb11 = some t from h); exact fun F => bd11 F
  | 12, h => by cases (show some tb12 = some t from h); exact fun F => bd12 F
  | 13, h => by cases (show some tb13 = some t from h); exact fun F => bd13 F
  | 14, h => by cases (show some tb14 = some t from h); exact fun F => bd14 F
  | 15, h => by cases (show some tb15 = some t from h); exact fun F => bd15 F
  | 16, h => by cases (show some tb16 = some t from h); exact fun F => bd16 F
  | 17, h => by cases (show some tb17 = some t from h); exact fun F => bd17 F
  | 18, h => by cases (show some tb18 = some t from h); exact fun F => bd18 F
  | 19, h => by cases (show some tb19 = some t from h); exact fun F => bd19 F
  | 20, h => by cases (show some tb20 = some t from h); exact fun F => bd20 F
  | 21, h => by cases (show some tb21 = some t from h); exact fun F => bd21 F
  | 22, h => by cases (show some tb22 = some t from h); exact fun F => bd22 F
  | 23, h => by cases (show some tb23 = some t from h); exact fun F => bd23 F
  | 24, h => by cases (show some tb24 = some t from h); exact fun F => bd24 F
  | 25, h => by cases (show some tb25 = some t from h); exact fun F => bd25 F
  | 26, h => by cases (show some tb26 = some t from h); exact fun F => bd26 F
  | 27, h => by cases (show some tb27 = some t from h); exact fun F => bd27 F
  | 28, h => by cases (show some tb28 = some t from h); exact fun F => bd28 F
  | 29, h => by cases (show some tb29 = some t from h); exact fun F => bd29 F
  | 30, h => by cases (show some tb30 = some t from h); exact fun F => bd30 F
  | 31, h => by cases (show some tb31 = some t from h); exact fun F => bd31 F
  | 32, h => by cases (show some tb32 = some t from h); exact fun F => bd32 F
  | 33, h => by cases (show some tb33 = some t from h); exact fun F => bd33 F
  | _ + 34, h => by cases h⟩
end Lw
namespace Lw
open PySem PySem.Spec PyProof.Rows L2
abbrev fn : List He.DefD := tabs.map Cr.defOfTab
abbrev fa : List He.Fa := Cr.faOf tabs glL
abbrev R : PySem.W.OpenRow := PySem.W.OpenLaw.row PySem.Challenge.rw_bidboards_k04_whole_rings_and_orders
abbrev hk : PySem.W.Hook := Cr.hookE 4 fa fn (Cr.exB glL)
def ob (s : PySem.W.SharedT) : He.AlD × Bool := Cr.obsE fa fn (Cr.exB glL) 4 (HandSHeadRun.getT s)
theorem ob_eq (s : PySem.W.SharedT) : ob s = hk.obs s.abs := Cr.obsE_eq (HandSHeadRun.getT_eq s)
def loose : List Str := [("is_whole" : Str), ("is_between" : Str), ("is_tuple_of" : Str), ("are_indexes" : Str), ("are_rising" : Str), ("MOST_PLACES" : Str), ("PLACES" : Str), ("ROADS" : Str), ("is_road" : Str), ("are_roads" : Str), ("is_board_by" : Str), ("places_of" : Str), ("next_places_by" : Str), ("ends_by" : Str), ("with_those_ahead" : Str), ("do_all_end" : Str), ("last_ones" : Str), ("left_in_rings" : Str), ("an_order_by" : Str), ("a_ring_by" : Str), ("BidError" : Str), ("NotABoard" : Str), ("InvalidPlace" : Str), ("check_board" : Str), ("check_place" : Str), ("check_board_place" : Str), ("next_places" : Str), ("a_ring" : Str), ("an_order" : Str), ("_law_pool" : Str), ("_law_below" : Str), ("_law_one" : Str), ("_law_order" : Str), ("_law_board" : Str), ("_law_is_number" : Str), ("_law_same" : Str), ("_law_has_ring" : Str), ("_law_is_places" : Str), ("_law_right" : Str)]
theorem run (w : World) : HandSHeadRun.RunEq R (PySem.W.view R.prog [45]) hk ob 3000 loose w := by
  intro os
  kernel_rfl
theorem gl_ok : Cr.glOk tabs glL = true := by kernel_rfl
theorem sc_ok : Cr.scopesOk tabs = true := by kernel_rfl
theorem facts {P : Program} {w : World} {K : PySem.W.Frag} {h : Heap} {mg : Str → Option Value} {f : Addr} (X : K.In h) (N : h.Ns mainGlobals mg) (hfa : mg ("law" : Str) = some (.ref f)) (c : He.SaysD fa fn K) (g0 : Cr.exB glL K = true) :
    ∃ fd : FuncData, (∀ (s : Shared) (v : Value), BindsTo s fd ⟨[v], []⟩ [("script", v)]) ∧ ∀ base : Heap, K.In base → base.Ns mainGlobals mg → FnOk P w K mg base CX0 40 f fd ["script"] (fun vs H Q _ => Cr.spF (Cr.gloOf K tabs) (Cr.callN (Cr.progOf gl kw tabs) Wn 40) 33 vs H Q E0) := by
  have T := Cr.tabs_ok X N c g0 gl_ok sc_ok binds
  obtain ⟨_, hm, fd, F, hb, _⟩ := T.fn 33 tb33 rfl
  have e : Value.ref f = .ref ((Cr.gloOf K tabs).fa 33) := Option.some.inj (hfa.symm.trans hm)
  injection e with e
  subst e
  exact ⟨fd, fun s v => hb s [v] rfl, fun base _ _ => Cr.fn_quiet (Cr.fns_ok (P := P) (w := w) (base := base) (Wn := Wn) T 40 33 tb33 rfl fd F)⟩
end Lw
open PySem PySem.W PySem.Calls PyProof.Rows
theorem PySem.Challenge.cw_bidboards_k04_whole_rings_and_orders_holds : PySem.Challenge.rw_bidboards_k04_whole_rings_and_orders.Holds := by
  w_on; o_law
  refine HandSHeadRun.head_any (r := OpenLaw.row PySem.Challenge.rw_bidboards_k04_whole_rings_and_orders) (q := view (OpenLaw.row PySem.Challenge.rw_bidboards_k04_whole_rings_and_orders).prog [45]) (H := Lw.hk) (ob := Lw.ob) (M := 3000) (loose := Lw.loose) (d := HandSHeadRun.topDef (OpenLaw.row PySem.Challenge.rw_bidboards_k04_whole_rings_and_orders).prog 45) (kwd := []) Lw.ob_eq
    (by kernel_rfl) (fun s => by kernel_rfl) Lw.run (by kernel_rfl) (by kernel_rfl) (by kernel_rfl) (by rfl) (by first | assumption | decide +kernel) (by decide +kernel) ⟨rfl, rfl, rfl, rfl, rfl, by decide +kernel⟩ ?hw ?hc
  case hw => w_witness2
  case hc =>
    refine L2.walk_ofE (l := PySem.Challenge.rw_bidboards_k04_whole_rings_and_orders) (n := 63) (k := 40) (x := "script") (CX := L2.CX0) rfl (by decide) (by kernel_rfl) ⟨rfl, by decide, by decide⟩ ?F (fun _ _ _ _ z => z)
    intro w mg fa h Y G hmg0
    obtain ⟨K, KX, c, g0⟩ := Y
    have hmg : mg ("law" : PySem.Str) = some (.ref fa) := by
      have e : (HandSHeadRun.topDef (OpenLaw.row PySem.Challenge.rw_bidboards_k04_whole_rings_and_orders).prog 45).name = ("law" : PySem.Str) := by kernel_rfl
      rw [← e]
      exact hmg0
    obtain ⟨fd, hb, hF⟩ := Lw.facts (P := (PySem.Challenge.rw_bidboards_k04_whole_rings_and_orders).prog) (w := w) KX G hmg c g0
    exact ⟨K, fd, fun vs H Q _ => Cr.spF (Cr.gloOf K Lw.tabs) (Cr.callN (Cr.progOf Lw.gl Lw.kw Lw.tabs) Lw.Wn 40) 33 vs H Q L2.E0, KX, hb, fun H a ns hl _ hS => Cr.good_sp (G := Cr.gloOf K Lw.tabs) Lw.good H a ns hl hS, hF⟩


