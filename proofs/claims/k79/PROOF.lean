import PyProof.Rows.All
import Wide.All
import OpenK.AllK
import Wide.FinOn
import PySem.Syntax
import HandS.ForMost
import HandS.Exc
import HandS.WordsExc
import HandS.Star
import HandS.Deep
import HandS.Wide
import HandS.IsInst
import HandS.Conv
import PyProof.P3In
import PyProof.ReprRoads
import HandS.TupAny
import HandS.TupMul
import HandS.Flow
import HandS.TupLen
import HandS.WordsDict
import KE.GoesEnum
import HandS.Iter
import HandS.Comp
import HandS.Small
import HandS.EndBits
import HandS.HeadEnd
import KE.KStateDown
import HandS.Words
import HandS.Codes
import HandS.Defaults
import HandS.Head0
import HandS.Head1
import HandS.Head2
import HandS.HeadHook1
import HandS.HeadHook2
import HandS.HeadHook4
import PyProof.Rows.Walk
import PyProof.TableCode
import PySem.Challenge.RW_onenumber_k79_spans_by_hand
set_option Elab.async false
set_option linter.all false
set_option maxRecDepth 100000
set_option maxHeartbeats 0
/-! A small interpreter of the program's subset of Python, over plain data: tuples and lists are values, dicts and instances stand in a small heap. -/
namespace Ev
open PySem (Pos Operator CmpOp Scope Str Expr Stmt)

/-- plain data -/
inductive D where
  | non | bl (b : Bool) | int (i : Int) | str (s : List Nat) | rep (d : D) | tup (ds : List D) | lst (ds : List D) | ref (i : Nat)
  deriving Inhabited

/-- what stands in the small heap -/
inductive VO where
  | dK (kvs : List (D × D)) | dT (kvs : List (D × D)) | ins (c : Nat) (fs : List (Nat × D))
  deriving Inhabited
abbrev Hs := List VO

/-- a slot: unset, a value, a list that is this frame's own, such a list while it may only be looked at -/
inductive Sl where
  | u | v (d : D) | l (ds : List D) | k (ds : List D)
  deriving Inhabited
abbrev Env := List Sl

inductive Ex where
  | var (i : Nat) (p : Pos)
  | num (n : Int) (k : Nat) (p : Pos)
  | str (s : List Nat) (k : Nat) (p : Pos)
  | cb (b : Bool) (k : Nat) (p : Pos)
  | cn (k : Nat) (p : Pos)
  | glob (g : Nat) (p : Pos)
  | ty (t : Nat) (p : Pos)
  | tup (es : List Ex) (k : Nat) (p : Pos)
  | lst (es : List Ex) (p : Pos)
  | star (e : Ex) (p : Pos)
  | bin (o : Operator) (a b : Ex) (p : Pos)
  | neg (a : Ex) (p : Pos)
  | cmp (o : CmpOp) (a b : Ex) (p : Pos)
  | chn (o o2 : CmpOp) (a b c : Ex) (p : Pos)
  | and (es : List Ex) (p : Pos)
  | or (es : List Ex) (p : Pos)
  | not (a : Ex) (p : Pos)
  | ife (t a b : Ex) (p : Pos)
  | idx (a i : Ex) (p : Pos)
  | slc (a : Ex) (lo hi : Option Ex) (p2 p : Pos)
  | att (a : Ex) (f : Nat) (p : Pos)
  | call (f : Nat) (es : List Ex) (p1 p : Pos)
  | calh (f : Nat) (es : List Ex) (p1 p : Pos)
  | new (c : Nat) (es : List Ex) (p1 p : Pos)
  | mth (f : Nat) (o : Ex) (es : List Ex) (pa p : Pos)
  | blt (b : Nat) (es : List Ex) (p1 p : Pos)
  | lm (m : Nat) (o : Ex) (es : List Ex) (pa p : Pos)
  | lc (elt tg it : Ex) (ifs : List Ex) (sc : Scope) (own : List (Str × Nat)) (p : Pos)
  | lc2 (elt tg it : Ex) (ifs : List Ex) (tg2 it2 : Ex) (ifs2 : List Ex) (sc : Scope) (own : List (Str × Nat)) (vs1 : List Nat) (p : Pos)
  | dic (ks vs : List Ex) (t : Bool) (p : Pos)

inductive St where
  | ret (e : Ex) (p : Pos)
  | retN (p : Pos)
  | asg (t e : Ex) (p : Pos)
  | aug (i : Nat) (pi : Pos) (o : Operator) (e : Ex) (p : Pos)
  | iff (t : Ex) (a b : List St) (p : Pos)
  | whl (t : Ex) (b : List St) (p : Pos)
  | for_ (t it : Ex) (b : List St) (p : Pos)
  | exp (e : Ex) (p : Pos)
  | rai (e : Ex) (p : Pos)
  | brk (p : Pos) | cnt (p : Pos) | pas (p : Pos)

inductive Res where
  | ok (d : D) (fr : Bool) (env : Env) (h : Hs)
  | ex (c : Nat) (d : D) (h : Hs)
  | no
inductive Rs where
  | ok (ds : List D) (env : Env) (h : Hs)
  | ex (c : Nat) (d : D) (h : Hs)
  | no
inductive SR where
  | nx (env : Env) (h : Hs)
  | rt (d : D) (fr : Bool) (h : Hs)
  | bk (env : Env) (h : Hs)
  | ct (env : Env) (h : Hs)
  | ex (c : Nat) (d : D) (h : Hs)
  | no
/-- a call's end -/
inductive CR where
  | ok (d : D) (fr : Bool) (h : Hs)
  | ex (c : Nat) (d : D) (h : Hs)
  | no

/-! ### fast tests -/
def iLt : Int → Int → Bool
  | .ofNat m, .ofNat n => Nat.blt m n
  | .ofNat _, .negSucc _ => false
  | .negSucc _, .ofNat _ => true
  | .negSucc m, .negSucc n => Nat.blt n m
def iEq : Int → Int → Bool
  | .ofNat m, .ofNat n => Nat.beq m n
  | .negSucc m, .negSucc n => Nat.beq m n
  | _, _ => false
def iLe (a b : Int) : Bool := match iLt b a with | true => false | false => true
def sEq : List Nat → List Nat → Bool
  | [], [] => true
  | a :: r, b :: q => match Nat.beq a b with | true => sEq r q | false => false
  | _, _ => false
def band : Bool → Bool → Bool
  | true, b => b
  | false, _ => false
/-- decimal digits, before a rest -/
def digs : Nat → Nat → List Nat → List Nat
  | 0, _, acc => acc
  | f + 1, n, acc => match Nat.beq (Nat.div n 10) 0 with
    | true => Nat.add 48 (Nat.mod n 10) :: acc
    | false => digs f (Nat.div n 10) (Nat.add 48 (Nat.mod n 10) :: acc)
def sApp : List Nat → List Nat → List Nat
  | [], r => r
  | c :: s, r => c :: sApp s r
mutual
/-- the text of a repr, before a rest -/
def txt : D → List Nat → List Nat
  | .non, r => 78 :: 111 :: 110 :: 101 :: r
  | .bl true, r => 84 :: 114 :: 117 :: 101 :: r
  | .bl false, r => 70 :: 97 :: 108 :: 115 :: 101 :: r
  | .int (.ofNat n), r => digs (n + 1) n r
  | .int (.negSucc n), r => 45 :: digs (n + 2) (n + 1) r
  | .str s, r => 39 :: sApp s (39 :: r)
  | .rep d, r => r
  | .tup ds, r => 40 :: (match ds with | [d] => txt d (44 :: 41 :: r) | ds => txts ds (41 :: r))
  | .lst ds, r => 91 :: txts ds (93 :: r)
  | .ref _, r => r
def txts : List D → List Nat → List Nat
  | [], r => r
  | d :: ds, r => match ds with
    | [] => txt d r
    | _ => txt d (44 :: 32 :: txts ds r)
end
mutual
/-- the same, sign by sign -/
def dSame : D → D → Bool
  | .non, .non => true
  | .bl true, .bl true => true
  | .bl false, .bl false => true
  | .int i, .int j => iEq i j
  | .str x, .str y => sEq x y
  | .tup xs, .tup ys => dSames xs ys
  | .lst xs, .lst ys => dSames xs ys
  | .rep x, .rep y => dSame x y
  | .ref i, .ref j => Nat.beq i j
  | _, _ => false
def dSames : List D → List D → Bool
  | [], [] => true
  | x :: xs, y :: ys => match dSame x y with | true => dSames xs ys | false => false
  | _, _ => false
end
mutual
/-- equal as Python has it; none: not told here -/
def dEq : D → D → Option Bool
  | .non, .non => some true
  | .bl a, .bl b => some (match a, b with | true, true => true | false, false => true | _, _ => false)
  | .int i, .int j => some (iEq i j)
  | .bl a, .int j => some (iEq (match a with | true => 1 | false => 0) j)
  | .int i, .bl b => some (iEq i (match b with | true => 1 | false => 0))
  | .str x, .str y => some (sEq x y)
  | .tup xs, .tup ys => dEqs xs ys
  | .lst xs, .lst ys => dEqs xs ys
  | .rep x, .rep y => some (match dSame x y with | true => true | false => sEq (txt x []) (txt y []))
  | .ref _, _ => none
  | _, .ref _ => none
  | .rep _, .str _ => none
  | .str _, .rep _ => none
  | _, _ => some false
def dEqs : List D → List D → Option Bool
  | [], [] => some true
  | x :: xs, y :: ys => match dEq x y with
    | some true => dEqs xs ys
    | some false => some false
    | none => none
  | _, _ => some false
end
mutual
/-- no object of the small heap, nor a text of a repr -/
def pure : D → Bool
  | .ref _ => false
  | .tup ds => pures ds
  | .lst ds => pures ds
  | _ => true
def pures : List D → Bool
  | [] => true
  | d :: r => match pure d with | true => pures r | false => false
end
mutual
def noLst : D → Bool
  | .lst _ => false
  | .tup ds => noLsts ds
  | _ => true
def noLsts : List D → Bool
  | [] => true
  | d :: r => match noLst d with | true => noLsts r | false => false
end
def simple : List Nat → Bool
  | [] => true
  | c :: r => match Nat.ble 97 c, Nat.ble c 122 with | true, true => simple r | _, _ => false
def allF (f : D → Bool) : List D → Bool
  | [] => true
  | d :: r => match f d with | true => allF f r | false => false
def low : List Nat → Bool
  | [] => true
  | c :: r => match Nat.blt c 128 with | true => low r | false => false
/-- data of a depth below n, plain -/
def shp : Nat → D → Bool
  | 0, _ => false
  | n + 1, d => match d with
    | .str s => low s
    | .tup ds => allF (shp n) ds
    | .lst ds => allF (shp n) ds
    | .ref _ => false
    | .rep _ => true
    | _ => true
/-- the same, without texts of reprs, its ints not too long -/
def shR : Nat → D → Bool
  | 0, _ => false
  | n + 1, d => match d with
    | .str s => simple s
    | .tup ds => allF (shR n) ds
    | .lst ds => allF (shR n) ds
    | .ref _ => false
    | .rep _ => false
    | .int i => Nat.blt i.natAbs (2 ^ 512)
    | _ => true
/-- data whose repr is told -/
def repOk (d : D) : Bool := match shR 60 d with | true => Nat.ble (txt d []).length 1000000 | false => false
def lenOk (ds : List D) : Bool := Nat.ble ds.length 100000
/-- truth -/
def truth : D → Option Bool
  | .bl b => some b
  | .non => some false
  | .int i => some (match iEq i 0 with | true => false | false => true)
  | .tup ds => some (match ds with | [] => false | _ => true)
  | .lst ds => some (match ds with | [] => false | _ => true)
  | _ => none
@[irreducible] def BIG : Nat := 2 ^ 4000
def small (i : Int) : Bool := Nat.blt i.natAbs BIG
/-- factors that are not too long together -/
@[irreducible] def mulOk (i j : Int) : Bool := Nat.blt (Nat.add (Nat.log2 i.natAbs) (Nat.log2 j.natAbs)) 100000000
@[irreducible] def powOk (i : Int) (n : Nat) : Bool := match Nat.ble n 1000 with | true => Nat.blt (Nat.mul (Nat.add (Nat.log2 i.natAbs) 1) n) 100000000 | false => false
/-- an int operator -/
def iOp (o : Operator) (i j : Int) : Option Int := match o with
  | .Add => some (i + j)
  | .Sub => some (i - j)
  | .Mult => match mulOk i j with | true => some (i * j) | false => none
  | .Pow => match j with | .ofNat n => (match powOk i n with | true => some (i ^ n) | false => none) | _ => none
  | .FloorDiv => match iLt 0 j with
    | true => match small j with | true => some (i / j) | false => none
    | false => match iLt j 0, Nat.blt j.natAbs 1073741824 with | true, true => some (i.fdiv j) | _, _ => none
  | .Mod => match iLt 0 j with | true => some (i % j) | false => none
  | _ => none
def reps (ds : List D) : Nat → List D
  | 0 => []
  | n + 1 => ds ++ reps ds n
def opV (o : Operator) (a b : D) : Option (D × Bool) := match a, b with
  | .int i, .int j => match iOp o i j with | some z => some (.int z, false) | none => none
  | .lst xs, .lst ys => match o, lenOk xs, lenOk ys with | .Add, true, true => some (.lst (xs ++ ys), true) | _, _, _ => none
  | .tup xs, .tup ys => match o, lenOk xs, lenOk ys with | .Add, true, true => some (.tup (xs ++ ys), false) | _, _, _ => none
  | .tup (x :: xs), .int (.ofNat (n + 2)) => match o, Nat.blt n 900, Nat.blt xs.length 900 with | .Mult, true, true => some (.tup (reps (x :: xs) (n + 2)), false) | _, _, _ => none
  | _, _ => none
def inL (x : D) : List D → Option Bool
  | [] => some false
  | y :: r => match dEq y x with
    | some true => some true
    | some false => inL x r
    | none => none
/-- the same key -/
def kEq (q k : D) : Bool := match q, k with
  | .rep x, .rep y => (match dSame x y with | true => true | false => sEq (txt x []) (txt y []))
  | .rep x, .str s => sEq (txt x []) s
  | .str s, .rep x => sEq s (txt x [])
  | q, k => dSame q k
def dGet (k : D) : List (D × D) → Option D
  | [] => none
  | (q, v) :: r => match kEq q k with | true => some v | false => dGet k r
def dRep (k v : D) : List (D × D) → List (D × D)
  | [] => []
  | (q, u) :: r => match kEq q k with | true => (q, v) :: dRep k v r | false => (q, u) :: dRep k v r
def dPut (k v : D) (kvs : List (D × D)) : List (D × D) := match dGet k kvs with
  | some _ => dRep k v kvs
  | none => kvs ++ [(k, v)]
def notB : Bool → Bool
  | true => false
  | false => true
def isN : D → Option Bool
  | .non => some true
  | _ => some false
/-- ==, where both are plain -/
def eqQ (a b : D) : Option Bool := match a, b with
  | .int i, .int j => some (iEq i j)
  | a, b => match shp 60 a, shp 60 b with | true, true => dEq a b | _, _ => none
def inQ (a : D) (ys : List D) : Option Bool := match shp 60 a, allF (shp 59) ys with | true, true => inL a ys | _, _ => none
def cmpV (o : CmpOp) (a b : D) : Option Bool := match o with
  | .Eq => eqQ a b
  | .NotEq => match eqQ a b with | some c => some (notB c) | none => none
  | .Lt => match a, b with | .int i, .int j => some (iLt i j) | _, _ => none
  | .LtE => match a, b with | .int i, .int j => some (iLe i j) | _, _ => none
  | .Gt => match a, b with | .int i, .int j => some (iLt j i) | _, _ => none
  | .GtE => match a, b with | .int i, .int j => some (iLe j i) | _, _ => none
  | .Is => match b with | .non => isN a | _ => none
  | .IsNot => match b with | .non => (match isN a with | some c => some (notB c) | none => none) | _ => none
  | .In => match b with | .lst ys => inQ a ys | .tup ys => inQ a ys | _ => none
  | .NotIn => match b with | .lst ys => (match inQ a ys with | some c => some (notB c) | none => none) | .tup ys => (match inQ a ys with | some c => some (notB c) | none => none) | _ => none
def atL : List D → Nat → Option D
  | [], _ => none
  | d :: _, 0 => some d
  | _ :: r, n + 1 => atL r n
/-- the place of an index -/
def ixOf (n : Nat) : Int → Option Nat
  | .ofNat i => match Nat.blt i n with | true => some i | false => none
  | .negSucc i => match Nat.blt i n with | true => some (n - (i + 1)) | false => none
def atI (ds : List D) (i : Int) : Option D := match i with
  | .ofNat m => atL ds m
  | .negSucc _ => match ixOf ds.length i with | some m => atL ds m | none => none
/-- a slice's place -/
def sIx (n d : Nat) : Option Int → Nat
  | none => d
  | some (.ofNat k) => match Nat.ble k n with | true => k | false => n
  | some (.negSucc k) => n - (k + 1)
def cut (ds : List D) (lo hi : Option Int) : List D := (ds.drop (sIx ds.length 0 lo)).take (sIx ds.length ds.length hi - sIx ds.length 0 lo)
def insertAt (x : D) : Nat → List D → List D
  | 0, r => x :: r
  | _ + 1, [] => [x]
  | n + 1, y :: r => y :: insertAt x n r
def dropAt : Nat → List D → List D
  | _, [] => []
  | 0, _ :: r => r
  | n + 1, y :: r => y :: dropAt n r
def setAt (x : D) : Nat → List D → List D
  | _, [] => []
  | 0, _ :: r => x :: r
  | n + 1, y :: r => y :: setAt x n r
def getS : Env → Nat → Sl
  | [], _ => .u
  | s :: _, 0 => s
  | _ :: r, n + 1 => getS r n
def setS (s : Sl) : Env → Nat → Env
  | [], _ => []
  | _ :: r, 0 => s :: r
  | t :: r, n + 1 => t :: setS s r n
def getH : Hs → Nat → Option VO
  | [], _ => none
  | o :: _, 0 => some o
  | _ :: r, n + 1 => getH r n
def setH (o : VO) : Hs → Nat → Hs
  | [], _ => []
  | _ :: r, 0 => o :: r
  | t :: r, n + 1 => t :: setH o r n
def fGet (f : Nat) : List (Nat × D) → Option D
  | [] => none
  | (g, v) :: r => match Nat.beq g f with | true => some v | false => fGet f r
def fPut (f : Nat) (v : D) : List (Nat × D) → List (Nat × D)
  | [] => [(f, v)]
  | (g, u) :: r => match Nat.beq g f with | true => (g, v) :: r | false => (g, u) :: fPut f v r
/-- what a slot holds, read without being handed on -/
def look (env : Env) (i : Nat) : Option D := match getS env i with | .v d => some d | .l ds => some (.lst ds) | .k ds => some (.lst ds) | .u => none
/-- a value to a slot -/
def put (env : Env) (i : Nat) (d : D) (fr : Bool) : Env := setS (match fr, d with | true, .lst ds => .l ds | _, d => .v d) env i

/-- one function -/
structure Fn where
  nargs : Nat
  nslots : Nat
  body : List St
/-- a tree of functions -/
inductive FT where
  | nil | node (f : Fn) (l r : FT)
def FT.get : FT → Nat → Option Fn
  | .nil, _ => none
  | .node f l r, i => match i with
    | 0 => some f
    | j + 1 => match Nat.beq (Nat.mod j 2) 0 with | true => l.get (Nat.div j 2) | false => r.get (Nat.div j 2)
inductive Kd where
  | fn | mt (c : Nat) | no
structure Tab where
  fns : FT
  consts : List D
  /-- functions done by plain Lean -/
  nat : Nat → Nat → List D → Option D
  /-- a def of the module, a method of a class -/
  kind : Nat → Kd
  /-- a class's __init__ -/
  ini : Nat → Option Nat
  /-- whether a class's instances may have a field -/
  att : Nat → Nat → Bool
def atC : List D → Nat → Option D
  | [], _ => none
  | d :: _, 0 => some d
  | _ :: r, n + 1 => atC r n
def us : Nat → Env
  | 0 => []
  | n + 1 => .u :: us n
def vs : List D → Env
  | [] => []
  | d :: r => .v d :: vs r

/-- the interpreter, open: k is how many calls deep it may go -/
structure Self where
  e : Nat → Env → Hs → Ex → Res
  s : Nat → Env → Hs → St → SR
  run : Nat → Nat → List D → Hs → CR
section
variable (T : Tab) (r : Self)
/-- an operand: a list of one's own is only looked at -/
def eB (k : Nat) (env : Env) (h : Hs) (x : Ex) : Res := match x with
  | .var i _ => match look env i with | some d => .ok d false env h | none => .no
  | x => r.e k env h x
/-- two operands: a name on the left is read last -/
def two (k : Nat) (env : Env) (h : Hs) (a b : Ex) (c : D → D → Env → Hs → Res) : Res := match a with
  | .var i _ => (match look env i with
    | some _ => (match eB r k env h b with
      | .ok v _ env1 h1 => (match look env1 i with | some u => c u v env1 h1 | none => .no)
      | .ex c d h => .ex c d h
      | .no => .no)
    | none => .no)
  | a => match r.e k env h a with
    | .ok u _ env1 h1 => (match eB r k env1 h1 b with
      | .ok v _ env2 h2 => c u v env2 h2
      | .ex c d h => .ex c d h
      | .no => .no)
    | .ex c d h => .ex c d h
    | .no => .no
/-- items of a display, arguments -/
def es (k : Nat) : Env → Hs → List Ex → Rs
  | env, h, [] => .ok [] env h
  | env, h, x :: xs => match x with
    | .star y _ => match eB r k env h y with
      | .ok d _ env1 h1 => (match d with
        | .tup ds => (match es k env1 h1 xs with | .ok qs env2 h2 => .ok (ds ++ qs) env2 h2 | .ex c d h => .ex c d h | .no => .no)
        | .lst ds => (match es k env1 h1 xs with | .ok qs env2 h2 => .ok (ds ++ qs) env2 h2 | .ex c d h => .ex c d h | .no => .no)
        | _ => .no)
      | .ex c d h => .ex c d h
      | .no => .no
    | x => match r.e k env h x with
      | .ok d _ env1 h1 => (match es k env1 h1 xs with | .ok qs env2 h2 => .ok (d :: qs) env2 h2 | .ex c d h => .ex c d h | .no => .no)
      | .ex c d h => .ex c d h
      | .no => .no
/-- arguments of a pure call: names are read last, lists of one's own are lent -/
def as (k : Nat) : Env → Hs → List Ex → Rs
  | env, h, [] => .ok [] env h
  | env, h, x :: xs => match x with
    | .var i _ => (match look env i with
      | some _ => (match as k env h xs with
        | .ok qs env2 h2 => (match look env2 i with | some d => .ok (d :: qs) env2 h2 | none => .no)
        | .ex c d h => .ex c d h
        | .no => .no)
      | none => .no)
    | x => match r.e k env h x with
      | .ok d _ env1 h1 => (match as k env1 h1 xs with | .ok qs env2 h2 => .ok (d :: qs) env2 h2 | .ex c d h => .ex c d h | .no => .no)
      | .ex c d h => .ex c d h
      | .no => .no
/-- the lent lists are handed on -/
def froze (env : Env) : List Ex → Option Env
  | [] => some env
  | x :: xs => match x with
    | .var i _ => (match getS env i with
      | .l ds => froze (setS (.v (.lst ds)) env i) xs
      | .k _ => none
      | _ => froze env xs)
    | _ => froze env xs
/-- within a comprehension lists of the frame's own are only looked at -/
def lock : Env → Env
  | [] => []
  | s :: r => (match s with | .l ds => .k ds | s => s) :: lock r
/-- what is walked, by names -/
def lent : Ex → List Ex
  | .var i p => [.var i p]
  | .blt _ xs _ _ => xs
  | _ => []
/-- targets -/
def tgs (a : Ex → D → Env → Option Env) : List Ex → List D → Env → Option Env
  | [], [], env => some env
  | t :: ts, d :: ds, env => match a t d env with | some env1 => tgs a ts ds env1 | none => none
  | _, _, _ => none
/-- a name, or a tuple of targets -/
def tg : Nat → Ex → D → Env → Option Env
  | 0, _, _, _ => none
  | n + 1, t, d, env => match t with
    | .var i _ => some (setS (.v d) env i)
    | .tup ts _ _ => match d with
      | .tup ds => tgs (tg n) ts ds env
      | _ => none
    | _ => none
/-- all of some tests -/
def tests (k : Nat) (env : Env) : Hs → List Ex → Option (Bool × Hs)
  | h, [] => some (true, h)
  | h, t :: ts => match r.e k env h t with
    | .ok d _ _ h1 => (match truth d with
      | some true => tests k env h1 ts
      | some false => some (false, h1)
      | none => none)
    | _ => none
def wipe (env : Env) : List Nat → Env
  | [] => env
  | i :: r => setS .u (wipe env r) i
/-- the items of what is walked -/
def enumL (n : Nat) : List D → List D
  | [] => []
  | d :: r => .tup [.int n, d] :: enumL (n + 1) r
def zipL : List D → List D → List D
  | x :: xs, y :: ys => .tup [x, y] :: zipL xs ys
  | _, _ => []
def rangeL (lo : Int) : Nat → List D
  | 0 => []
  | n + 1 => .int lo :: rangeL (lo + 1) n
@[irreducible] def rngOk (j : Int) : Bool := Nat.blt j.natAbs 1000000000000
/-- what is walked: its items (lists of one's own are lent) -/
def walk (k : Nat) (env : Env) (h : Hs) (x : Ex) : Rs := match x with
  | .blt 4 [y] _ _ => (match eB r k env h y with   -- enumerate
    | .ok (.tup ds) _ env1 h1 => .ok (enumL 0 ds) env1 h1
    | .ok (.lst ds) _ env1 h1 => .ok (enumL 0 ds) env1 h1
    | .ex c d h => .ex c d h
    | _ => .no)
  | .blt 5 [y, z] _ _ => (match two r k env h y z fun u v env2 h2 => .ok (.tup [u, v]) false env2 h2 with   -- zip
    | .ok (.tup [.lst ds, .lst qs]) _ env2 h2 => .ok (zipL ds qs) env2 h2
    | .ex c d h => .ex c d h
    | _ => .no)
  | .blt 6 [y] _ _ => (match r.e k env h y with   -- range
    | .ok (.int j) _ env1 h1 => (match rngOk j with | true => .ok (rangeL 0 j.toNat) env1 h1 | false => .no)
    | .ex c d h => .ex c d h
    | _ => .no)
  | .blt 6 [y, z] _ _ => (match r.e k env h y with
    | .ok (.int i) _ env1 h1 => (match r.e k env1 h1 z with
      | .ok (.int j) _ env2 h2 => (match rngOk i, rngOk j with | true, true => .ok (rangeL i (j - i).toNat) env2 h2 | _, _ => .no)
      | .ex c d h => .ex c d h
      | _ => .no)
    | .ex c d h => .ex c d h
    | _ => .no)
  | x => match eB r k env h x with
    | .ok (.tup ds) _ env1 h1 => .ok ds env1 h1
    | .ok (.lst ds) _ env1 h1 => .ok ds env1 h1
    | .ex c d h => .ex c d h
    | _ => .no
/-- the turns of a comprehension -/
def turns (k : Nat) (env : Env) (elt t : Ex) (ifs : List Ex) : Hs → List D → Option (List D × Hs)
  | h, [] => some ([], h)
  | h, d :: ds => match tg 4 t d env with
    | some env1 => (match tests r k env1 h ifs with
      | some (true, h1) => (match r.e k env1 h1 elt with
        | .ok q _ _ h2 => (match turns k env elt t ifs h2 ds with | some (qs, h3) => some (q :: qs, h3) | none => none)
        | _ => none)
      | some (false, h1) => turns k env elt t ifs h1 ds
      | none => none)
    | none => none
def turns2 (k : Nat) (env : Env) (elt t : Ex) (ifs : List Ex) (t2 i2 : Ex) (ifs2 : List Ex) (vs1 : List Nat) : Hs → List D → Option (List D × Hs)
  | h, [] => some ([], h)
  | h, d :: ds => match tg 4 t d env with
    | some env1 => (match tests r k env1 h ifs with
      | some (true, h1) => (match walk r k env1 h1 i2 with
        | .ok items _ h2 => (match turns r k (wipe env1 vs1) elt t2 ifs2 h2 items with
          | some (qs, h3) => (match turns2 k env elt t ifs t2 i2 ifs2 vs1 h3 ds with | some (rs, h4) => some (qs ++ rs, h4) | none => none)
          | none => none)
        | _ => none)
      | some (false, h1) => turns2 k env elt t ifs t2 i2 ifs2 vs1 h1 ds
      | none => none)
    | none => none
def allB : List D → Option Bool
  | [] => some true
  | .bl true :: r => allB r
  | .bl false :: r => (match allB r with | some _ => some false | none => none)
  | _ => none
def anyB : List D → Option Bool
  | [] => some false
  | .bl false :: r => anyB r
  | .bl true :: r => (match anyB r with | some _ => some true | none => none)
  | _ => none
def sumI (acc : Int) : List D → Option Int
  | [] => some acc
  | .int i :: r => sumI (acc + i) r
  | _ => none
/-- isinstance -/
def isi : D → Nat → Option Bool
  | .ref _, _ => none
  | .bl _, 0 => some true | .int _, 0 => some true | _, 0 => some false     -- int
  | .bl _, 1 => some true | _, 1 => some false                              -- bool
  | .tup _, 2 => some true | _, 2 => some false                             -- tuple
  | .str _, 3 => some true | .rep _, 3 => some true | _, 3 => some false    -- str
  | .lst _, 4 => some true | _, 4 => some false                             -- list
  | _, _ => none
/-- a built-in's call by a value: the value, whether it is a new list -/
def bi (b : Nat) (d : D) : Option (D × Bool) := match b, d with
  | 0, .tup xs => some (.int xs.length, false)          -- len
  | 0, .lst xs => some (.int xs.length, false)
  | 1, .lst xs => match allB xs with | some c => some (.bl c, false) | none => none
  | 2, .lst xs => match anyB xs with | some c => some (.bl c, false) | none => none
  | 3, .int i => some (.int i.natAbs, false)             -- abs
  | 7, .int i => some (.int i, false)                     -- int
  | 7, .bl c => some (.int (match c with | true => 1 | false => 0), false)
  | 8, .lst xs => some (.lst xs, true)                    -- list
  | 8, .tup xs => some (.lst xs, true)
  | 9, .lst xs => some (.tup xs, false)                   -- tuple
  | 9, .tup xs => some (.tup xs, false)
  | 10, .tup xs => match repOk (.tup xs) with | true => some (.rep (.tup xs), false) | false => none   -- repr
  | 10, .lst xs => match repOk (.lst xs) with | true => some (.rep (.lst xs), false) | false => none
  | 11, .lst xs => match sumI 0 xs with | some z => some (.int z, false) | none => none  -- sum
  | _, _ => none
/-- the same, where dicts may come -/
def biC (b : Nat) (d : D) (env : Env) (h : Hs) : Res := match d with
  | .ref i => (match b, getH h i with
    | 0, some (.dK kvs) => .ok (.int kvs.length) false env h
    | 0, some (.dT kvs) => .ok (.int kvs.length) false env h
    | 8, some (.dT kvs) => .ok (.lst (kvs.map (·.1))) true env h
    | _, _ => .no)
  | d => match bi b d with | some (q, fr) => .ok q fr env h | none => .no
/-- the loop over items -/
def forL (k : Nat) (t : Ex) (b : Env → Hs → SR) : Env → Hs → List D → SR
  | env, h, [] => .nx env h
  | env, h, d :: ds => match tg 4 t d env with
    | some env1 => (match b env1 h with
      | .nx env2 h2 => forL k t b env2 h2 ds
      | .ct env2 h2 => forL k t b env2 h2 ds
      | .bk env2 h2 => .nx env2 h2
      | q => q)
    | none => .no
def ss (k : Nat) : Env → Hs → List St → SR
  | env, h, [] => .nx env h
  | env, h, st :: r' => match r.s k env h st with
    | .nx env1 h1 => ss k env1 h1 r'
    | q => q
/-- a and b .. as values -/
def andV (k : Nat) : Env → Hs → List Ex → Res
  | _, _, [] => .no
  | env, h, [x] => r.e k env h x
  | env, h, x :: y :: xs => match r.e k env h x with
    | .ok (.bl true) _ env1 h1 => andV k env1 h1 (y :: xs)
    | .ok (.bl false) _ env1 h1 => .ok (.bl false) false env1 h1
    | .ex c d h => .ex c d h
    | _ => .no
def orV (k : Nat) : Env → Hs → List Ex → Res
  | _, _, [] => .no
  | env, h, [x] => r.e k env h x
  | env, h, x :: y :: xs => match r.e k env h x with
    | .ok (.bl false) _ env1 h1 => orV k env1 h1 (y :: xs)
    | .ok (.bl true) _ env1 h1 => .ok (.bl true) false env1 h1
    | .ex c d h => .ex c d h
    | _ => .no
/-- an optional part of a slice -/
def part (k : Nat) (env : Env) (h : Hs) : Option Ex → Option (Option Int × Hs)
  | none => some (none, h)
  | some x => match r.e k (lock env) h x with
    | .ok (.int i) _ _ h1 => some (some i, h1)
    | _ => none
/-- values of a display of a dict by texts -/
def dicS (k : Nat) (env : Env) : Hs → List Ex → List Ex → Option (List (D × D) × Hs)
  | h, [], [] => some ([], h)
  | h, x :: xs, y :: ys => match x with
    | .str s _ _ => (match r.e k (lock env) h y with
      | .ok v _ _ h1 => (match dicS k env h1 xs ys with | some (q, h2) => some ((.str s, v) :: q, h2) | none => none)
      | _ => none)
    | _ => none
  | _, _, _ => none
/-- a key -/
def key1 : D → Bool
  | .str _ => true
  | .rep _ => true
  | .int _ => true
  | _ => false
def key2 : D → Bool
  | .str _ => true
  | .int _ => true
  | _ => false
def isNum : Ex → Bool
  | .num _ _ _ => true
  | _ => false
def keyOk (t : Bool) (d : D) : Bool := match t with
  | false => key1 d
  | true => match d with | .tup ds => allF key2 ds | _ => false
def F : Self where
  e k env h x := match x with
    | .var i _ => match getS env i with
      | .v d => .ok d false env h
      | .l ds => .ok (.lst ds) false (setS (.v (.lst ds)) env i) h
      | _ => .no
    | .num n _ _ => .ok (.int n) false env h
    | .str s _ _ => .ok (.str s) false env h
    | .cb b _ _ => .ok (.bl b) false env h
    | .cn _ _ => .ok .non false env h
    | .glob g _ => match atC T.consts g with | some d => .ok d false env h | none => .no
    | .tup xs _ _ => match es r k env h xs with | .ok ds env1 h1 => (match lenOk ds with | true => .ok (.tup ds) false env1 h1 | false => .no) | .ex c d h => .ex c d h | .no => .no
    | .lst xs _ => match es r k env h xs with | .ok ds env1 h1 => (match lenOk ds with | true => .ok (.lst ds) true env1 h1 | false => .no) | .ex c d h => .ex c d h | .no => .no
    | .star _ _ => .no
    | .ty _ _ => .no
    | .bin o a b _ => two r k env h a b fun u v env2 h2 => match opV o u v with | some (d, fr) => .ok d fr env2 h2 | none => .no
    | .neg a _ => match r.e k env h a with
      | .ok (.int i) _ env1 h1 => .ok (.int (-i)) false env1 h1
      | .ex c d h => .ex c d h
      | _ => .no
    | .cmp o a b _ => two r k env h a b fun u v env2 h2 => match v with
        | .ref i => (match getH h2 i with
          | some (.dK kvs) => (match keyOk false u, o with
            | true, .In => .ok (.bl (dGet u kvs).isSome) false env2 h2
            | true, .NotIn => .ok (.bl (notB (dGet u kvs).isSome)) false env2 h2
            | _, _ => .no)
          | some (.dT kvs) => (match keyOk true u, o with
            | true, .In => .ok (.bl (dGet u kvs).isSome) false env2 h2
            | true, .NotIn => .ok (.bl (notB (dGet u kvs).isSome)) false env2 h2
            | _, _ => .no)
          | _ => .no)
        | v => match cmpV o u v with | some c => .ok (.bl c) false env2 h2 | none => .no
    | .chn o o2 a b c _ => match r.e k env h a with
      | .ok (.int u) _ env1 h1 => (match r.e k env1 h1 b with
        | .ok (.int v) _ env2 h2 => (match cmpV o (.int u) (.int v) with
          | some true => (match r.e k env2 h2 c with
            | .ok (.int w) _ env3 h3 => (match cmpV o2 (.int v) (.int w) with | some q => .ok (.bl q) false env3 h3 | none => .no)
            | .ex c d h => .ex c d h
            | _ => .no)
          | some false => .ok (.bl false) false env2 h2
          | none => .no)
        | .ex c d h => .ex c d h
        | _ => .no)
      | .ex c d h => .ex c d h
      | _ => .no
    | .and xs _ => andV r k env h xs
    | .or xs _ => orV r k env h xs
    | .not a _ => match eB r k env h a with
      | .ok d _ env1 h1 => (match truth d with | some c => .ok (.bl (notB c)) false env1 h1 | none => .no)
      | .ex c d h => .ex c d h
      | .no => .no
    | .ife t a b _ => match eB r k env h t with
      | .ok d _ env1 h1 => (match truth d with
        | some true => r.e k env1 h1 a
        | some false => r.e k env1 h1 b
        | none => .no)
      | .ex c d h => .ex c d h
      | .no => .no
    | .idx a i _ => two r k env h a i fun u v env2 h2 => match u, v with
          | .tup ds, .int j => (match atI ds j with | some d => .ok d false env2 h2 | none => .no)
          | .lst ds, .int j => (match atI ds j with | some d => .ok d false env2 h2 | none => .no)
          | .ref o, key => (match getH h2 o with
            | some (.dK kvs) => (match keyOk false key, dGet key kvs with | true, some d => .ok d false env2 h2 | _, _ => .no)
            | some (.dT kvs) => (match keyOk true key, dGet key kvs with | true, some d => .ok d false env2 h2 | _, _ => .no)
            | _ => .no)
          | _, _ => .no
    | .slc a lo hi _ _ => match eB r k env h a with
      | .ok u _ env1 h1 => (match part r k env1 h1 lo with
        | some (l, h2) => (match part r k env1 h2 hi with
          | some (m, h3) => (match u with
            | .tup ds => .ok (.tup (cut ds l m)) false env1 h3
            | .lst ds => .ok (.lst (cut ds l m)) true env1 h3
            | _ => .no)
          | none => .no)
        | none => .no)
      | .ex c d h => .ex c d h
      | .no => .no
    | .att a f _ => match r.e k env h a with
      | .ok (.ref i) _ env1 h1 => (match getH h1 i with
        | some (.ins c fs) => (match T.att c f, fGet f fs with | true, some d => .ok d false env1 h1 | _, _ => .no)
        | _ => .no)
      | .ex c d h => .ex c d h
      | _ => .no
    | .call f xs _ _ => match T.kind f, k with
      | .fn, k' + 1 => (match as r (k' + 1) env h xs with
        | .ok ds env1 h1 => (match pures ds, r.run k' f ds [] with
          | true, .ok d fr _ => (match Ev.pure d with
            | true => (match noLst d with
              | true => .ok d false env1 h1
              | false => (match froze env1 xs with | some env2 => .ok d fr env2 h1 | none => .no))
            | false => .no)
          | true, .ex c d _ => (match Ev.pure d, noLst d with | true, true => .ex c d h1 | _, _ => .no)
          | _, _ => .no)
        | .ex c d h => .ex c d h
        | .no => .no)
      | _, _ => .no
    | .calh f xs _ _ => match T.kind f, k with
      | .fn, k' + 1 => (match es r (k' + 1) env h xs with
        | .ok ds env1 h1 => (match r.run k' f ds h1 with
          | .ok d fr h2 => .ok d fr env1 h2
          | .ex c d h => .ex c d h
          | .no => .no)
        | .ex c d h => .ex c d h
        | .no => .no)
      | _, _ => .no
    | .new c xs _ _ => match T.ini c, k with
      | some f, k' + 1 => (match es r (k' + 1) env h xs with
        | .ok ds env1 h1 => (match r.run k' f (.ref h1.length :: ds) (h1 ++ [.ins c []]) with
          | .ok .non _ h2 => .ok (.ref h1.length) false env1 h2
          | .ex c d h => .ex c d h
          | _ => .no)
        | .ex c d h => .ex c d h
        | .no => .no)
      | _, _ => .no
    | .mth f o xs _ _ => match T.kind f, k with
      | .mt c', k' + 1 => (match r.e (k' + 1) env h o with
        | .ok (.ref i) _ env1 h1 => (match getH h1 i with
          | some (.ins c _) => (match Nat.beq c c' with
            | true => (match es r (k' + 1) env1 h1 xs with
              | .ok ds env2 h2 => (match r.run k' f (.ref i :: ds) h2 with
                | .ok d fr h3 => .ok d fr env2 h3
                | .ex c d h => .ex c d h
                | .no => .no)
              | .ex c d h => .ex c d h
              | .no => .no)
            | false => .no)
          | _ => .no)
        | .ex c d h => .ex c d h
        | _ => .no)
      | _, _ => .no
    | .blt b xs _ _ => match xs with
      | [x] => (match eB r k env h x with
        | .ok d _ env1 h1 => biC b d env1 h1
        | .ex c d h => .ex c d h
        | .no => .no)
      | [x, .ty t _] => (match b with     -- isinstance(x, T)
        | 12 => (match eB r k env h x with
          | .ok d _ env1 h1 => (match isi d t with | some c => .ok (.bl c) false env1 h1 | none => .no)
          | .ex c d h => .ex c d h
          | .no => .no)
        | _ => .no)
      | [x, y] => (match b with
        | 14 => two r k env h x y fun u v env2 h2 => (match u, v with     -- max
          | .int i, .int j => .ok (.int (match iLt i j with | true => j | false => i)) false env2 h2
          | _, _ => .no)
        | 15 => two r k env h x y fun u v env2 h2 => (match u, v with     -- min
          | .int i, .int j => .ok (.int (match iLt j i with | true => j | false => i)) false env2 h2
          | _, _ => .no)
        | _ => .no)
      | _ => .no
    | .lm m o xs _ _ => match o with
      | .var i _ => (match getS env i with
       | .l _ => (match m, xs with
        | 0, [x] => (match r.e k env h x with     -- append
          | .ok d _ env1 h1 => (match getS env1 i with | .l ds => (match lenOk ds with | true => .ok .non false (setS (.l (ds ++ [d])) env1 i) h1 | false => .no) | _ => .no)
          | .ex c d h => .ex c d h
          | .no => .no)
        | 1, [x] => (match eB r k env h x with     -- extend
          | .ok (.lst qs) _ env1 h1 => (match getS env1 i with | .l ds => (match lenOk ds, lenOk qs with | true, true => .ok .non false (setS (.l (ds ++ qs)) env1 i) h1 | _, _ => .no) | _ => .no)
          | .ex c d h => .ex c d h
          | _ => .no)
        | 2, [x, y] => (match r.e k env h x with     -- insert
          | .ok (.int (.ofNat n)) _ env1 h1 => (match r.e k env1 h1 y with
            | .ok d _ env2 h2 => (match getS env2 i with | .l ds => (match lenOk ds, Nat.ble n 1000000 with | true, true => .ok .non false (setS (.l (insertAt d n ds)) env2 i) h2 | _, _ => .no) | _ => .no)
            | .ex c d h => .ex c d h
            | .no => .no)
          | .ex c d h => .ex c d h
          | _ => .no)
        | 3, [] => (match getS env i with     -- pop()
          | .l ds => (match ixOf ds.length (-1) with
            | some n => (match atL ds n with | some d => .ok d false (setS (.l (dropAt n ds)) env i) h | none => .no)
            | none => .no)
          | _ => .no)
        | 3, [x] => (match r.e k env h x with     -- pop(n)
          | .ok (.int j) _ env1 h1 => (match getS env1 i with
            | .l ds => (match lenOk ds, ixOf ds.length j with
              | true, some n => (match atL ds n with | some d => .ok d false (setS (.l (dropAt n ds)) env1 i) h1 | none => .no)
              | _, _ => .no)
            | _ => .no)
          | .ex c d h => .ex c d h
          | _ => .no)
        | _, _ => .no)
       | _ => .no)
      | _ => .no
    | .lc elt t it ifs _ own _ => match walk r k env h it with
      | .ok items env1 h1 => (match turns r k (wipe (lock env1) (own.map (·.2))) elt t ifs h1 items with
        | some (ds, h2) => (match lenOk ds with | true => .ok (.lst ds) true env1 h2 | false => .no)
        | none => .no)
      | .ex c d h => .ex c d h
      | .no => .no
    | .lc2 elt t it ifs t2 i2 ifs2 _ own vs1 _ => match walk r k env h it with
      | .ok items env1 h1 => (match turns2 r k (wipe (lock env1) (own.map (·.2))) elt t ifs t2 i2 ifs2 vs1 h1 items with
        | some (ds, h2) => (match lenOk ds with | true => .ok (.lst ds) true env1 h2 | false => .no)
        | none => .no)
      | .ex c d h => .ex c d h
      | .no => .no
    | .dic xs ys t _ => match xs, ys, t with
      | [], [], true => .ok (.ref h.length) false env (h ++ [.dT []])
      | [], [], false => .ok (.ref h.length) false env (h ++ [.dK []])
      | [x], [y], false => (match r.e k (lock env) h x with
        | .ok q _ _ h1 => (match key1 q, r.e k (lock env) h1 y with
          | true, .ok v _ _ h2 => .ok (.ref h2.length) false env (h2 ++ [.dK [(q, v)]])
          | _, _ => .no)
        | _ => .no)
      | x1 :: x2 :: xs, ys, false => (match dicS r k env h (x1 :: x2 :: xs) ys with | some (kvs, h1) => .ok (.ref h1.length) false env (h1 ++ [.dK kvs]) | none => .no)
      | _, _, _ => .no
  s k env h st := match st with
    | .ret x _ => match x with
      | .var i _ => (match getS env i with
        | .v d => .rt d false h
        | .l ds => .rt (.lst ds) true h
        | _ => .no)
      | x => match r.e k env h x with
        | .ok d fr _ h1 => .rt d fr h1
        | .ex c d h => .ex c d h
        | .no => .no
    | .retN _ => .rt .non false h
    | .asg t x _ => match t with
      | .var i _ => (match r.e k env h x with
        | .ok d fr env1 h1 => .nx (put env1 i d fr) h1
        | .ex c d h => .ex c d h
        | .no => .no)
      | .tup ts _ _ => (match ts, x with
        | [.var i _, .var j _], .tup [x1, x2] _ _ => (match isNum x1 && isNum x2 with
         | true => (match r.e k env h x with
          | .ok d _ env1 h1 => (match tg 4 t d env1 with | some env2 => .nx env2 h1 | none => .no)
          | .ex c d h => .ex c d h
          | .no => .no)
         | false => (match r.e k env h x1 with
          | .ok d1 fr1 env1 h1 => (match r.e k env1 h1 x2 with
            | .ok d2 fr2 env2 h2 => .nx (put (put env2 i d1 fr1) j d2 fr2) h2
            | .ex c d h => .ex c d h
            | .no => .no)
          | .ex c d h => .ex c d h
          | .no => .no))
        | _, _ => (match r.e k env h x with
          | .ok d _ env1 h1 => (match tg 4 t d env1 with | some env2 => .nx env2 h1 | none => .no)
          | .ex c d h => .ex c d h
          | .no => .no))
      | .idx (.var i _) y _ => (match r.e k env h x with
        | .ok d _ env1 h1 => (match getS env1 i with
          | .l _ => (match r.e k env1 h1 y with
            | .ok (.int j) _ env2 h2 => (match getS env2 i with
              | .l ds => (match ixOf ds.length j with | some n => .nx (setS (.l (setAt d n ds)) env2 i) h2 | none => .no)
              | _ => .no)
            | .ex c d h => .ex c d h
            | _ => .no)
          | .v (.ref o) => (match r.e k env1 h1 y with
            | .ok q _ env2 h2 => (match getH h2 o with
              | some (.dK kvs) => (match keyOk false q, Nat.ble kvs.length 100000 with | true, true => .nx env2 (setH (.dK (dPut q d kvs)) h2 o) | _, _ => .no)
              | some (.dT kvs) => (match keyOk true q, Nat.ble kvs.length 100000 with | true, true => .nx env2 (setH (.dT (dPut q d kvs)) h2 o) | _, _ => .no)
              | _ => .no)
            | .ex c d h => .ex c d h
            | .no => .no)
          | _ => .no)
        | .ex c d h => .ex c d h
        | .no => .no)
      | .idx (.att y f pa) z _ => (match r.e k env h x with
        | .ok d _ env1 h1 => (match r.e k env1 h1 (.att y f pa) with
          | .ok (.ref o) _ env2 h2 => (match r.e k env2 h2 z with
            | .ok q _ env3 h3 => (match getH h3 o with
              | some (.dK kvs) => (match keyOk false q, Nat.ble kvs.length 100000 with | true, true => .nx env3 (setH (.dK (dPut q d kvs)) h3 o) | _, _ => .no)
              | some (.dT kvs) => (match keyOk true q, Nat.ble kvs.length 100000 with | true, true => .nx env3 (setH (.dT (dPut q d kvs)) h3 o) | _, _ => .no)
              | _ => .no)
            | .ex c d h => .ex c d h
            | .no => .no)
          | .ex c d h => .ex c d h
          | _ => .no)
        | .ex c d h => .ex c d h
        | .no => .no)
      | .att y f _ => (match r.e k env h x with
        | .ok d _ env1 h1 => (match r.e k env1 h1 y with
          | .ok (.ref o) _ env2 h2 => (match getH h2 o with
            | some (.ins c fs) => (match T.att c f, Nat.blt fs.length 900 with | true, true => .nx env2 (setH (.ins c (fPut f d fs)) h2 o) | _, _ => .no)
            | _ => .no)
          | .ex c d h => .ex c d h
          | _ => .no)
        | .ex c d h => .ex c d h
        | .no => .no)
      | _ => .no
    | .aug i _ o x _ => match look env i with
      | some u => (match r.e k env h x with
        | .ok v _ env1 h1 => (match u, v with
          | .int a, .int b => (match iOp o a b with | some z => .nx (setS (.v (.int z)) env1 i) h1 | none => .no)
          | _, _ => .no)
        | .ex c d h => .ex c d h
        | .no => .no)
      | none => .no
    | .iff t a b _ => match eB r k env h t with
      | .ok d _ env1 h1 => (match truth d with
        | some true => ss r k env1 h1 a
        | some false => ss r k env1 h1 b
        | none => .no)
      | .ex c d h => .ex c d h
      | .no => .no
    | .whl t b p => match eB r k env h t with
      | .ok d _ env1 h1 => (match truth d with
        | some true => (match ss r k env1 h1 b with
          | .nx env2 h2 => r.s k env2 h2 (.whl t b p)
          | .ct env2 h2 => r.s k env2 h2 (.whl t b p)
          | .bk env2 h2 => .nx env2 h2
          | q => q)
        | some false => .nx env1 h1
        | none => .no)
      | .ex c d h => .ex c d h
      | .no => .no
    | .for_ t it b _ => match walk r k env h it with
      | .ok items env1 h1 => (match froze env1 (lent it) with | some env2 => forL k t (fun env h => ss r k env h b) env2 h1 items | none => .no)
      | .ex c d h => .ex c d h
      | .no => .no
    | .exp x _ => match r.e k env h x with
      | .ok _ _ env1 h1 => .nx env1 h1
      | .ex c d h => .ex c d h
      | .no => .no
    | .rai _ _ => .no
    | .brk _ => .bk env h
    | .cnt _ => .ct env h
    | .pas _ => .nx env h
  run k f ds h := match T.fns.get f with
    | some fn => match Nat.beq ds.length fn.nargs with
      | true => (match T.nat k f ds with
        | some d => .ok d false h
        | none => (match ss r k (vs ds ++ us (fn.nslots - fn.nargs)) h fn.body with
          | .rt d fr h1 => .ok d fr h1
          | .nx _ h1 => .ok .non false h1
          | .ex c d h1 => .ex c d h1
          | _ => .no))
      | false => .no
    | none => .no
end
def bot : Self := ⟨fun _ _ _ _ => .no, fun _ _ _ _ => .no, fun _ _ _ _ => .no⟩
def ev (T : Tab) : Nat → Self
  | 0 => bot
  | n + 1 => F T (ev T n)
end Ev
/-! Soundness of the small interpreter, 1: what a value stands for, worlds. -/
namespace Ev
open PySem PySem.Spec PyProof.Rows L2

/-! ### names, and the text that a term stands for -/
structure Nm where
  f : Nat → Str
  g : Nat → Str
  c : Nat → Str
  fl : Nat → Str
  prog : Program
  wld : World
def bN : Nat → Str
  | 0 => "len" | 1 => "all" | 2 => "any" | 3 => "abs" | 4 => "enumerate" | 5 => "zip" | 6 => "range" | 7 => "int" | 8 => "list" | 9 => "tuple" | 10 => "repr"
  | 11 => "sum" | 12 => "isinstance" | 13 => "sorted" | 14 => "max" | 15 => "min" | 16 => "str" | 17 => "dict" | _ => "reversed"
def tN : Nat → Str
  | 0 => "int" | 1 => "bool" | 2 => "tuple" | 3 => "str" | _ => "list"
def mN : Nat → Str
  | 0 => "append" | 1 => "extend" | 2 => "insert" | _ => "pop"
section
variable (M : Nm) (N : List Str)
mutual
def dec : Ex → Expr
  | .var i p => .Name (N.getD i "") p
  | .num n k p => .Constant (.int n) k p
  | .str s k p => .Constant (.str ⟨s.toArray⟩) k p
  | .cb b k p => .Constant (.bool b) k p
  | .cn k p => .Constant .none k p
  | .glob g p => .Name (M.g g) p
  | .ty t p => .Name (tN t) p
  | .tup es k p => .Tuple (decs es) k p
  | .lst es p => .List (decs es) p
  | .star e p => .Starred (dec e) p
  | .bin o a b p => .BinOp (dec a) o (dec b) p
  | .neg a p => .UnaryOp .USub (dec a) p
  | .cmp o a b p => .Compare (dec a) [o] [dec b] p
  | .chn o o2 a b c p => .Compare (dec a) [o, o2] [dec b, dec c] p
  | .and es p => .BoolOp .And (decs es) p
  | .or es p => .BoolOp .Or (decs es) p
  | .not a p => .UnaryOp .Not (dec a) p
  | .ife t a b p => .IfExp (dec t) (dec a) (dec b) p
  | .idx a i p => .Subscript (dec a) (dec i) p
  | .slc a lo hi p2 p => .Subscript (dec a) (.Slice (decO lo) (decO hi) none p2) p
  | .att a f p => .Attribute (dec a) (M.fl f) p
  | .call f es p1 p => .Call (.Name (M.f f) p1) (decs es) [] p
  | .calh f es p1 p => .Call (.Name (M.f f) p1) (decs es) [] p
  | .new c es p1 p => .Call (.Name (M.c c) p1) (decs es) [] p
  | .mth f o es pa p => .Call (.Attribute (dec o) (M.f f) pa) (decs es) [] p
  | .blt b es p1 p => .Call (.Name (bN b) p1) (decs es) [] p
  | .lm m o es pa p => .Call (.Attribute (dec o) (mN m) pa) (decs es) [] p
  | .lc elt t it ifs sc own p => .ListComp (dec elt) [⟨dec t, dec it, decs ifs, 0⟩] sc p
  | .lc2 elt t it ifs t2 i2 ifs2 sc own vs1 p => .ListComp (dec elt) [⟨dec t, dec it, decs ifs, 0⟩, ⟨dec t2, dec i2, decs ifs2, 0⟩] sc p
  | .dic ks vs t p => .Dict ((decs ks).map some) (decs vs) p
def decs : List Ex → List Expr
  | [] => []
  | e :: r => dec e :: decs r
def decO : Option Ex → Option Expr
  | none => none
  | some e => some (dec e)
end
mutual
def decS : St → Stmt
  | .ret e p => .Return (some (dec M N e)) p
  | .retN p => .Return none p
  | .asg t e p => .Assign [dec M N t] (dec M N e) p
  | .aug i pi o e p => .AugAssign (.Name (N.getD i "") pi) o (dec M N e) p
  | .iff t a b p => .If (dec M N t) (decSs a) (decSs b) p
  | .whl t b p => .While (dec M N t) (decSs b) [] p
  | .for_ t it b p => .For (dec M N t) (dec M N it) (decSs b) [] p
  | .exp e p => .Expr (dec M N e) p
  | .rai e p => .Raise (some (dec M N e)) none p
  | .brk p => .Break p
  | .cnt p => .Continue p
  | .pas p => .Pass p
def decSs : List St → List Stmt
  | [] => []
  | s :: r => decS s :: decSs r
end
end

/-! ### data -/
mutual
def toP : D → Option PyData
  | .non => some .none
  | .bl b => some (.bool b)
  | .int i => some (.int i)
  | .str s => some (.str ⟨s.toArray⟩)
  | .tup ds => match toPs ds with | some ps => some (.tuple ps) | none => none
  | .lst ds => match toPs ds with | some ps => some (.list ps) | none => none
  | .rep d => match toP d with | some p => some (.str (PyData.shown p)) | none => none
  | .ref _ => none
def toPs : List D → Option (List PyData)
  | [] => some []
  | d :: r => match toP d, toPs r with | some p, some ps => some (p :: ps) | _, _ => none
end
/-- a world: where the small heap's objects stand, which lists are somebody's own, what stands where -/
structure Wd where
  rho : List Addr
  S : Addr → Prop
  H : Hp
section
variable (K : PySem.W.Frag)
mutual
def Rep (w : Wd) : D → V → Prop
  | .non, v => v = .non
  | .bl b, v => v = .bl b
  | .int i, v => v = .int i
  | .str s, v => v = .str ⟨s.toArray⟩
  | .rep d, v => repOk d = true ∧ ∃ p, toP d = some p ∧ v = .str (PyData.shown p)
  | .tup ds, v => ∃ a vs, v = .ref a ∧ SqT K w.H a vs ∧ Reps w ds vs
  | .lst ds, v => ∃ a vs, v = .ref a ∧ ¬ w.S a ∧ Rd w.H a (.lst vs) ∧ Reps w ds vs
  | .ref i, v => ∃ a, w.rho[i]? = some a ∧ v = .ref a
def Reps (w : Wd) : List D → List V → Prop
  | [], vs => vs = []
  | d :: ds, vs => ∃ v r, vs = v :: r ∧ Rep w d v ∧ Reps w ds r
end
end
/-- a key -/
def KeyR : D → Key → Prop
  | .int i, k => k = .inl i
  | .str s, k => k = .inr ⟨s.toArray⟩
  | .rep d, k => repOk d = true ∧ ∃ p, toP d = some p ∧ k = .inr (PyData.shown p)
  | _, _ => False
def KeyI : D → Key → Prop
  | .int i, k => k = .inl i
  | .str s, k => k = .inr ⟨s.toArray⟩
  | _, _ => False
def KeysR : List D → List Key → Prop
  | [], ks => ks = []
  | d :: ds, ks => ∃ k r, ks = k :: r ∧ KeyI d k ∧ KeysR ds r
def KeyT : D → List Key → Prop
  | .tup ds, ks => KeysR ds ks
  | _, _ => False
section
variable (K : PySem.W.Frag) (M : Nm) (ca : Nat → Addr)
def KVR (w : Wd) : List (D × D) → List (Key × V) → Prop := Paired fun p q => KeyR p.1 q.1 ∧ Rep K w p.2 q.2
/-- a dict whose keys are tuples: its object -/
def dxP (P : Program) (W : World) (a : Addr) (xs : List (List Key × Addr × Value)) (h : Heap) : Prop := xs.length ≤ sizeLine ∧ (a == sysModules) = false ∧
  ∃ o es ep, h.get? a = some o ∧ o.ExactDict ∧ o.data = .dict es ep ∧ es.toList = xs.map (entryOfKey (tupleKind (mixKind P W))) ∧ (xs.map (·.1)).Nodup
def KXR (w : Wd) : List (D × D) → List (List Key × Addr × Value) → Prop := Paired fun p q => KeyT p.1 q.1 ∧ SqT K w.H q.2.1 (q.1.map kV) ∧ ∃ v, RelV v q.2.2 ∧ Rep K w p.2 v
def FlR (w : Wd) : List (Nat × D) → List (Str × V) → Prop := Paired fun p q => q.1 = M.fl p.1 ∧ Rep K w p.2 q.2
def ObR (w : Wd) (a : Addr) : VO → HO → Prop
  | .dK kvs, o => ∃ ks, o = .dK ks ∧ KVR K w kvs ks
  | .dT kvs, o => ∃ xs, o = .ext (dxP M.prog M.wld a xs) ∧ KXR K w kvs xs
  | .ins c fs, o => ∃ dx fv, o = .ins (ca c) dx fv ∧ FlR K M w fs fv
structure RH (w : Wd) (h : Hs) : Prop where
  len : w.rho.length = h.length
  nd : w.rho.Nodup
  ob : ∀ i o, getH h i = some o → ∃ a ho, w.rho[i]? = some a ∧ w.H a = some ho ∧ ObR K M ca w a o ho
def SlR (w : Wd) : Sl → Option (Option V) → Prop
  | .u, _ => True
  | .v d, x => ∃ v, x = some (some v) ∧ Rep K w d v
  | .l ds, x => ∃ a vs, x = some (some (.ref a)) ∧ w.S a ∧ w.H a = some (.lst vs) ∧ Reps K w ds vs
  | .k ds, x => ∃ a vs, x = some (some (.ref a)) ∧ w.S a ∧ w.H a = some (.lst vs) ∧ Reps K w ds vs
def isL : Sl → Bool
  | .l _ => true
  | _ => false
def tag : Sl → Nat
  | .u => 0 | .v _ => 1 | .l _ => 2 | .k _ => 3
structure RE (w : Wd) (env : Env) (σ : L2.St) : Prop where
  len : env.length = σ.length
  sl : ∀ i, SlR K w (getS env i) σ[i]?
  one : ∀ i j a, 2 ≤ tag (getS env i) → 2 ≤ tag (getS env j) → σ[i]? = some (some (.ref a)) → σ[j]? = some (some (.ref a)) → i = j
/-- addresses of the frame's own lists -/
def Own (env : Env) (σ : L2.St) (a : Addr) : Prop := ∃ i, isL (getS env i) = true ∧ σ[i]? = some (some (.ref a))
structure WdOk (w : Wd) (h : Hs) : Prop where
  dom : ∀ a, w.S a → ∃ vs, w.H a = some (.lst vs)
  rh : RH K M ca w h
structure SI (env : Env) (σ : L2.St) (h : Hs) (w : Wd) : Prop where
  ok : WdOk K M ca w h
  re : RE K w env σ
end
/-- from one world to a later one; O: what may be written -/
structure Stp (O : Addr → Prop) (w w' : Wd) : Prop where
  own : ∀ p, w.S p → ¬ O p → w'.S p ∧ ∀ o, w.H p = some o → w'.H p = some o
  keep : ∀ b o, w.H b = some o → b ∉ w.rho → ¬ w.S b → w'.H b = some o
  there : ∀ b, w'.H b = none → w.H b = none
  pre : ∃ r, w'.rho = w.rho ++ r ∧ ∀ b ∈ r, w.H b = none
  fresh : ∀ a, w'.S a → w.S a ∨ w.H a = none

/-! ### lemmas -/
section
variable {K : PySem.W.Frag} {M : Nm} {ca : Nat → Addr} {w w' w'' : Wd} {O O' : Addr → Prop} {h h' : Hs}
theorem Stp.refl : Stp O w w := ⟨fun _ h _ => ⟨h, fun _ e => e⟩, fun _ _ e _ _ => e, fun _ e => e, ⟨[], by simp, fun _ h => nomatch h⟩, fun _ h => .inl h⟩
theorem Stp.mono (s : Stp O w w') (h : ∀ a, O a → O' a) : Stp O' w w' := ⟨fun p a b => s.own p a fun z => b (h p z), s.keep, s.there, s.pre, s.fresh⟩
/-- O' : what the second may write was the first's, or is new -/
theorem Stp.trans (s : Stp O w w') (t : Stp O' w' w'') (hd : ∀ a, w.S a → w.H a ≠ none) (hO : ∀ a, O' a → O a ∨ w.H a = none) : Stp O w w'' where
  own := fun p a b => by
    obtain ⟨a1, k1⟩ := s.own p a b
    have nb : ¬ O' p := fun z => by
      rcases hO p z with q | q
      · exact b q
      · exact hd p a q
    obtain ⟨a2, k2⟩ := t.own p a1 nb
    exact ⟨a2, fun o e => k2 o (k1 o e)⟩
  keep := fun b o e nr ns => by
    obtain ⟨r, er, hr⟩ := s.pre
    refine t.keep b o (s.keep b o e nr ns) (fun z => ?_) (fun z => ?_)
    · rw [er] at z
      rcases List.mem_append.mp z with z | z
      · exact nr z
      · rw [hr b z] at e; cases e
    · rcases s.fresh b z with q | q
      · exact ns q
      · rw [q] at e; cases e
  there := fun b e => s.there b (t.there b e)
  pre := by
    obtain ⟨r, er, hr⟩ := s.pre
    obtain ⟨q, eq, hq⟩ := t.pre
    refine ⟨r ++ q, by rw [eq, er, List.append_assoc], fun b hb => ?_⟩
    rcases List.mem_append.mp hb with z | z
    · exact hr b z
    · exact s.there b (hq b z)
  fresh := fun a h => by
    rcases t.fresh a h with q | q
    · exact s.fresh a q
    · exact .inr (s.there a q)
theorem WdOk.ne (x : WdOk K M ca w h) {a : Addr} (hs : w.S a) : w.H a ≠ none := by
  obtain ⟨vs, e⟩ := x.dom a hs
  rw [e]; exact fun z => by cases z
theorem getH_eq : ∀ (h : Hs) (i : Nat), getH h i = h[i]?
  | [], _ => rfl
  | _ :: _, 0 => rfl
  | _ :: r, i + 1 => by
    show getH r i = _
    rw [getH_eq r i]
    rfl
theorem setH_eq (o : VO) : ∀ (h : Hs) (i : Nat), setH o h i = h.set i o
  | [], _ => rfl
  | _ :: _, 0 => rfl
  | x :: r, i + 1 => by
    show x :: setH o r i = _
    rw [setH_eq o r i]
    rfl
theorem setS_eq (s : Sl) : ∀ (h : Env) (i : Nat), setS s h i = h.set i s
  | [], _ => rfl
  | _ :: _, 0 => rfl
  | x :: r, i + 1 => by
    show x :: setS s r i = _
    rw [setS_eq s r i]
    rfl
theorem getS_eq : ∀ (h : Env) (i : Nat), getS h i = (h[i]?).getD .u
  | [], _ => rfl
  | _ :: _, 0 => rfl
  | _ :: r, i + 1 => by
    show getS r i = _
    rw [getS_eq r i]
    rfl
theorem getS_out {env : Env} {i : Nat} (h : env.length ≤ i) : getS env i = .u := by
  rw [getS_eq, List.getElem?_eq_none h]
  rfl
theorem getS_lt {env : Env} {i : Nat} (h : getS env i ≠ .u) : i < env.length := by
  by_cases z : i < env.length
  · exact z
  · exact absurd (getS_out (Nat.le_of_not_lt z)) h
theorem getS_set_same {env : Env} {i : Nat} {s : Sl} (h : i < env.length) : getS (setS s env i) i = s := by
  rw [getS_eq, setS_eq, List.getElem?_set_self h]
  rfl
theorem getS_set_ne {env : Env} {i j : Nat} {s : Sl} (h : i ≠ j) : getS (setS s env i) j = getS env j := by
  rw [getS_eq, setS_eq, List.getElem?_set_ne h, getS_eq]
theorem setS_len (s : Sl) (env : Env) (i : Nat) : (setS s env i).length = env.length := by
  rw [setS_eq, List.length_set]
theorem atL_eq : ∀ (h : List D) (i : Nat), atL h i = h[i]?
  | [], _ => rfl
  | _ :: _, 0 => rfl
  | _ :: r, i + 1 => by
    show atL r i = _
    rw [atL_eq r i]
    rfl
theorem setAt_eq (x : D) : ∀ (i : Nat) (h : List D), setAt x i h = h.set i x
  | _, [] => by unfold setAt; rfl
  | 0, _ :: _ => rfl
  | i + 1, y :: r => by
    show y :: setAt x i r = _
    rw [setAt_eq x i r]
    rfl
theorem dropAt_eq : ∀ (i : Nat) (h : List D), dropAt i h = h.eraseIdx i
  | _, [] => by unfold dropAt; rfl
  | 0, _ :: _ => rfl
  | i + 1, y :: r => by
    show y :: dropAt i r = _
    rw [dropAt_eq i r]
    rfl
/-- an object of the small heap is no list, no tuple, nothing frozen -/
theorem RH.no (x : RH K M ca w h) {a : Addr} {o : HO} (ha : a ∈ w.rho) (e : w.H a = some o) : (∀ xs, o ≠ .lst xs) ∧ (∀ xs, o ≠ .tup xs) ∧ ∀ ob u, o ≠ .frz ob u := by
  obtain ⟨i, hi, ei⟩ := List.getElem_of_mem ha
  have hl : i < h.length := by rw [← x.len]; exact hi
  obtain ⟨b, ho, eb, eh, r⟩ := x.ob i h[i] (by rw [getH_eq, List.getElem?_eq_getElem hl])
  have e2 : w.rho[i]? = some a := by rw [List.getElem?_eq_getElem hi, ei]
  rw [e2] at eb; cases eb
  rw [e] at eh; cases eh
  generalize h[i] = ob at r
  cases ob with
  | dK kvs => obtain ⟨ks, rfl, _⟩ := r; exact ⟨fun _ z => (by cases z), fun _ z => (by cases z), fun _ _ z => (by cases z)⟩
  | dT kvs => obtain ⟨ks, rfl, _⟩ := r; exact ⟨fun _ z => (by cases z), fun _ z => (by cases z), fun _ _ z => (by cases z)⟩
  | ins c fs => obtain ⟨dx, fv, rfl, _⟩ := r; exact ⟨fun _ z => (by cases z), fun _ z => (by cases z), fun _ _ z => (by cases z)⟩
theorem WdOk.noS (x : WdOk K M ca w h) {a : Addr} {o : HO} (e : w.H a = some o) (n : ∀ xs, o ≠ .lst xs) : ¬ w.S a := fun z => by
  obtain ⟨vs, q⟩ := x.dom a z
  rw [q] at e; cases e
  exact n _ rfl
theorem Stp.rdT (s : Stp O w w') (x : WdOk K M ca w h) {a : Addr} {vs : List V} (r : SqT K w.H a vs) : SqT K w'.H a vs := by
  rcases r with (r | ⟨o, r⟩) | r
  · exact .inl (.inl (s.keep a _ r (fun z => (x.rh.no z r).2.1 _ rfl) (x.noS r fun _ z => (by cases z))))
  · exact .inl (.inr ⟨o, s.keep a _ r (fun z => (x.rh.no z r).2.2 _ _ rfl) (x.noS r fun _ z => (by cases z))⟩)
  · exact .inr r
theorem Stp.rdL (s : Stp O w w') (x : WdOk K M ca w h) {a : Addr} {vs : List V} (n : ¬ w.S a) (r : Rd w.H a (.lst vs)) : ¬ w'.S a ∧ Rd w'.H a (.lst vs) := by
  refine ⟨fun z => ?_, ?_⟩
  · rcases s.fresh a z with q | q
    · exact n q
    · rcases r with r | ⟨o, r⟩ <;> (rw [q] at r; cases r)
  · rcases r with r | ⟨o, r⟩
    · exact .inl (s.keep a _ r (fun z => (x.rh.no z r).1 _ rfl) n)
    · exact .inr ⟨o, s.keep a _ r (fun z => (x.rh.no z r).2.2 _ _ rfl) n⟩
mutual
theorem Stp.rep (s : Stp O w w') (x : WdOk K M ca w h) : ∀ (d : D) (v : V), Rep K w d v → Rep K w' d v
  | .non, _, r => by unfold Rep at r ⊢; exact r
  | .bl _, _, r => by unfold Rep at r ⊢; exact r
  | .int _, _, r => by unfold Rep at r ⊢; exact r
  | .str _, _, r => by unfold Rep at r ⊢; exact r
  | .rep _, _, r => by unfold Rep at r ⊢; exact r
  | .tup ds, v, r => by
    unfold Rep at r ⊢
    obtain ⟨a, vs, e, q, t⟩ := r
    exact ⟨a, vs, e, s.rdT x q, Stp.reps s x ds vs t⟩
  | .lst ds, v, r => by
    unfold Rep at r ⊢
    obtain ⟨a, vs, e, n, q, t⟩ := r
    obtain ⟨n', q'⟩ := s.rdL x n q
    exact ⟨a, vs, e, n', q', Stp.reps s x ds vs t⟩
  | .ref i, v, r => by
    unfold Rep at r ⊢
    obtain ⟨a, e, q⟩ := r
    obtain ⟨t, et, _⟩ := s.pre
    exact ⟨a, by rw [et, List.getElem?_append_left ((List.getElem?_eq_some_iff.mp e).1)]; exact e, q⟩
theorem Stp.reps (s : Stp O w w') (x : WdOk K M ca w h) : ∀ (ds : List D) (vs : List V), Reps K w ds vs → Reps K w' ds vs
  | [], _, r => by unfold Reps at r ⊢; exact r
  | d :: ds, vs, r => by
    unfold Reps at r ⊢
    obtain ⟨v, q, e, r1, r2⟩ := r
    exact ⟨v, q, e, Stp.rep s x d v r1, Stp.reps s x ds q r2⟩
end
end
end Ev
/-! Soundness of the small interpreter, 2: readings. -/
namespace Ev
open PySem PySem.Spec PyProof.Rows L2

/-! ### promises of defs under a known list of guards -/
structure FnG (P : Program) (w : World) (K : PySem.W.Frag) (mg : Str → Option Value) (base : Heap) (k : Nat) (f : Addr) (fd : FuncData) (ps : List Str) (sp : Sp) : Prop where
  len : ∀ vs H Q E, sp vs H Q E → vs.length = ps.length
  run : ∀ (A : Around) (outer : List PySem.Env) (s : Shared) (H : Hp) (args : Args) (us : List Value) (vs : List V) (Q : VK) (E : XK), A.guards = some [] → Room k A → Env0 P w K mg base A outer s H →
    BindsTo s fd args (ps.zip us) → Vals vs us → sp vs H Q E → codeAny (model P w) A (.call (.ref f) args) (L2.CR (L2.CX P w) outer P w H s Q E) s

/-! ### values that have come -/
/-- slots behind an expression: own lists may have been handed on -/
def ELe (env env' : Env) : Prop := env'.length = env.length ∧ ∀ i, tag (getS env' i) = tag (getS env i) ∨ (tag (getS env i) = 2 ∧ tag (getS env' i) = 1)
theorem ELe.refl {env : Env} : ELe env env := ⟨rfl, fun _ => .inl rfl⟩
theorem ELe.trans {a b c : Env} (h : ELe a b) (g : ELe b c) : ELe a c := ⟨g.1.trans h.1, fun i => by
  rcases h.2 i with x | x <;> rcases g.2 i with y | y
  · exact .inl (y.trans x)
  · exact .inr ⟨x ▸ y.1, y.2⟩
  · exact .inr ⟨x.1, y.trans x.2⟩
  · omega⟩
theorem isL_tag {s : Sl} : isL s = true ↔ tag s = 2 := by cases s <;> simp [isL, tag]
theorem ELe.own {env env' : Env} {σ : L2.St} {a : Addr} (h : ELe env env') (o : Own env' σ a) : Own env σ a := by
  obtain ⟨i, hi, e⟩ := o
  refine ⟨i, ?_, e⟩
  rw [isL_tag] at hi ⊢
  rcases h.2 i with x | x <;> omega
section
variable (K : PySem.W.Frag) (M : Nm) (ca : Nat → Addr)
/-- a value, in the later world; fr: a new list, nobody's yet -/
def RV (w w' : Wd) : Bool → D → V → Prop
  | true, d, v => ∃ p vs ds, d = .lst ds ∧ v = .ref p ∧ w'.S p ∧ w'.H p = some (.lst vs) ∧ Reps K w' ds vs ∧ w.H p = none
  | false, d, v => Rep K w' d v
/-- an error: its own dict holds what it carries -/
def xds (v : V) : List (Str × V) := [(("value" : Str), v)]
def ExW (O : Addr → Prop) (w : Wd) (E : XK) (c : Nat) (d : D) (h : Hs) : Prop :=
  ∀ w' dx v, Stp O w w' → WdOk K M ca w' h → w'.H dx = some (.xd (xds v)) → Rep K w' d v → E (.ref (ca c)) (some dx) w'.H
/-- what is wanted behind an expression that ends so -/
def pE (E : XK) (w : Wd) (env : Env) (σ : L2.St) (Q : VK) : Res → Prop
  | .ok d fr env' h' => ∀ w' v, Stp (Own env σ) w w' → ELe env env' → SI K M ca env' σ h' w' → RV K w w' fr d v → Q v w'.H
  | .ex c d h' => ExW K M ca (Own env σ) w E c d h'
  | .no => False
/-- the same where new lists have been handed on -/
def pS (E : XK) (w : Wd) (env : Env) (σ : L2.St) (Q : VK) : Res → Prop
  | .ok d _ env' h' => ∀ w' v, Stp (Own env σ) w w' → ELe env env' → SI K M ca env' σ h' w' → Rep K w' d v → Q v w'.H
  | .ex c d h' => ExW K M ca (Own env σ) w E c d h'
  | .no => False
/-- the reading of an expression, by the interpreter -/
def tE (E : XK) (g : Env → Hs → Res) : TE := fun σ H Q => ∃ w env h, w.H = H ∧ SI K M ca env σ h w ∧ pE K M ca E w env σ Q (g env h)
end
section
variable {K : PySem.W.Frag} {M : Nm} {ca : Nat → Addr} {w w' w1 w2 : Wd} {env env' env1 : Env} {σ : L2.St} {h h' h1 : Hs} {Q : VK} {E : XK} {d : D} {v : V}
theorem SI.ownS (x : SI K M ca env σ h w) {a : Addr} (o : Own env σ a) : w.S a := by
  obtain ⟨i, hi, e⟩ := o
  have q := x.re.sl i
  cases hs : getS env i with
  | l ds =>
    rw [hs] at q
    obtain ⟨b, vs, e1, e2, _⟩ := q
    rw [e] at e1
    cases e1
    exact e2
  | _ => rw [hs] at hi; cases hi
/-- fewer lists are somebody's own -/
def Wd.les (w : Wd) (S' : Addr → Prop) : Wd := ⟨w.rho, S', w.H⟩
section
variable {S' : Addr → Prop}
mutual
theorem Rep.less (hS : ∀ a, S' a → w.S a) : ∀ (d : D) (v : V), Rep K w d v → Rep K (w.les S') d v
  | .non, _, r => by unfold Rep at r ⊢; exact r
  | .bl _, _, r => by unfold Rep at r ⊢; exact r
  | .int _, _, r => by unfold Rep at r ⊢; exact r
  | .str _, _, r => by unfold Rep at r ⊢; exact r
  | .rep _, _, r => by unfold Rep at r ⊢; exact r
  | .tup ds, v, r => by
    unfold Rep at r ⊢
    obtain ⟨a, vs, e, q, t⟩ := r
    exact ⟨a, vs, e, q, Reps.less hS ds vs t⟩
  | .lst ds, v, r => by
    unfold Rep at r ⊢
    obtain ⟨a, vs, e, n, q, t⟩ := r
    exact ⟨a, vs, e, fun z => n (hS a z), q, Reps.less hS ds vs t⟩
  | .ref i, v, r => by unfold Rep at r ⊢; exact r
theorem Reps.less (hS : ∀ a, S' a → w.S a) : ∀ (ds : List D) (vs : List V), Reps K w ds vs → Reps K (w.les S') ds vs
  | [], _, r => by unfold Reps at r ⊢; exact r
  | d :: ds, vs, r => by
    unfold Reps at r ⊢
    obtain ⟨v, q, e, r1, r2⟩ := r
    exact ⟨v, q, e, Rep.less hS d v r1, Reps.less hS ds q r2⟩
end
theorem Paired.imp {α β : Type} {F G : α → β → Prop} (h : ∀ a b, F a b → G a b) : ∀ {l : List α} {m : List β}, Paired F l m → Paired G l m
  | _, _, .nil => .nil
  | _, _, .cons r t => .cons (h _ _ r) (Paired.imp h t)
theorem ObR.less (hS : ∀ a, S' a → w.S a) {a : Addr} {o : VO} {ho : HO} (r : ObR K M ca w a o ho) : ObR K M ca (w.les S') a o ho := by
  cases o with
  | dK kvs => obtain ⟨ks, e, r⟩ := r; exact ⟨ks, e, Paired.imp (fun a b z => ⟨z.1, Rep.less hS _ _ z.2⟩) r⟩
  | dT kvs => obtain ⟨ks, e, r⟩ := r; exact ⟨ks, e, Paired.imp (fun a b z => ⟨z.1, z.2.1, let ⟨v, r1, r2⟩ := z.2.2; ⟨v, r1, Rep.less hS _ _ r2⟩⟩) r⟩
  | ins c fs => obtain ⟨dx, fv, e, r⟩ := r; exact ⟨dx, fv, e, Paired.imp (fun a b z => ⟨z.1, Rep.less hS _ _ z.2⟩) r⟩
theorem RH.less (hS : ∀ a, S' a → w.S a) (x : RH K M ca w h) : RH K M ca (w.les S') h :=
  ⟨x.len, x.nd, fun i o e => let ⟨a, ho, e1, e2, r⟩ := x.ob i o e; ⟨a, ho, e1, e2, r.less hS⟩⟩
theorem WdOk.less (hS : ∀ a, S' a → w.S a) (x : WdOk K M ca w h) : WdOk K M ca (w.les S') h := ⟨fun a z => x.dom a (hS a z), x.rh.less hS⟩
/-- the frame's own lists stay own -/
theorem SI.less (hS : ∀ a, S' a → w.S a) (x : SI K M ca env σ h w) (ho : ∀ i a, 2 ≤ tag (getS env i) → σ[i]? = some (some (.ref a)) → S' a) : SI K M ca env σ h (w.les S') := by
  refine ⟨x.ok.less hS, x.re.len, fun i => ?_, x.re.one⟩
  have q := x.re.sl i
  have ho' := ho i
  cases hs : getS env i with
  | u => trivial
  | v d =>
    rw [hs] at q
    obtain ⟨v, e, r⟩ := q
    exact ⟨v, e, r.less hS⟩
  | l ds =>
    rw [hs] at q ho'
    obtain ⟨a, vs, e, s, eh, r⟩ := q
    exact ⟨a, vs, e, ho' a (Nat.le_refl 2) e, eh, r.less hS⟩
  | k ds =>
    rw [hs] at q ho'
    obtain ⟨a, vs, e, s, eh, r⟩ := q
    exact ⟨a, vs, e, ho' a (show 2 ≤ 3 by decide) e, eh, r.less hS⟩
end
/-- lists that a slot holds as own, or looks at, are tracked -/
theorem SI.sS (x : SI K M ca env σ h w) {i : Nat} {a : Addr} (t : 2 ≤ tag (getS env i)) (e : σ[i]? = some (some (.ref a))) : w.S a := by
  have q := x.re.sl i
  cases hs : getS env i with
  | u => rw [hs] at t; exact absurd (show 2 ≤ 0 from t) (by decide)
  | v d => rw [hs] at t; exact absurd (show 2 ≤ 1 from t) (by decide)
  | l ds =>
    rw [hs] at q
    obtain ⟨b, vs, e1, e2, _⟩ := q
    rw [e] at e1; cases e1
    exact e2
  | k ds =>
    rw [hs] at q
    obtain ⟨b, vs, e1, e2, _⟩ := q
    rw [e] at e1; cases e1
    exact e2
theorem ELe.ge {env env' : Env} (l : ELe env env') {i : Nat} (t : 2 ≤ tag (getS env' i)) : 2 ≤ tag (getS env i) := by
  rcases l.2 i with x | x <;> omega
/-- a new list is handed on -/
theorem share (s : Stp (Own env σ) w w') (x0 : SI K M ca env σ h w) (l : ELe env env') (x : SI K M ca env' σ h' w') {fr : Bool} (r : RV K w w' fr d v) :
    ∃ w2, w2.H = w'.H ∧ Stp (Own env σ) w w2 ∧ SI K M ca env' σ h' w2 ∧ Rep K w2 d v := by
  cases fr with
  | false => exact ⟨w', rfl, s, x, r⟩
  | true =>
    obtain ⟨p, vs, ds, rfl, rfl, sp, ep, rp, np⟩ := r
    have hS : ∀ a, (fun a => w'.S a ∧ a ≠ p) a → w'.S a := fun a z => z.1
    refine ⟨w'.les fun a => w'.S a ∧ a ≠ p, rfl, ⟨fun q a b => ?_, s.keep, s.there, s.pre, fun a z => s.fresh a z.1⟩, x.less hS fun i a t e => ⟨x.sS t e, fun z => ?_⟩, ?_⟩
    · obtain ⟨a1, k1⟩ := s.own q a b
      exact ⟨⟨a1, fun z => x0.ok.ne a (z ▸ np)⟩, k1⟩
    · exact x0.ok.ne (x0.sS (l.ge t) e) (z ▸ np)
    · unfold Rep
      exact ⟨p, vs, rfl, fun z => z.2 rfl, .inl ep, Reps.less hS ds vs rp⟩
theorem pE_of_pS (x0 : SI K M ca env σ h w) {r : Res} (g : pS K M ca E w env σ Q r) : pE K M ca E w env σ Q r := by
  cases r with
  | ok d fr env' h' =>
    intro w' v s l x r
    obtain ⟨w2, e, s2, x2, r2⟩ := share s x0 l x r
    rw [← e]
    exact g w2 v s2 l x2 r2
  | ex c d h' => exact g
  | no => exact g
end
/-! ### judgements by a weaker reading -/
theorem PE.imp {X : Cx} {e : Expr} {t t' : TE} (p : PE X e t) (g : ∀ σ H Q, t' σ H Q → t σ H Q) : PE X e t' := ⟨fun pins s σ H Q I z => p.run pins s σ H Q I (g σ H Q z)⟩
theorem PT.imp {X : Cx} {e : Expr} {t t' : TT} (p : PT X e t) (g : ∀ σ H Q, t' σ H Q → t σ H Q) : PT X e t' := ⟨fun pins s σ H Q I z => p.run pins s σ H Q I (g σ H Q z)⟩
theorem PA.imp {X : Cx} {e : List Expr} {t t' : TA} (p : PA X e t) (g : ∀ σ H Q, t' σ H Q → t σ H Q) : PA X e t' := ⟨fun pos pins s σ H Q I z => p.run pos pins s σ H Q I (g σ H Q z)⟩
theorem PS.imp {X : Cx} {e : Stmt} {t t' : TS} (p : PS X e t) (g : ∀ D σ H, t' D σ H → t D σ H) : PS X e t' := ⟨fun pins s σ H D I z => p.run pins s σ H D I (g D σ H z)⟩
theorem PSs.imp {X : Cx} {e : List Stmt} {t t' : TS} (p : PSs X e t) (g : ∀ D σ H, t' D σ H → t D σ H) : PSs X e t' := ⟨fun pins s σ H D I z => p.run pins s σ H D I (g D σ H z)⟩
end Ev
/-! Soundness of the small interpreter, 3: operands. -/
namespace Ev
open PySem PySem.Spec PyProof.Rows L2
section
variable (K : PySem.W.Frag)
/-- a value that is looked at -/
def Vw (w : Wd) : D → V → Prop
  | .lst ds, v => ∃ a vs, v = .ref a ∧ Rd w.H a (.lst vs) ∧ Reps K w ds vs
  | d, v => Rep K w d v
end
section
variable {K : PySem.W.Frag} {M : Nm} {ca : Nat → Addr} {w w' w1 w2 : Wd} {env env' env1 env2 : Env} {σ : L2.St} {h h' h1 h2 : Hs} {Q : VK} {E : XK} {d : D} {v : V} {O : Addr → Prop}
theorem Vw.of_rep (r : Rep K w d v) : Vw K w d v := by
  cases d with
  | lst ds =>
    unfold Rep at r
    obtain ⟨a, vs, e, _, q, t⟩ := r
    exact ⟨a, vs, e, q, t⟩
  | _ => exact r
theorem Vw.of_rv {fr : Bool} (r : RV K w w' fr d v) : Vw K w' d v := by
  cases fr with
  | false => exact Vw.of_rep r
  | true =>
    obtain ⟨p, vs, ds, rfl, rfl, sp, ep, rp, np⟩ := r
    exact ⟨p, vs, rfl, .inl ep, rp⟩
theorem SI.look (x : SI K M ca env σ h w) {i : Nat} (e : Ev.look env i = some d) : ∃ v, σ[i]? = some (some v) ∧ Vw K w d v := by
  have q := x.re.sl i
  unfold Ev.look at e
  cases hs : getS env i with
  | u => rw [hs] at e; cases e
  | v d' =>
    rw [hs] at q e; cases e
    obtain ⟨v, e1, r⟩ := q
    exact ⟨v, e1, Vw.of_rep r⟩
  | l ds =>
    rw [hs] at q e; cases e
    obtain ⟨a, vs, e1, s, eh, r⟩ := q
    exact ⟨_, e1, a, vs, rfl, .inl eh, r⟩
  | k ds =>
    rw [hs] at q e; cases e
    obtain ⟨a, vs, e1, s, eh, r⟩ := q
    exact ⟨_, e1, a, vs, rfl, .inl eh, r⟩
/-- a value that has come stands while more is reckoned -/
theorem RV.stay (x0 : SI K M ca env σ h w) (x1 : SI K M ca env1 σ h1 w1) (l : ELe env env1) (t : Stp (Own env1 σ) w1 w2) {fr : Bool} (r : RV K w w1 fr d v) : RV K w w2 fr d v := by
  cases fr with
  | false => exact t.rep x1.ok d v r
  | true =>
    obtain ⟨p, vs, ds, rfl, rfl, sp, ep, rp, np⟩ := r
    have no : ¬ Own env1 σ p := fun z => x0.ok.ne (x0.ownS (l.own z)) np
    obtain ⟨s2, k2⟩ := t.own p sp no
    exact ⟨p, vs, ds, rfl, rfl, s2, k2 _ ep, t.reps x1.ok ds vs rp, np⟩
theorem SI.trans (x : SI K M ca env σ h w) (s : Stp (Own env σ) w w1) (l : ELe env env1) (t : Stp (Own env1 σ) w1 w2) : Stp (Own env σ) w w2 :=
  s.trans t (fun a z => x.ok.ne z) fun a z => .inl (l.own z)
/-- what is wanted from a world is wanted from a later one -/
theorem pE.step (x : SI K M ca env σ h w) (s : Stp (Own env σ) w w1) (l : ELe env env1) {r : Res} (g : pE K M ca E w env σ Q r) : pE K M ca E w1 env1 σ Q r := by
  cases r with
  | ok d fr env' h' =>
    intro w' v t m y r
    refine g w' v (x.trans s l t) (l.trans m) y ?_
    cases fr with
    | false => exact r
    | true =>
      obtain ⟨p, vs, ds, rfl, rfl, sp, ep, rp, np⟩ := r
      exact ⟨p, vs, ds, rfl, rfl, sp, ep, rp, s.there p np⟩
  | ex c d h' => exact fun w' dx v t ok ed r => g w' dx v (x.trans s l t) ok ed r
  | no => exact g
theorem ExW.step (x : SI K M ca env σ h w) (s : Stp (Own env σ) w w1) (l : ELe env env1) {c : Nat} (g : ExW K M ca (Own env σ) w E c d h') : ExW K M ca (Own env1 σ) w1 E c d h' :=
  fun w' dx v t ok ed r => g w' dx v (x.trans s l t) ok ed r
end
/-! ### operands -/
section
variable (K : PySem.W.Frag) (M : Nm) (ca : Nat → Addr) (r : Self) (k : Nat) (E : XK)
/-- an operand's reading: a name is read when it is wanted -/
def opd : Ex → TE
  | .var i _ => tVar i
  | x => tE K M ca E fun env h => r.e k env h x
end
def isVar : Ex → Bool
  | .var _ _ => true
  | _ => false
theorem opd_of {K M ca r k E} {x : Ex} (h : isVar x = false) : opd K M ca r k E x = tE K M ca E fun env h => r.e k env h x := by
  cases x <;> first | rfl | cases h
theorem eB_of {r : Self} {k : Nat} {x : Ex} (h : isVar x = false) (env : Env) (hs : Hs) : eB r k env hs x = r.e k env hs x := by
  cases x <;> first | rfl | cases h
section
variable {K : PySem.W.Frag} {M : Nm} {ca : Nat → Addr} {w w' w1 w2 : Wd} {env env' env1 env2 : Env} {σ : L2.St} {h h' h1 h2 : Hs} {Q : VK} {E : XK} {r : Self} {k : Nat} {a b : Ex}
/-- one operand -/
theorem opd_ok {g : Res → Res} (x : SI K M ca env σ h w) (hno : g .no = .no) (hex : ∀ c d h, g (.ex c d h) = .ex c d h) (p : pE K M ca E w env σ Q (g (eB r k env h a))) {R : VK}
    (c : ∀ d fr env1 h1 w1 v, eB r k env h a = .ok d fr env1 h1 → Stp (Own env σ) w w1 → ELe env env1 → SI K M ca env1 σ h1 w1 → Vw K w1 d v → (isVar a = false → RV K w w1 fr d v) → pE K M ca E w1 env1 σ Q (g (.ok d fr env1 h1)) → R v w1.H) :
    opd K M ca r k E a σ w.H R := by
  by_cases hv : isVar a = true
  · cases a <;> first | cases hv | skip
    rename_i i pos
    unfold eB at p c
    cases e : look env i with
    | none =>
      simp only [e, hno] at p
      exact p.elim
    | some d =>
      simp only [e] at p c
      obtain ⟨v, ev, rv⟩ := x.look e
      exact ⟨v, ev, c d false env h w v rfl Stp.refl ELe.refl x rv (fun z => by cases z) p⟩
  · have hv' : isVar a = false := by cases z : isVar a with
      | true => exact absurd z hv
      | false => rfl
    rw [opd_of hv']
    rw [eB_of hv'] at p c
    refine ⟨w, env, h, rfl, x, ?_⟩
    show pE K M ca E w env σ R (r.e k env h a)
    cases e : r.e k env h a with
    | ok d fr env1 h1 =>
      rw [e] at p c
      intro w1 v s l y rv
      exact c d fr env1 h1 w1 v rfl s l y (Vw.of_rv rv) (fun _ => rv) (p.step x s l)
    | ex c d h' => rw [e, hex] at p; exact p
    | no => rw [e, hno] at p; exact p.elim
theorem notVar {a : Ex} (h : ¬ isVar a = true) : isVar a = false := by
  cases z : isVar a with
  | true => exact absurd z h
  | false => rfl
theorem two_of {a : Ex} (h : isVar a = false) (env : Env) (hs : Hs) (b : Ex) (c : D → D → Env → Hs → Res) : two r k env hs a b c = (match r.e k env hs a with
    | .ok u _ env1 h1 => (match eB r k env1 h1 b with
      | .ok v _ env2 h2 => c u v env2 h2
      | .ex c d h => .ex c d h
      | .no => .no)
    | .ex c d h => .ex c d h
    | .no => .no) := by
  cases a <;> first | rfl | cases h
def rest2 (f : D → Env → Hs → Res) : Res → Res
  | .ok v _ env1 h1 => f v env1 h1
  | .ex c d h => .ex c d h
  | .no => .no
/-- two operands -/
theorem two_ok {c : D → D → Env → Hs → Res} (x : SI K M ca env σ h w) (p : pE K M ca E w env σ Q (two r k env h a b c)) {R : V → V → Hp → Prop}
    (g : ∀ u v env2 h2 w2 x1 y1, Stp (Own env σ) w w2 → ELe env env2 → SI K M ca env2 σ h2 w2 → Vw K w2 u x1 → Vw K w2 v y1 → pE K M ca E w2 env2 σ Q (c u v env2 h2) → R x1 y1 w2.H) :
    opd K M ca r k E a σ w.H fun x1 H1 => opd K M ca r k E b σ H1 fun y1 H2 => R x1 y1 H2 := by
  by_cases hv : isVar a = true
  · cases a <;> first | cases hv | skip
    rename_i i pos
    unfold two at p
    cases e0 : look env i with
    | none => simp only [e0] at p; exact p.elim
    | some d0 =>
      simp only [e0] at p
      obtain ⟨v0, ev0, _⟩ := x.look e0
      refine ⟨v0, ev0, ?_⟩
      refine opd_ok (Q := Q) (g := rest2 fun v env1 h1 => match look env1 i with | some u => c u v env1 h1 | none => .no) x rfl (fun _ _ _ => rfl) ?_ fun d fr env1 h1 w1 v _ s l y rv _ q => ?_
      · cases e : eB r k env h b <;> (rw [e] at p; exact p)
      · have q : pE K M ca E w1 env1 σ Q (match look env1 i with | some u => c u d env1 h1 | none => .no) := q
        cases e1 : look env1 i with
        | none => rw [e1] at q; exact q.elim
        | some u =>
          rw [e1] at q
          obtain ⟨v1, ev1, r1⟩ := y.look e1
          rw [ev0] at ev1; cases ev1
          exact g u d env1 h1 w1 v0 v s l y r1 rv q
  · have hv' := notVar hv
    rw [two_of hv'] at p
    refine opd_ok (Q := Q) (g := rest2 fun u env1 h1 => rest2 (fun v env2 h2 => c u v env2 h2) (eB r k env1 h1 b)) x rfl (fun _ _ _ => rfl) ?_ fun d fr env1 h1 w1 v _ s l y rv hr q => ?_
    · rw [eB_of hv']
      cases e : r.e k env h a with
      | ok u fu env1 h1 =>
        rw [e] at p
        show pE K M ca E w env σ Q (rest2 (fun v env2 h2 => c u v env2 h2) (eB r k env1 h1 b))
        cases e2 : eB r k env1 h1 b <;> (simp only [e2] at p; exact p)
      | ex c d h' => rw [e] at p; exact p
      | no => rw [e] at p; exact p
    · refine opd_ok (Q := Q) (g := rest2 fun v env2 h2 => c d v env2 h2) y rfl (fun _ _ _ => rfl) q fun d2 fr2 env2 h2 w2 v2 _ s2 l2 y2 rv2 _ q2 => ?_
      exact g d d2 env2 h2 w2 v v2 (x.trans s l s2) (l.trans l2) y2 (Vw.of_rv ((hr hv').stay x y l s2)) rv2 q2
end
end Ev
/-! Soundness of the small interpreter, 4: new objects, lists of values, contexts. -/
namespace Ev
open PySem PySem.Spec PyProof.Rows L2
section
variable {K : PySem.W.Frag} {M : Nm} {ca : Nat → Addr} {w w' w1 w2 : Wd} {env env' env1 env2 : Env} {σ : L2.St} {h h' h1 h2 : Hs} {Q : VK} {E : XK} {d : D} {ds : List D} {v : V} {vs : List V} {O : Addr → Prop}
/-! ### a world goes on -/
/-- the frame's slots in a later world in which what it holds stands -/
theorem SI.on (x : SI K M ca env σ h w) (s : Stp O w w') (ok : WdOk K M ca w' h') (ho : ∀ a, O a → ¬ Own env σ a) (hk : ∀ i a, 2 ≤ tag (getS env i) → σ[i]? = some (some (.ref a)) → ¬ O a) : SI K M ca env σ h' w' := by
  refine ⟨ok, x.re.len, fun i => ?_, x.re.one⟩
  have q := x.re.sl i
  have hk' := hk i
  cases hs : getS env i with
  | u => trivial
  | v d =>
    rw [hs] at q
    obtain ⟨v, e, r⟩ := q
    exact ⟨v, e, s.rep x.ok d v r⟩
  | l ds =>
    rw [hs] at q hk'
    obtain ⟨a, vs, e, sa, eh, r⟩ := q
    obtain ⟨s2, k2⟩ := s.own a sa (hk' a (Nat.le_refl 2) e)
    exact ⟨a, vs, e, s2, k2 _ eh, s.reps x.ok ds vs r⟩
  | k ds =>
    rw [hs] at q hk'
    obtain ⟨a, vs, e, sa, eh, r⟩ := q
    obtain ⟨s2, k2⟩ := s.own a sa (hk' a (show 2 ≤ 3 by decide) e)
    exact ⟨a, vs, e, s2, k2 _ eh, s.reps x.ok ds vs r⟩
theorem SI.on0 (x : SI K M ca env σ h w) (s : Stp (fun _ => False) w w') (ok : WdOk K M ca w' h') : SI K M ca env σ h' w' :=
  x.on s ok (fun _ z => z.elim) fun _ _ _ _ z => z
theorem RH.on (x : WdOk K M ca w h) (s : Stp O w w') (hr : w'.rho = w.rho) (hob : ∀ a ∈ w.rho, ∀ o, w.H a = some o → w'.H a = some o) : RH K M ca w' h := by
  refine ⟨by rw [hr]; exact x.rh.len, by rw [hr]; exact x.rh.nd, fun i o e => ?_⟩
  obtain ⟨a, ho, e1, e2, r⟩ := x.rh.ob i o e
  refine ⟨a, ho, by rw [hr]; exact e1, hob a (List.mem_of_getElem? e1) _ e2, ?_⟩
  cases o with
  | dK kvs => obtain ⟨ks, e, r⟩ := r; exact ⟨ks, e, Paired.imp (fun a b z => ⟨z.1, s.rep x _ _ z.2⟩) r⟩
  | dT kvs => obtain ⟨ks, e, r⟩ := r; exact ⟨ks, e, Paired.imp (fun a b z => ⟨z.1, s.rdT x z.2.1, let ⟨v, r1, r2⟩ := z.2.2; ⟨v, r1, s.rep x _ _ r2⟩⟩) r⟩
  | ins c fs => obtain ⟨dx, fv, e, r⟩ := r; exact ⟨dx, fv, e, Paired.imp (fun a b z => ⟨z.1, s.rep x _ _ z.2⟩) r⟩
/-- a new object that the small heap does not know -/
def Wd.alc (w : Wd) (p : Addr) (o : HO) (b : Bool) : Wd := ⟨w.rho, fun a => w.S a ∨ (b = true ∧ a = p), upd w.H p o⟩
theorem Stp.alc {p : Addr} {o : HO} {b : Bool} (np : w.H p = none) : Stp O w (w.alc p o b) where
  own := fun q a _ => ⟨.inl a, fun u e => by
    show upd w.H p o q = _
    rw [upd_ne (ne_of_none e np)]; exact e⟩
  keep := fun q u e _ _ => by
    show upd w.H p o q = _
    rw [upd_ne (ne_of_none e np)]; exact e
  there := fun q e => by
    have e' : upd w.H p o q = none := e
    by_cases z : q = p
    · subst z; rw [upd_same] at e'; cases e'
    · rw [upd_ne z] at e'; exact e'
  pre := ⟨[], by simp [Wd.alc], fun _ z => nomatch z⟩
  fresh := fun a z => by
    rcases z with z | ⟨_, rfl⟩
    · exact .inl z
    · exact .inr np
theorem WdOk.alc (x : WdOk K M ca w h) {p : Addr} {o : HO} {b : Bool} (np : w.H p = none) (hb : b = true → ∃ vs, o = .lst vs) : WdOk K M ca (w.alc p o b) h := by
  have s : Stp (fun _ => False) w (w.alc p o b) := Stp.alc np
  refine ⟨fun a z => ?_, RH.on x s rfl fun a _ u e => ?_⟩
  · rcases z with z | ⟨z, rfl⟩
    · obtain ⟨vs, e⟩ := x.dom a z
      exact ⟨vs, ((s.own a z fun q => q).2 _ e)⟩
    · obtain ⟨vs, e⟩ := hb z
      exact ⟨vs, by show upd w.H a o a = _; rw [upd_same, e]⟩
  · show upd w.H p o a = _
    rw [upd_ne (ne_of_none e np)]; exact e
/-- a new tuple -/
theorem got_tup (x : SI K M ca env σ h w) {p : Addr} (np : w.H p = none) (r : Reps K w ds vs) :
    Stp (Own env σ) w (w.alc p (.tup vs) false) ∧ SI K M ca env σ h (w.alc p (.tup vs) false) ∧ Rep K (w.alc p (.tup vs) false) (.tup ds) (.ref p) := by
  have s : Stp (fun _ => False) w (w.alc p (.tup vs) false) := Stp.alc np
  refine ⟨Stp.alc np, x.on0 s (x.ok.alc np fun z => by cases z), ?_⟩
  unfold Rep
  exact ⟨p, vs, rfl, .inl (.inl upd_same), s.reps x.ok ds vs r⟩
/-- a new list -/
theorem got_lst (x : SI K M ca env σ h w) {p : Addr} (np : w.H p = none) (r : Reps K w ds vs) :
    Stp (Own env σ) w (w.alc p (.lst vs) true) ∧ SI K M ca env σ h (w.alc p (.lst vs) true) ∧ RV K w (w.alc p (.lst vs) true) true (.lst ds) (.ref p) := by
  have s : Stp (fun _ => False) w (w.alc p (.lst vs) true) := Stp.alc np
  exact ⟨Stp.alc np, x.on0 s (x.ok.alc np fun _ => ⟨vs, rfl⟩), p, vs, ds, rfl, rfl, .inr ⟨rfl, rfl⟩, upd_same, s.reps x.ok ds vs r, np⟩
/-! ### lists of values -/
theorem Reps.length : ∀ {ds : List D} {vs : List V}, Reps K w ds vs → vs.length = ds.length
  | [], _, r => by unfold Reps at r; subst r; rfl
  | d :: ds, _, r => by
    unfold Reps at r
    obtain ⟨v, q, rfl, _, t⟩ := r
    show q.length + 1 = ds.length + 1
    rw [Reps.length t]
theorem Reps.get : ∀ {ds : List D} {vs : List V} {i : Nat} {d : D}, Reps K w ds vs → ds[i]? = some d → ∃ v, vs[i]? = some v ∧ Rep K w d v
  | [], _, _, _, _, e => by simp at e
  | d :: ds, _, 0, _, r, e => by
    unfold Reps at r
    obtain ⟨v, q, rfl, r1, t⟩ := r
    have e' : d = _ := Option.some.inj e
    subst e'
    exact ⟨v, rfl, r1⟩
  | d :: ds, _, i + 1, _, r, e => by
    unfold Reps at r
    obtain ⟨v, q, rfl, r1, t⟩ := r
    obtain ⟨u, e2, r2⟩ := Reps.get (i := i) t (show ds[i]? = _ from e)
    exact ⟨u, e2, r2⟩
theorem Reps.append : ∀ {ds qs : List D} {vs us : List V}, Reps K w ds vs → Reps K w qs us → Reps K w (ds ++ qs) (vs ++ us)
  | [], _, _, _, r, s => by unfold Reps at r; subst r; exact s
  | d :: ds, qs, _, us, r, s => by
    unfold Reps at r
    obtain ⟨v, q, rfl, r1, t⟩ := r
    show Reps K w (d :: (ds ++ qs)) (v :: (q ++ us))
    unfold Reps
    exact ⟨v, _, rfl, r1, Reps.append t s⟩
theorem Reps.nil : Reps K w [] [] := by unfold Reps; rfl
theorem Reps.cons (a : Rep K w d v) (b : Reps K w ds vs) : Reps K w (d :: ds) (v :: vs) := by unfold Reps; exact ⟨v, vs, rfl, a, b⟩
theorem Reps.one (a : Rep K w d v) : Reps K w [d] [v] := Reps.cons a Reps.nil
theorem Reps.drop : ∀ {ds : List D} {vs : List V} (n : Nat), Reps K w ds vs → Reps K w (ds.drop n) (vs.drop n)
  | _, _, 0, r => r
  | [], _, n + 1, r => by unfold Reps at r; subst r; exact Reps.nil
  | d :: ds, _, n + 1, r => by
    unfold Reps at r
    obtain ⟨v, q, rfl, r1, t⟩ := r
    exact Reps.drop n t
theorem Reps.take : ∀ {ds : List D} {vs : List V} (n : Nat), Reps K w ds vs → Reps K w (ds.take n) (vs.take n)
  | _, _, 0, r => by simp only [List.take_zero]; exact Reps.nil
  | [], _, n + 1, r => by unfold Reps at r; subst r; exact Reps.nil
  | d :: ds, _, n + 1, r => by
    unfold Reps at r
    obtain ⟨v, q, rfl, r1, t⟩ := r
    exact Reps.cons r1 (Reps.take n t)
theorem Reps.set {e : D} {u : V} (a : Rep K w e u) : ∀ {ds : List D} {vs : List V} (n : Nat), Reps K w ds vs → Reps K w (ds.set n e) (vs.set n u)
  | [], _, n, r => by unfold Reps at r; subst r; exact Reps.nil
  | d :: ds, _, 0, r => by
    unfold Reps at r
    obtain ⟨v, q, rfl, r1, t⟩ := r
    exact Reps.cons a t
  | d :: ds, _, n + 1, r => by
    unfold Reps at r
    obtain ⟨v, q, rfl, r1, t⟩ := r
    exact Reps.cons r1 (Reps.set a n t)
theorem Reps.erase : ∀ {ds : List D} {vs : List V} (n : Nat), Reps K w ds vs → Reps K w (ds.eraseIdx n) (vs.eraseIdx n)
  | [], _, n, r => by unfold Reps at r; subst r; exact Reps.nil
  | d :: ds, _, 0, r => by
    unfold Reps at r
    obtain ⟨v, q, rfl, r1, t⟩ := r
    exact t
  | d :: ds, _, n + 1, r => by
    unfold Reps at r
    obtain ⟨v, q, rfl, r1, t⟩ := r
    exact Reps.cons r1 (Reps.erase n t)
end
/-! ### what is known of the text and of the context -/
structure TF (K : PySem.W.Frag) (mg : Str → Option Value) (M : Nm) (T : Tab) (fa ca : Nat → Addr) (fds : Nat → FuncData) (pss : Nat → List Str) : Prop where
  fn : ∀ f, T.kind f = .fn → mg (M.f f) = some (.ref (fa f)) ∧ PySem.W.keepIn K (.ref (fa f)) = true
  bd : ∀ f, T.kind f ≠ .no → Binds K (fds f) (pss f) []
  mt : ∀ f c, T.kind f = .mt c → Meth K (ca c) (M.f f) (fa f) ∧ Cls K (ca c) ∧ ∀ g, M.fl g ≠ M.f f
  cl : ∀ c f, T.ini c = some f → mg (M.c c) = some (.ref (ca c)) ∧ Mk K (ca c) (fa f) ∧ T.kind f ≠ .no
  at_ : ∀ c g, T.att c g = true → Cls K (ca c) ∧ NoAttr K (ca c) (M.fl g) ∧ ∀ g', M.fl g' = M.fl g → g' = g
  gl : ∀ g d, atC T.consts g = some d → ∃ u v, mg (M.g g) = some u ∧ RelV v u ∧ ∀ w, Rep K w d v
  bl : ∀ b, mg (bN b) = none
  tb : ∀ b, mg (tN b) = none
  na : ∀ f fn, T.kind f ≠ .no → T.fns.get f = some fn → fn.nargs = (pss f).length
/-- what is wanted behind a call that ends so -/
def spR (K : PySem.W.Frag) (M : Nm) (ca : Nat → Addr) (w : Wd) (Q : VK) (E : XK) : CR → Prop
  | .ok d fr h' => ∀ w' v, Stp (fun _ => False) w w' → WdOk K M ca w' h' → RV K w w' fr d v → Q v w'.H
  | .ex c d h' => ExW K M ca (fun _ => False) w E c d h'
  | .no => False
def spF (K : PySem.W.Frag) (M : Nm) (ca : Nat → Addr) (ps : List Str) (run : List D → Hs → CR) : Sp := fun vs H Q E => vs.length = ps.length ∧ ∃ w ds h, w.H = H ∧ WdOk K M ca w h ∧ Reps K w ds vs ∧ spR K M ca w Q E (run ds h)
structure XC (X : Cx) (M : Nm) (T : Tab) (fa ca : Nat → Addr) (fds : Nat → FuncData) (pss : Nat → List Str) (N : List Str) (sc : Scope) (k : Nat) (E : XK) : Prop where
  tf : TF X.K X.mg M T fa ca fds pss
  hN : X.N = N
  hp : X.prog = M.prog
  hw : X.w = M.wld
  nd : N.Nodup
  hs : X.env.scope = sc
  calm : X.calm = true
  grd : X.A.guards = some []
  room : Room (2 * k + 1) X.A
  pas : Passes (L2.CX X.prog X.w) X E
  fs : ∀ k' m f, k = k' + 1 → T.kind f ≠ .no → FnG X.prog X.w X.K X.mg X.base (2 * k' + 2) (fa f) (fds f) (pss f) (spF X.K M ca (pss f) fun ds h => (ev T m).run k' f ds h)
end Ev
/-! Soundness of the small interpreter, 5: names, constants, displays. -/
namespace Ev
open PySem PySem.Spec PyProof.Rows L2
/-! ### what a term's names must be -/
def isVisK : Option NameKind → Bool
  | some .local => true | some .cell => true | some .free => true | _ => false
def isGlK : Option NameKind → Bool
  | some .globalImplicit => true | _ => false
def isLocK : Option NameKind → Bool
  | some .local => true | some .cell => true | _ => false
def okName (x : Str) : Bool := !(x == ("__debug__" : Str)) && !(x == ("__classdict__" : Str))
theorem okName.d {x : Str} (h : okName x = true) : (x == ("__debug__" : Str)) = false ∧ (x == ("__classdict__" : Str)) = false := by
  unfold okName at h
  simp only [Bool.and_eq_true, Bool.not_eq_true'] at h
  exact h
theorem vis_of {sc : Scope} {x : Str} (h : isVisK (sc.names.lookup x) = true) : Vis sc x := by
  unfold isVisK at h
  unfold Vis
  split at h <;> first | exact .inl (by assumption) | exact .inr (.inl (by assumption)) | exact .inr (.inr (by assumption)) | cases h
theorem gl_of {sc : Scope} {x : Str} (h : isGlK (sc.names.lookup x) = true) : sc.names.lookup x = some .globalImplicit := by
  unfold isGlK at h
  split at h <;> first | assumption | cases h
theorem loc_of {sc : Scope} {x : Str} (h : isLocK (sc.names.lookup x) = true) : L2.Loc sc x := by
  unfold isLocK at h
  unfold L2.Loc
  split at h <;> first | exact .inl (by assumption) | exact .inr (by assumption) | cases h
/-- no call without arguments: an attribute's base -/
def wfA : Ex → Bool
  | .call _ [] _ _ => false
  | .calh _ [] _ _ => false
  | .new _ [] _ _ => false
  | .blt _ [] _ _ => false
  | _ => true
mutual
/-- the names of a target -/
def tv : Ex → List Nat
  | .var i _ => [i]
  | .tup ts _ _ => tvs ts
  | _ => []
def tvs : List Ex → List Nat
  | [] => []
  | t :: ts => tv t ++ tvs ts
end
/-- built-ins that stand as values -/
def bOk : Nat → Bool
  | 0 => true | 1 => true | 2 => true | 3 => true | 7 => true | 8 => true | 9 => true | 10 => true | 11 => true | 12 => true
  | _ => false
/-- .. and those of two values -/
def bK (b : Nat) : List Ex → Bool
  | [_, _] => bOk b || Nat.beq b 14 || Nat.beq b 15
  | _ => bOk b
/-- a display by texts, each once -/
def strK : Ex → Option (List Nat)
  | .str s _ _ => some s
  | _ => none
def ndS : List (List Nat) → Bool
  | [] => true
  | s :: r => (r.all fun q => !(decide (q = s))) && ndS r
def dicOk (xs ys : List Ex) : Bool := match xs, ys with
  | [], [] => true
  | [_], [_] => true
  | xs, ys => Nat.beq xs.length ys.length && Nat.ble xs.length 15 && xs.all (fun x => (strK x).isSome) && ndS (xs.map fun x => (strK x).getD [])
/-- enumerate gives pairs to a display of targets -/
def tgOk : Ex → Ex → Bool
  | .tup _ _ _, _ => true
  | _, .blt 4 _ _ _ => false
  | _, _ => true
def b12 (b : Nat) : List Ex → Bool
  | [_] => !(Nat.beq b 12)
  | _ => true
/-- a method's call of the plain form -/
def mOk (es : List Ex) (pa p : Pos) : Bool := decide (es.length < 25) && (pa.endLine == p.line)
def noStar : List Ex → Bool
  | [] => true
  | e :: r => (match e with | .star _ _ => false | _ => true) && noStar r
section
variable (M : Nm) (N : List Str)
/-- a target, its names local -/
def wfT (sc : Scope) (fn : Str → Bool) : Nat → Ex → Bool
  | 0, _ => false
  | n + 1, t => match t with
    | .var i _ => decide (i < N.length) && isLocK (sc.names.lookup (N.getD i "")) && (fn (N.getD i "") || decide (sc.names.lookup (N.getD i "") = some .local))
    | .tup ts _ _ => ts.all (wfT sc fn n)
    | _ => false
mutual
def wfE (sc : Scope) : Ex → Bool
  | .var i p => decide (i < N.length) && isVisK (sc.names.lookup (N.getD i "")) && okName (N.getD i "")
  | .num _ _ _ => true
  | .str _ _ _ => true
  | .cb _ _ _ => true
  | .cn _ _ => true
  | .glob g _ => isGlK (sc.names.lookup (M.g g)) && okName (M.g g)
  | .ty t _ => isGlK (sc.names.lookup (tN t))
  | .tup es _ _ => wfEs sc es
  | .lst es _ => wfEs sc es
  | .star e _ => wfE sc e
  | .bin _ a b _ => wfE sc a && wfE sc b
  | .neg a _ => wfE sc a
  | .cmp _ a b _ => wfE sc a && wfE sc b
  | .chn _ _ a b c _ => wfE sc a && wfE sc b && wfE sc c
  | .and es _ => wfEs sc es
  | .or es _ => wfEs sc es
  | .not a _ => wfE sc a
  | .ife t a b _ => wfE sc t && wfE sc a && wfE sc b
  | .idx a i _ => wfE sc a && wfE sc i
  | .slc a lo hi _ _ => wfE sc a && wfO sc lo && wfO sc hi
  | .att a _ _ => wfE sc a && wfA a
  | .call f es _ _ => isGlK (sc.names.lookup (M.f f)) && okName (M.f f) && noStar es && wfEs sc es
  | .calh f es _ _ => isGlK (sc.names.lookup (M.f f)) && okName (M.f f) && noStar es && wfEs sc es
  | .new c es _ _ => isGlK (sc.names.lookup (M.c c)) && okName (M.c c) && noStar es && wfEs sc es
  | .mth _ o es pa p => mOk es pa p && wfE sc o && wfA o && noStar es && wfEs sc es
  | .blt b es _ _ => bK b es && b12 b es && isGlK (sc.names.lookup (bN b)) && noStar es && wfEs sc es
  | .lm _ o es pa p => mOk es pa p && wfE sc o && wfA o && noStar es && wfEs sc es
  | .lc elt t it ifs sc2 own _ => blkC N sc sc2 own && wfW sc it && tgOk t it && decide (ifs.length < 2) && ((tv t).all fun i => decide (i ∈ own.map (·.2))) && wfT N (relS sc2 sc) (fun x => sc2.names.lookup x == some .cell) 4 t && wfEs (relS sc2 sc) ifs && wfE (relS sc2 sc) elt
  | .lc2 elt t it ifs t2 i2 ifs2 sc2 own vs1 _ => blkC N sc sc2 own && wfW sc it && tgOk t it && decide (ifs.length < 2) && ((tv t).all fun i => decide (i ∈ own.map (·.2))) && wfT N (relS sc2 sc) (fun x => sc2.names.lookup x == some .cell) 4 t && wfEs (relS sc2 sc) ifs &&
      (vs1.all fun i => decide (i ∈ own.map (·.2))) && wfW (relS sc2 sc) i2 && tgOk t2 i2 && decide (ifs2.length < 2) && ((tv t2).all fun i => decide (i ∈ vs1)) && wfT N (relS sc2 sc) (fun x => sc2.names.lookup x == some .cell) 4 t2 && wfEs (relS sc2 sc) ifs2 && wfE (relS sc2 sc) elt
  | .dic ks vs _ _ => dicOk ks vs && wfEs sc ks && wfEs sc vs
/-- what is walked -/
def wfW (sc : Scope) : Ex → Bool
  | .blt 4 [y] _ _ => isGlK (sc.names.lookup (bN 4)) && noStar [y] && wfE sc y
  | .blt 6 [y] _ _ => isGlK (sc.names.lookup (bN 6)) && noStar [y] && wfE sc y
  | .blt 6 [y, z] _ _ => isGlK (sc.names.lookup (bN 6)) && noStar [y, z] && wfE sc y && wfE sc z
  | x => wfE sc x
def wfEs (sc : Scope) : List Ex → Bool
  | [] => true
  | e :: r => wfE sc e && wfEs sc r
def wfO (sc : Scope) : Option Ex → Bool
  | none => true
  | some e => wfE sc e
end
end
theorem ba {a b : Bool} (h : (a && b) = true) : a = true ∧ b = true := Bool.and_eq_true_iff.mp h

/-! ### the step: the interpreter's next level -/
section
variable {X : Cx} {M : Nm} {T : Tab} {fa ca : Nat → Addr} {fds : Nat → FuncData} {pss : Nat → List Str} {N : List Str} {sc : Scope} {k n : Nat} {E : XK} {r : Self}
variable {w w' w1 w2 : Wd} {env env' env1 env2 : Env} {σ : L2.St} {h h' h1 h2 : Hs} {Q : VK} {d : D} {ds : List D} {v : V} {vs : List V} {O : Addr → Prop}
/-- the claim about an expression -/
abbrev Okx (X : Cx) (M : Nm) (ca : Nat → Addr) (N : List Str) (k : Nat) (E : XK) (r : Self) (x : Ex) : Prop := PE X (dec M N x) (tE X.K M ca E fun env h => r.e k env h x)
theorem n_num {i : Int} {q : Nat} {p : Pos} : Okx X M ca N k E (F T r) (.num i q p) := by
  refine PE.imp (t := tC (.int i)) pe_int fun σ H Q z => ?_
  obtain ⟨w, env, h, rfl, x, g⟩ := z
  exact g w (.int i) Stp.refl ELe.refl x (show Rep X.K w (.int i) (.int i) by unfold Rep; rfl)
theorem n_cb {i : Bool} {q : Nat} {p : Pos} : Okx X M ca N k E (F T r) (.cb i q p) := by
  refine PE.imp (t := tC (.bl i)) pe_bl fun σ H Q z => ?_
  obtain ⟨w, env, h, rfl, x, g⟩ := z
  exact g w (.bl i) Stp.refl ELe.refl x (show Rep X.K w (.bl i) (.bl i) by unfold Rep; rfl)
theorem n_cn {q : Nat} {p : Pos} : Okx X M ca N k E (F T r) (.cn q p) := by
  refine PE.imp (t := tC .non) pe_non fun σ H Q z => ?_
  obtain ⟨w, env, h, rfl, x, g⟩ := z
  exact g w .non Stp.refl ELe.refl x (show Rep X.K w .non .non by unfold Rep; rfl)
theorem n_str {s : List Nat} {q : Nat} {p : Pos} : Okx X M ca N k E (F T r) (.str s q p) := by
  refine PE.imp (t := tC (.str ⟨s.toArray⟩)) pe_str fun σ H Q z => ?_
  obtain ⟨w, env, h, rfl, x, g⟩ := z
  exact g w (.str ⟨s.toArray⟩) Stp.refl ELe.refl x (show Rep X.K w (.str s) (.str ⟨s.toArray⟩) by unfold Rep; rfl)
theorem n_glob (C : XC X M T fa ca fds pss N sc k E) {g : Nat} {p : Pos} (wf : wfE M N sc (.glob g p) = true) : Okx X M ca N k E (F T r) (.glob g p) := by
  have wf2 : (isGlK (sc.names.lookup (M.g g)) && okName (M.g g)) = true := by unfold wfE at wf; exact wf
  obtain ⟨wg, wo⟩ := ba wf2
  cases e : atC T.consts g with
  | none =>
    refine ⟨fun pins s σ H Q I z => ?_⟩
    obtain ⟨w, env, h, rfl, x, q⟩ := z
    have q' : pE X.K M ca E w env σ Q (match atC T.consts g with | some d => .ok d false env h | none => .no) := q
    rw [e] at q'
    exact q'.elim
  | some d =>
    obtain ⟨u, v, hu, ru, rp⟩ := C.tf.gl g d e
    refine PE.imp (t := tC v) (pe_glob (show X.env.kindOf (M.g g) = _ from by unfold PySem.Env.kindOf; rw [C.hs]; exact gl_of wg) hu ru (okName.d wo).1) fun σ H Q z => ?_
    obtain ⟨w, env, h, rfl, x, q⟩ := z
    have q' : pE X.K M ca E w env σ Q (match atC T.consts g with | some d => .ok d false env h | none => .no) := q
    rw [e] at q'
    exact q' w v Stp.refl ELe.refl x (rp w)
theorem pv_of (C : XC X M T fa ca fds pss N sc k E) {i : Nat} {p : Pos} (wf : wfE M N sc (.var i p) = true) : PE X (dec M N (.var i p)) (tVar i) := by
  have wf2 : (decide (i < N.length) && isVisK (sc.names.lookup (N.getD i "")) && okName (N.getD i "")) = true := by unfold wfE at wf; exact wf
  obtain ⟨wf3, wo⟩ := ba wf2
  obtain ⟨wl, wv⟩ := ba wf3
  have hl : i < N.length := of_decide_eq_true wl
  refine pe_var (x := N.getD i "") ?_ ?_ (okName.d wo).1 (okName.d wo).2
  · rw [C.hN, List.getD_eq_getElem?_getD, List.getElem?_eq_getElem hl]; rfl
  · rw [C.hs]; exact vis_of wv
theorem set_tag {env : Env} {i j : Nat} {s : Sl} (hi : i < env.length) : tag (getS (setS s env i) j) = if i = j then tag s else tag (getS env j) := by
  by_cases e : i = j
  · subst e; rw [getS_set_same hi, if_pos rfl]
  · rw [getS_set_ne e, if_neg e]
/-- an own list is handed on -/
theorem freeze {K : PySem.W.Frag} (x : SI K M ca env σ h w) {i : Nat} {ds : List D} (hs : getS env i = .l ds) :
    ∃ w2 v, w2.H = w.H ∧ w2.rho = w.rho ∧ σ[i]? = some (some v) ∧ Stp (Own env σ) w w2 ∧ ELe env (setS (.v (.lst ds)) env i) ∧ SI K M ca (setS (.v (.lst ds)) env i) σ h w2 ∧ Rep K w2 (.lst ds) v := by
  have q := x.re.sl i
  rw [hs] at q
  obtain ⟨a, vs, e1, sa, eh, rp⟩ := q
  have hi : i < env.length := getS_lt (by rw [hs]; exact fun z => by cases z)
  have hS : ∀ b, (fun b => w.S b ∧ b ≠ a) b → w.S b := fun b z => z.1
  have rep : Rep K (w.les fun b => w.S b ∧ b ≠ a) (.lst ds) (.ref a) := by
    unfold Rep
    exact ⟨a, vs, rfl, fun z => z.2 rfl, .inl eh, Reps.less hS ds vs rp⟩
  refine ⟨w.les fun b => w.S b ∧ b ≠ a, .ref a, rfl, rfl, e1, ⟨fun p sp np => ⟨⟨sp, fun z => np ⟨i, by rw [hs]; rfl, by rw [z]; exact e1⟩⟩, fun o e => e⟩, fun b o e _ _ => e, fun b e => e, ⟨[], by simp [Wd.les], fun _ z => nomatch z⟩, fun b z => .inl z.1⟩, ⟨setS_len _ _ _, fun j => ?_⟩, ?_, rep⟩
  · rw [set_tag hi]
    by_cases e : i = j
    · subst e
      rw [if_pos rfl, hs]
      exact .inr ⟨rfl, rfl⟩
    · rw [if_neg e]; exact .inl rfl
  · refine ⟨x.ok.less hS, by rw [setS_len]; exact x.re.len, fun j => ?_, fun j m b hj hm ej em => ?_⟩
    · by_cases e : i = j
      · subst e
        rw [getS_set_same hi]
        exact ⟨_, e1, rep⟩
      · rw [getS_set_ne e]
        have q := x.re.sl j
        have one := x.re.one i j
        cases hj : getS env j with
        | u => trivial
        | v d =>
          rw [hj] at q
          obtain ⟨v, e2, r2⟩ := q
          exact ⟨v, e2, r2.less hS⟩
        | l qs =>
          rw [hj] at q one
          obtain ⟨b, us, e2, sb, eb, r2⟩ := q
          exact ⟨b, us, e2, ⟨sb, fun z => e (one a (by rw [hs]; exact Nat.le_refl 2) (Nat.le_refl 2) e1 (z ▸ e2))⟩, eb, Reps.less hS qs us r2⟩
        | k qs =>
          rw [hj] at q one
          obtain ⟨b, us, e2, sb, eb, r2⟩ := q
          exact ⟨b, us, e2, ⟨sb, fun z => e (one a (by rw [hs]; exact Nat.le_refl 2) (show 2 ≤ 3 by decide) e1 (z ▸ e2))⟩, eb, Reps.less hS qs us r2⟩
    · rw [set_tag hi] at hj hm
      by_cases ej' : i = j
      · rw [if_pos ej'] at hj; exact absurd hj (show ¬ 2 ≤ 1 by decide)
      · by_cases em' : i = m
        · rw [if_pos em'] at hm; exact absurd hm (show ¬ 2 ≤ 1 by decide)
        · rw [if_neg ej'] at hj
          rw [if_neg em'] at hm
          exact x.re.one j m b hj hm ej em
theorem n_var (C : XC X M T fa ca fds pss N sc k E) {i : Nat} {p : Pos} (wf : wfE M N sc (.var i p) = true) : Okx X M ca N k E (F T r) (.var i p) := by
  refine PE.imp (pv_of C wf) fun σ H Q z => ?_
  obtain ⟨w, env, h, rfl, x, g⟩ := z
  have g : pE X.K M ca E w env σ Q (match getS env i with
      | .v d => .ok d false env h
      | .l ds => .ok (.lst ds) false (setS (.v (.lst ds)) env i) h
      | _ => .no) := g
  cases hs : getS env i with
  | u => rw [hs] at g; exact g.elim
  | k ds => rw [hs] at g; exact g.elim
  | v d =>
    rw [hs] at g
    have q := x.re.sl i
    rw [hs] at q
    obtain ⟨v, e1, rp⟩ := q
    exact ⟨v, e1, g w v Stp.refl ELe.refl x rp⟩
  | l ds =>
    rw [hs] at g
    obtain ⟨w2, v, eH, _, e1, s, l, y, rp⟩ := freeze x hs
    refine ⟨v, e1, ?_⟩
    rw [← eH]
    exact g w2 v s l y rp
end
end Ev
/-! Soundness of the small interpreter, 6: data: equality, texts, truth. -/
namespace Ev
open PySem PySem.Spec PyProof.Rows L2
theorem nbeq (a b : Nat) : Nat.beq a b = decide (a = b) := by
  cases e : Nat.beq a b with
  | true => exact (decide_eq_true (Nat.eq_of_beq_eq_true e)).symm
  | false => exact (decide_eq_false fun z => by subst z; rw [Nat.beq_refl] at e; cases e).symm
theorem iEq_eq (i j : Int) : iEq i j = decide (i = j) := by
  cases i with
  | ofNat a => cases j with
    | ofNat b => show Nat.beq a b = _; rw [nbeq]; congr 1; exact propext ⟨fun z => by rw [z], fun z => Int.ofNat.inj z⟩
    | negSucc b => exact (decide_eq_false fun z => by cases z).symm
  | negSucc a => cases j with
    | ofNat b => exact (decide_eq_false fun z => by cases z).symm
    | negSucc b => show Nat.beq a b = _; rw [nbeq]; congr 1; exact propext ⟨fun z => by rw [z], fun z => Int.negSucc.inj z⟩
theorem sEq_eq : ∀ x y : List Nat, sEq x y = decide (x = y)
  | [], [] => by simp [sEq]
  | [], b :: q => by simp [sEq]
  | a :: r, [] => by simp [sEq]
  | a :: r, b :: q => by
    unfold sEq
    by_cases h : a = b
    · subst h
      rw [show Nat.beq a a = true from Nat.beq_refl a]
      show sEq r q = _
      rw [sEq_eq r q]
      simp
    · rw [show Nat.beq a b = false from by cases e : Nat.beq a b with
        | true => exact absurd (Nat.eq_of_beq_eq_true e) h
        | false => rfl]
      show false = _
      symm
      apply decide_eq_false
      intro z
      cases z
      exact h rfl
theorem iLt_eq (i j : Int) : iLt i j = decide (i < j) := by
  have hb : ∀ a b : Nat, Nat.blt a b = decide (a < b) := fun a b => by
    cases e : Nat.blt a b with
    | true => exact (decide_eq_true (Nat.blt_eq.mp e)).symm
    | false => exact (decide_eq_false fun z => by rw [Nat.blt_eq.mpr z] at e; cases e).symm
  cases i with
  | ofNat a => cases j with
    | ofNat b => show Nat.blt a b = _; rw [hb]; congr 1; simp
    | negSucc b => show false = _; symm; apply decide_eq_false; simp only [Int.ofNat_eq_natCast, Int.negSucc_eq]; omega
  | negSucc a => cases j with
    | ofNat b => show true = _; symm; apply decide_eq_true; simp only [Int.ofNat_eq_natCast, Int.negSucc_eq]; omega
    | negSucc b => show Nat.blt b a = _; rw [hb]; congr 1; simp only [Int.negSucc_eq]; apply propext; omega
theorem iLe_eq (i j : Int) : iLe i j = decide (i ≤ j) := by
  unfold iLe
  rw [iLt_eq]
  by_cases h : j < i
  · rw [decide_eq_true h]; symm; apply decide_eq_false; omega
  · rw [decide_eq_false h]; symm; apply decide_eq_true; omega
/-! ### the same, sign by sign -/
mutual
theorem dSame_eq : ∀ (x y : D), dSame x y = true → x = y
  | .non, y, h => by cases y <;> first | rfl | (unfold dSame at h; cases h)
  | .bl b, y, h => by cases y with
    | bl c => cases b <;> cases c <;> first | rfl | (unfold dSame at h; cases h)
    | _ => cases b <;> (unfold dSame at h; cases h)
  | .int i, y, h => by cases y with
    | int j => unfold dSame at h; rw [iEq_eq] at h; rw [of_decide_eq_true h]
    | _ => unfold dSame at h; cases h
  | .str i, y, h => by cases y with
    | str j => unfold dSame at h; rw [sEq_eq] at h; rw [of_decide_eq_true h]
    | _ => unfold dSame at h; cases h
  | .rep i, y, h => by cases y with
    | rep j => unfold dSame at h; rw [dSame_eq i j h]
    | _ => unfold dSame at h; cases h
  | .tup i, y, h => by cases y with
    | tup j => unfold dSame at h; rw [dSames_eq i j h]
    | _ => unfold dSame at h; cases h
  | .lst i, y, h => by cases y with
    | lst j => unfold dSame at h; rw [dSames_eq i j h]
    | _ => unfold dSame at h; cases h
  | .ref i, y, h => by cases y with
    | ref j => unfold dSame at h; rw [Nat.eq_of_beq_eq_true h]
    | _ => unfold dSame at h; cases h
theorem dSames_eq : ∀ (x y : List D), dSames x y = true → x = y
  | [], y, h => by cases y <;> first | rfl | (unfold dSames at h; cases h)
  | x :: xs, y, h => by cases y with
    | nil => unfold dSames at h; cases h
    | cons y ys =>
      unfold dSames at h
      cases e : dSame x y with
      | true => rw [e] at h; rw [dSame_eq x y e, dSames_eq xs ys h]
      | false => rw [e] at h; cases h
end
/-! ### texts of reprs -/
abbrev Tx (s : Str) : List Nat := s.cps.toList
theorem tx_app (a b : Str) : Tx (a ++ b) = Tx a ++ Tx b := by
  show (a.cps ++ b.cps).toList = _
  rw [Array.toList_append]
theorem sApp_eq : ∀ (s r : List Nat), sApp s r = s ++ r
  | [], _ => rfl
  | c :: s, r => by show c :: sApp s r = _; rw [sApp_eq s r]; rfl
theorem dchar : ∀ m : Fin 10, (Nat.digitChar m.val).toNat = 48 + m.val := by decide
theorem digs_eq : ∀ (f n : Nat) (acc : List Char) (r : List Nat), (Nat.toDigitsCore 10 f n acc).map Char.toNat ++ r = digs f n (acc.map Char.toNat ++ r)
  | 0, n, acc, r => rfl
  | f + 1, n, acc, r => by
    have hd : (Nat.digitChar (n % 10)).toNat = Nat.add 48 (Nat.mod n 10) := dchar ⟨n % 10, Nat.mod_lt _ (by decide)⟩
    unfold Nat.toDigitsCore digs
    by_cases h : n / 10 = 0
    · rw [show Nat.beq (Nat.div n 10) 0 = true from by rw [show Nat.div n 10 = n / 10 from rfl, h]; rfl]
      simp only [h, if_true, List.map_cons, List.cons_append, hd]
      try rfl
    · rw [show Nat.beq (Nat.div n 10) 0 = false from by cases e : Nat.beq (Nat.div n 10) 0 with
        | true => exact absurd (Nat.eq_of_beq_eq_true e) h
        | false => rfl]
      simp only [h, if_false]
      rw [digs_eq f (n / 10)]
      simp only [List.map_cons, List.cons_append, hd]
      rfl
/-- the text of an int -/
theorem tx_nat (n : Nat) (r : List Nat) : (Nat.repr n).toList.map Char.toNat ++ r = digs (n + 1) n r := by
  have e : (Nat.repr n).toList = Nat.toDigitsCore 10 (n + 1) n [] := by
    unfold Nat.repr
    rw [String.toList_ofList]
    rfl
  rw [e, digs_eq]
  rfl
theorem tx_of (s : String) : Tx (Str.ofString s) = s.toList.map Char.toNat := by
  rw [Str.ofString_eq_toList]
theorem tx_int (i : Int) (r : List Nat) : Tx (Str.ofString (toString i)) ++ r = txt (.int i) r := by
  rw [tx_of]
  cases i with
  | ofNat n =>
    show (Nat.repr n).toList.map Char.toNat ++ r = digs (n + 1) n r
    exact tx_nat n r
  | negSucc n =>
    show ("-" ++ Nat.repr (n + 1) : String).toList.map Char.toNat ++ r = 45 :: digs (n + 2) (n + 1) r
    rw [String.toList_append, List.map_append, List.append_assoc, tx_nat]
    rfl
theorem low_simple : ∀ (s : List Nat), simple s = true → ∀ c ∈ s, 97 ≤ c ∧ c ≤ 122
  | [], _, c, hc => nomatch hc
  | a :: r, h, c, hc => by
    unfold simple at h
    cases e1 : Nat.ble 97 a with
    | false => rw [e1] at h; cases e2 : Nat.ble a 122 <;> (rw [e2] at h; cases h)
    | true => cases e2 : Nat.ble a 122 with
      | false => rw [e1, e2] at h; cases h
      | true =>
        rw [e1, e2] at h
        rcases List.mem_cons.mp hc with rfl | hc
        · exact ⟨Nat.le_of_ble_eq_true e1, Nat.le_of_ble_eq_true e2⟩
        · exact low_simple r h c hc
theorem rchar : ∀ c : Fin 26, Builtin.Str.reprChar 39 (97 + c.val) = [97 + c.val] := by decide +kernel
theorem rchar' {c : Nat} (h : 97 ≤ c ∧ c ≤ 122) : Builtin.Str.reprChar 39 c = [c] := by
  have := rchar ⟨c - 97, by omega⟩
  rw [show 97 + (c - 97) = c by omega] at this
  exact this
theorem fold_simple : ∀ (s : List Nat) (acc : Array Nat), (∀ c ∈ s, 97 ≤ c ∧ c ≤ 122) → (s.foldl (fun out c => out ++ (Builtin.Str.reprChar 39 c).toArray) acc).toList = acc.toList ++ s
  | [], acc, _ => by simp
  | c :: r, acc, h => by
    rw [List.foldl_cons, fold_simple r _ fun d hd => h d (List.mem_cons_of_mem _ hd), rchar' (h c (List.mem_cons_self ..))]
    simp
theorem tx_str (s : List Nat) (r : List Nat) (h : simple s = true) : Tx (PySem.reprText ⟨s.toArray⟩) ++ r = txt (.str s) r := by
  have hl := low_simple s h
  have hq : PySem.reprQuote ⟨s.toArray⟩ = 39 := by
    unfold PySem.reprQuote
    rw [show (s.toArray.contains 39) = false from by
      cases e : s.toArray.contains 39 with
      | false => rfl
      | true =>
        have z : 39 ∈ s := by simpa using e
        have := hl 39 z
        omega]
    rfl
  unfold PySem.reprText
  show (Array.push (Array.foldl _ _ s.toArray) _).toList ++ r = 39 :: sApp s (39 :: r)
  rw [hq, ← Array.foldl_toList, Array.toList_push, fold_simple s _ hl, sApp_eq]
  simp
/-- items of a text, commas between -/
def coms : List (List Nat) → List Nat
  | [] => []
  | [x] => x
  | x :: y :: r => x ++ [44, 32] ++ coms (y :: r)
theorem tx_join : ∀ ts : List Str, Tx (Str.join (", " : String) ts) = coms (ts.map Tx)
  | [] => rfl
  | [x] => rfl
  | x :: y :: r => by
    show Tx (x ++ Str.ofString ", " ++ Str.join _ (y :: r)) = _
    rw [tx_app, tx_app, tx_join (y :: r)]
    rfl
theorem tx_from : ∀ (ts : List Str) (k : Nat) (acc : Str), Tx (textFrom k acc ts) = Tx acc ++ (match ts with | [] => [] | _ => (if k > 0 then [44, 32] else [])) ++ coms (ts.map Tx)
  | [], k, acc => by simp [textFrom, coms]
  | [t], k, acc => by
    show Tx (acc ++ _ ++ t) = _
    rw [tx_app, tx_app]
    by_cases h : k > 0
    · rw [if_pos h]; simp only [List.map, coms, if_pos h]; rfl
    · rw [if_neg h]; simp only [List.map, coms, if_neg h]; rfl
  | t :: u :: r, k, acc => by
    show Tx (textFrom (k + 1) (acc ++ _ ++ t) (u :: r)) = _
    rw [tx_from (u :: r) (k + 1), tx_app, tx_app]
    by_cases h : k > 0
    · rw [if_pos h, if_pos (Nat.succ_pos k)]; simp only [List.map, coms, if_pos h, List.append_assoc]; rfl
    · rw [if_neg h, if_pos (Nat.succ_pos k)]; simp only [List.map, coms, if_neg h, List.append_assoc]; rfl
theorem tx_list (ts : List Str) : Tx (listText ts) = 91 :: coms (ts.map Tx) ++ [93] := by
  show Tx (textFrom 0 "[" ts ++ Str.ofString "]") = _
  rw [tx_app, tx_from]
  have e : (match ts with | [] => ([] : List Nat) | _ => (if (0 : Nat) > 0 then [44, 32] else [])) = [] := by cases ts <;> rfl
  rw [e]
  rfl
theorem tx_tuple (ts : List Str) : Tx (tupleText ts) = 40 :: coms (ts.map Tx) ++ (if ts.length = 1 then [44, 41] else [41]) := by
  show Tx (Str.ofString "(" ++ Str.join _ ts ++ _) = _
  rw [tx_app, tx_app, tx_join]
  by_cases h : ts.length = 1
  · rw [if_pos h]; simp only [h]; rfl
  · rw [if_neg h, if_neg (by simpa using h)]; rfl
theorem allF_all {f : D → Bool} : ∀ {ds : List D}, allF f ds = true → ∀ d ∈ ds, f d = true
  | [], _, d, h => nomatch h
  | a :: r, e, d, h => by
    unfold allF at e
    cases e1 : f a with
    | false => rw [e1] at e; cases e
    | true =>
      rw [e1] at e
      rcases List.mem_cons.mp h with rfl | h
      · exact e1
      · exact allF_all e d h
theorem toPs_len : ∀ (ds : List D) (ps : List PyData), toPs ds = some ps → ps.length = ds.length
  | [], ps, e => by unfold toPs at e; cases e; rfl
  | d :: ds, ps, e => by
    unfold toPs at e
    cases ed : toP d with
    | none => rw [ed] at e; cases e
    | some q => cases es : toPs ds with
      | none => rw [ed, es] at e; cases e
      | some qs =>
        rw [ed, es] at e; cases e
        show qs.length + 1 = ds.length + 1
        rw [toPs_len ds qs es]
theorem shownAll_len : ∀ ps : List PyData, (PyData.shownAll ps).length = ps.length
  | [] => rfl
  | p :: ps => by show (PyData.shownAll ps).length + 1 = _; rw [shownAll_len ps]; rfl
mutual
theorem tx_shown : ∀ (d : D) (n : Nat) (p : PyData) (r : List Nat), shR n d = true → toP d = some p → Tx (PyData.shown p) ++ r = txt d r
  | _, 0, _, _, h, _ => by unfold shR at h; cases h
  | .non, n + 1, p, r, h, e => by unfold toP at e; cases e; rfl
  | .bl b, n + 1, p, r, h, e => by unfold toP at e; cases e; cases b <;> rfl
  | .int i, n + 1, p, r, h, e => by
    unfold toP at e; cases e
    unfold PyData.shown
    exact tx_int i r
  | .str s, n + 1, p, r, h, e => by
    unfold toP at e; cases e
    unfold PyData.shown
    exact tx_str s r (by unfold shR at h; exact h)
  | .rep d, n + 1, p, r, h, e => by unfold shR at h; cases h
  | .ref d, n + 1, p, r, h, e => by unfold shR at h; cases h
  | .tup ds, n + 1, p, r, h, e => by
    have h' : allF (shR n) ds = true := by unfold shR at h; exact h
    unfold toP at e
    cases e2 : toPs ds with
    | none => rw [e2] at e; cases e
    | some ps =>
      rw [e2] at e; cases e
      unfold PyData.shown
      rw [tx_tuple]
      match ds, ps, e2, h' with
      | [], _, e2, _ => unfold toPs at e2; cases e2; rfl
      | [d], ps, e2, h' =>
        unfold toPs at e2
        cases ed : toP d with
        | none => rw [ed] at e2; cases e2
        | some q =>
          rw [ed] at e2
          have e3 : some [q] = some ps := by unfold toPs at e2; exact e2
          cases e3
          have := tx_shown d n q (44 :: 41 :: r) (allF_all h' d (List.mem_cons_self ..)) ed
          unfold txt
          simp only [PyData.shownAll, List.map, coms, List.length_singleton, if_true, List.cons_append, List.append_assoc]
          rw [← this]; rfl
      | d :: d2 :: ds, ps, e2, h' =>
        have l : ps.length = (d :: d2 :: ds).length := toPs_len _ _ e2
        have := tx_shownAll (d :: d2 :: ds) n ps (41 :: r) h' e2
        unfold txt
        rw [if_neg (by rw [show (PyData.shownAll ps).length = ps.length from shownAll_len ps, l]; simp)]
        simp only [List.cons_append, List.append_assoc]
        rw [← this]; rfl
  | .lst ds, n + 1, p, r, h, e => by
    have h' : allF (shR n) ds = true := by unfold shR at h; exact h
    unfold toP at e
    cases e2 : toPs ds with
    | none => rw [e2] at e; cases e
    | some ps =>
      rw [e2] at e; cases e
      unfold PyData.shown txt
      rw [tx_list]
      have := tx_shownAll ds n ps (93 :: r) h' e2
      simp only [List.cons_append, List.append_assoc]
      rw [← this]; rfl
theorem tx_shownAll : ∀ (ds : List D) (n : Nat) (ps : List PyData) (r : List Nat), allF (shR n) ds = true → toPs ds = some ps → coms ((PyData.shownAll ps).map Tx) ++ r = txts ds r
  | [], n, ps, r, h, e => by unfold toPs at e; cases e; rfl
  | d :: ds, n, ps, r, h, e => by
    unfold toPs at e
    cases ed : toP d with
    | none => rw [ed] at e; cases e
    | some q => cases es : toPs ds with
      | none => rw [ed, es] at e; cases e
      | some qs =>
        rw [ed, es] at e; cases e
        have hd := allF_all h d (List.mem_cons_self ..)
        have hs : allF (shR n) ds = true := by unfold allF at h; rw [hd] at h; exact h
        match ds, qs, es, hs with
        | [], _, es, _ =>
          unfold toPs at es; cases es
          have := tx_shown d n q r hd ed
          unfold txts
          exact this
        | d2 :: ds, [], es, _ => have := toPs_len _ _ es; cases this
        | d2 :: ds, q2 :: qs, es, hs =>
          have t1 := tx_shownAll (d2 :: ds) n (q2 :: qs) r hs es
          have t2 := tx_shown d n q (44 :: 32 :: txts (d2 :: ds) r) hd ed
          unfold txts
          rw [← t2, ← t1]
          simp only [PyData.shownAll, List.map, coms, List.append_assoc]
          rfl
end
end Ev
/-! Soundness of the small interpreter, 7: equality and truth of data. -/
namespace Ev
open PySem PySem.Spec PyProof.Rows L2
mutual
/-- texts of reprs are told -/
def RO : D → Prop
  | .rep d => repOk d = true
  | .tup ds => ROs ds
  | .lst ds => ROs ds
  | _ => True
def ROs : List D → Prop
  | [] => True
  | d :: r => RO d ∧ ROs r
end
section
variable {K : PySem.W.Frag} {w : Wd}
mutual
theorem Rep.ro : ∀ (d : D) (v : V), Rep K w d v → RO d
  | .non, _, _ => trivial
  | .bl _, _, _ => trivial
  | .int _, _, _ => trivial
  | .str _, _, _ => trivial
  | .rep _, _, r => by unfold Rep at r; unfold RO; exact r.1
  | .tup ds, v, r => by
    unfold Rep at r; unfold RO
    obtain ⟨a, vs, _, _, t⟩ := r
    exact Reps.ro ds vs t
  | .lst ds, v, r => by
    unfold Rep at r; unfold RO
    obtain ⟨a, vs, _, _, _, t⟩ := r
    exact Reps.ro ds vs t
  | .ref _, _, _ => trivial
theorem Reps.ro : ∀ (ds : List D) (vs : List V), Reps K w ds vs → ROs ds
  | [], _, _ => trivial
  | d :: ds, vs, r => by
    unfold Reps at r
    obtain ⟨v, q, e, r1, r2⟩ := r
    exact ⟨Rep.ro d v r1, Reps.ro ds q r2⟩
end
theorem Vw.ro {d : D} {v : V} (r : Vw K w d v) : RO d := by
  cases d with
  | lst ds => obtain ⟨a, vs, _, _, t⟩ := r; exact Reps.ro ds vs t
  | _ => exact Rep.ro (K := K) (w := w) _ v r
mutual
theorem Rep.dp : ∀ (d : D) (v : V) (p : PyData), Rep K w d v → toP d = some p → Dp K w.H v p
  | .non, _, _, r, e => by unfold Rep at r; unfold toP at e; cases e; subst r; exact .non
  | .bl b, _, _, r, e => by unfold Rep at r; unfold toP at e; cases e; subst r; exact .bl b
  | .int b, _, _, r, e => by unfold Rep at r; unfold toP at e; cases e; subst r; exact .int b
  | .str b, _, _, r, e => by unfold Rep at r; unfold toP at e; cases e; subst r; exact .str _
  | .rep d, _, _, r, e => by
    unfold Rep at r; unfold toP at e
    obtain ⟨_, p, ep, rfl⟩ := r
    rw [ep] at e; cases e
    exact .str _
  | .tup ds, v, p, r, e => by
    unfold Rep at r; unfold toP at e
    obtain ⟨a, vs, rfl, q, t⟩ := r
    cases es : toPs ds with
    | none => rw [es] at e; cases e
    | some ps => rw [es] at e; cases e; exact .tup q (Reps.dp ds vs ps t es)
  | .lst ds, v, p, r, e => by
    unfold Rep at r; unfold toP at e
    obtain ⟨a, vs, rfl, _, q, t⟩ := r
    cases es : toPs ds with
    | none => rw [es] at e; cases e
    | some ps => rw [es] at e; cases e; exact .lst (.inl q) (Reps.dp ds vs ps t es)
  | .ref _, _, _, _, e => by unfold toP at e; cases e
theorem Reps.dp : ∀ (ds : List D) (vs : List V) (ps : List PyData), Reps K w ds vs → toPs ds = some ps → DpAll K w.H vs ps
  | [], _, _, r, e => by unfold Reps at r; unfold toPs at e; cases e; subst r; exact .nil
  | d :: ds, vs, ps, r, e => by
    unfold Reps at r; unfold toPs at e
    obtain ⟨v, q, rfl, r1, r2⟩ := r
    cases ed : toP d with
    | none => rw [ed] at e; cases e
    | some p => cases es : toPs ds with
      | none => rw [ed, es] at e; cases e
      | some ps => rw [ed, es] at e; cases e; exact .cons (Rep.dp d v p r1 ed) (Reps.dp ds q ps r2 es)
end
theorem Vw.dp {d : D} {v : V} {p : PyData} (r : Vw K w d v) (e : toP d = some p) : Dp K w.H v p := by
  cases d with
  | lst ds =>
    obtain ⟨a, vs, rfl, q, t⟩ := r
    unfold toP at e
    cases es : toPs ds with
    | none => rw [es] at e; cases e
    | some ps => rw [es] at e; cases e; exact .lst (.inl q) (Reps.dp ds vs ps t es)
  | _ => exact Rep.dp _ v p r e
end
/-! ### shapes -/
theorem low_lt : ∀ {s : List Nat}, low s = true → ∀ c ∈ s, c < 128
  | [], _, c, h => nomatch h
  | a :: r, h, c, hc => by
    unfold low at h
    cases e : Nat.blt a 128 with
    | false => rw [e] at h; cases h
    | true =>
      rw [e] at h
      rcases List.mem_cons.mp hc with rfl | hc
      · exact Nat.blt_eq.mp e
      · exact low_lt h c hc
theorem digs_low : ∀ (f n : Nat) (acc : List Nat), (∀ c ∈ acc, c < 128) → ∀ c ∈ digs f n acc, c < 128
  | 0, _, acc, h => h
  | f + 1, n, acc, h => by
    have h2 : ∀ c ∈ Nat.add 48 (Nat.mod n 10) :: acc, c < 128 := fun c hc => by
      rcases List.mem_cons.mp hc with rfl | hc
      · have : n % 10 < 10 := Nat.mod_lt _ (by decide)
        show 48 + n % 10 < 128
        omega
      · exact h c hc
    unfold digs
    split
    · exact h2
    · exact digs_low f _ _ h2
theorem cons_low {c : Nat} {r : List Nat} (h : c < 128) (h2 : ∀ c ∈ r, c < 128) : ∀ d ∈ c :: r, d < 128 := fun d hd => by
  rcases List.mem_cons.mp hd with rfl | hd
  · exact h
  · exact h2 d hd
mutual
theorem txt_low : ∀ (d : D) (n : Nat) (r : List Nat), shR n d = true → (∀ c ∈ r, c < 128) → ∀ c ∈ txt d r, c < 128
  | _, 0, _, h, _ => by unfold shR at h; cases h
  | .non, n + 1, r, _, h => by unfold txt; exact cons_low (by decide) (cons_low (by decide) (cons_low (by decide) (cons_low (by decide) h)))
  | .bl true, n + 1, r, _, h => by unfold txt; exact cons_low (by decide) (cons_low (by decide) (cons_low (by decide) (cons_low (by decide) h)))
  | .bl false, n + 1, r, _, h => by unfold txt; exact cons_low (by decide) (cons_low (by decide) (cons_low (by decide) (cons_low (by decide) (cons_low (by decide) h))))
  | .int (.ofNat i), n + 1, r, _, h => by unfold txt; exact digs_low _ _ _ h
  | .int (.negSucc i), n + 1, r, _, h => by unfold txt; exact cons_low (by decide) (digs_low _ _ _ h)
  | .str s, n + 1, r, hs, h => by
    unfold txt
    have hl := low_simple s (by unfold shR at hs; exact hs)
    rw [sApp_eq]
    refine cons_low (by decide) fun c hc => ?_
    rcases List.mem_append.mp hc with hc | hc
    · have := hl c hc; omega
    · exact cons_low (by decide) h c hc
  | .rep d, n + 1, r, hs, h => by unfold shR at hs; cases hs
  | .ref d, n + 1, r, hs, h => by unfold shR at hs; cases hs
  | .tup ds, n + 1, r, hs, h => by
    have h' : allF (shR n) ds = true := by unfold shR at hs; exact hs
    match ds, h' with
    | [], _ => unfold txt; exact cons_low (by decide) (by unfold txts; exact cons_low (by decide) h)
    | [d], h' => unfold txt; exact cons_low (by decide) (txt_low d n _ (allF_all h' d (List.mem_cons_self ..)) (cons_low (by decide) (cons_low (by decide) h)))
    | d :: d2 :: ds, h' => unfold txt; exact cons_low (by decide) (txts_low (d :: d2 :: ds) n _ h' (cons_low (by decide) h))
  | .lst ds, n + 1, r, hs, h => by
    have h' : allF (shR n) ds = true := by unfold shR at hs; exact hs
    unfold txt; exact cons_low (by decide) (txts_low ds n _ h' (cons_low (by decide) h))
theorem txts_low : ∀ (ds : List D) (n : Nat) (r : List Nat), allF (shR n) ds = true → (∀ c ∈ r, c < 128) → ∀ c ∈ txts ds r, c < 128
  | [], n, r, _, h => by unfold txts; exact h
  | d :: ds, n, r, hs, h => by
    have hd := allF_all hs d (List.mem_cons_self ..)
    have hss : allF (shR n) ds = true := by unfold allF at hs; rw [hd] at hs; exact hs
    match ds, hss with
    | [], _ => unfold txts; exact txt_low d n r hd h
    | d2 :: ds, hss => unfold txts; exact txt_low d n _ hd (cons_low (by decide) (cons_low (by decide) (txts_low (d2 :: ds) n r hss h)))
end
mutual
theorem shR_toP : ∀ (d : D) (n : Nat), shR n d = true → ∃ p, toP d = some p ∧ p.showable = true ∧ p.depth ≤ n ∧ p.hasDict = false
  | _, 0, h => by unfold shR at h; cases h
  | .non, n + 1, _ => ⟨_, rfl, rfl, Nat.zero_le _, rfl⟩
  | .bl _, n + 1, _ => ⟨_, rfl, rfl, Nat.zero_le _, rfl⟩
  | .int i, n + 1, h => ⟨_, rfl, by
      unfold shR at h
      unfold PyData.showable
      have h1 : i.natAbs < 2 ^ 512 := Nat.blt_eq.mp h
      exact decide_eq_true (Nat.lt_of_lt_of_le (PySem.Flt.log2_lt_of (by decide) h1) (by decide)), Nat.zero_le _, rfl⟩
  | .str _, n + 1, _ => ⟨_, rfl, rfl, Nat.zero_le _, rfl⟩
  | .rep d, n + 1, hs => by unfold shR at hs; cases hs
  | .ref d, n + 1, hs => by unfold shR at hs; cases hs
  | .tup ds, n + 1, hs => by
    have h' : allF (shR n) ds = true := by unfold shR at hs; exact hs
    obtain ⟨ps, e, h1, h2, h3⟩ := shR_toPs ds n h'
    refine ⟨.tuple ps, by unfold toP; rw [e], by unfold PyData.showable; exact h1, ?_, by unfold PyData.hasDict; exact h3⟩
    unfold PyData.depth
    omega
  | .lst ds, n + 1, hs => by
    have h' : allF (shR n) ds = true := by unfold shR at hs; exact hs
    obtain ⟨ps, e, h1, h2, h3⟩ := shR_toPs ds n h'
    refine ⟨.list ps, by unfold toP; rw [e], by unfold PyData.showable; exact h1, ?_, by unfold PyData.hasDict; exact h3⟩
    unfold PyData.depth
    omega
theorem shR_toPs : ∀ (ds : List D) (n : Nat), allF (shR n) ds = true → ∃ ps, toPs ds = some ps ∧ PyData.showableAll ps = true ∧ PyData.depthAll ps ≤ n ∧ PyData.hasDictAll ps = false
  | [], n, _ => ⟨[], rfl, rfl, Nat.zero_le _, rfl⟩
  | d :: ds, n, hs => by
    have hd := allF_all hs d (List.mem_cons_self ..)
    have hss : allF (shR n) ds = true := by unfold allF at hs; rw [hd] at hs; exact hs
    obtain ⟨p, e, h1, h2, h3⟩ := shR_toP d n hd
    obtain ⟨ps, es, g1, g2, g3⟩ := shR_toPs ds n hss
    refine ⟨p :: ps, by unfold toPs; rw [e, es], by unfold PyData.showableAll; rw [h1, g1]; rfl, ?_, by unfold PyData.hasDictAll; rw [h3, g3]; rfl⟩
    unfold PyData.depthAll
    omega
end
theorem repOk_R {d : D} (h : repOk d = true) : shR 60 d = true ∧ (txt d []).length ≤ 1000000 := by
  unfold repOk at h
  cases e : shR 60 d with
  | false => rw [e] at h; cases h
  | true => rw [e] at h; exact ⟨rfl, Nat.le_of_ble_eq_true h⟩
/-- a repr's text -/
theorem rep_tx {d : D} {p : PyData} (h : repOk d = true) (e : toP d = some p) : Tx (PyData.shown p) = txt d [] := by
  have := tx_shown d 60 p [] (repOk_R h).1 e
  rw [List.append_nil] at this
  exact this
theorem strOk_of {s : Str} (h : ∀ c ∈ Tx s, c < 128) : PyData.strOk s = true := by
  unfold PyData.strOk
  rw [Array.all_eq_true']
  intro c hc
  have := h c (by simpa using hc)
  exact decide_eq_true (by omega)
mutual
theorem shp_toP : ∀ (d : D) (n : Nat), shp n d = true → RO d → ∃ p, toP d = some p ∧ p.canLay0 = true ∧ p.depth ≤ n
  | _, 0, h, _ => by unfold shp at h; cases h
  | .non, n + 1, _, _ => ⟨_, rfl, rfl, Nat.zero_le _⟩
  | .bl _, n + 1, _, _ => ⟨_, rfl, rfl, Nat.zero_le _⟩
  | .int i, n + 1, h, _ => ⟨_, rfl, rfl, Nat.zero_le _⟩
  | .str s, n + 1, h, _ => ⟨_, rfl, by
      unfold shp at h
      unfold PyData.canLay0
      exact strOk_of (s := ⟨s.toArray⟩) fun c hc => low_lt h c (by simpa [Tx] using hc), Nat.zero_le _⟩
  | .rep d, n + 1, hs, ro => by
    unfold RO at ro
    obtain ⟨p, e, _⟩ := shR_toP d 60 (repOk_R ro).1
    refine ⟨.str (PyData.shown p), by unfold toP; rw [e], ?_, Nat.zero_le _⟩
    unfold PyData.canLay0
    refine strOk_of fun c hc => ?_
    rw [rep_tx ro e] at hc
    exact txt_low d 60 [] (repOk_R ro).1 (fun _ z => nomatch z) c hc
  | .ref d, n + 1, hs, _ => by unfold shp at hs; cases hs
  | .tup ds, n + 1, hs, ro => by
    have h' : allF (shp n) ds = true := by unfold shp at hs; exact hs
    obtain ⟨ps, e, h1, h2⟩ := shp_toPs ds n h' (by unfold RO at ro; exact ro)
    refine ⟨.tuple ps, by unfold toP; rw [e], by unfold PyData.canLay0; exact h1, ?_⟩
    unfold PyData.depth
    omega
  | .lst ds, n + 1, hs, ro => by
    have h' : allF (shp n) ds = true := by unfold shp at hs; exact hs
    obtain ⟨ps, e, h1, h2⟩ := shp_toPs ds n h' (by unfold RO at ro; exact ro)
    refine ⟨.list ps, by unfold toP; rw [e], by unfold PyData.canLay0; exact h1, ?_⟩
    unfold PyData.depth
    omega
theorem shp_toPs : ∀ (ds : List D) (n : Nat), allF (shp n) ds = true → ROs ds → ∃ ps, toPs ds = some ps ∧ PyData.canLayAll0 ps = true ∧ PyData.depthAll ps ≤ n
  | [], n, _, _ => ⟨[], rfl, rfl, Nat.zero_le _⟩
  | d :: ds, n, hs, ro => by
    have hd := allF_all hs d (List.mem_cons_self ..)
    have hss : allF (shp n) ds = true := by unfold allF at hs; rw [hd] at hs; exact hs
    unfold ROs at ro
    obtain ⟨p, e, h1, h2⟩ := shp_toP d n hd ro.1
    obtain ⟨ps, es, g1, g2⟩ := shp_toPs ds n hss ro.2
    refine ⟨p :: ps, by unfold toPs; rw [e, es], by unfold PyData.canLayAll0; rw [h1, g1]; rfl, ?_⟩
    unfold PyData.depthAll
    omega
end
end Ev
/-! Soundness of the small interpreter, 8: ==, in, truth. -/
namespace Ev
open PySem PySem.Spec PyProof.Rows L2
theorem str_eq (x y : Str) : (x == y) = decide (Tx x = Tx y) := by
  by_cases h : x = y
  · subst h; simp
  · rw [beq_false_of_ne h]
    symm
    apply decide_eq_false
    intro z
    apply h
    cases x; cases y
    congr 1
    exact Array.toList_inj.mp z
theorem mkstr_eq (x y : List Nat) : ((⟨x.toArray⟩ : Str) == ⟨y.toArray⟩) = decide (x = y) := by
  rw [str_eq]
theorem b1 (a b : Bool) : (a == b) = (match a, b with | true, true => true | false, false => true | _, _ => false) := by cases a <;> cases b <;> rfl
mutual
theorem dEq_ok : ∀ (d e : D) (b : Bool) (p q : PyData), dEq d e = some b → RO d → RO e → toP d = some p → toP e = some q → PyData.eqv p q = b
  | .non, e, b, p, q, h, _, _, hp, hq => by
    unfold toP at hp; cases hp
    cases e <;> unfold dEq at h <;> unfold toP at hq <;> first
      | (cases h; cases hq; rfl)
      | (split at hq <;> cases hq <;> cases h <;> rfl)
      | cases hq
  | .bl c, e, b, p, q, h, _, _, hp, hq => by
    unfold toP at hp; cases hp
    cases e with
    | bl c2 => unfold dEq at h; unfold toP at hq; cases hq; cases h; unfold PyData.eqv; exact b1 c c2
    | int j => unfold dEq at h; unfold toP at hq; cases hq; cases h; unfold PyData.eqv; rw [iEq_eq]; cases c <;> rfl
    | _ => unfold dEq at h <;> unfold toP at hq <;> first
      | (cases h; cases hq; rfl)
      | (split at hq <;> cases hq <;> cases h <;> rfl)
      | cases hq
  | .int i, e, b, p, q, h, _, _, hp, hq => by
    unfold toP at hp; cases hp
    cases e with
    | bl c => unfold dEq at h; unfold toP at hq; cases hq; cases h; unfold PyData.eqv; rw [iEq_eq]; cases c <;> rfl
    | int j => unfold dEq at h; unfold toP at hq; cases hq; cases h; unfold PyData.eqv; rw [iEq_eq]; rfl
    | _ => unfold dEq at h <;> unfold toP at hq <;> first
      | (cases h; cases hq; rfl)
      | (split at hq <;> cases hq <;> cases h <;> rfl)
      | cases hq
  | .str s, e, b, p, q, h, _, _, hp, hq => by
    unfold toP at hp; cases hp
    cases e with
    | str s2 => unfold dEq at h; unfold toP at hq; cases hq; cases h; unfold PyData.eqv; rw [sEq_eq]; exact mkstr_eq s s2
    | _ => unfold dEq at h <;> unfold toP at hq <;> first
      | (cases h; cases hq; rfl)
      | (split at hq <;> cases hq <;> cases h <;> rfl)
      | cases hq
      | cases h
  | .rep s, e, b, p, q, h, ro, ro2, hp, hq => by
    cases e with
    | rep s2 =>
      unfold dEq at h; unfold toP at hp hq; unfold RO at ro ro2
      cases ep : toP s with
      | none => rw [ep] at hp; cases hp
      | some p1 => cases eq : toP s2 with
        | none => rw [eq] at hq; cases hq
        | some q1 =>
          rw [ep] at hp; rw [eq] at hq; cases hp; cases hq
          unfold PyData.eqv
          rw [str_eq, rep_tx ro ep, rep_tx ro2 eq]
          cases z : dSame s s2 with
          | true =>
            rw [z] at h; cases h
            rw [dSame_eq s s2 z]
            simp
          | false =>
            rw [z] at h; cases h
            rw [sEq_eq]
    | _ =>
      unfold dEq at h; unfold toP at hp hq
      cases ep : toP s with
      | none => rw [ep] at hp; cases hp
      | some p1 =>
        rw [ep] at hp; cases hp
        first
        | (cases h; done)
        | (cases h; cases hq; rfl)
        | (split at hq <;> cases hq <;> cases h <;> rfl)
        | cases hq
        | cases h
  | .tup s, e, b, p, q, h, ro, ro2, hp, hq => by
    unfold toP at hp
    cases ep : toPs s with
    | none => rw [ep] at hp; cases hp
    | some ps =>
      rw [ep] at hp; cases hp
      cases e with
      | tup s2 =>
        unfold dEq at h; unfold toP at hq; unfold RO at ro ro2
        cases eq : toPs s2 with
        | none => rw [eq] at hq; cases hq
        | some qs =>
          rw [eq] at hq; cases hq
          unfold PyData.eqv
          exact dEqs_ok s s2 b ps qs h ro ro2 ep eq
      | _ => unfold dEq at h <;> unfold toP at hq <;> first
        | (cases h; cases hq; rfl)
        | (split at hq <;> cases hq <;> cases h <;> rfl)
        | cases hq
        | cases h
  | .lst s, e, b, p, q, h, ro, ro2, hp, hq => by
    unfold toP at hp
    cases ep : toPs s with
    | none => rw [ep] at hp; cases hp
    | some ps =>
      rw [ep] at hp; cases hp
      cases e with
      | lst s2 =>
        unfold dEq at h; unfold toP at hq; unfold RO at ro ro2
        cases eq : toPs s2 with
        | none => rw [eq] at hq; cases hq
        | some qs =>
          rw [eq] at hq; cases hq
          unfold PyData.eqv
          exact dEqs_ok s s2 b ps qs h ro ro2 ep eq
      | _ => unfold dEq at h <;> unfold toP at hq <;> first
        | (cases h; cases hq; rfl)
        | (split at hq <;> cases hq <;> cases h <;> rfl)
        | cases hq
        | cases h
  | .ref s, e, b, p, q, h, _, _, hp, hq => by unfold toP at hp; cases hp
theorem dEqs_ok : ∀ (d e : List D) (b : Bool) (p q : List PyData), dEqs d e = some b → ROs d → ROs e → toPs d = some p → toPs e = some q → PyData.eqvAll p q = b
  | [], [], b, p, q, h, _, _, hp, hq => by unfold toPs at hp hq; cases hp; cases hq; unfold dEqs at h; cases h; rfl
  | [], e :: es, b, p, q, h, _, _, hp, hq => by
    have l := toPs_len _ _ hq
    unfold toPs at hp; cases hp; unfold dEqs at h; cases h
    cases q with
    | nil => cases l
    | cons => rfl
  | d :: ds, [], b, p, q, h, _, _, hp, hq => by
    have l := toPs_len _ _ hp
    unfold toPs at hq; cases hq; unfold dEqs at h; cases h
    cases p with
    | nil => cases l
    | cons => rfl
  | d :: ds, e :: es, b, p, q, h, ro, ro2, hp, hq => by
    unfold toPs at hp hq
    cases e1 : toP d with
    | none => rw [e1] at hp; cases hp
    | some p1 => cases e2 : toPs ds with
      | none => rw [e1, e2] at hp; cases hp
      | some ps => cases e3 : toP e with
        | none => rw [e3] at hq; cases hq
        | some q1 => cases e4 : toPs es with
          | none => rw [e3, e4] at hq; cases hq
          | some qs =>
            rw [e1, e2] at hp; rw [e3, e4] at hq; cases hp; cases hq
            unfold dEqs at h
            unfold PyData.eqvAll
            cases z : dEq d e with
            | none => rw [z] at h; cases h
            | some c =>
              rw [z] at h
              rw [dEq_ok d e c p1 q1 z ro.1 ro2.1 e1 e3]
              cases c with
              | false => cases h; rfl
              | true =>
                rw [Bool.true_and]
                exact dEqs_ok ds es b ps qs h ro.2 ro2.2 e2 e4
end
theorem inL_ok : ∀ (x : D) (ys : List D) (b : Bool) (p : PyData) (qs : List PyData), inL x ys = some b → RO x → ROs ys → toP x = some p → toPs ys = some qs → (qs.any fun z => PyData.eqv z p) = b
  | x, [], b, p, qs, h, _, _, hp, hq => by unfold toPs at hq; cases hq; unfold inL at h; cases h; rfl
  | x, y :: ys, b, p, qs, h, ro, ro2, hp, hq => by
    unfold toPs at hq
    cases e3 : toP y with
    | none => rw [e3] at hq; cases hq
    | some q1 => cases e4 : toPs ys with
      | none => rw [e3, e4] at hq; cases hq
      | some qs =>
        rw [e3, e4] at hq; cases hq
        unfold inL at h
        rw [List.any_cons]
        cases z : dEq y x with
        | none => rw [z] at h; cases h
        | some c =>
          rw [z] at h
          rw [dEq_ok y x c q1 p z ro2.1 ro e3 hp]
          cases c with
          | true => cases h; rfl
          | false =>
            rw [Bool.false_or]
            exact inL_ok x ys b p qs h ro ro2.2 hp e4
section
variable {K : PySem.W.Frag} {w : Wd}
theorem shaped_of {d : D} (h : shp 60 d = true) (ro : RO d) : ∃ p, toP d = some p ∧ SeqAt.shaped p = true := by
  obtain ⟨p, e, h1, h2⟩ := shp_toP d 60 h ro
  exact ⟨p, e, by unfold SeqAt.shaped; rw [h1, Bool.true_and]; exact decide_eq_true (by omega)⟩
/-- ==: what the reading of op_eqD asks -/
theorem eqQ_ok {a b : D} {x y : V} {c : Bool} (h : eqQ a b = some c) (ra : Vw K w a x) (rb : Vw K w b y) :
    ∃ p q, Dp K w.H x p ∧ Dp K w.H y q ∧ SeqAt.shaped p = true ∧ SeqAt.shaped q = true ∧ PyData.eqv p q = c := by
  have gen : (match shp 60 a, shp 60 b with | true, true => dEq a b | _, _ => none) = some c → ∃ p q, Dp K w.H x p ∧ Dp K w.H y q ∧ SeqAt.shaped p = true ∧ SeqAt.shaped q = true ∧ PyData.eqv p q = c := fun h => by
    cases h1 : shp 60 a with
    | false => rw [h1] at h; cases h
    | true => cases h2 : shp 60 b with
      | false => rw [h1, h2] at h; cases h
      | true =>
        rw [h1, h2] at h
        obtain ⟨p, ep, sp⟩ := shaped_of h1 ra.ro
        obtain ⟨q, eq, sq⟩ := shaped_of h2 rb.ro
        exact ⟨p, q, ra.dp ep, rb.dp eq, sp, sq, dEq_ok a b c p q h ra.ro rb.ro ep eq⟩
  cases a with
  | int i => cases b with
    | int j =>
      unfold eqQ at h
      cases h
      exact ⟨.int i, .int j, ra.dp rfl, rb.dp rfl, rfl, rfl, by unfold PyData.eqv; rw [iEq_eq]; rfl⟩
    | _ => exact gen h
  | _ => exact gen h
theorem inQ_ok {a : D} {ys : List D} {x : V} {vs : List V} {c : Bool} (h : inQ a ys = some c) (ra : Vw K w a x) (rb : Reps K w ys vs) :
    ∃ p qs, Dp K w.H x p ∧ DpAll K w.H vs qs ∧ SeqAt.shaped p = true ∧ SeqAt.shaped (.list qs) = true ∧ (qs.any fun z => PyData.eqv z p) = c := by
  unfold inQ at h
  cases h1 : shp 60 a with
  | false => rw [h1] at h; cases h
  | true => cases h2 : allF (shp 59) ys with
    | false => rw [h1, h2] at h; cases h
    | true =>
      rw [h1, h2] at h
      obtain ⟨p, ep, sp⟩ := shaped_of h1 ra.ro
      have ro := Reps.ro ys vs rb
      obtain ⟨qs, eq, c1, c2⟩ := shp_toPs ys 59 h2 ro
      refine ⟨p, qs, ra.dp ep, Reps.dp ys vs qs rb eq, sp, ?_, inL_ok a ys c p qs h ra.ro ro ep eq⟩
      unfold SeqAt.shaped PyData.canLay0 PyData.depth
      rw [c1, Bool.true_and]
      exact decide_eq_true (by omega)
/-- truth of data -/
theorem truth_ok {d : D} {v : V} {c : Bool} (h : truth d = some c) (r : Vw K w d v) : TruV K v w.H c := by
  cases d with
  | non =>
    have ev : v = .non := by unfold Vw Rep at r; exact r
    subst ev; unfold truth at h; cases h
    exact rfl
  | bl b =>
    have ev : v = .bl b := by unfold Vw Rep at r; exact r
    subst ev; unfold truth at h; cases h
    exact rfl
  | int i =>
    have ev : v = .int i := by unfold Vw Rep at r; exact r
    subst ev; unfold truth at h; cases h
    show _ = (i != 0)
    rw [iEq_eq]
    by_cases e : i = 0
    · subst e; rfl
    · rw [decide_eq_false e]; symm; exact bne_iff_ne.mpr e
  | str s => unfold truth at h; cases h
  | rep s => unfold truth at h; cases h
  | ref s => unfold truth at h; cases h
  | tup ds =>
    unfold truth at h
    have r : Rep K w (.tup ds) v := r
    unfold Rep at r
    obtain ⟨a, vs, rfl, q, t⟩ := r
    refine .inr (.inl ⟨vs, q, ?_⟩)
    cases ds with
    | nil => unfold Reps at t; subst t; cases h; rfl
    | cons => unfold Reps at t; obtain ⟨_, _, rfl, _⟩ := t; cases h; rfl
  | lst ds =>
    unfold truth at h
    obtain ⟨a, vs, rfl, q, t⟩ := r
    refine .inl ⟨vs, .inl q, ?_⟩
    cases ds with
    | nil => unfold Reps at t; subst t; cases h; rfl
    | cons => unfold Reps at t; obtain ⟨_, _, rfl, _⟩ := t; cases h; rfl
end
end Ev
/-! Soundness of the small interpreter, 9: displays. -/
namespace Ev
open PySem PySem.Spec PyProof.Rows L2
section
variable (K : PySem.W.Frag) (M : Nm) (ca : Nat → Addr) (E : XK)
/-- what is wanted behind a list of expressions -/
def pEs (w : Wd) (env : Env) (σ : L2.St) (Q : List V → Hp → Prop) : Rs → Prop
  | .ok ds env' h' => ∀ w' vs, Stp (Own env σ) w w' → ELe env env' → SI K M ca env' σ h' w' → Reps K w' ds vs → Q vs w'.H
  | .ex c d h' => ExW K M ca (Own env σ) w E c d h'
  | .no => False
def tEs (g : Env → Hs → Rs) : TA := fun σ H Q => ∃ w env h, w.H = H ∧ SI K M ca env σ h w ∧ pEs K M ca E w env σ Q (g env h)
/-- what is wanted behind a test -/
def pT (w : Wd) (env : Env) (σ : L2.St) (Q : Bool → Hp → Prop) : Res → Prop
  | .ok d _ env' h' => ∃ c, truth d = some c ∧ ∀ w', Stp (Own env σ) w w' → ELe env env' → SI K M ca env' σ h' w' → Q c w'.H
  | .ex c d h' => ExW K M ca (Own env σ) w E c d h'
  | .no => False
def tT (g : Env → Hs → Res) : TT := fun σ H Q => ∃ w env h, w.H = H ∧ SI K M ca env σ h w ∧ pT K M ca E w env σ Q (g env h)
end
section
variable {K : PySem.W.Frag} {M : Nm} {ca : Nat → Addr} {w w' w1 w2 : Wd} {env env' env1 env2 : Env} {σ : L2.St} {h h' h1 h2 : Hs} {Q : VK} {E : XK} {r : Self} {k : Nat} {a b : Ex} {d : D} {ds : List D} {v : V} {vs : List V}
theorem pEs.step {QL : List V → Hp → Prop} (x : SI K M ca env σ h w) (s : Stp (Own env σ) w w1) (l : ELe env env1) {r : Rs} (g : pEs K M ca E w env σ QL r) : pEs K M ca E w1 env1 σ QL r := by
  cases r with
  | ok ds env' h' => exact fun w' v t m y r => g w' v (x.trans s l t) (l.trans m) y r
  | ex c d h' => exact fun w' dx v t ok ed r => g w' dx v (x.trans s l t) ok ed r
  | no => exact g
/-- what is new later is new -/
theorem RV.older {O : Addr → Prop} {fr : Bool} (r : RV K w1 w2 fr d v) (s : Stp O w w1) : RV K w w2 fr d v := by
  cases fr with
  | false => exact r
  | true =>
    obtain ⟨p, vs, ds, e1, e2, sp, ep, rp, np⟩ := r
    exact ⟨p, vs, ds, e1, e2, sp, ep, rp, s.there p np⟩
/-- one operand -/
theorem opd_at {R : VK} (x : SI K M ca env σ h w) (pn : eB r k env h a ≠ .no) (px : ∀ c d h', eB r k env h a = .ex c d h' → ExW K M ca (Own env σ) w E c d h')
    (c : ∀ d fr env1 h1 w1 v, eB r k env h a = .ok d fr env1 h1 → Stp (Own env σ) w w1 → ELe env env1 → SI K M ca env1 σ h1 w1 → Vw K w1 d v → (isVar a = false → RV K w w1 fr d v) → R v w1.H) :
    opd K M ca r k E a σ w.H R := by
  by_cases hv : isVar a = true
  · cases a <;> first | cases hv | skip
    rename_i i pos
    unfold eB at pn px c
    cases e : look env i with
    | none =>
      simp only [e] at pn
      exact absurd rfl pn
    | some d =>
      simp only [e] at c
      obtain ⟨v, ev, rv⟩ := x.look e
      exact ⟨v, ev, c d false env h w v rfl Stp.refl ELe.refl x rv (fun z => by cases z)⟩
  · have hv' := notVar hv
    rw [opd_of hv']
    rw [eB_of hv'] at pn px c
    refine ⟨w, env, h, rfl, x, ?_⟩
    show pE K M ca E w env σ R (r.e k env h a)
    cases e : r.e k env h a with
    | ok d fr env1 h1 => exact fun w1 v s l y rv => c d fr env1 h1 w1 v e s l y (Vw.of_rv rv) (fun _ => rv)
    | ex c d h' => exact px c d h' e
    | no => exact absurd e pn
end
def isStar : Ex → Bool
  | .star _ _ => true
  | _ => false
theorem es_of {r : Self} {k : Nat} {env : Env} {h : Hs} {x : Ex} {xs : List Ex} (hx : isStar x = false) : es r k env h (x :: xs) = (match r.e k env h x with
      | .ok d _ env1 h1 => (match es r k env1 h1 xs with | .ok qs env2 h2 => .ok (d :: qs) env2 h2 | .ex c d h => .ex c d h | .no => .no)
      | .ex c d h => .ex c d h
      | .no => .no) := by
  cases x <;> first | rfl | cases hx
section
variable {X : Cx} {M : Nm} {T : Tab} {fa ca : Nat → Addr} {fds : Nat → FuncData} {pss : Nat → List Str} {N : List Str} {sc : Scope} {k n : Nat} {E : XK} {r : Self}
variable {w w' w1 w2 : Wd} {env env' env1 env2 : Env} {σ : L2.St} {h h' h1 h2 : Hs} {Q : VK} {d : D} {ds : List D} {v : V} {vs : List V} {O : Addr → Prop}
/-- an operand -/
theorem pO (C : XC X M T fa ca fds pss N sc k E) (IH : ∀ x, wfE M N sc x = true → Okx X M ca N k E r x) {x : Ex} (wf : wfE M N sc x = true) : PE X (dec M N x) (opd X.K M ca r k E x) := by
  by_cases hv : isVar x = true
  · cases x <;> first | cases hv | skip
    exact pv_of C wf
  · rw [opd_of (notVar hv)]
    exact IH x wf
theorem es_ok (C : XC X M T fa ca fds pss N sc k E) (IH : ∀ x, wfE M N sc x = true → Okx X M ca N k E r x) : ∀ (xs : List Ex), wfEs M N sc xs = true → PA X (decs M N xs) (tEs X.K M ca E fun env h => es r k env h xs)
  | [], _ => by
    refine PA.imp pa_nil fun σ H Q z => ?_
    obtain ⟨w, env, h, rfl, x, g⟩ := z
    exact g w [] Stp.refl ELe.refl x Reps.nil
  | x :: xs, wf => by
    have wf2 : (wfE M N sc x && wfEs M N sc xs) = true := by unfold wfEs at wf; exact wf
    obtain ⟨wx, ws⟩ := ba wf2
    have ih := es_ok C IH xs ws
    by_cases hs : isStar x = true
    · cases x <;> first | cases hs | skip
      rename_i y p
      have wy : wfE M N sc y = true := by unfold wfE at wx; exact wx
      refine PA.imp (StX.pa_star (pO C IH wy) ih) fun σ H Q z => ?_
      obtain ⟨w, env, h, rfl, x, g⟩ := z
      have g : pEs X.K M ca E w env σ Q (match eB r k env h y with
      | .ok d _ env1 h1 => (match d with
        | .tup ds => (match es r k env1 h1 xs with | .ok qs env2 h2 => .ok (ds ++ qs) env2 h2 | .ex c d h => .ex c d h | .no => .no)
        | .lst ds => (match es r k env1 h1 xs with | .ok qs env2 h2 => .ok (ds ++ qs) env2 h2 | .ex c d h => .ex c d h | .no => .no)
        | _ => .no)
      | .ex c d h => .ex c d h
      | .no => .no) := g
      show opd X.K M ca r k E y σ w.H fun x H1 => ∃ p xs_1, x = V.ref p ∧ (SqT X.K H1 p xs_1 ∨ SqL X.K H1 p xs_1) ∧ tEs X.K M ca E (fun env h => es r k env h xs) σ H1 fun ys H2 => Q (xs_1 ++ ys) H2
      refine opd_at x (fun e => by rw [e] at g; exact g) (fun c d h' e => by rw [e] at g; exact g) fun d fr env1 h1 w1 v e s l y rv _ => ?_
      simp only [e] at g
      have fin : ∀ (ds : List D) (us : List V), Reps X.K w1 ds us → pEs X.K M ca E w env σ Q (match es r k env1 h1 xs with | .ok qs env2 h2 => .ok (ds ++ qs) env2 h2 | .ex c d h => .ex c d h | .no => .no) →
          tEs X.K M ca E (fun env h => es r k env h xs) σ w1.H fun ys H2 => Q (us ++ ys) H2 := fun ds us rs g => by
        refine ⟨w1, env1, h1, rfl, y, ?_⟩
        have g := g.step x s l
        show pEs X.K M ca E w1 env1 σ _ (es r k env1 h1 xs)
        cases e2 : es r k env1 h1 xs with
        | ok qs env2 h2 => simp only [e2] at g; exact fun w2 ws s2 l2 y2 r2 => g w2 (us ++ ws) s2 l2 y2 ((s2.reps y.ok ds us rs).append r2)
        | ex c d h' => simp only [e2] at g; exact g
        | no => simp only [e2] at g; exact g
      cases d with
      | tup ds =>
        have rv : Rep X.K w1 (.tup ds) v := rv
        unfold Rep at rv
        obtain ⟨a, us, rfl, q, t⟩ := rv
        exact ⟨a, us, rfl, .inl q, fin ds us t g⟩
      | lst ds =>
        obtain ⟨a, us, rfl, q, t⟩ := rv
        exact ⟨a, us, rfl, .inr (.inl q), fin ds us t g⟩
      | _ => exact g.elim
    · have hs' : isStar x = false := by cases z : isStar x with
        | true => exact absurd z hs
        | false => rfl
      refine PA.imp (pa_cons (IH x wx) ih (by cases x <;> first | rfl | cases hs')) fun σ H Q z => ?_
      obtain ⟨w, env, h, rfl, x0, g⟩ := z
      have g : pEs X.K M ca E w env σ Q (es r k env h (x :: xs)) := g
      rw [es_of hs'] at g
      refine ⟨w, env, h, rfl, x0, pE_of_pS x0 ?_⟩
      show pS X.K M ca E w env σ _ (r.e k env h x)
      cases e : r.e k env h x with
      | ok d fr env1 h1 =>
        simp only [e] at g
        intro w1 v s l y rv
        refine ⟨w1, env1, h1, rfl, y, ?_⟩
        have g := g.step x0 s l
        show pEs X.K M ca E w1 env1 σ _ (es r k env1 h1 xs)
        cases e2 : es r k env1 h1 xs with
        | ok qs env2 h2 => simp only [e2] at g; exact fun w2 ws s2 l2 y2 r2 => g w2 (v :: ws) s2 l2 y2 (Reps.cons (s2.rep y.ok d v rv) r2)
        | ex c d h' => simp only [e2] at g; exact g
        | no => simp only [e2] at g; exact g
      | ex c d h' => rw [e] at g; exact g
      | no => rw [e] at g; exact g
theorem lenOk_le {K : PySem.W.Frag} (h : lenOk ds = true) (r : Reps K w ds vs) : vs.length ≤ 100000 := by
  rw [r.length]; exact Nat.le_of_ble_eq_true h
theorem n_tup (C : XC X M T fa ca fds pss N sc k E) (IH : ∀ x, wfE M N sc x = true → Okx X M ca N k E r x) {xs : List Ex} {q : Nat} {p : Pos} (wf : wfE M N sc (.tup xs q p) = true) : Okx X M ca N k E (F T r) (.tup xs q p) := by
  refine PE.imp (pe_tup (es_ok C IH xs (by unfold wfE at wf; exact wf))) fun σ H Q z => ?_
  obtain ⟨w, env, h, rfl, x, g⟩ := z
  have g : pE X.K M ca E w env σ Q (match es r k env h xs with | .ok ds env1 h1 => (match lenOk ds with | true => .ok (.tup ds) false env1 h1 | false => .no) | .ex c d h => .ex c d h | .no => .no) := g
  refine ⟨w, env, h, rfl, x, ?_⟩
  show pEs X.K M ca E w env σ _ (es r k env h xs)
  cases e : es r k env h xs with
  | ok ds env1 h1 =>
    simp only [e] at g
    intro w1 vs s l y rs
    cases hl : lenOk ds with
    | false => simp only [hl] at g; exact g.elim
    | true =>
      simp only [hl] at g
      refine ⟨by rw [sizeLine_eq]; have := lenOk_le hl rs; omega, fun p np => ?_⟩
      obtain ⟨s2, y2, r2⟩ := got_tup y np rs
      exact g _ _ (x.trans s l s2) l y2 r2
  | ex c d h' => rw [e] at g; exact g
  | no => rw [e] at g; exact g
theorem n_lst (C : XC X M T fa ca fds pss N sc k E) (IH : ∀ x, wfE M N sc x = true → Okx X M ca N k E r x) {xs : List Ex} {p : Pos} (wf : wfE M N sc (.lst xs p) = true) : Okx X M ca N k E (F T r) (.lst xs p) := by
  refine PE.imp (pe_lst (es_ok C IH xs (by unfold wfE at wf; exact wf))) fun σ H Q z => ?_
  obtain ⟨w, env, h, rfl, x, g⟩ := z
  have g : pE X.K M ca E w env σ Q (match es r k env h xs with | .ok ds env1 h1 => (match lenOk ds with | true => .ok (.lst ds) true env1 h1 | false => .no) | .ex c d h => .ex c d h | .no => .no) := g
  refine ⟨w, env, h, rfl, x, ?_⟩
  show pEs X.K M ca E w env σ _ (es r k env h xs)
  cases e : es r k env h xs with
  | ok ds env1 h1 =>
    simp only [e] at g
    intro w1 vs s l y rs
    cases hl : lenOk ds with
    | false => simp only [hl] at g; exact g.elim
    | true =>
      simp only [hl] at g
      refine ⟨by rw [sizeLine_eq]; have := lenOk_le hl rs; omega, fun p np => ?_⟩
      obtain ⟨s2, y2, r2⟩ := got_lst y np rs
      exact g _ _ (x.trans s l s2) l y2 (r2.older s)
  | ex c d h' => rw [e] at g; exact g
  | no => rw [e] at g; exact g
end
end Ev
/-! Soundness of the small interpreter, 10: operators. -/
namespace Ev
open PySem PySem.Spec PyProof.Rows L2
section
variable {X : Cx}
theorem orR {f : Value → Value → Sem Value} {r1 r2 : R2} (a : OpR X f r1) (b : OpR X f r2) : OpR X f (fun x y H Q => r1 x y H Q ∨ r2 x y H Q) := by
  intro pins s σ H x y v u Q I rx ry h
  rcases h with h | h
  · exact a pins s σ H x y v u Q I rx ry h
  · exact b pins s σ H x y v u Q I rx ry h
def rCatR : R2 := fun x y H Q => ∃ l b xs zs, x = .ref l ∧ y = .ref b ∧ Rd H l (.lst xs) ∧ Rd H b (.lst zs) ∧ xs.length + zs.length ≤ sizeLine ∧ ∀ p, H p = none → Q (.ref p) (upd H p (.lst (xs ++ zs)))
theorem op_catR : OpR X (binaryOp .Add) rCatR := by
  intro pins s σ H x y v u Q I rx ry h
  obtain ⟨l, b, xs, zs, rfl, rfl, hH, hB, hz, q⟩ := h
  cases rx
  cases ry
  obtain ⟨z1, i1, n1, r1, e1⟩ := hH.ok I.hok
  obtain ⟨z2, i2, n2, r2, e2⟩ := hB.ok I.hok
  have l1 := r1.length
  have l2 := r2.length
  refine PySem.P.add_list e1 e2 ?_ (by rw [List.size_toArray, List.size_toArray]; omega)
  rw [show i1.toArray ++ i2.toArray = (i1 ++ i2).toArray by simp]
  exact ⟨.ref _, _, I.lnew (t' := s.toks) (r1.append r2) (by rw [List.length_append]; omega), rfl, q _ I.fresh⟩
theorem op_mulV : OpR X (binaryOp .Mult) (rI (fun i j => mulOk i j = true) fun i j => .int (i * j)) := opI fun i j _ _ _ _ _ hc q => mul_int q (by
  have b : ∀ x : Int, Builtin.Int.intBits x ≤ x.natAbs.log2 + 1 := fun x => by
    unfold Builtin.Int.intBits
    split <;> omega
  have h1 := b i
  have h2 := b j
  have h3 : i.natAbs.log2 + j.natAbs.log2 < 100000000 := by
    have hc : mulOk i j = true := hc
    unfold mulOk at hc
    exact Nat.blt_eq.mp hc
  have e : bitsLine = 134217728 := by decide
  unfold IntMulOk
  intro z
  rw [Bool.and_eq_true] at z
  have z2 := z.2
  unfold Builtin.Int.intTooBig at z2
  have z3 := of_decide_eq_true z2
  rw [e] at z3
  omega)
theorem op_powV : OpR X (binaryOp .Pow) (rI (fun i j => 0 ≤ j ∧ powOk i j.toNat = true) fun i j => .int (i ^ j.toNat)) := opI fun i j _ _ _ _ _ hc q => pow_int hc.1 (by
  have b : Builtin.Int.intBits i ≤ i.natAbs.log2 + 1 := by
    unfold Builtin.Int.intBits
    split <;> omega
  have h2 := hc.2
  unfold powOk at h2
  cases h3 : Nat.ble j.toNat 1000 with
  | false => rw [h3] at h2; cases h2
  | true =>
    rw [h3] at h2
    have h4 : (i.natAbs.log2 + 1) * j.toNat < 100000000 := Nat.blt_eq.mp h2
    have h5 : Builtin.Int.intBits i * j.toNat ≤ (i.natAbs.log2 + 1) * j.toNat := Nat.mul_le_mul_right _ b
    have h6 : (j.toNat : Int) = j := Int.toNat_of_nonneg hc.1
    rw [← h6]
    have h7 : ((Builtin.Int.intBits i * j.toNat : Nat) : Int) < 100000000 := by omega
    rw [Int.natCast_mul] at h7
    have e : (2 : Int) ^ 27 = 134217728 := by decide
    rw [e]
    omega) q
/-- the rules of the operators -/
def rBin (K : PySem.W.Frag) : Operator → R2
  | .Add => fun x y H Q => rI0 (fun i j => .int (i + j)) x y H Q ∨ (rCatR x y H Q ∨ rCatA K x y H Q)
  | .Sub => rI0 fun i j => .int (i - j)
  | .Mult => fun x y H Q => rI (fun i j => mulOk i j = true) (fun i j => .int (i * j)) x y H Q ∨ rRepT K x y H Q
  | .Pow => rI (fun i j => 0 ≤ j ∧ powOk i j.toNat = true) fun i j => .int (i ^ j.toNat)
  | .FloorDiv => fun x y H Q => rI CDivW (fun i j => .int (i / j)) x y H Q ∨ rI CDivN (fun i j => .int (i.fdiv j)) x y H Q
  | .Mod => rI (fun _ j => 0 < j) fun i j => .int (i % j)
  | _ => fun _ _ _ _ => False
theorem op_bin (o : Operator) : OpR X (binaryOp o) (rBin X.K o) := by
  cases o with
  | Add => exact orR op_add (orR op_catR op_catA)
  | Sub => exact op_sub
  | Mult => exact orR op_mulV op_repT
  | Pow => exact op_powV
  | FloorDiv => exact orR op_fdivW op_fdivN
  | Mod => exact op_mod
  | _ => exact fun _ _ _ _ _ _ _ _ _ _ _ _ h => h.elim
end
theorem small_log {i : Int} (h : small i = true) : i.natAbs.log2 < 4000 := by
  unfold small BIG at h
  exact PySem.Flt.log2_lt_of (by decide) (Nat.blt_eq.mp h)
theorem reps_eq {α : Type} : ∀ (n : Nat) (ds : List D), reps ds n = (List.replicate n ds).flatten
  | 0, _ => rfl
  | n + 1, ds => by
    show ds ++ reps ds n = _
    rw [reps_eq (α := α) n ds, List.replicate_succ, List.flatten_cons]
section
variable {K : PySem.W.Frag} {M : Nm} {ca : Nat → Addr} {w w' w1 w2 : Wd} {env env' env1 env2 : Env} {σ : L2.St} {h h' h1 h2 : Hs} {Q : VK} {E : XK} {d u v : D} {ds : List D} {a b : V} {vs : List V} {fr : Bool}
theorem Vw.int {i : Int} (r : Vw K w (.int i) a) : a = .int i := by
  unfold Vw Rep at r; exact r
theorem Vw.bl {i : Bool} (r : Vw K w (.bl i) a) : a = .bl i := by
  unfold Vw Rep at r; exact r
theorem Vw.tup (r : Vw K w (.tup ds) a) : ∃ p vs, a = .ref p ∧ SqT K w.H p vs ∧ Reps K w ds vs := by
  unfold Vw Rep at r; exact r
theorem Reps.rep : ∀ (n : Nat), Reps K w ds vs → Reps K w (List.replicate n ds).flatten (List.replicate n vs).flatten
  | 0, _ => by exact Reps.nil
  | n + 1, r => by
    rw [List.replicate_succ, List.replicate_succ, List.flatten_cons, List.flatten_cons]
    exact r.append (Reps.rep n r)
theorem bin_ok {o : Operator} (x : SI K M ca env σ h w) (ru : Vw K w u a) (rv : Vw K w v b) (e : opV o u v = some (d, fr))
    (g : ∀ w' z, Stp (Own env σ) w w' → SI K M ca env σ h w' → RV K w w' fr d z → Q z w'.H) : rBin K o a b w.H Q := by
  have hInt : ∀ (i j : Int), (match iOp o i j with | some z => some (D.int z, false) | none => none) = some (d, fr) → a = .int i → b = .int j → rBin K o a b w.H Q := fun i j e ea eb => by
    subst ea eb
    have g2 : ∀ z, d = .int z → fr = false → Q (.int z) w.H := fun z ed ef => by
      subst ed ef
      exact g w (.int z) Stp.refl x (show Rep K w (.int z) (.int z) by unfold Rep; rfl)
    cases e1 : iOp o i j with
    | none => rw [e1] at e; cases e
    | some z =>
      rw [e1] at e; cases e
      have g3 := g2 z rfl rfl
      unfold iOp at e1
      cases o with
      | Add => cases e1; exact .inl ⟨i, j, rfl, rfl, g3⟩
      | Sub => cases e1; exact ⟨i, j, rfl, rfl, g3⟩
      | Mult =>
        cases h1 : mulOk i j with
        | false => simp only [h1] at e1; cases e1
        | true =>
          simp only [h1] at e1; cases e1
          exact .inl ⟨i, j, rfl, rfl, h1, g3⟩
      | Pow =>
        cases j with
        | negSucc n => simp only at e1; cases e1
        | ofNat n =>
          cases h1 : powOk i n with
          | false => simp only [h1] at e1; cases e1
          | true =>
            simp only [h1] at e1; cases e1
            exact ⟨i, .ofNat n, rfl, rfl, ⟨Int.natCast_nonneg n, h1⟩, g3⟩
      | FloorDiv =>
        cases h1 : iLt 0 j with
        | true => cases h2 : small j with
          | false => simp only [h1, h2] at e1; cases e1
          | true =>
            simp only [h1, h2] at e1; cases e1
            rw [iLt_eq] at h1
            exact .inl ⟨i, j, rfl, rfl, ⟨of_decide_eq_true h1, by have := small_log h2; omega⟩, g3⟩
        | false => cases h2 : iLt j 0 with
          | false => simp only [h1, h2] at e1; cases e1
          | true => cases h3 : Nat.blt j.natAbs 1073741824 with
            | false => simp only [h1, h2, h3] at e1; cases e1
            | true =>
              simp only [h1, h2, h3] at e1; cases e1
              rw [iLt_eq] at h2
              have := of_decide_eq_true h2
              exact .inr ⟨i, j, rfl, rfl, ⟨by omega, Nat.blt_eq.mp h3⟩, g3⟩
      | Mod =>
        cases h1 : iLt 0 j with
        | false => simp only [h1] at e1; cases e1
        | true =>
          simp only [h1] at e1; cases e1
          rw [iLt_eq] at h1
          exact ⟨i, j, rfl, rfl, of_decide_eq_true h1, g3⟩
      | _ => cases e1
  unfold opV at e
  split at e
  · rename_i i j
    exact hInt i j e ru.int rv.int
  · rename_i xs ys
    split at e <;> first | cases e | skip
    rename_i l1 l2
    obtain ⟨p, us, rfl, q1, t1⟩ := ru
    obtain ⟨p2, us2, rfl, q2, t2⟩ := rv
    refine .inr (.inl ⟨p, p2, us, us2, rfl, rfl, q1, q2, by have := lenOk_le l1 t1; have := lenOk_le l2 t2; rw [sizeLine_eq]; omega, fun q np => ?_⟩)
    obtain ⟨s2, y2, r2⟩ := got_lst x np (t1.append t2)
    exact g _ _ s2 y2 r2
  · rename_i xs ys
    split at e <;> first | cases e | skip
    rename_i l1 l2
    obtain ⟨p, us, rfl, q1, t1⟩ := ru.tup
    obtain ⟨p2, us2, rfl, q2, t2⟩ := rv.tup
    refine .inr (.inr ⟨p, p2, us, us2, rfl, rfl, q1, q2, by have := lenOk_le l1 t1; have := lenOk_le l2 t2; rw [sizeLine_eq]; omega, fun z => ?_, fun _ z => ?_, fun _ _ q np => ?_⟩)
    · subst z
      have := t1.length
      cases xs with
      | nil => exact g w _ Stp.refl x rv
      | cons => cases this
    · subst z
      have := t2.length
      cases ys with
      | nil => exact g w _ Stp.refl x (by rw [List.append_nil]; exact ru)
      | cons => cases this
    · obtain ⟨s2, y2, r2⟩ := got_tup x np (t1.append t2)
      exact g _ _ s2 y2 r2
  · rename_i y ys n
    split at e <;> first | cases e | skip
    rename_i l1 l2
    obtain ⟨p, us, rfl, q1, t1⟩ := ru.tup
    cases rv.int
    have hn : n < 900 := Nat.blt_eq.mp l1
    have hl : ys.length < 900 := Nat.blt_eq.mp l2
    have hus := t1.length
    refine .inr ⟨p, _, us, rfl, rfl, q1, fun z => ?_, ?_, ?_, ?_, fun q np => ?_⟩
    · subst z; cases hus
    · show (2 : Int) ≤ ((n + 2 : Nat) : Int); omega
    · show ((n + 2 : Nat) : Int) ≤ 1000; omega
    · rw [hus]; show ys.length + 1 ≤ 1000; omega
    · obtain ⟨s2, y2, r2⟩ := got_tup x np (t1.rep (n + 2))
      refine g _ _ s2 y2 ?_
      rw [reps_eq (α := Unit)]
      exact r2
  · cases e
end
section
variable {X : Cx} {M : Nm} {T : Tab} {fa ca : Nat → Addr} {fds : Nat → FuncData} {pss : Nat → List Str} {N : List Str} {sc : Scope} {k n : Nat} {E : XK} {r : Self}
variable {w w' w1 w2 : Wd} {env env' env1 env2 : Env} {σ : L2.St} {h h' h1 h2 : Hs} {Q : VK} {d : D} {ds : List D} {v : V} {vs : List V} {O : Addr → Prop}
theorem n_bin (C : XC X M T fa ca fds pss N sc k E) (IH : ∀ x, wfE M N sc x = true → Okx X M ca N k E r x) {o : Operator} {a b : Ex} {p : Pos} (wf : wfE M N sc (.bin o a b p) = true) : Okx X M ca N k E (F T r) (.bin o a b p) := by
  have wf2 : (wfE M N sc a && wfE M N sc b) = true := by unfold wfE at wf; exact wf
  obtain ⟨wa, wb⟩ := ba wf2
  refine PE.imp (pe_op (op_bin o) (pO C IH wa) (pO C IH wb)) fun σ H Q z => ?_
  obtain ⟨w, env, h, rfl, x, g⟩ := z
  have g : pE X.K M ca E w env σ Q (two r k env h a b fun u v env2 h2 => match opV o u v with | some (d, fr) => .ok d fr env2 h2 | none => .no) := g
  refine two_ok x g fun u v env2 h2 w2 x1 y1 s l y ru rv g2 => ?_
  cases e : opV o u v with
  | none => rw [e] at g2; exact g2.elim
  | some q =>
    obtain ⟨d, fr⟩ := q
    rw [e] at g2
    exact bin_ok y ru rv e fun w' z s' y' rz => g2 w' z s' ELe.refl y' rz
theorem pe_negW {X : Cx} {e : Expr} {te : TE} {pos : Pos} (he : PE X e te) : PE X (.UnaryOp .USub e pos) (tUn (fun x H Q => ∃ i, x = .int i ∧ Q (.int (-i)) H) te) := by
  refine pe_un ?_ he
  intro pins s σ H x v Q I rx h
  obtain ⟨i, rfl, q⟩ := h
  obtain ⟨t, rfl⟩ := rx
  exact neg_int ⟨.int (-i), H, I.tok _, ⟨_, rfl⟩, q⟩
theorem n_neg (C : XC X M T fa ca fds pss N sc k E) (IH : ∀ x, wfE M N sc x = true → Okx X M ca N k E r x) {a : Ex} {p : Pos} (wf : wfE M N sc (.neg a p) = true) : Okx X M ca N k E (F T r) (.neg a p) := by
  refine PE.imp (pe_negW (IH a (by unfold wfE at wf; exact wf))) fun σ H Q z => ?_
  obtain ⟨w, env, h, rfl, x, g⟩ := z
  have g : pE X.K M ca E w env σ Q (match r.e k env h a with
      | .ok (.int i) _ env1 h1 => .ok (.int (-i)) false env1 h1
      | .ex c d h => .ex c d h
      | _ => .no) := g
  refine ⟨w, env, h, rfl, x, ?_⟩
  show pE X.K M ca E w env σ _ (r.e k env h a)
  cases e : r.e k env h a with
  | ok d fr env1 h1 =>
    simp only [e] at g
    intro w1 v s l y rv
    cases d with
    | int i =>
      have rv := (Vw.of_rv rv).int
      exact ⟨i, rv, g w1 _ s l y (show Rep X.K w1 (.int (-i)) (.int (-i)) by unfold Rep; rfl)⟩
    | _ => exact g.elim
  | ex c d h' => simp only [e] at g; exact g
  | no => simp only [e] at g; exact g
end
end Ev
/-! Soundness of the small interpreter, 11: dicts. -/
namespace Ev
open PySem PySem.Spec PyProof.Rows L2
theorem mkstr_inj {x y : List Nat} (h : (⟨x.toArray⟩ : Str) = ⟨y.toArray⟩) : x = y := by
  have := congrArg Tx h
  simpa [Tx] using this
theorem tx_inj {x y : Str} (h : Tx x = Tx y) : x = y := by
  cases x; cases y
  congr 1
  exact Array.toList_inj.mp h
theorem dec_iff {p q : Prop} [Decidable p] [Decidable q] (h : p ↔ q) : decide p = decide q := by
  by_cases z : p
  · rw [decide_eq_true z, decide_eq_true (h.mp z)]
  · rw [decide_eq_false z, decide_eq_false fun y => z (h.mpr y)]
theorem rep_str {x : D} {p : PyData} (h : repOk x = true) (e : toP x = some p) : PyData.shown p = ⟨(txt x []).toArray⟩ := by
  apply tx_inj
  rw [rep_tx h e]
theorem kEq_ok {q k : D} {a b : L2.Key} (hq : KeyR q a) (hk : KeyR k b) : kEq q k = decide (a = b) := by
  have no : ∀ (i : Int) (s : Str), decide ((Sum.inl i : L2.Key) = .inr s) = false := fun i s => decide_eq_false fun z => by cases z
  have no2 : ∀ (i : Int) (s : Str), decide ((Sum.inr s : L2.Key) = .inl i) = false := fun i s => decide_eq_false fun z => by cases z
  have yes : ∀ (x y : List Nat), sEq x y = decide ((Sum.inr ⟨x.toArray⟩ : L2.Key) = .inr ⟨y.toArray⟩) := fun x y => by
    rw [sEq_eq]
    exact dec_iff ⟨fun z => by rw [z], fun z => mkstr_inj (Sum.inr.inj z)⟩
  cases q with
  | int i =>
    cases (show a = .inl i from hq)
    cases k with
    | int j =>
      cases (show b = .inl j from hk)
      show iEq i j = _
      rw [iEq_eq]
      exact dec_iff ⟨fun z => by rw [z], fun z => Sum.inl.inj z⟩
    | str s => cases (show b = .inr ⟨s.toArray⟩ from hk); exact (no i _).symm
    | rep d => obtain ⟨_, p, _, rfl⟩ := hk; exact (no i _).symm
    | _ => exact hk.elim
  | str s =>
    cases (show a = .inr ⟨s.toArray⟩ from hq)
    cases k with
    | int j => cases (show b = .inl j from hk); exact (no2 j _).symm
    | str s2 => cases (show b = .inr ⟨s2.toArray⟩ from hk); exact yes s s2
    | rep d => obtain ⟨ro, p, e, rfl⟩ := hk; rw [rep_str ro e]; exact yes s _
    | _ => exact hk.elim
  | rep x =>
    obtain ⟨ro, p, e, rfl⟩ := hq
    rw [rep_str ro e]
    cases k with
    | int j => cases (show b = .inl j from hk); exact (no2 j _).symm
    | str s2 => cases (show b = .inr ⟨s2.toArray⟩ from hk); exact yes _ s2
    | rep d =>
      obtain ⟨ro2, p2, e2, rfl⟩ := hk; rw [rep_str ro2 e2]
      show (match dSame x d with | true => true | false => sEq (txt x []) (txt d [])) = _
      cases z : dSame x d with
      | true =>
        have := dSame_eq x d z
        subst this
        exact (decide_eq_true rfl).symm
      | false => exact yes _ _
    | _ => exact hk.elim
  | _ => exact hq.elim
theorem dSameI {q k : D} {a b : L2.Key} (hq : KeyI q a) (hk : KeyI k b) : dSame q k = decide (a = b) := by
  have up : ∀ {q : D} {a : L2.Key}, KeyI q a → KeyR q a := fun {q a} h => by cases q <;> first | exact h | exact h.elim
  have := kEq_ok (up hq) (up hk)
  cases q <;> first | exact hq.elim | (cases k <;> first | exact hk.elim | exact this)
theorem dSamesI : ∀ {q k : List D} {a b : List L2.Key}, KeysR q a → KeysR k b → dSames q k = decide (a = b)
  | [], [], a, b, hq, hk => by
    have e1 : a = [] := hq
    have e2 : b = [] := hk
    subst e1 e2; rfl
  | [], d :: ds, a, b, hq, hk => by
    have e1 : a = [] := hq
    obtain ⟨k, r, rfl, _⟩ := hk
    subst e1
    exact (decide_eq_false fun z => by cases z).symm
  | d :: ds, [], a, b, hq, hk => by
    have e1 : b = [] := hk
    obtain ⟨k, r, rfl, _⟩ := hq
    subst e1
    exact (decide_eq_false fun z => by cases z).symm
  | d :: ds, e :: es, a, b, hq, hk => by
    obtain ⟨k1, r1, rfl, h1, t1⟩ := hq
    obtain ⟨k2, r2, rfl, h2, t2⟩ := hk
    unfold dSames
    rw [dSameI h1 h2]
    by_cases z : k1 = k2
    · rw [decide_eq_true z]
      show dSames ds es = _
      rw [dSamesI t1 t2]
      subst z
      exact dec_iff ⟨fun z => by rw [z], fun z => by cases z; rfl⟩
    · rw [decide_eq_false z]
      exact (decide_eq_false fun y => by cases y; exact z rfl).symm
theorem kEqT_ok {q k : D} {a b : List L2.Key} (hq : KeyT q a) (hk : KeyT k b) : kEq q k = decide (a = b) := by
  cases q <;> first | exact hq.elim | skip
  cases k <;> first | exact hk.elim | skip
  show dSames _ _ = _
  exact dSamesI hq hk
section
variable {K : PySem.W.Frag} {M : Nm} {ca : Nat → Addr} {w w' w1 w2 : Wd} {env env' env1 env2 : Env} {σ : L2.St} {h h' h1 h2 : Hs} {Q : VK} {E : XK} {d u v : D} {ds : List D} {a b : V} {vs : List V} {fr : Bool}
/-- a value as a key -/
theorem key1_ok (hk : key1 d = true) (r : Vw K w d a) : ∃ k, KeyR d k ∧ a = kV k := by
  cases d with
  | int i => exact ⟨.inl i, rfl, r.int⟩
  | str s => exact ⟨.inr ⟨s.toArray⟩, rfl, by unfold Vw Rep at r; exact r⟩
  | rep x => unfold Vw Rep at r; obtain ⟨ro, p, e, rfl⟩ := r; exact ⟨.inr (PyData.shown p), ⟨ro, p, e, rfl⟩, rfl⟩
  | _ => cases hk
theorem key2_ok (hk : key2 d = true) (r : Rep K w d a) : ∃ k, KeyI d k ∧ a = kV k := by
  cases d with
  | int i => exact ⟨.inl i, rfl, by unfold Rep at r; exact r⟩
  | str s => exact ⟨.inr ⟨s.toArray⟩, rfl, by unfold Rep at r; exact r⟩
  | _ => cases hk
theorem keys2_ok : ∀ {ds : List D} {vs : List V}, allF key2 ds = true → Reps K w ds vs → ∃ ks, KeysR ds ks ∧ vs = ks.map kV
  | [], vs, _, r => by unfold Reps at r; subst r; exact ⟨[], rfl, rfl⟩
  | d :: ds, vs, hk, r => by
    unfold Reps at r
    obtain ⟨v, q, rfl, r1, r2⟩ := r
    have hd := allF_all hk d (List.mem_cons_self ..)
    have hs : allF key2 ds = true := by unfold allF at hk; rw [hd] at hk; exact hk
    obtain ⟨k, e1, rfl⟩ := key2_ok hd r1
    obtain ⟨ks, e2, rfl⟩ := keys2_ok hs r2
    exact ⟨k :: ks, ⟨k, ks, rfl, e1, e2⟩, rfl⟩
theorem keyT_ok (hk : keyOk true d = true) (r : Vw K w d a) : ∃ p ks, KeyT d ks ∧ a = .ref p ∧ SqT K w.H p (ks.map kV) := by
  cases d with
  | tup ds =>
    obtain ⟨p, vs, e, q, t⟩ := r.tup
    obtain ⟨ks, e2, rfl⟩ := keys2_ok hk t
    exact ⟨p, ks, e2, e, q⟩
  | _ => cases hk
theorem dGetK {key : L2.Key} (hk : KeyR d key) : ∀ {kvs : List (D × D)} {ks : List (L2.Key × V)}, KVR K w kvs ks →
    (match dGet d kvs with | some z => ∃ v, valV ks key = some v ∧ Rep K w z v | none => valV ks key = none)
  | _, _, .nil => rfl
  | (q, x) :: kvs, p :: ks, .cons r t => by
    unfold dGet
    rw [kEq_ok r.1 hk]
    by_cases z : p.1 = key
    · rw [decide_eq_true z]
      exact ⟨p.2, valV_pos z, r.2⟩
    · rw [decide_eq_false z]
      rw [valV_neg z]
      exact dGetK hk t
theorem dGetT {key : List L2.Key} (hk : KeyT d key) : ∀ {kvs : List (D × D)} {xs : List (List L2.Key × Addr × Value)}, KXR K w kvs xs →
    (match dGet d kvs with | some z => ∃ p v, atKey xs key = some p ∧ RelV v p.2 ∧ Rep K w z v | none => atKey xs key = none)
  | _, _, .nil => rfl
  | (q, x) :: kvs, p :: ks, .cons r t => by
    unfold dGet
    rw [kEqT_ok r.1 hk]
    by_cases z : p.1 = key
    · rw [decide_eq_true z]
      obtain ⟨v, r1, r2⟩ := r.2.2
      exact ⟨p.2, v, by simp [atKey, List.find?_cons, z], r1, r2⟩
    · rw [decide_eq_false z]
      have e : atKey (p :: ks) key = atKey ks key := by simp [atKey, List.find?_cons, z]
      rw [e]
      exact dGetT hk t
end
end Ev
/-! Soundness of the small interpreter, 12: comparisons. -/
namespace Ev
open PySem PySem.Spec PyProof.Rows L2
section
variable {X : Cx} {pins : List (Addr × Obj)} {σ : L2.St} {H : Hp} {s : Shared}
/-- keys of a dict whose keys are tuples stand -/
def KsAt (K : PySem.W.Frag) (H : Hp) (xs : List (List L2.Key × Addr × Value)) : Prop := ∀ q ∈ xs, SqT K H q.2.1 (q.1.map kV)
theorem keyT_is (I : Inv X pins σ H s) {p : Addr} {ks : List L2.Key} (h : SqT X.K H p (ks.map kV)) : (tupleKind (mixKind X.prog X.w)).is s.heap ks p := by
  obtain ⟨its, r, ⟨o, ho, hc, n, hd⟩, hs⟩ := I.tuple h
  exact ⟨o, its.toArray, n, ho, hc, hd, by simpa using items_are r⟩
theorem dx_of (I : Inv X pins σ H s) {a : Addr} {xs : List (List L2.Key × Addr × Value)} (e : H a = some (.ext (dxP X.prog X.w a xs))) (hk : KsAt X.K H xs) :
    xs.length ≤ sizeLine ∧ (a == sysModules) = false ∧ s.heap.DictOfH (tupleKind (mixKind X.prog X.w)) a xs := by
  obtain ⟨⟨z, y, o, es, ep, h1, h2, h3, h4, h5⟩, _, _⟩ := I.hok a _ e
  exact ⟨z, y, o, es, ep, h1, h2, h3, h4, fun q hq => keyT_is I (hk q hq), h5⟩
end
section
variable {X : Cx}
def rInDT (K : PySem.W.Frag) (c : Bool) : R2 := fun x y H Q => ∃ d ds, Dp K H x d ∧ Dp K H y (.tuple ds) ∧ SeqAt.shaped d = true ∧ SeqAt.shaped (.tuple ds) = true ∧ Q (.bl (c ^^ (ds.any fun z => PyData.eqv z d))) H
theorem shT {ds : List PyData} (h : SeqAt.shaped (.tuple ds) = true) : PyData.canLayAll0 ds = true := by
  have := SeqAt.canLay_of_shaped h
  unfold PyData.canLay0 at this
  exact this
theorem op_inDT (hu : X.A.units + 65 < cLine) : OpR X (compareOp .In) (rInDT X.K false) := by
  intro pins s σ H x y v u Q I rx ry h
  obtain ⟨d, ds, hd, he, sd, se, q⟩ := h
  obtain ⟨as, r1⟩ := Dp.reads I d x v hd rx
  obtain ⟨bs, r2⟩ := Dp.reads I (.tuple ds) y u he ry
  rw [Bool.false_xor] at q
  exact SeqAt.in_tuple_reads r2 r1 (shT se) (SeqAt.canLay_of_shaped sd) (room_in_shaped sd hu) ⟨.bl _, H, I, rfl, q⟩
theorem op_notInDT (hu : X.A.units + 65 < cLine) : OpR X (compareOp .NotIn) (rInDT X.K true) := by
  intro pins s σ H x y v u Q I rx ry h
  obtain ⟨d, ds, hd, he, sd, se, q⟩ := h
  obtain ⟨as, r1⟩ := Dp.reads I d x v hd rx
  obtain ⟨bs, r2⟩ := Dp.reads I (.tuple ds) y u he ry
  rw [Bool.true_xor] at q
  exact SeqAt.notIn_tuple_reads r2 r1 (shT se) (SeqAt.canLay_of_shaped sd) (room_in_shaped sd hu) ⟨.bl _, H, I, rfl, q⟩
/-- what a dict holds at a key -/
inductive DAt (P : Program) (W : World) (K : PySem.W.Frag) (H : Hp) (a : Addr) (y : V) : Option V → Prop
  | old {o : Option V} : DGet H a y o → DAt P W K H a y o
  | non {p : Addr} {xs : List (List L2.Key × Addr × Value)} {ks : List L2.Key} : H a = some (.ext (dxP P W a xs)) → KsAt K H xs → y = .ref p → SqT K H p (ks.map kV) → atKey xs ks = none → DAt P W K H a y none
  | som {p : Addr} {xs : List (List L2.Key × Addr × Value)} {ks : List L2.Key} {q : Addr × Value} {v : V} : H a = some (.ext (dxP P W a xs)) → KsAt K H xs → y = .ref p → SqT K H p (ks.map kV) → atKey xs ks = some q → RelV v q.2 → DAt P W K H a y (some v)
def rDIn (P : Program) (W : World) (K : PySem.W.Frag) (c : Bool) : R2 := fun x y H Q => ∃ a o, y = .ref a ∧ DAt P W K H a x o ∧ Q (.bl (c ^^ o.isSome)) H
theorem op_dIn (hu : X.A.units + 1 < cLine) : OpR X (compareOp .In) (rDIn X.prog X.w X.K false) := by
  intro pins s σ H x y v u Q I rx ry h
  obtain ⟨a, o, rfl, g, q⟩ := h
  cases ry
  rw [Bool.false_xor] at q
  cases g with
  | old g => exact d_in hu I g rx fun s3 I3 => ⟨.bl o.isSome, H, I3, rfl, q⟩
  | non e ke ey hp l =>
    subst ey
    cases rx
    obtain ⟨z, hd, dd⟩ := dx_of I e ke
    refine wpAny_in_heap (tupleKind_room_in1 hu) (keyT_is I hp) hd dd ?_
    rw [l]
    exact ⟨.bl false, H, I.tok _, rfl, q⟩
  | som e ke ey hp l _ =>
    subst ey
    cases rx
    obtain ⟨z, hd, dd⟩ := dx_of I e ke
    refine wpAny_in_heap (tupleKind_room_in1 hu) (keyT_is I hp) hd dd ?_
    rw [l]
    exact ⟨.bl true, H, I.tok _, rfl, q⟩
theorem op_dNotIn (hu : X.A.units + 1 < cLine) : OpR X (compareOp .NotIn) (rDIn X.prog X.w X.K true) := by
  intro pins s σ H x y v u Q I rx ry h
  obtain ⟨a, o, rfl, g, q⟩ := h
  cases ry
  rw [Bool.true_xor] at q
  cases g with
  | old g => exact d_notIn hu I g rx fun s3 I3 => ⟨.bl (!o.isSome), H, I3, rfl, q⟩
  | non e ke ey hp l =>
    subst ey
    cases rx
    obtain ⟨z, hd, dd⟩ := dx_of I e ke
    refine wpAny_notIn_heap (tupleKind_room_in1 hu) (keyT_is I hp) hd dd ?_
    rw [l]
    exact ⟨.bl true, H, I.tok _, rfl, q⟩
  | som e ke ey hp l _ =>
    subst ey
    cases rx
    obtain ⟨z, hd, dd⟩ := dx_of I e ke
    refine wpAny_notIn_heap (tupleKind_room_in1 hu) (keyT_is I hp) hd dd ?_
    rw [l]
    exact ⟨.bl false, H, I.tok _, rfl, q⟩
theorem d_getW {a : Addr} {y v : V} {u : Value} {A : Around} {E : Value → Shared → Prop} {pins : List (Addr × Obj)} {σ : L2.St} {H : Hp} {s : Shared} {Q : Value → Shared → Prop} (hu : A.units + 1 < cLine) (I : Inv X pins σ H s)
    (g : DAt X.prog X.w X.K H a y (some v)) (ry : RelV y u) (h : ∀ w' s', Inv X pins σ H s' → RelV v w' → Q w' s') : wpAny (model X.prog X.w) A (getItem (.ref a) u) Q E s := by
  cases g with
  | old g => exact d_getItem hu I g ry h
  | som e ke ey hp l r =>
    subst ey
    cases ry
    obtain ⟨z, hd, dd⟩ := dx_of I e ke
    exact wpAny_getItem_heap (tupleKind_room_in1 hu) (keyT_is I hp) dd l (h _ _ (I.tok _) r)
/-- the rules of the comparisons -/
def rCmp (P : Program) (W : World) (K : PySem.W.Frag) : CmpOp → R2
  | .Eq => rEqD K
  | .NotEq => rNeD K
  | .Lt => rI0 fun i j => .bl (decide (i < j))
  | .LtE => rI0 fun i j => .bl (decide (i ≤ j))
  | .Gt => rI0 fun i j => .bl (decide (j < i))
  | .GtE => rI0 fun i j => .bl (decide (j ≤ i))
  | .Is => fun x y H Q => y = .non ∧ Q (.bl (decide (x = .non))) H
  | .IsNot => fun x y H Q => y = .non ∧ Q (.bl (!decide (x = .non))) H
  | .In => fun x y H Q => rInD K x y H Q ∨ (rInDT K false x y H Q ∨ rDIn P W K false x y H Q)
  | .NotIn => fun x y H Q => rNotInD K x y H Q ∨ (rInDT K true x y H Q ∨ rDIn P W K true x y H Q)
theorem op_cmp (hu : X.A.units + 65 < cLine) (o : CmpOp) : OpR X (compareOp o) (rCmp X.prog X.w X.K o) := by
  cases o with
  | Eq => exact op_eqD (by omega)
  | NotEq => exact op_neD (by omega)
  | Lt => exact op_lt
  | LtE => exact op_le
  | Gt => exact op_gt
  | GtE => exact op_ge
  | Is => exact op_isN
  | IsNot => exact op_notN
  | In => exact orR (op_inD hu) (orR (op_inDT hu) (op_dIn (by omega)))
  | NotIn => exact orR (op_notInD hu) (orR (op_notInDT hu) (op_dNotIn (by omega)))
end
section
variable {K : PySem.W.Frag} {M : Nm} {ca : Nat → Addr} {w w' w1 w2 : Wd} {env env' env1 env2 : Env} {σ : L2.St} {h h' h1 h2 : Hs} {Q : VK} {E : XK} {d u v : D} {ds : List D} {a b : V} {vs : List V} {fr : Bool}
theorem isN_ok {c : Bool} (e : isN u = some c) (r : Vw K w u a) : decide (a = .non) = c := by
  cases u with
  | non => cases e; unfold Vw Rep at r; subst r; exact decide_eq_true rfl
  | bl i => cases e; rw [r.bl]; exact decide_eq_false fun z => by cases z
  | int i => cases e; rw [r.int]; exact decide_eq_false fun z => by cases z
  | str i => cases e; unfold Vw Rep at r; subst r; exact decide_eq_false fun z => by cases z
  | rep i => cases e; unfold Vw Rep at r; obtain ⟨_, p, _, rfl⟩ := r; exact decide_eq_false fun z => by cases z
  | tup i => cases e; obtain ⟨p, _, rfl, _⟩ := r.tup; exact decide_eq_false fun z => by cases z
  | lst i => cases e; obtain ⟨p, _, rfl, _⟩ := r; exact decide_eq_false fun z => by cases z
  | ref i => cases e; unfold Vw Rep at r; obtain ⟨p, _, rfl⟩ := r; exact decide_eq_false fun z => by cases z
theorem notB_eq (c : Bool) : notB c = !c := by cases c <;> rfl
theorem cmpV_ok {P : Program} {W : World} {o : CmpOp} {c : Bool} (e : cmpV o u v = some c) (ru : Vw K w u a) (rv : Vw K w v b) (q : Q (.bl c) w.H) : rCmp P W K o a b w.H Q := by
  unfold cmpV at e
  cases o with
  | Eq =>
    obtain ⟨p1, p2, d1, d2, s1, s2, eq⟩ := eqQ_ok e ru rv
    exact ⟨p1, p2, d1, d2, s1, s2, by rw [eq]; exact q⟩
  | NotEq =>
    cases e1 : eqQ u v with
    | none => simp only [e1] at e; cases e
    | some c1 =>
      simp only [e1] at e; cases e
      obtain ⟨p1, p2, d1, d2, s1, s2, eq⟩ := eqQ_ok e1 ru rv
      exact ⟨p1, p2, d1, d2, s1, s2, by rw [eq, ← notB_eq]; exact q⟩
  | Lt =>
    cases u <;> first | (cases e; done) | (cases v <;> first | (cases e; done) | skip)
    cases e
    exact ⟨_, _, ru.int, rv.int, by rw [iLt_eq] at q; exact q⟩
  | LtE =>
    cases u <;> first | (cases e; done) | (cases v <;> first | (cases e; done) | skip)
    cases e
    exact ⟨_, _, ru.int, rv.int, by rw [iLe_eq] at q; exact q⟩
  | Gt =>
    cases u <;> first | (cases e; done) | (cases v <;> first | (cases e; done) | skip)
    cases e
    exact ⟨_, _, ru.int, rv.int, by rw [iLt_eq] at q; exact q⟩
  | GtE =>
    cases u <;> first | (cases e; done) | (cases v <;> first | (cases e; done) | skip)
    cases e
    exact ⟨_, _, ru.int, rv.int, by rw [iLe_eq] at q; exact q⟩
  | Is =>
    cases v <;> first | (cases e; done) | skip
    exact ⟨by unfold Vw Rep at rv; exact rv, by rw [isN_ok e ru]; exact q⟩
  | IsNot =>
    cases v <;> first | (cases e; done) | skip
    cases e1 : isN u with
    | none => simp only [e1] at e; cases e
    | some c1 =>
      simp only [e1] at e; cases e
      exact ⟨by unfold Vw Rep at rv; exact rv, by rw [isN_ok e1 ru, ← notB_eq]; exact q⟩
  | In =>
    cases v <;> first | (cases e; done) | skip
    · obtain ⟨p, us, rfl, s1, t⟩ := rv.tup
      obtain ⟨p1, qs, d1, d2, s2, s3, eq⟩ := inQ_ok e ru t
      exact .inr (.inl ⟨p1, qs, d1, .tup s1 d2, s2, s3, by rw [eq, Bool.false_xor]; exact q⟩)
    · obtain ⟨p, us, rfl, s1, t⟩ := rv
      obtain ⟨p1, qs, d1, d2, s2, s3, eq⟩ := inQ_ok e ru t
      exact .inl ⟨p1, qs, d1, .lst (.inl s1) d2, s2, s3, by rw [eq]; exact q⟩
  | NotIn =>
    cases v <;> first | (cases e; done) | skip
    · rename_i ys
      obtain ⟨p, us, rfl, s1, t⟩ := rv.tup
      cases e1 : inQ u ys with
      | none => simp only [e1] at e; cases e
      | some c1 =>
        simp only [e1] at e; cases e
        obtain ⟨p1, qs, d1, d2, s2, s3, eq⟩ := inQ_ok e1 ru t
        exact .inr (.inl ⟨p1, qs, d1, .tup s1 d2, s2, s3, by rw [eq, Bool.true_xor, ← notB_eq]; exact q⟩)
    · rename_i ys
      obtain ⟨p, us, rfl, s1, t⟩ := rv
      cases e1 : inQ u ys with
      | none => simp only [e1] at e; cases e
      | some c1 =>
        simp only [e1] at e; cases e
        obtain ⟨p1, qs, d1, d2, s2, s3, eq⟩ := inQ_ok e1 ru t
        exact .inl ⟨p1, qs, d1, .lst (.inl s1) d2, s2, s3, by rw [eq, ← notB_eq]; exact q⟩
/-- what the small heap's dict holds -/
theorem dAt_ok (x : WdOk K M ca w h) {i : Nat} {o : VO} (eo : getH h i = some o) (rb : Vw K w (.ref i) b) (ru : Vw K w u a) {kvs : List (D × D)}
    (hk : (o = .dK kvs ∧ key1 u = true) ∨ (o = .dT kvs ∧ keyOk true u = true)) :
    ∃ p, b = .ref p ∧ (match dGet u kvs with | some z => ∃ v, DAt M.prog M.wld K w.H p a (some v) ∧ Rep K w z v | none => DAt M.prog M.wld K w.H p a none) := by
  unfold Vw Rep at rb
  obtain ⟨p, ep, rfl⟩ := rb
  obtain ⟨p2, ho, e1, e2, r⟩ := x.rh.ob i o eo
  rw [ep] at e1; cases e1
  refine ⟨p, rfl, ?_⟩
  rcases hk with ⟨rfl, hk⟩ | ⟨rfl, hk⟩
  · obtain ⟨ks, rfl, r⟩ := r
    obtain ⟨key, k1, rfl⟩ := key1_ok hk ru
    have := dGetK k1 r
    cases e : dGet u kvs with
    | none => rw [e] at this; have g := DGet.k (k := key) e2; rw [this] at g; exact .old g
    | some z =>
      rw [e] at this
      obtain ⟨v, e3, r3⟩ := this
      have g := DGet.k (k := key) e2
      rw [e3] at g
      exact ⟨v, .old g, r3⟩
  · obtain ⟨xs, rfl, r⟩ := r
    obtain ⟨q, ks, k1, rfl, sq⟩ := keyT_ok hk ru
    have := dGetT k1 r
    have ka : KsAt K w.H xs := by
      have all : ∀ {kvs : List (D × D)} {xs : List (List L2.Key × Addr × Value)}, KXR K w kvs xs → KsAt K w.H xs := by
        intro kvs xs r
        induction r with
        | nil => exact fun _ z => nomatch z
        | cons r t ih =>
          intro q hq
          rcases List.mem_cons.mp hq with rfl | hq
          · exact r.2.1
          · exact ih q hq
      exact all r
    cases e : dGet u kvs with
    | none => rw [e] at this; exact .non e2 ka rfl sq this
    | some z =>
      rw [e] at this
      obtain ⟨pp, v, e3, r3, r4⟩ := this
      exact ⟨v, .som e2 ka rfl sq e3 r3, r4⟩
end
section
variable {X : Cx} {M : Nm} {T : Tab} {fa ca : Nat → Addr} {fds : Nat → FuncData} {pss : Nat → List Str} {N : List Str} {sc : Scope} {k n : Nat} {E : XK} {r : Self}
variable {w w' w1 w2 : Wd} {env env' env1 env2 : Env} {σ : L2.St} {h h' h1 h2 : Hs} {Q : VK} {d : D} {ds : List D} {v : V} {vs : List V} {O : Addr → Prop}
theorem XC.un (C : XC X M T fa ca fds pss N sc k E) : X.A.units + 200 < cLine := by
  have := C.room.un
  omega
theorem bm_false (o : CmpOp) (b : Ex) : behindInMarks o (dec M N b) = false := by cases b <;> rfl
/-- the comparison's continuation in the interpreter -/
def cmpC (o : CmpOp) (u v : D) (env2 : Env) (h2 : Hs) : Res := match v with
        | .ref i => (match getH h2 i with
          | some (.dK kvs) => (match keyOk false u, o with
            | true, .In => .ok (.bl (dGet u kvs).isSome) false env2 h2
            | true, .NotIn => .ok (.bl (notB (dGet u kvs).isSome)) false env2 h2
            | _, _ => .no)
          | some (.dT kvs) => (match keyOk true u, o with
            | true, .In => .ok (.bl (dGet u kvs).isSome) false env2 h2
            | true, .NotIn => .ok (.bl (notB (dGet u kvs).isSome)) false env2 h2
            | _, _ => .no)
          | _ => .no)
        | v => match cmpV o u v with | some c => .ok (.bl c) false env2 h2 | none => .no
/-- a comparison of two values -/
theorem cmpC_ok (C : XC X M T fa ca fds pss N sc k E) {o : CmpOp} {u v : D} {a b : V} (x : SI X.K M ca env σ h w) (ru : Vw X.K w u a) (rv : Vw X.K w v b) :
    (cmpC o u v env h = .no) ∨ ∃ c, cmpC o u v env h = .ok (.bl c) false env h ∧ ∀ Q : VK, Q (.bl c) w.H → rCmp X.prog X.w X.K o a b w.H Q := by
  have vals : (match cmpV o u v with | some c => Res.ok (.bl c) false env h | none => .no) = .no ∨ ∃ c, (match cmpV o u v with | some c => Res.ok (.bl c) false env h | none => .no) = .ok (.bl c) false env h ∧ ∀ Q : VK, Q (.bl c) w.H → rCmp X.prog X.w X.K o a b w.H Q := by
    cases e : cmpV o u v with
    | none => exact .inl rfl
    | some c => exact .inr ⟨c, rfl, fun Q q => cmpV_ok e ru rv q⟩
  cases v with
  | ref i =>
    have dict : ∀ (ob : VO) (kvs : List (D × D)), getH h i = some ob → ((ob = .dK kvs ∧ key1 u = true) ∨ (ob = .dT kvs ∧ keyOk true u = true)) →
        (∀ Q : VK, Q (.bl (dGet u kvs).isSome) w.H → rDIn X.prog X.w X.K false a b w.H Q) ∧ (∀ Q : VK, Q (.bl (notB (dGet u kvs).isSome)) w.H → rDIn X.prog X.w X.K true a b w.H Q) := fun ob kvs eo hk => by
      obtain ⟨p, rfl, g⟩ := dAt_ok x.ok eo rv ru hk
      rw [C.hp, C.hw]
      cases e : dGet u kvs with
      | none => rw [e] at g; exact ⟨fun Q q => ⟨p, none, rfl, g, q⟩, fun Q q => ⟨p, none, rfl, g, q⟩⟩
      | some z => rw [e] at g; obtain ⟨v, g, _⟩ := g; exact ⟨fun Q q => ⟨p, some v, rfl, g, q⟩, fun Q q => ⟨p, some v, rfl, g, q⟩⟩
    unfold cmpC
    cases eo : getH h i with
    | none => exact .inl (by simp only [eo])
    | some ob => cases ob with
      | ins c fs => exact .inl (by simp only [eo])
      | dK kvs =>
        cases hk : keyOk false u with
        | false => exact .inl (by simp only [eo, hk])
        | true =>
          simp only [eo, hk]
          have dd := dict (.dK kvs) kvs eo (.inl ⟨rfl, hk⟩)
          cases o <;> first
            | exact .inl rfl
            | exact .inr ⟨_, rfl, fun Q q => .inr (.inr (dd.1 Q q))⟩
            | exact .inr ⟨_, rfl, fun Q q => .inr (.inr (dd.2 Q q))⟩
      | dT kvs =>
        cases hk : keyOk true u with
        | false => exact .inl (by simp only [eo, hk])
        | true =>
          simp only [eo, hk]
          have dd := dict (.dT kvs) kvs eo (.inr ⟨rfl, hk⟩)
          cases o <;> first
            | exact .inl rfl
            | exact .inr ⟨_, rfl, fun Q q => .inr (.inr (dd.1 Q q))⟩
            | exact .inr ⟨_, rfl, fun Q q => .inr (.inr (dd.2 Q q))⟩
  | _ => exact vals
theorem n_cmp (C : XC X M T fa ca fds pss N sc k E) (IH : ∀ x, wfE M N sc x = true → Okx X M ca N k E r x) {o : CmpOp} {a b : Ex} {p : Pos} (wf : wfE M N sc (.cmp o a b p) = true) : Okx X M ca N k E (F T r) (.cmp o a b p) := by
  have wf2 : (wfE M N sc a && wfE M N sc b) = true := by unfold wfE at wf; exact wf
  obtain ⟨wa, wb⟩ := ba wf2
  refine PE.imp (pe_cmpR (op_cmp (by have := C.un; omega) o) (pO C IH wa) (pO C IH wb) (bm_false o b)) fun σ H Q z => ?_
  obtain ⟨w, env, h, rfl, x, g⟩ := z
  have g : pE X.K M ca E w env σ Q (two r k env h a b (cmpC o)) := g
  refine two_ok x g fun u v env2 h2 w2 x1 y1 s l y ru rv g2 => ?_
  rcases cmpC_ok C y ru rv with e | ⟨c, e, q⟩
  · rw [e] at g2; exact g2.elim
  · rw [e] at g2
    exact q Q (g2 w2 (.bl c) Stp.refl ELe.refl y (show Rep X.K w2 (.bl c) (.bl c) by unfold Rep; rfl))
end
end Ev
/-! Soundness of the small interpreter, 13: tests, and, or, not, chains. -/
namespace Ev
open PySem PySem.Spec PyProof.Rows L2
section
variable {X : Cx} {M : Nm} {T : Tab} {fa ca : Nat → Addr} {fds : Nat → FuncData} {pss : Nat → List Str} {N : List Str} {sc : Scope} {k n : Nat} {E : XK} {r : Self}
variable {w w' w1 w2 : Wd} {env env' env1 env2 : Env} {σ : L2.St} {h h' h1 h2 : Hs} {Q : VK} {d : D} {ds : List D} {v : V} {vs : List V} {O : Addr → Prop}
/-- a name, read at this level -/
def VarOk (r : Self) : Prop := ∀ k env h i p, r.e k env h (.var i p) = .no ∨ r.e k env h (.var i p) = (match getS env i with
      | .v d => .ok d false env h
      | .l ds => .ok (.lst ds) false (setS (.v (.lst ds)) env i) h
      | _ => .no)
theorem varOk (T : Tab) : ∀ n, VarOk (ev T n)
  | 0 => fun _ _ _ _ _ => .inl rfl
  | n + 1 => fun _ _ _ _ _ => .inr rfl
/-- the claim about a test -/
abbrev Okt (X : Cx) (M : Nm) (ca : Nat → Addr) (N : List Str) (k : Nat) (E : XK) (r : Self) (x : Ex) : Prop := PT X (dec M N x) (tT X.K M ca E fun env h => eB r k env h x)
/-- a test whose value is reckoned in full, told as one that is looked at -/
theorem pT_look {K : PySem.W.Frag} (hv : VarOk r) (x : SI K M ca env σ h w) {y : Ex} {Q : Bool → Hp → Prop} (g : pT K M ca E w env σ Q (r.e k env h y)) : pT K M ca E w env σ Q (eB r k env h y) := by
  by_cases z : isVar y = true
  · cases y <;> first | cases z | skip
    rename_i i p
    rcases hv k env h i p with e | e
    · rw [e] at g; exact g.elim
    · rw [e] at g
      unfold eB Ev.look
      cases hs : getS env i with
      | u => simp only [hs] at g; exact g.elim
      | k ds => simp only [hs] at g; exact g.elim
      | v d => simp only [hs] at g ⊢; exact g
      | l ds =>
        simp only [hs] at g ⊢
        obtain ⟨c, tc, g⟩ := g
        refine ⟨c, tc, fun w' s l y => ?_⟩
        obtain ⟨w2, v, eH, _, _, s2, l2, y2, _⟩ := freeze y hs
        rw [← eH]
        exact g w2 (x.trans s l s2) (l.trans l2) y2
  · rw [eB_of (notVar z)]; exact g
theorem pT.step {K : PySem.W.Frag} {Q : Bool → Hp → Prop} (x : SI K M ca env σ h w) (s : Stp (Own env σ) w w1) (l : ELe env env1) {r : Res} (g : pT K M ca E w env σ Q r) : pT K M ca E w1 env1 σ Q r := by
  cases r with
  | ok d fr env' h' => obtain ⟨c, e, g⟩ := g; exact ⟨c, e, fun w' t m y => g w' (x.trans s l t) (l.trans m) y⟩
  | ex c d h' => exact fun w' dx v t ok ed r => g w' dx v (x.trans s l t) ok ed r
  | no => exact g
theorem okt_full (hv : VarOk r) {y : Ex} (p : Okt X M ca N k E r y) : PT X (dec M N y) (tT X.K M ca E fun env h => r.e k env h y) :=
  PT.imp p fun σ H Q z => by
    obtain ⟨w, env, h, rfl, x, g⟩ := z
    exact ⟨w, env, h, rfl, x, pT_look hv x g⟩
/-- an expression without a test's own form -/
theorem okt_plain (C : XC X M T fa ca fds pss N sc k E) (IH : ∀ x, wfE M N sc x = true → Okx X M ca N k E r x) {y : Ex} (wf : wfE M N sc y = true)
    (he : ∀ whole, isTrue (dec M N y) X.env whole = (do let v ← whole; standAt (dec M N y).pos; holding [v] (truthy v))) : Okt X M ca N k E r y :=
  PT.imp (pt_truth (pO C IH wf) he) fun σ H Q z => by
    obtain ⟨w, env, h, rfl, x, g⟩ := z
    have g : pT X.K M ca E w env σ Q (eB r k env h y) := g
    refine opd_at x (fun e => by rw [e] at g; exact g) (fun c d h' e => by rw [e] at g; exact g) fun d fr env1 h1 w1 v e s l y1 rv _ => ?_
    rw [e] at g
    obtain ⟨c, tc, g⟩ := g
    exact ⟨c, truth_ok tc rv, g w1 s l y1⟩
/-- and, as tests -/
theorem and_pw (hv : VarOk r) (IHT : ∀ x, wfE M N sc x = true → Okt X M ca N k E r x) {p : Pos} : ∀ (y : Ex) (xs : List Ex), wfEs M N sc (y :: xs) = true →
    PW X (.BoolOp .And (decs M N (y :: xs)) p) (tT X.K M ca E fun env h => andV r k env h (y :: xs))
  | y, [], wf => by
    have wy : wfE M N sc y = true := by unfold wfEs at wf; exact (ba wf).1
    have := pw_and1 (pos := p) (okt_full hv (IHT y wy))
    exact ⟨fun wh pins s σ H Q I z => this.run wh pins s σ H Q I z⟩
  | y, z :: xs, wf => by
    have wy : wfE M N sc y = true := by unfold wfEs at wf; exact (ba wf).1
    have ws : wfEs M N sc (z :: xs) = true := by unfold wfEs at wf; exact (ba wf).2
    have := pw_and (pos := p) (okt_full hv (IHT y wy)) (and_pw hv IHT z xs ws)
    refine ⟨fun wh pins s σ H Q I q => this.run wh pins s σ H Q I ?_⟩
    obtain ⟨w, env, h, rfl, x, g⟩ := q
    have g : pT X.K M ca E w env σ Q (match r.e k env h y with
    | .ok (.bl true) _ env1 h1 => andV r k env1 h1 (z :: xs)
    | .ok (.bl false) _ env1 h1 => .ok (.bl false) false env1 h1
    | .ex c d h => .ex c d h
    | _ => .no) := g
    refine ⟨w, env, h, rfl, x, ?_⟩
    show pT X.K M ca E w env σ _ (r.e k env h y)
    cases e : r.e k env h y with
    | no => simp only [e] at g; exact g
    | ex c d h' => simp only [e] at g; exact g
    | ok d fr env1 h1 =>
      cases d <;> simp only [e] at g <;> first | exact g.elim | skip
      rename_i b
      refine ⟨b, rfl, fun w1 s l y1 => ?_⟩
      cases b with
      | true =>
        simp only [e] at g
        rw [if_pos rfl]
        exact ⟨w1, env1, h1, rfl, y1, g.step x s l⟩
      | false =>
        simp only [e] at g
        rw [if_neg (by decide)]
        obtain ⟨c, tc, g⟩ := g
        have ec : false = c := Option.some.inj tc
        subst ec
        exact g w1 s l y1
theorem or_pw (hv : VarOk r) (IHT : ∀ x, wfE M N sc x = true → Okt X M ca N k E r x) {p : Pos} : ∀ (y : Ex) (xs : List Ex), wfEs M N sc (y :: xs) = true →
    PW X (.BoolOp .Or (decs M N (y :: xs)) p) (tT X.K M ca E fun env h => orV r k env h (y :: xs))
  | y, [], wf => by
    have wy : wfE M N sc y = true := by unfold wfEs at wf; exact (ba wf).1
    have := pw_or1 (pos := p) (okt_full hv (IHT y wy))
    exact ⟨fun wh pins s σ H Q I z => this.run wh pins s σ H Q I z⟩
  | y, z :: xs, wf => by
    have wy : wfE M N sc y = true := by unfold wfEs at wf; exact (ba wf).1
    have ws : wfEs M N sc (z :: xs) = true := by unfold wfEs at wf; exact (ba wf).2
    have := pw_or (pos := p) (okt_full hv (IHT y wy)) (or_pw hv IHT z xs ws)
    refine ⟨fun wh pins s σ H Q I q => this.run wh pins s σ H Q I ?_⟩
    obtain ⟨w, env, h, rfl, x, g⟩ := q
    have g : pT X.K M ca E w env σ Q (match r.e k env h y with
    | .ok (.bl false) _ env1 h1 => orV r k env1 h1 (z :: xs)
    | .ok (.bl true) _ env1 h1 => .ok (.bl true) false env1 h1
    | .ex c d h => .ex c d h
    | _ => .no) := g
    refine ⟨w, env, h, rfl, x, ?_⟩
    show pT X.K M ca E w env σ _ (r.e k env h y)
    cases e : r.e k env h y with
    | no => simp only [e] at g; exact g
    | ex c d h' => simp only [e] at g; exact g
    | ok d fr env1 h1 =>
      cases d <;> simp only [e] at g <;> first | exact g.elim | skip
      rename_i b
      refine ⟨b, rfl, fun w1 s l y1 => ?_⟩
      cases b with
      | false =>
        simp only [e] at g
        rw [if_neg (by decide)]
        exact ⟨w1, env1, h1, rfl, y1, g.step x s l⟩
      | true =>
        simp only [e] at g
        rw [if_pos rfl]
        obtain ⟨c, tc, g⟩ := g
        have ec : true = c := Option.some.inj tc
        subst ec
        exact g w1 s l y1
/-- and, or as values -/
theorem and_pe (IH : ∀ x, wfE M N sc x = true → Okx X M ca N k E r x) {p : Pos} : ∀ (y : Ex) (xs : List Ex), wfEs M N sc (y :: xs) = true →
    PE X (.BoolOp .And (decs M N (y :: xs)) p) (tE X.K M ca E fun env h => andV r k env h (y :: xs))
  | y, [], wf => by
    have wy : wfE M N sc y = true := by unfold wfEs at wf; exact (ba wf).1
    exact pe_one (IH y wy)
  | y, z :: xs, wf => by
    have wy : wfE M N sc y = true := by unfold wfEs at wf; exact (ba wf).1
    have ws : wfEs M N sc (z :: xs) = true := by unfold wfEs at wf; exact (ba wf).2
    refine PE.imp (pe_and (pos := p) (IH y wy) (and_pe IH z xs ws)) fun σ H Q q => ?_
    obtain ⟨w, env, h, rfl, x, g⟩ := q
    have g : pE X.K M ca E w env σ Q (match r.e k env h y with
    | .ok (.bl true) _ env1 h1 => andV r k env1 h1 (z :: xs)
    | .ok (.bl false) _ env1 h1 => .ok (.bl false) false env1 h1
    | .ex c d h => .ex c d h
    | _ => .no) := g
    refine ⟨w, env, h, rfl, x, ?_⟩
    show pE X.K M ca E w env σ _ (r.e k env h y)
    cases e : r.e k env h y with
    | no => simp only [e] at g; exact g
    | ex c d h' => simp only [e] at g; exact g
    | ok d fr env1 h1 =>
      intro w1 v s l y1 rv
      cases d <;> simp only [e] at g <;> first | exact g.elim | skip
      rename_i b
      refine ⟨b, (Vw.of_rv rv).bl, ?_⟩
      cases b with
      | true =>
        simp only [e] at g
        rw [if_pos rfl]
        exact ⟨w1, env1, h1, rfl, y1, g.step x s l⟩
      | false =>
        simp only [e] at g
        rw [if_neg (by decide)]
        exact g w1 (.bl false) s l y1 (show Rep X.K w1 (.bl false) (.bl false) by unfold Rep; rfl)
theorem or_pe (IH : ∀ x, wfE M N sc x = true → Okx X M ca N k E r x) {p : Pos} : ∀ (y : Ex) (xs : List Ex), wfEs M N sc (y :: xs) = true →
    PE X (.BoolOp .Or (decs M N (y :: xs)) p) (tE X.K M ca E fun env h => orV r k env h (y :: xs))
  | y, [], wf => by
    have wy : wfE M N sc y = true := by unfold wfEs at wf; exact (ba wf).1
    exact pe_one (IH y wy)
  | y, z :: xs, wf => by
    have wy : wfE M N sc y = true := by unfold wfEs at wf; exact (ba wf).1
    have ws : wfEs M N sc (z :: xs) = true := by unfold wfEs at wf; exact (ba wf).2
    refine PE.imp (pe_or (pos := p) (IH y wy) (or_pe IH z xs ws)) fun σ H Q q => ?_
    obtain ⟨w, env, h, rfl, x, g⟩ := q
    have g : pE X.K M ca E w env σ Q (match r.e k env h y with
    | .ok (.bl false) _ env1 h1 => orV r k env1 h1 (z :: xs)
    | .ok (.bl true) _ env1 h1 => .ok (.bl true) false env1 h1
    | .ex c d h => .ex c d h
    | _ => .no) := g
    refine ⟨w, env, h, rfl, x, ?_⟩
    show pE X.K M ca E w env σ _ (r.e k env h y)
    cases e : r.e k env h y with
    | no => simp only [e] at g; exact g
    | ex c d h' => simp only [e] at g; exact g
    | ok d fr env1 h1 =>
      intro w1 v s l y1 rv
      cases d <;> simp only [e] at g <;> first | exact g.elim | skip
      rename_i b
      refine ⟨b, (Vw.of_rv rv).bl, ?_⟩
      cases b with
      | false =>
        simp only [e] at g
        rw [if_neg (by decide)]
        exact ⟨w1, env1, h1, rfl, y1, g.step x s l⟩
      | true =>
        simp only [e] at g
        rw [if_pos rfl]
        exact g w1 (.bl true) s l y1 (show Rep X.K w1 (.bl true) (.bl true) by unfold Rep; rfl)
theorem n_and (IH : ∀ x, wfE M N sc x = true → Okx X M ca N k E r x) {xs : List Ex} {p : Pos} (wf : wfE M N sc (.and xs p) = true) : Okx X M ca N k E (F T r) (.and xs p) := by
  have wf2 : wfEs M N sc xs = true := by unfold wfE at wf; exact wf
  cases xs with
  | nil => exact ⟨fun pins s σ H Q I z => by obtain ⟨w, env, h, rfl, x, g⟩ := z; exact (show False from g).elim⟩
  | cons y xs => exact and_pe IH y xs wf2
theorem n_or (IH : ∀ x, wfE M N sc x = true → Okx X M ca N k E r x) {xs : List Ex} {p : Pos} (wf : wfE M N sc (.or xs p) = true) : Okx X M ca N k E (F T r) (.or xs p) := by
  have wf2 : wfEs M N sc xs = true := by unfold wfE at wf; exact wf
  cases xs with
  | nil => exact ⟨fun pins s σ H Q I z => by obtain ⟨w, env, h, rfl, x, g⟩ := z; exact (show False from g).elim⟩
  | cons y xs => exact or_pe IH y xs wf2
theorem n_not (C : XC X M T fa ca fds pss N sc k E) (IH : ∀ x, wfE M N sc x = true → Okx X M ca N k E r x) {a : Ex} {p : Pos} (wf : wfE M N sc (.not a p) = true) : Okx X M ca N k E (F T r) (.not a p) := by
  have wa : wfE M N sc a = true := by unfold wfE at wf; exact wf
  refine PE.imp (pe_notT (pO C IH wa)) fun σ H Q z => ?_
  obtain ⟨w, env, h, rfl, x, g⟩ := z
  have g : pE X.K M ca E w env σ Q (match eB r k env h a with
      | .ok d _ env1 h1 => (match truth d with | some c => .ok (.bl (notB c)) false env1 h1 | none => .no)
      | .ex c d h => .ex c d h
      | .no => .no) := g
  refine opd_at x (fun e => by rw [e] at g; exact g) (fun c d h' e => by rw [e] at g; exact g) fun d fr env1 h1 w1 v e s l y1 rv _ => ?_
  simp only [e] at g
  cases e1 : truth d with
  | none => simp only [e1] at g; exact g.elim
  | some c =>
    simp only [e1] at g
    refine ⟨c, truth_ok e1 rv, ?_⟩
    rw [← notB_eq]
    exact g w1 (.bl (notB c)) s l y1 (show Rep X.K w1 (.bl (notB c)) (.bl (notB c)) by unfold Rep; rfl)
theorem n_ife (C : XC X M T fa ca fds pss N sc k E) (IH : ∀ x, wfE M N sc x = true → Okx X M ca N k E r x) (IHT : ∀ x, wfE M N sc x = true → Okt X M ca N k E r x) {t a b : Ex} {p : Pos} (wf : wfE M N sc (.ife t a b p) = true) :
    Okx X M ca N k E (F T r) (.ife t a b p) := by
  have wf2 : (wfE M N sc t && wfE M N sc a && wfE M N sc b) = true := by unfold wfE at wf; exact wf
  obtain ⟨wta, wb⟩ := ba wf2
  obtain ⟨wt, wa⟩ := ba wta
  refine PE.imp (pe_ifExp (IHT t wt) (IH a wa) (IH b wb)) fun σ H Q z => ?_
  obtain ⟨w, env, h, rfl, x, g⟩ := z
  have g : pE X.K M ca E w env σ Q (match eB r k env h t with
      | .ok d _ env1 h1 => (match truth d with
        | some true => r.e k env1 h1 a
        | some false => r.e k env1 h1 b
        | none => .no)
      | .ex c d h => .ex c d h
      | .no => .no) := g
  refine ⟨w, env, h, rfl, x, ?_⟩
  show pT X.K M ca E w env σ _ (eB r k env h t)
  cases e : eB r k env h t with
  | no => simp only [e] at g; exact g
  | ex c d h' => simp only [e] at g; exact g
  | ok d fr env1 h1 =>
    simp only [e] at g
    cases e1 : truth d with
    | none => simp only [e1] at g; exact g.elim
    | some c =>
      refine ⟨c, e1, fun w1 s l y1 => ?_⟩
      cases c with
      | true =>
        simp only [e1] at g
        rw [if_pos rfl]
        exact ⟨w1, env1, h1, rfl, y1, g.step x s l⟩
      | false =>
        simp only [e1] at g
        rw [if_neg (by decide)]
        exact ⟨w1, env1, h1, rfl, y1, g.step x s l⟩
theorem chn_read {o o2 : CmpOp} {a b c : Ex} {p : Pos} {H : Hp} (z : tE X.K M ca E (fun env h => (F T r).e k env h (.chn o o2 a b c p)) σ H Q) :
    tChain (rCmp X.prog X.w X.K o) (rCmp X.prog X.w X.K o2) (tE X.K M ca E fun env h => r.e k env h a) (tE X.K M ca E fun env h => r.e k env h b) (tE X.K M ca E fun env h => r.e k env h c) σ H Q := by
  obtain ⟨w, env, h, rfl, x, g⟩ := z
  have g : pE X.K M ca E w env σ Q (match r.e k env h a with
      | .ok (.int u) _ env1 h1 => (match r.e k env1 h1 b with
        | .ok (.int v) _ env2 h2 => (match cmpV o (.int u) (.int v) with
          | some true => (match r.e k env2 h2 c with
            | .ok (.int w) _ env3 h3 => (match cmpV o2 (.int v) (.int w) with | some q => .ok (.bl q) false env3 h3 | none => .no)
            | .ex c d h => .ex c d h
            | _ => .no)
          | some false => .ok (.bl false) false env2 h2
          | none => .no)
        | .ex c d h => .ex c d h
        | _ => .no)
      | .ex c d h => .ex c d h
      | _ => .no) := g
  refine ⟨w, env, h, rfl, x, ?_⟩
  show pE X.K M ca E w env σ _ (r.e k env h a)
  cases e : r.e k env h a with
  | no => simp only [e] at g; exact g
  | ex c d h' => simp only [e] at g; exact g
  | ok d fr env1 h1 =>
    intro w1 v1 s1 l1 y1 r1
    cases d <;> simp only [e] at g <;> first | exact g.elim | skip
    rename_i i1
    have r1 := Vw.of_rv r1
    have g := g.step x s1 l1
    refine ⟨w1, env1, h1, rfl, y1, ?_⟩
    show pE X.K M ca E w1 env1 σ _ (r.e k env1 h1 b)
    cases e2 : r.e k env1 h1 b with
    | no => simp only [e2] at g; exact g
    | ex c d h' => simp only [e2] at g; exact g
    | ok d fr2 env2 h2 =>
      intro w2 v2 s2 l2 y2 r2
      cases d <;> simp only [e2] at g <;> first | exact g.elim | skip
      rename_i i2
      have r2 := Vw.of_rv r2
      have r1 : Vw X.K w2 (.int i1) v1 := s2.rep y1.ok _ _ r1
      have g := g.step y1 s2 l2
      cases e3 : cmpV o (.int i1) (.int i2) with
      | none => simp only [e3] at g; exact g.elim
      | some q =>
        refine cmpV_ok e3 r1 r2 ?_
        refine ⟨q, rfl, ?_⟩
        cases q with
        | false =>
          simp only [e3] at g
          rw [if_neg (by decide)]
          exact g w2 (.bl false) Stp.refl ELe.refl y2 (show Rep X.K w2 (.bl false) (.bl false) by unfold Rep; rfl)
        | true =>
          simp only [e3] at g
          rw [if_pos rfl]
          refine ⟨w2, env2, h2, rfl, y2, ?_⟩
          show pE X.K M ca E w2 env2 σ _ (r.e k env2 h2 c)
          cases e4 : r.e k env2 h2 c with
          | no => simp only [e4] at g; exact g
          | ex c d h' => simp only [e4] at g; exact g
          | ok d fr3 env3 h3 =>
            intro w3 v3 s3 l3 y3 r3
            cases d <;> simp only [e4] at g <;> first | exact g.elim | skip
            rename_i i3
            have r3 := Vw.of_rv r3
            have r2 : Vw X.K w3 (.int i2) v2 := s3.rep y2.ok _ _ r2
            cases e5 : cmpV o2 (.int i2) (.int i3) with
            | none => simp only [e5] at g; exact g.elim
            | some q =>
              simp only [e5] at g
              exact cmpV_ok e5 r2 r3 (g w3 (.bl q) s3 l3 y3 (show Rep X.K w3 (.bl q) (.bl q) by unfold Rep; rfl))
theorem n_chn (C : XC X M T fa ca fds pss N sc k E) (IH : ∀ x, wfE M N sc x = true → Okx X M ca N k E r x) {o o2 : CmpOp} {a b c : Ex} {p : Pos} (wf : wfE M N sc (.chn o o2 a b c p) = true) : Okx X M ca N k E (F T r) (.chn o o2 a b c p) := by
  have wf2 : (wfE M N sc a && wfE M N sc b && wfE M N sc c) = true := by unfold wfE at wf; exact wf
  obtain ⟨wab, wc⟩ := ba wf2
  obtain ⟨wa, wb⟩ := ba wab
  have hu : X.A.units + 65 < cLine := by have := C.un; omega
  exact PE.imp (pe_chain (op_cmp hu o) (op_cmp hu o2) (IH a wa) (IH b wb) (IH c wc) (show behindInMarks o2 (dec M N c) = false from bm_false o2 c)) fun σ H Q z => chn_read z
/-- a test whose value is a bool -/
theorem pT_pE {K : PySem.W.Frag} {Q : Bool → Hp → Prop} {res : Res} (hb : ∀ d fr env1 h1, res = .ok d fr env1 h1 → ∃ c : Bool, d = .bl c) (g : pT K M ca E w env σ Q res) : pE K M ca E w env σ (fun v H' => ∃ c, v = .bl c ∧ Q c H') res := by
  cases res with
  | no => exact g
  | ex c d h' => exact g
  | ok d fr env1 h1 =>
    obtain ⟨c2, rfl⟩ := hb d fr env1 h1 rfl
    obtain ⟨c, tc, g⟩ := g
    have ec : c2 = c := Option.some.inj tc
    subst ec
    intro w1 v s l y1 rv
    exact ⟨c2, (Vw.of_rv rv).bl, g w1 s l y1⟩
theorem cmpC_bl {o : CmpOp} {u v : D} {env2 : Env} {h2 : Hs} {d : D} {fr : Bool} {env1 : Env} {h1 : Hs} (e : cmpC o u v env2 h2 = .ok d fr env1 h1) : ∃ c, d = .bl c := by
  unfold cmpC at e
  split at e
  · split at e
    · split at e <;> first | (cases e; exact ⟨_, rfl⟩) | cases e
    · split at e <;> first | (cases e; exact ⟨_, rfl⟩) | cases e
    · cases e
  · split at e
    · cases e; exact ⟨_, rfl⟩
    · cases e
theorem two_bl {o : CmpOp} {a b : Ex} {d : D} {fr : Bool} {env1 : Env} {h1 : Hs} (e : two r k env h a b (cmpC o) = .ok d fr env1 h1) : ∃ c, d = .bl c := by
  unfold two at e
  split at e
  · split at e
    · split at e
      · split at e
        · exact cmpC_bl e
        · cases e
      · cases e
      · cases e
    · cases e
  · split at e
    · split at e
      · exact cmpC_bl e
      · cases e
      · cases e
    · cases e
    · cases e
theorem chn_bl {o o2 : CmpOp} {a b c : Ex} {p : Pos} {d : D} {fr : Bool} {env1 : Env} {h1 : Hs} (e : (F T r).e k env h (.chn o o2 a b c p) = .ok d fr env1 h1) : ∃ c, d = .bl c := by
  have e : (match r.e k env h a with
      | .ok (.int u) _ env1 h1 => (match r.e k env1 h1 b with
        | .ok (.int v) _ env2 h2 => (match cmpV o (.int u) (.int v) with
          | some true => (match r.e k env2 h2 c with
            | .ok (.int w) _ env3 h3 => (match cmpV o2 (.int v) (.int w) with | some q => Res.ok (.bl q) false env3 h3 | none => .no)
            | .ex c d h => .ex c d h
            | _ => .no)
          | some false => .ok (.bl false) false env2 h2
          | none => .no)
        | .ex c d h => .ex c d h
        | _ => .no)
      | .ex c d h => .ex c d h
      | _ => .no) = .ok d fr env1 h1 := e
  split at e
  · split at e
    · split at e
      · split at e
        · split at e
          · cases e; exact ⟨_, rfl⟩
          · cases e
        · cases e
        · cases e
      · cases e; exact ⟨_, rfl⟩
      · cases e
    · cases e
    · cases e
  · cases e
  · cases e
theorem pt_ife {X : Cx} {c a b : Expr} {pos : Pos} {tA t1 t2 : TT} (hc : PT X c tA) (ha : PT X a t1) (hb : PT X b t2) : PT X (.IfExp c a b pos) (fun σ H Q => tA σ H fun c H1 => if c = true then t1 σ H1 Q else t2 σ H1 Q) := by
  refine ⟨fun pins s σ H Q I z => ?_⟩
  have e : ∀ whole, PySem.isTrue (.IfExp c a b pos) X.env whole = (do if ← PySem.isTrue c X.env (eval c X.env) then PySem.isTrue a X.env (eval a X.env) else PySem.isTrue b X.env (eval b X.env)) := fun _ => rfl
  rw [e]
  refine wpAny_bind (thn (hc.run pins s σ H _ I z) fun d s1 ⟨H1, I1, q1⟩ => ?_)
  cases d with
  | true => exact ha.run pins s1 σ H1 Q I1 q1
  | false => exact hb.run pins s1 σ H1 Q I1 q1
/-- tests -/
theorem n_tst (C : XC X M T fa ca fds pss N sc k E) (hv : VarOk r) (IHF : ∀ x, wfE M N sc x = true → Okx X M ca N k E (F T r) x) (IH : ∀ x, wfE M N sc x = true → Okx X M ca N k E r x) (IHT : ∀ x, wfE M N sc x = true → Okt X M ca N k E r x) {y : Ex} (wf : wfE M N sc y = true) : Okt X M ca N k E (F T r) y := by
  cases y with
  | ife t a b p =>
    have wf2 : (wfE M N sc t && wfE M N sc a && wfE M N sc b) = true := by unfold wfE at wf; exact wf
    obtain ⟨wta, wb⟩ := ba wf2
    obtain ⟨wt, wa⟩ := ba wta
    refine PT.imp (pt_ife (IHT t wt) (okt_full hv (IHT a wa)) (okt_full hv (IHT b wb))) fun σ H Q z => ?_
    obtain ⟨w, env, h, rfl, x, g⟩ := z
    have g : pT X.K M ca E w env σ Q (match eB r k env h t with
      | .ok d _ env1 h1 => (match truth d with
        | some true => r.e k env1 h1 a
        | some false => r.e k env1 h1 b
        | none => .no)
      | .ex c d h => .ex c d h
      | .no => .no) := g
    refine ⟨w, env, h, rfl, x, ?_⟩
    show pT X.K M ca E w env σ _ (eB r k env h t)
    cases e : eB r k env h t with
    | no => simp only [e] at g; exact g
    | ex c d h' => simp only [e] at g; exact g
    | ok d fr env1 h1 =>
      simp only [e] at g
      cases e1 : truth d with
      | none => simp only [e1] at g; exact g.elim
      | some c =>
        refine ⟨c, e1, fun w1 s l y1 => ?_⟩
        cases c with
        | true =>
          simp only [e1] at g
          rw [if_pos rfl]
          exact ⟨w1, env1, h1, rfl, y1, g.step x s l⟩
        | false =>
          simp only [e1] at g
          rw [if_neg (by decide)]
          exact ⟨w1, env1, h1, rfl, y1, g.step x s l⟩
  | and xs p =>
    have wf2 : wfEs M N sc xs = true := by unfold wfE at wf; exact wf
    cases xs with
    | nil => exact ⟨fun pins s σ H Q I z => by obtain ⟨w, env, h, rfl, x, g⟩ := z; exact (show False from g).elim⟩
    | cons y xs => exact (and_pw hv IHT y xs wf2).pt
  | or xs p =>
    have wf2 : wfEs M N sc xs = true := by unfold wfE at wf; exact wf
    cases xs with
    | nil => exact ⟨fun pins s σ H Q I z => by obtain ⟨w, env, h, rfl, x, g⟩ := z; exact (show False from g).elim⟩
    | cons y xs => exact (or_pw hv IHT y xs wf2).pt
  | not a p =>
    have wa : wfE M N sc a = true := by unfold wfE at wf; exact wf
    refine PT.imp (pt_not (IHT a wa)) fun σ H Q z => ?_
    obtain ⟨w, env, h, rfl, x, g⟩ := z
    have g : pT X.K M ca E w env σ Q (match eB r k env h a with
      | .ok d _ env1 h1 => (match truth d with | some c => .ok (.bl (notB c)) false env1 h1 | none => .no)
      | .ex c d h => .ex c d h
      | .no => .no) := g
    refine ⟨w, env, h, rfl, x, ?_⟩
    show pT X.K M ca E w env σ _ (eB r k env h a)
    cases e : eB r k env h a with
    | no => simp only [e] at g; exact g
    | ex c d h' => simp only [e] at g; exact g
    | ok d fr env1 h1 =>
      simp only [e] at g
      cases e1 : truth d with
      | none => simp only [e1] at g; exact g.elim
      | some c =>
        simp only [e1] at g
        obtain ⟨c2, e2, g⟩ := g
        have ec : notB c = c2 := Option.some.inj e2
        refine ⟨c, e1, fun w1 s l y1 => ?_⟩
        show Q (!c) w1.H
        rw [← notB_eq, ec]
        exact g w1 s l y1
  | cmp o a b p =>
    have wf2 : (wfE M N sc a && wfE M N sc b) = true := by unfold wfE at wf; exact wf
    obtain ⟨wa, wb⟩ := ba wf2
    refine PT.imp (pt_cmpR (op_cmp (by have := C.un; omega) o) (pO C IH wa) (pO C IH wb) (bm_false o b)) fun σ H Q z => ?_
    obtain ⟨w, env, h, rfl, x, g⟩ := z
    have g : pT X.K M ca E w env σ Q (two r k env h a b (cmpC o)) := g
    have g2 := pT_pE (fun d fr env1 h1 e => two_bl e) g
    refine two_ok x g2 fun u v env2 h2 w2 x1 y1 s l y ru rv g2 => ?_
    rcases cmpC_ok C y ru rv with e | ⟨c, e, q⟩
    · rw [e] at g2; exact g2.elim
    · rw [e] at g2
      exact q _ (g2 w2 (.bl c) Stp.refl ELe.refl y (show Rep X.K w2 (.bl c) (.bl c) by unfold Rep; rfl))
  | chn o o2 a b c p =>
    have hu : X.A.units + 65 < cLine := by have := C.un; omega
    have wf2 : (wfE M N sc a && wfE M N sc b && wfE M N sc c) = true := by unfold wfE at wf; exact wf
    obtain ⟨wab, wc⟩ := ba wf2
    obtain ⟨wa, wb⟩ := ba wab
    exact PT.imp (pt_chain (op_cmp hu o) (op_cmp hu o2) (IH a wa) (IH b wb) (IH c wc) (show behindInMarks o2 (dec M N c) = false from bm_false o2 c)) fun σ H Q z => by
      obtain ⟨w, env, h, rfl, x, g⟩ := z
      exact chn_read (T := T) (p := p) ⟨w, env, h, rfl, x, pT_pE (fun d fr env1 h1 e => chn_bl (T := T) (p := p) e) g⟩
  | _ => exact okt_plain C IHF wf fun _ => rfl
end
end Ev
/-! Soundness of the small interpreter, 14: subscripts, slices, fields. -/
namespace Ev
open PySem PySem.Spec PyProof.Rows L2
section
variable {X : Cx}
theorem DAt.typeIs {a : Addr} {y : V} {o : Option V} {pins : List (Addr × Obj)} {σ : L2.St} {H : Hp} {s : Shared} (I : Inv X pins σ H s) (g : DAt X.prog X.w X.K H a y o) : s.TypeIs (.ref a) "dict" := by
  cases g with
  | old g => exact dict_typeIs I g
  | non e ke ey hp l => exact (dx_of I e ke).2.2.typeIs
  | som e ke ey hp l r => exact (dx_of I e ke).2.2.typeIs
def rDG (P : Program) (W : World) (K : PySem.W.Frag) : R2 := fun x y H Q => ∃ a v, x = .ref a ∧ DAt P W K H a y (some v) ∧ Q v H
theorem ix_dict (hu : X.A.units + 1 < cLine) : IxR X (rDG X.prog X.w X.K) := by
  intro value slice pins s σ H x y v u Q I rx ry h hs
  obtain ⟨a, z, rfl, g, q⟩ := h
  cases rx
  unfold subscriptTail
  refine wpAny_bind ?_
  rw [getitemInPython_of_ne (DAt.typeIs I g).not_modules]
  refine wpAny_bind (wpAny_specialOf (DAt.typeIs I g) PySem.F.slot_dict_getitem.lookup ?_)
  have fin : wpAny (model X.prog X.w) X.A (subscripted slice false (.ref a) u) (fun r s₃ => wpAny (model X.prog X.w) X.A (letTemporaryGo value (.ref a) r >>= fun _ => Pure.pure r) (EP X pins σ Q) X.xe s₃) X.xe s := by
    rw [hs]
    exact wpAny_operating (d_getW hu I g ry fun w' s3 I3 rw' => wpAny_bind (wpAny_letTemporaryGo (wpAny_pure ⟨z, H, I3, rw', q⟩)))
  first
    | exact wpAny_pure (wpAny_bind fin)
    | exact wpAny_bind (wpAny_pure (wpAny_bind fin))
    | exact wpAny_bind fin
def rIdx (P : Program) (W : World) (K : PySem.W.Frag) : R2 := fun x y H Q => rIxL K x y H Q ∨ (rIxT K x y H Q ∨ rDG P W K x y H Q)
theorem ix_all (hu : X.A.units + 1 < cLine) : IxR X (rIdx X.prog X.w X.K) := ix_list.or (ix_tup.or (ix_dict hu))
end
section
variable {K : PySem.W.Frag} {M : Nm} {ca : Nat → Addr} {w w' w1 w2 : Wd} {env env' env1 env2 : Env} {σ : L2.St} {h h' h1 h2 : Hs} {Q : VK} {E : XK} {d u v : D} {ds : List D} {a b : V} {vs : List V} {fr : Bool} {O : Addr → Prop}
theorem ixOf_eq (n : Nat) (i : Int) : ixOf n i = ixN n i := by
  unfold ixN
  cases i with
  | ofNat m =>
    show (match Nat.blt m n with | true => some m | false => none) = _
    rw [if_pos (show (0 : Int) ≤ Int.ofNat m from Int.natCast_nonneg m)]
    cases e : Nat.blt m n with
    | true =>
      have := Nat.blt_eq.mp e
      rw [if_pos (show (Int.ofNat m) < (n : Int) by show (m : Int) < n; omega)]
      rfl
    | false =>
      have : ¬ m < n := fun z => by rw [Nat.blt_eq.mpr z] at e; cases e
      rw [if_neg (show ¬ (Int.ofNat m) < (n : Int) by show ¬ (m : Int) < n; omega)]
  | negSucc m =>
    show (match Nat.blt m n with | true => some (n - (m + 1)) | false => none) = _
    rw [if_neg (by simp only [Int.negSucc_eq]; omega)]
    cases e : Nat.blt m n with
    | true =>
      have := Nat.blt_eq.mp e
      rw [if_pos (by simp only [Int.negSucc_eq]; omega)]
      show some (n - (m + 1)) = some _
      congr 1
      simp only [Int.negSucc_eq]
      omega
    | false =>
      have : ¬ m < n := fun z => by rw [Nat.blt_eq.mpr z] at e; cases e
      rw [if_neg (by simp only [Int.negSucc_eq]; omega)]
theorem atI_ixOf (ds : List D) (i : Int) : Ev.atI ds i = (ixOf ds.length i).bind fun j => ds[j]? := by
  cases i with
  | ofNat m =>
    show atL ds m = (match Nat.blt m ds.length with | true => some m | false => none).bind _
    rw [atL_eq]
    cases e : Nat.blt m ds.length with
    | true => rfl
    | false =>
      have : ¬ m < ds.length := fun z => by rw [Nat.blt_eq.mpr z] at e; cases e
      exact List.getElem?_eq_none (by omega)
  | negSucc m =>
    show (match ixOf ds.length (Int.negSucc m) with | some m => atL ds m | none => none) = _
    cases e : ixOf ds.length (Int.negSucc m) with
    | none => rfl
    | some j => exact atL_eq ds j
theorem at_ok {i : Int} (r : Reps K w ds vs) (e : Ev.atI ds i = some d) : ∃ v, L2.atI vs i = some v ∧ Rep K w d v := by
  rw [atI_ixOf, ixOf_eq] at e
  cases e1 : ixN ds.length i with
  | none => rw [e1] at e; cases e
  | some j =>
    rw [e1] at e
    obtain ⟨v, e2, r2⟩ := r.get (show ds[j]? = some d from e)
    refine ⟨v, ?_, r2⟩
    unfold L2.atI
    rw [r.length, e1]
    exact e2
/-- the continuation of a subscript -/
def idxC (u v : D) (env2 : Env) (h2 : Hs) : Res := match u, v with
          | .tup ds, .int j => (match Ev.atI ds j with | some d => .ok d false env2 h2 | none => .no)
          | .lst ds, .int j => (match Ev.atI ds j with | some d => .ok d false env2 h2 | none => .no)
          | .ref o, key => (match getH h2 o with
            | some (.dK kvs) => (match keyOk false key, dGet key kvs with | true, some d => .ok d false env2 h2 | _, _ => .no)
            | some (.dT kvs) => (match keyOk true key, dGet key kvs with | true, some d => .ok d false env2 h2 | _, _ => .no)
            | _ => .no)
          | _, _ => .no
theorem idxC_ok (x : SI K M ca env σ h w) (ru : Vw K w u a) (rv : Vw K w v b) (g : pE K M ca E w env σ Q (idxC u v env h)) : rIdx M.prog M.wld K a b w.H Q := by
  unfold idxC at g
  split at g
  · rename_i ds j
    obtain ⟨p, vs, rfl, q, t⟩ := ru.tup
    cases rv.int
    cases e : Ev.atI ds j with
    | none => simp only [e] at g; exact g.elim
    | some d =>
      simp only [e] at g
      obtain ⟨z, e2, r2⟩ := at_ok t e
      exact .inr (.inl ⟨p, vs, j, z, rfl, rfl, q, e2, g w z Stp.refl ELe.refl x r2⟩)
  · rename_i ds j
    obtain ⟨p, vs, rfl, q, t⟩ := ru
    cases rv.int
    cases e : Ev.atI ds j with
    | none => simp only [e] at g; exact g.elim
    | some d =>
      simp only [e] at g
      obtain ⟨z, e2, r2⟩ := at_ok t e
      exact .inl ⟨p, vs, j, z, rfl, rfl, .inl q, e2, g w z Stp.refl ELe.refl x r2⟩
  · rename_i key0 o
    have dict : ∀ (ob : VO) (kvs : List (D × D)) (d : D), getH h o = some ob → ((ob = .dK kvs ∧ key1 v = true) ∨ (ob = .dT kvs ∧ keyOk true v = true)) → dGet v kvs = some d →
        pE K M ca E w env σ Q (.ok d false env h) → rIdx M.prog M.wld K a b w.H Q := fun ob kvs d eo hk ed g => by
      obtain ⟨p, rfl, gg⟩ := dAt_ok x.ok eo ru rv hk
      rw [ed] at gg
      obtain ⟨z, g1, r1⟩ := gg
      exact .inr (.inr ⟨p, z, rfl, g1, g w z Stp.refl ELe.refl x r1⟩)
    cases eo : getH h o with
    | none => simp only [eo] at g; exact g.elim
    | some ob => cases ob with
      | ins c fs => simp only [eo] at g; exact g.elim
      | dK kvs =>
        simp only [eo] at g
        cases hk : keyOk false v with
        | false => simp only [hk] at g; exact g.elim
        | true => cases ed : dGet v kvs with
          | none => simp only [hk, ed] at g; exact g.elim
          | some d => simp only [hk, ed] at g; exact dict _ kvs d eo (.inl ⟨rfl, hk⟩) ed g
      | dT kvs =>
        simp only [eo] at g
        cases hk : keyOk true v with
        | false => simp only [hk] at g; exact g.elim
        | true => cases ed : dGet v kvs with
          | none => simp only [hk, ed] at g; exact g.elim
          | some d => simp only [hk, ed] at g; exact dict _ kvs d eo (.inr ⟨rfl, hk⟩) ed g
  · exact g.elim
/-! ### what is reckoned while the frame's own lists are locked -/
theorem getS_lock : ∀ (env : Env) (i : Nat), getS (lock env) i = (match getS env i with | .l ds => .k ds | s => s)
  | [], _ => rfl
  | _ :: _, 0 => rfl
  | _ :: r, i + 1 => getS_lock r i
theorem lock_len : ∀ env : Env, (lock env).length = env.length
  | [] => rfl
  | _ :: r => by show (lock r).length + 1 = _; rw [lock_len r]; rfl
theorem lock_tag {env : Env} {i : Nat} (t : 2 ≤ tag (getS (lock env) i)) : 2 ≤ tag (getS env i) := by
  rw [getS_lock] at t
  cases e : getS env i with
  | l ds => exact Nat.le_refl 2
  | k ds => show 2 ≤ 3; decide
  | u => rw [e] at t; exact t
  | v d => rw [e] at t; exact t
theorem lock_own {a : Addr} : ¬ Own (lock env) σ a := fun ⟨i, hi, _⟩ => by
  rw [getS_lock] at hi
  cases e : getS env i <;> (rw [e] at hi; cases hi)
theorem SI.lock (x : SI K M ca env σ h w) : SI K M ca (Ev.lock env) σ h w := by
  refine ⟨x.ok, by rw [lock_len]; exact x.re.len, fun i => ?_, fun i j a hi hj ei ej => x.re.one i j a (lock_tag hi) (lock_tag hj) ei ej⟩
  have q := x.re.sl i
  rw [getS_lock]
  cases e : getS env i with
  | u => trivial
  | v d => rw [e] at q; exact q
  | l ds => rw [e] at q; exact q
  | k ds => rw [e] at q; exact q
theorem Stp.ofLock (s : Stp (Own (lock env) σ) w w') : Stp (fun _ => False) w w' := s.mono fun a z => lock_own z
theorem Stp.toAny {O : Addr → Prop} (s : Stp (fun _ => False) w w') : Stp O w w' := s.mono fun _ z => z.elim
/-- a value that is looked at stands while nothing is written -/
theorem Vw.stay (x : WdOk K M ca w h) (s : Stp (fun _ => False) w w') (r : Vw K w d a) : Vw K w' d a := by
  cases d with
  | lst ds =>
    obtain ⟨p, vs, e, q, t⟩ := r
    refine ⟨p, vs, e, ?_, s.reps x ds vs t⟩
    by_cases hs : w.S p
    · obtain ⟨_, k⟩ := s.own p hs fun z => z
      rcases q with q | ⟨o, q⟩
      · exact .inl (k _ q)
      · exact .inr ⟨o, k _ q⟩
    · exact (s.rdL x hs q).2
  | _ => exact s.rep x _ _ r
end
section
variable {X : Cx} {M : Nm} {T : Tab} {fa ca : Nat → Addr} {fds : Nat → FuncData} {pss : Nat → List Str} {N : List Str} {sc : Scope} {k n : Nat} {E : XK} {r : Self}
variable {w w' w1 w2 : Wd} {env env' env1 env2 : Env} {σ : L2.St} {h h' h1 h2 : Hs} {Q : VK} {d : D} {ds : List D} {v : V} {vs : List V} {O : Addr → Prop}
theorem n_idx (C : XC X M T fa ca fds pss N sc k E) (IH : ∀ x, wfE M N sc x = true → Okx X M ca N k E r x) {a b : Ex} {p : Pos} (wf : wfE M N sc (.idx a b p) = true) : Okx X M ca N k E (F T r) (.idx a b p) := by
  have wf2 : (wfE M N sc a && wfE M N sc b) = true := by unfold wfE at wf; exact wf
  obtain ⟨wa, wb⟩ := ba wf2
  refine PE.imp (pe_ix (ix_all (by have := C.un; omega)) (pO C IH wa) (pO C IH wb) (by cases b <;> (intro _ _; rfl))) fun σ H Q z => ?_
  obtain ⟨w, env, h, rfl, x, g⟩ := z
  have g : pE X.K M ca E w env σ Q (two r k env h a b idxC) := g
  refine two_ok x g fun u v env2 h2 w2 x1 y1 s l y ru rv g2 => ?_
  rw [C.hp, C.hw]
  exact idxC_ok y ru rv g2
/-- a part of a slice -/
def tPt (K : PySem.W.Frag) (M : Nm) (ca : Nat → Addr) (r : Self) (k : Nat) (lo : Option Ex) : TO := fun σ H Q => ∃ w env h, w.H = H ∧ SI K M ca env σ h w ∧
  match part r k env h lo with
  | some (o, h2) => ∀ w', Stp (fun _ => False) w w' → SI K M ca env σ h2 w' → Q o w'.H
  | none => False
theorem po_pt (C : XC X M T fa ca fds pss N sc k E) (IH : ∀ x, wfE M N sc x = true → Okx X M ca N k E r x) {lo : Option Ex} (wf : wfO M N sc lo = true) : PO X (decO M N lo) (tPt X.K M ca r k lo) := by
  cases lo with
  | none =>
    refine ⟨fun pins s σ H Q I z => po_none.run pins s σ H Q I ?_⟩
    obtain ⟨w, env, h, rfl, x, g⟩ := z
    exact g w Stp.refl x
  | some y =>
    have wy : wfE M N sc y = true := by unfold wfO at wf; exact wf
    refine ⟨fun pins s σ H Q I z => (po_some (IH y wy)).run pins s σ H Q I ?_⟩
    obtain ⟨w, env, h, rfl, x, g⟩ := z
    refine ⟨w, lock env, h, rfl, x.lock, ?_⟩
    show pE X.K M ca E w (lock env) σ _ (r.e k (lock env) h y)
    unfold part at g
    cases e : r.e k (lock env) h y with
    | no => simp only [e] at g
    | ex c d h' => simp only [e] at g
    | ok d fr env1 h1 =>
      cases d <;> simp only [e] at g
      rename_i i
      intro w1 v s l y1 rv
      exact ⟨i, (Vw.of_rv rv).int, g w1 s.ofLock (x.on0 s.ofLock y1.ok)⟩
theorem sIx_eq (n d : Nat) (o : Option Int) : Ev.sIx n d o = HT.sIx n d o := by
  cases o with
  | none => rfl
  | some i =>
    cases i with
    | ofNat m =>
      rw [show (Int.ofNat m) = (m : Int) from rfl, HT.sIx_nat]
      show (match Nat.ble m n with | true => m | false => n) = _
      cases e : Nat.ble m n with
      | true => have := Nat.le_of_ble_eq_true e; exact (Nat.min_eq_left this).symm
      | false =>
        have : ¬ m ≤ n := fun z => by rw [Nat.ble_eq_true_of_le z] at e; cases e
        have h2 : n ≤ m := by omega
        exact (Nat.min_eq_right h2).symm
    | negSucc m =>
      show n - (m + 1) = if Int.negSucc m < 0 then (Int.negSucc m + (n : Int)).toNat else _
      rw [if_pos (by simp only [Int.negSucc_eq]; omega)]
      simp only [Int.negSucc_eq]
      omega
theorem cut_ok {K : PySem.W.Frag} (r : Reps K w ds vs) (lo hi : Option Int) : Reps K w (cut ds lo hi) (cutV vs lo hi) := by
  unfold cut cutV
  rw [sIx_eq, sIx_eq, r.length]
  exact (r.drop _).take _
theorem cut_whole {K : PySem.W.Frag} (r : Reps K w ds vs) {lo hi : Option Int} (h : HT.sIx vs.length 0 lo = 0 ∧ HT.sIx vs.length vs.length hi = vs.length) : cut ds lo hi = ds := by
  unfold cut
  rw [sIx_eq, sIx_eq, ← r.length, h.1, h.2, List.drop_zero, Nat.sub_zero, r.length, List.take_length]
theorem n_slc (C : XC X M T fa ca fds pss N sc k E) (IH : ∀ x, wfE M N sc x = true → Okx X M ca N k E r x) {a : Ex} {lo hi : Option Ex} {p2 p : Pos} (wf : wfE M N sc (.slc a lo hi p2 p) = true) : Okx X M ca N k E (F T r) (.slc a lo hi p2 p) := by
  have wf2 : (wfE M N sc a && wfO M N sc lo && wfO M N sc hi) = true := by unfold wfE at wf; exact wf
  obtain ⟨wab, wh⟩ := ba wf2
  obtain ⟨wa, wl⟩ := ba wab
  refine PE.imp (pe_slice (L2.SlR.or sl_list sl_tupA) (pO C IH wa) (po_pt C IH wl) (po_pt C IH wh)) fun σ H Q z => ?_
  obtain ⟨w, env, h, rfl, x, g⟩ := z
  have g : pE X.K M ca E w env σ Q (match eB r k env h a with
      | .ok u _ env1 h1 => (match part r k env1 h1 lo with
        | some (l, h2) => (match part r k env1 h2 hi with
          | some (m, h3) => (match u with
            | .tup ds => .ok (.tup (cut ds l m)) false env1 h3
            | .lst ds => .ok (.lst (cut ds l m)) true env1 h3
            | _ => .no)
          | none => .no)
        | none => .no)
      | .ex c d h => .ex c d h
      | .no => .no) := g
  refine opd_at x (fun e => by rw [e] at g; exact g) (fun c d h' e => by rw [e] at g; exact g) fun d fr env1 h1 w1 v e s l y1 rv _ => ?_
  simp only [e] at g
  refine ⟨w1, env1, h1, rfl, y1, ?_⟩
  cases e1 : part r k env1 h1 lo with
  | none => simp only [e1] at g; exact g
  | some q =>
    obtain ⟨lv, h2⟩ := q
    simp only [e1] at g
    intro w2 s2 y2
    refine ⟨w2, env1, h2, rfl, y2, ?_⟩
    cases e2 : part r k env1 h2 hi with
    | none => simp only [e2] at g; exact g
    | some q =>
      obtain ⟨hv, h3⟩ := q
      simp only [e2] at g
      intro w3 s3 y3
      have rv3 := (rv.stay y1.ok s2).stay y2.ok s3
      have s13 : Stp (Own env σ) w w3 := x.trans s l ((s2.toAny (O := Own env1 σ)).trans (s3.toAny (O := Own env1 σ)) (fun a z => y1.ok.ne z) fun a z => .inl z)
      cases d <;> first | exact g.elim | skip
      · obtain ⟨q, vs, rfl, sq, t⟩ := rv3.tup
        refine .inr ⟨q, vs, rfl, sq, fun hw => ?_, fun hw p np => ?_⟩
        · refine g w3 _ s13 l y3 ?_
          rw [cut_whole t hw]
          exact rv3
        · obtain ⟨s4, y4, r4⟩ := got_tup y3 np (cut_ok t lv hv)
          exact g _ _ (x.trans s13 l s4) l y4 r4
      · obtain ⟨q, vs, rfl, sq, t⟩ := rv3
        refine .inl ⟨q, vs, rfl, .inl sq, fun p np => ?_⟩
        obtain ⟨s4, y4, r4⟩ := got_lst y3 np (cut_ok t lv hv)
        exact g _ _ (x.trans s13 l s4) l y4 (r4.older s13)
theorem fGet_ok {K : PySem.W.Frag} {f : Nat} (inj : ∀ g', M.fl g' = M.fl f → g' = f) : ∀ {fs : List (Nat × D)} {fv : List (Str × V)}, FlR K M w fs fv → fGet f fs = some d → ∃ v, fv.lookup (M.fl f) = some v ∧ Rep K w d v
  | _, _, .nil, e => by cases e
  | (g, x) :: fs, q :: fv, .cons r t, e => by
    unfold fGet at e
    obtain ⟨r1, r2⟩ := r
    have r1 : q.1 = M.fl g := r1
    rw [nbeq] at e
    by_cases z : g = f
    · rw [decide_eq_true z] at e
      cases e
      refine ⟨q.2, ?_, r2⟩
      rw [List.lookup_cons, r1, z]
      simp
    · rw [decide_eq_false z] at e
      obtain ⟨v, e2, r3⟩ := fGet_ok inj t e
      refine ⟨v, ?_, r3⟩
      rw [List.lookup_cons, r1]
      rw [show (M.fl f == M.fl g) = false from beq_false_of_ne fun y => z (inj g y.symm)]
      exact e2
theorem att_base {a : Ex} {f : Str} (wa : wfA a = true) : attributeBase (dec M N a) f X.env (eval (dec M N a) X.env) = eval (dec M N a) X.env := by
  cases a <;> first | rfl | skip
  all_goals (rename_i es _ _; cases es <;> first | rfl | cases wa)
theorem n_att (C : XC X M T fa ca fds pss N sc k E) (IH : ∀ x, wfE M N sc x = true → Okx X M ca N k E r x) {a : Ex} {f : Nat} {p : Pos} (wf : wfE M N sc (.att a f p) = true) : Okx X M ca N k E (F T r) (.att a f p) := by
  have wf2 : (wfE M N sc a && wfA a) = true := by unfold wfE at wf; exact wf
  obtain ⟨wa, wb⟩ := ba wf2
  refine PE.imp (pe_fld (IH a wa) (att_base wb)) fun σ H Q z => ?_
  obtain ⟨w, env, h, rfl, x, g⟩ := z
  have g : pE X.K M ca E w env σ Q (match r.e k env h a with
      | .ok (.ref i) _ env1 h1 => (match getH h1 i with
        | some (.ins c fs) => (match T.att c f, fGet f fs with | true, some d => .ok d false env1 h1 | _, _ => .no)
        | _ => .no)
      | .ex c d h => .ex c d h
      | _ => .no) := g
  refine ⟨w, env, h, rfl, x, ?_⟩
  show pE X.K M ca E w env σ _ (r.e k env h a)
  cases e : r.e k env h a with
  | no => simp only [e] at g; exact g
  | ex c d h' => simp only [e] at g; exact g
  | ok d fr env1 h1 =>
    cases d <;> simp only [e] at g <;> first | exact g.elim | skip
    rename_i i
    intro w1 v s l y1 rv
    have rv := Vw.of_rv rv
    unfold Vw Rep at rv
    obtain ⟨a1, ea, rfl⟩ := rv
    cases eo : getH h1 i with
    | none => simp only [eo] at g; exact g.elim
    | some ob => cases ob with
      | dK _ => simp only [eo] at g; exact g.elim
      | dT _ => simp only [eo] at g; exact g.elim
      | ins c fs =>
        simp only [eo] at g
        cases h5 : T.att c f with
        | false => simp only [h5] at g; exact g.elim
        | true => cases h6 : fGet f fs with
          | none => simp only [h5, h6] at g; exact g.elim
          | some d2 =>
            simp only [h5, h6] at g
            obtain ⟨a2, ho, e2, e3, dx, fv, rfl, rf⟩ := y1.ok.rh.ob i _ eo
            rw [ea] at e2; cases e2
            obtain ⟨t1, t2, t3⟩ := C.tf.at_ c f h5
            obtain ⟨z, e4, r4⟩ := fGet_ok t3 rf h6
            exact ⟨a1, ca c, dx, fv, z, rfl, e3, t1, t2, e4, g w1 z s l y1 r4⟩
end
end Ev
/-! Soundness of the small interpreter, 15: calls: the rules. -/
namespace Ev
open PySem PySem.Spec PyProof.Rows L2
section
variable {X : Cx} {k : Nat} {f C : Addr} {fd : FuncData} {ps : List Str} {sp : Sp} {E : XK} {x m : Str} {p pos apos : Pos} {e o : Expr} {es : List Expr} {te ta : TE} {t : TA}
theorem run_fnG {pins : List (Addr × Obj)} {σ : L2.St} {H : Hp} {s : Shared} {Q : VK} {us : List Value} {vs : List V} (F : FnG X.prog X.w X.K X.mg X.base k f fd ps sp) (hgd : X.A.guards = some []) (hr : Room k X.A) (hb : Binds X.K fd ps []) (hx : Passes (L2.CX X.prog X.w) X E)
    (I : Inv X pins σ H s) (r : Vals vs us) (h : sp vs H Q E) : wpAny (model X.prog X.w) X.A (call (.ref f) us) (EP X pins σ Q) X.xe s := by
  have hl : us.length = ps.length := by rw [← r.length]; exact F.len _ _ _ _ h
  have hbs : BindsTo s fd ⟨us, []⟩ (ps.zip us) := by
    have := hb s us I.kIn (by rw [List.append_nil]; exact hl)
    rw [List.append_nil] at this
    exact this
  refine wpAny_call (codeAny_mono (F.run X.A X.stack s H ⟨us, []⟩ us vs Q E hgd hr I.env0 hbs r h) fun r s' hq => ?_)
  cases r with
  | error e => exact hx pins σ H s e s' I hq
  | ok fl =>
    cases fl with
    | ret u => exact I.after hq
    | next => exact False.elim hq
    | brk => exact False.elim hq
    | cont => exact False.elim hq
theorem run_makeG {pins : List (Addr × Obj)} {σ : L2.St} {H : Hp} {s : Shared} {Q : VK} {us : List Value} {vs : List V} (Mm : Mk X.K C f) (F : FnG X.prog X.w X.K X.mg X.base k f fd ps sp) (hgd : X.A.guards = some []) (hr : Room (k + 1) X.A) (hb : Binds X.K fd ps [])
    (hx : Passes (L2.CX X.prog X.w) X E) (I : Inv X pins σ H s) (r : Vals vs us)
    (h : ∀ x dx, H x = none → H dx = none → dx ≠ x → sp (.ref x :: vs) (upd (upd H dx (.own x)) x (.ins C dx [])) (fun v H2 => v = .non ∧ Q (.ref x) H2) E) :
    wpAny (model X.prog X.w) X.A (call (.ref C) us) (EP X pins σ Q) X.xe s := by
  have hq := h (s.heap.objs.size + 1) s.heap.objs.size (I.hok.fresh (Nat.le_succ _)) (I.hok.fresh (Nat.le_refl _)) (Nat.ne_of_lt (Nat.lt_succ_self _))
  have I2 := Inv.made (C := C) I
  have r2 : Vals (V.ref (s.heap.objs.size + 1) :: vs) (Value.ref (s.heap.objs.size + 1) :: us) := .cons rfl r
  have hl : (Value.ref (s.heap.objs.size + 1) :: us).length = ps.length := by
    have e := r2.length
    rw [F.len _ _ _ _ hq] at e
    exact e.symm
  have hbs := hb _ (Value.ref (s.heap.objs.size + 1) :: us) I2.kIn (by rw [List.append_nil]; exact hl)
  rw [List.append_nil] at hbs
  refine wpAny_call (make_map (f := f) I.kIn Mm.makes Mm.init (beq_iff_eq.mp Mm.fn) (codeAny_mono (F.run _ X.stack _ _ ⟨Value.ref (s.heap.objs.size + 1) :: us, []⟩ (Value.ref (s.heap.objs.size + 1) :: us) _ _ E (by first | exact hgd | (simpa [Around.under] using hgd)) (hr.make C us [])
    (I2.env0.make C us []) hbs r2 hq) fun r s' hq' => ?_))
  cases r with
  | error e => exact hx pins σ _ _ e s' I2 hq'
  | ok fl =>
    cases fl with
    | ret u =>
      obtain ⟨v, H', I3, rv, ev, q3⟩ := I2.after hq'
      subst ev
      exact ⟨rv, ⟨V.ref (s.heap.objs.size + 1), H', I3, rfl, q3⟩⟩
    | next => exact False.elim hq'
    | brk => exact False.elim hq'
    | cont => exact False.elim hq'
theorem pe_callG (F : FnG X.prog X.w X.K X.mg X.base k f fd ps sp) (hgd : X.A.guards = some []) (hr : Room k X.A) (hg : Gl X x) (hm : X.mg x = some (.ref f)) (hk : PySem.W.keepIn X.K (.ref f) = true) (hb : Binds X.K fd ps []) (hx : Passes (L2.CX X.prog X.w) X E)
    (ha : PA X (e :: es) t) (hdb : (x == ("__debug__" : Str)) = false) (he : starEach (e :: es) X.env = (false, eval e X.env) :: starEach es X.env) (hpl : (backTo pos (starEach es X.env)).any (·.1) = false) :
    PE X (.Call (.Name x p) (e :: es) [] pos) (fun σ H Q => t σ H fun vs H1 => sp vs H1 Q E) := by
  refine ⟨fun pins s σ H Q I h => ?_⟩
  refine wpAny_Call_Name_kw (ld_glob I hg hm ?_ hdb)
  refine PySem.W.callWith_K (h₀ := X.base) I.ok.mod.kin hk (thn (ha.run pos pins s σ H _ I h) fun us s1 ⟨vs, H1, I1, r, q⟩ => ⟨I1.kIn, ?_⟩) he hpl
  exact run_fnG F hgd hr hb hx I1 r q
theorem pe_callG0 (F : FnG X.prog X.w X.K X.mg X.base k f fd ps sp) (hgd : X.A.guards = some []) (hr : Room k X.A) (hg : Gl X x) (hm : X.mg x = some (.ref f)) (hk : PySem.W.keepIn X.K (.ref f) = true) (hb : Binds X.K fd ps []) (hx : Passes (L2.CX X.prog X.w) X E)
    (hdb : (x == ("__debug__" : Str)) = false) : PE X (.Call (.Name x p) [] [] pos) (fun σ H Q => sp [] H Q E) := by
  refine ⟨fun pins s σ H Q I h => ?_⟩
  refine wpAny_Call_Name_kw (ld_glob I hg hm ?_ hdb)
  exact PySem.W.callWith_K0 I.kIn hk (run_fnG (us := []) F hgd hr hb hx I .nil h)
theorem pe_makeG (Mm : Mk X.K C f) (F : FnG X.prog X.w X.K X.mg X.base k f fd ps sp) (hgd : X.A.guards = some []) (hr : Room (k + 1) X.A) (hg : Gl X x) (hm : X.mg x = some (.ref C)) (hb : Binds X.K fd ps []) (hx : Passes (L2.CX X.prog X.w) X E)
    (ha : PA X (e :: es) t) (hdb : (x == ("__debug__" : Str)) = false) (he : starEach (e :: es) X.env = (false, eval e X.env) :: starEach es X.env) (hpl : (backTo pos (starEach es X.env)).any (·.1) = false) :
    PE X (.Call (.Name x p) (e :: es) [] pos) (fun σ H Q => t σ H fun vs H1 => ∀ x dx, H1 x = none → H1 dx = none → dx ≠ x → sp (.ref x :: vs) (upd (upd H1 dx (.own x)) x (.ins C dx [])) (fun v H2 => v = .non ∧ Q (.ref x) H2) E) := by
  refine ⟨fun pins s σ H Q I h => ?_⟩
  refine wpAny_Call_Name_kw (ld_glob I hg hm ?_ hdb)
  refine PySem.W.callWith_K (h₀ := X.base) I.ok.mod.kin Mm.kp (thn (ha.run pos pins s σ H _ I h) fun us s1 ⟨vs, H1, I1, r, q⟩ => ⟨I1.kIn, ?_⟩) he hpl
  exact run_makeG Mm F hgd hr hb hx I1 r q
theorem pe_makeG0 (Mm : Mk X.K C f) (F : FnG X.prog X.w X.K X.mg X.base k f fd ps sp) (hgd : X.A.guards = some []) (hr : Room (k + 1) X.A) (hg : Gl X x) (hm : X.mg x = some (.ref C)) (hb : Binds X.K fd ps []) (hx : Passes (L2.CX X.prog X.w) X E)
    (hdb : (x == ("__debug__" : Str)) = false) :
    PE X (.Call (.Name x p) [] [] pos) (fun σ H Q => ∀ x dx, H x = none → H dx = none → dx ≠ x → sp [.ref x] (upd (upd H dx (.own x)) x (.ins C dx [])) (fun v H2 => v = .non ∧ Q (.ref x) H2) E) := by
  refine ⟨fun pins s σ H Q I h => ?_⟩
  refine wpAny_Call_Name_kw (ld_glob I hg hm ?_ hdb)
  exact PySem.W.callWith_K0 I.kIn Mm.kp (run_makeG (us := []) Mm F hgd hr hb hx I .nil h)
theorem pe_methG {pl : Sem Bool} (he : PE X o ta) (c : Cls X.K C) (hm : Meth X.K C m f) (F : FnG X.prog X.w X.K X.mg X.base k f fd ps sp) (hgd : X.A.guards = some []) (hr : Room k X.A) (hb : Binds X.K fd ps []) (hx : Passes (L2.CX X.prog X.w) X E) (ha : PA X (e :: es) t)
    (hst : starEach (e :: es) X.env = (false, eval e X.env) :: starEach es X.env) (hpl : (backTo pos (starEach es X.env)).any (·.1) = false)
    (ht : eval (.Call (.Attribute o m apos) (e :: es) [] pos) X.env = (do
      let ov ← eval o X.env
      standAt apos.atName
      let (f, first) ← holding [ov] (getMethod ov m pl)
      callWith pos f first (backTo pos (starEach (e :: es) X.env)) (backToKw pos (keywordEach [] X.env)))) :
    PE X (.Call (.Attribute o m apos) (e :: es) [] pos) (fun σ H Q => ta σ H fun x H1 => ∃ a dx fs, x = .ref a ∧ H1 a = some (.ins C dx fs) ∧ fs.lookup m = none ∧ t σ H1 fun vs H2 => sp (x :: vs) H2 Q E) := by
  refine ⟨fun pins s σ H Q I h => ?_⟩
  refine PySem.W.methodCall_KW (pl := pl) (thn (he.run pins s σ H _ I h) fun u s1 ⟨x, H1, I1, rx, a, dx, fs, ex, ea, l, q⟩ => ?_) ht
  subst ex
  obtain rfl : u = Value.ref a := rx
  refine getmeth_ok I1 ea c hm l ?_
  refine PySem.W.callWith_K (first := [.ref a]) (h₀ := X.base) I.ok.mod.kin hm.kp (thn (ha.run pos pins s1 σ H1 _ I1 q) fun us s2 ⟨vs, H2, I2, r, q2⟩ => ⟨I2.kIn, ?_⟩) hst hpl
  exact run_fnG (us := .ref a :: us) (vs := .ref a :: vs) F hgd hr hb hx I2 (.cons rfl r) q2
end
theorem pe_methG0 {X : Cx} {k : Nat} {f C : Addr} {fd : FuncData} {ps : List Str} {sp : Sp} {E : XK} {m : Str} {pos apos : Pos} {o : Expr} {ta : TE} {pl : Sem Bool} (he : PE X o ta) (c : Cls X.K C) (hm : Meth X.K C m f) (F : FnG X.prog X.w X.K X.mg X.base k f fd ps sp) (hgd : X.A.guards = some []) (hr : Room k X.A) (hb : Binds X.K fd ps []) (hx : Passes (L2.CX X.prog X.w) X E)
    (ht : eval (.Call (.Attribute o m apos) [] [] pos) X.env = (do
      let ov ← eval o X.env
      standAt apos.atName
      let (f, first) ← holding [ov] (getMethod ov m pl)
      callWith pos f first (backTo pos (starEach [] X.env)) (backToKw pos (keywordEach [] X.env)))) :
    PE X (.Call (.Attribute o m apos) [] [] pos) (fun σ H Q => ta σ H fun x H1 => ∃ a dx fs, x = .ref a ∧ H1 a = some (.ins C dx fs) ∧ fs.lookup m = none ∧ sp [x] H1 Q E) := by
  refine ⟨fun pins s σ H Q I h => ?_⟩
  refine PySem.W.methodCall_KW (pl := pl) (thn (he.run pins s σ H _ I h) fun u s1 ⟨x, H1, I1, rx, a, dx, fs, ex, ea, l, q⟩ => ?_) ht
  subst ex
  obtain rfl : u = Value.ref a := rx
  refine getmeth_ok I1 ea c hm l ?_
  exact PySem.W.callWith_K0 (first := [.ref a]) I1.kIn hm.kp (run_fnG (us := [.ref a]) (vs := [.ref a]) F hgd hr hb hx I1 (.cons rfl .nil) q)
/-! ### values in a world of other owners -/
section
variable {K : PySem.W.Frag} {M : Nm} {ca : Nat → Addr} {w w' w1 w2 : Wd} {env env' env1 env2 : Env} {σ : L2.St} {h h' h1 h2 : Hs} {Q : VK} {E : XK} {d u v : D} {ds : List D} {a b : V} {vs : List V} {fr : Bool} {O : Addr → Prop}
mutual
/-- plain data without objects, fewer lists owned -/
theorem Rep.pl {rho' : List Addr} {S' : Addr → Prop} (hS : ∀ a, S' a → w.S a) : ∀ (d : D) (v : V), Ev.pure d = true → Rep K w d v → Rep K ⟨rho', S', w.H⟩ d v
  | .non, _, _, r => by unfold Rep at r ⊢; exact r
  | .bl _, _, _, r => by unfold Rep at r ⊢; exact r
  | .int _, _, _, r => by unfold Rep at r ⊢; exact r
  | .str _, _, _, r => by unfold Rep at r ⊢; exact r
  | .rep _, _, _, r => by unfold Rep at r ⊢; exact r
  | .tup ds, v, p, r => by
    unfold Rep at r ⊢
    obtain ⟨a, vs, e, q, t⟩ := r
    exact ⟨a, vs, e, q, Reps.pl hS ds vs (by unfold Ev.pure at p; exact p) t⟩
  | .lst ds, v, p, r => by
    unfold Rep at r ⊢
    obtain ⟨a, vs, e, n, q, t⟩ := r
    exact ⟨a, vs, e, fun z => n (hS a z), q, Reps.pl hS ds vs (by unfold Ev.pure at p; exact p) t⟩
  | .ref i, v, p, r => by unfold Ev.pure at p; cases p
theorem Reps.pl {rho' : List Addr} {S' : Addr → Prop} (hS : ∀ a, S' a → w.S a) : ∀ (ds : List D) (vs : List V), pures ds = true → Reps K w ds vs → Reps K ⟨rho', S', w.H⟩ ds vs
  | [], _, _, r => by unfold Reps at r ⊢; exact r
  | d :: ds, vs, p, r => by
    unfold Reps at r ⊢
    obtain ⟨v, q, e, r1, r2⟩ := r
    unfold pures at p
    cases pd : Ev.pure d with
    | false => rw [pd] at p; cases p
    | true => rw [pd] at p; exact ⟨v, q, e, Rep.pl hS d v pd r1, Reps.pl hS ds q p r2⟩
end
mutual
/-- plain data without objects and lists -/
theorem Rep.nl {rho' : List Addr} {S' : Addr → Prop} : ∀ (d : D) (v : V), Ev.pure d = true → noLst d = true → Rep K w d v → Rep K ⟨rho', S', w.H⟩ d v
  | .non, _, _, _, r => by unfold Rep at r ⊢; exact r
  | .bl _, _, _, _, r => by unfold Rep at r ⊢; exact r
  | .int _, _, _, _, r => by unfold Rep at r ⊢; exact r
  | .str _, _, _, _, r => by unfold Rep at r ⊢; exact r
  | .rep _, _, _, _, r => by unfold Rep at r ⊢; exact r
  | .tup ds, v, p, n, r => by
    unfold Rep at r ⊢
    obtain ⟨a, vs, e, q, t⟩ := r
    exact ⟨a, vs, e, q, Reps.nl ds vs (by unfold Ev.pure at p; exact p) (by unfold noLst at n; exact n) t⟩
  | .lst ds, v, p, n, r => by unfold noLst at n; cases n
  | .ref i, v, p, _, r => by unfold Ev.pure at p; cases p
theorem Reps.nl {rho' : List Addr} {S' : Addr → Prop} : ∀ (ds : List D) (vs : List V), pures ds = true → noLsts ds = true → Reps K w ds vs → Reps K ⟨rho', S', w.H⟩ ds vs
  | [], _, _, _, r => by unfold Reps at r ⊢; exact r
  | d :: ds, vs, p, n, r => by
    unfold Reps at r ⊢
    obtain ⟨v, q, e, r1, r2⟩ := r
    unfold pures at p
    unfold noLsts at n
    cases pd : Ev.pure d with
    | false => rw [pd] at p; cases p
    | true => cases nd : noLst d with
      | false => rw [nd] at n; cases n
      | true => rw [pd] at p; rw [nd] at n; exact ⟨v, q, e, Rep.nl d v pd nd r1, Reps.nl ds q p n r2⟩
end
/-! ### arguments of a pure call -/
/-- what has come for arguments: names are looked at when all has come -/
def ArgR (K : PySem.W.Frag) (w : Wd) (env : Env) (σ : L2.St) : List Ex → List D → List V → Prop
  | [], ds, vs => ds = [] ∧ vs = []
  | x :: xs, ds, vs => ∃ d ds' v vs', ds = d :: ds' ∧ vs = v :: vs' ∧ (match x with | .var i _ => look env i = some d ∧ σ[i]? = some (some v) | _ => Rep K w d v) ∧ ArgR K w env σ xs ds' vs'
/-- what is wanted behind the arguments -/
def pAs (K : PySem.W.Frag) (M : Nm) (ca : Nat → Addr) (E : XK) (w : Wd) (env : Env) (σ : L2.St) (xs : List Ex) (Q : List V → Hp → Prop) : Rs → Prop
  | .ok ds env' h' => ∀ w' vs, Stp (Own env σ) w w' → ELe env env' → SI K M ca env' σ h' w' → ArgR K w' env' σ xs ds vs → Q vs w'.H
  | .ex c d h' => ExW K M ca (Own env σ) w E c d h'
  | .no => False
theorem pAs.step {xs : List Ex} {QL : List V → Hp → Prop} (x : SI K M ca env σ h w) (s : Stp (Own env σ) w w1) (l : ELe env env1) {r : Rs} (g : pAs K M ca E w env σ xs QL r) : pAs K M ca E w1 env1 σ xs QL r := by
  cases r with
  | ok ds env' h' => exact fun w' v t m y r => g w' v (x.trans s l t) (l.trans m) y r
  | ex c d h' => exact fun w' dx v t ok ed r => g w' dx v (x.trans s l t) ok ed r
  | no => exact g
theorem as_of {r : Self} {k : Nat} {env : Env} {h : Hs} {x : Ex} {xs : List Ex} (hx : isVar x = false) : as r k env h (x :: xs) = (match r.e k env h x with
      | .ok d _ env1 h1 => (match as r k env1 h1 xs with | .ok qs env2 h2 => .ok (d :: qs) env2 h2 | .ex c d h => .ex c d h | .no => .no)
      | .ex c d h => .ex c d h
      | .no => .no) := by
  cases x <;> first | rfl | cases hx
theorem argR_of {x : Ex} {xs : List Ex} {d : D} {v : V} (hx : isVar x = false) (r : Rep K w d v) (t : ArgR K w env σ xs ds vs) : ArgR K w env σ (x :: xs) (d :: ds) (v :: vs) := by
  refine ⟨d, ds, v, vs, rfl, rfl, ?_, t⟩
  cases x <;> first | exact r | cases hx
theorem star1 {M : Nm} {N : List Str} {X : Cx} {x : Ex} {xs : List Ex} (hs : noStar (x :: xs) = true) : starEach (dec M N x :: decs M N xs) X.env = (false, eval (dec M N x) X.env) :: starEach (decs M N xs) X.env := by
  cases x <;> first | rfl | cases hs
theorem noStar_t {x : Ex} {xs : List Ex} (hs : noStar (x :: xs) = true) : noStar xs = true := by
  unfold noStar at hs
  exact (ba hs).2
theorem star0 {M : Nm} {N : List Str} {X : Cx} {pos : Pos} : ∀ {xs : List Ex}, noStar xs = true → (backTo pos (starEach (decs M N xs) X.env)).any (·.1) = false
  | [], _ => rfl
  | x :: xs, hs => by
    have e : starEach (decs M N (x :: xs)) X.env = (false, eval (dec M N x) X.env) :: starEach (decs M N xs) X.env := star1 hs
    rw [e]
    show (false || (backTo pos (starEach (decs M N xs) X.env)).any (·.1)) = false
    rw [star0 (noStar_t hs)]
    rfl
end
section
variable {X : Cx} {M : Nm} {T : Tab} {fa ca : Nat → Addr} {fds : Nat → FuncData} {pss : Nat → List Str} {N : List Str} {sc : Scope} {k n : Nat} {E : XK} {r : Self}
variable {w w' w1 w2 : Wd} {env env' env1 env2 : Env} {σ : L2.St} {h h' h1 h2 : Hs} {Q : VK} {d : D} {ds : List D} {v : V} {vs : List V} {O : Addr → Prop}
def tAs (K : PySem.W.Frag) (M : Nm) (ca : Nat → Addr) (E : XK) (xs : List Ex) (g : Env → Hs → Rs) : TA := fun σ H Q => ∃ w env h, w.H = H ∧ SI K M ca env σ h w ∧ pAs K M ca E w env σ xs Q (g env h)
theorem as_ok (C : XC X M T fa ca fds pss N sc k E) (IH : ∀ x, wfE M N sc x = true → Okx X M ca N k E r x) : ∀ (xs : List Ex), wfEs M N sc xs = true → noStar xs = true → PA X (decs M N xs) (tAs X.K M ca E xs fun env h => as r k env h xs)
  | [], _, _ => by
    refine PA.imp pa_nil fun σ H Q z => ?_
    obtain ⟨w, env, h, rfl, x, g⟩ := z
    exact g w [] Stp.refl ELe.refl x ⟨rfl, rfl⟩
  | x :: xs, wf, hs => by
    have wf2 : (wfE M N sc x && wfEs M N sc xs) = true := by unfold wfEs at wf; exact wf
    obtain ⟨wx, ws⟩ := ba wf2
    have ih := as_ok C IH xs ws (noStar_t hs)
    by_cases hv : isVar x = true
    · cases x <;> first | cases hv | skip
      rename_i i p
      refine PA.imp (pa_cons (pv_of C wx) ih (star1 hs)) fun σ H Q z => ?_
      obtain ⟨w, env, h, rfl, x, g⟩ := z
      have g : pAs X.K M ca E w env σ (.var i p :: xs) Q (match look env i with
      | some _ => (match as r k env h xs with
        | .ok qs env2 h2 => (match look env2 i with | some d => .ok (d :: qs) env2 h2 | none => .no)
        | .ex c d h => .ex c d h
        | .no => .no)
      | none => .no) := g
      cases e0 : look env i with
      | none => simp only [e0] at g; exact g.elim
      | some d0 =>
        simp only [e0] at g
        obtain ⟨v0, ev0, _⟩ := x.look e0
        refine ⟨v0, ev0, w, env, h, rfl, x, ?_⟩
        show pAs X.K M ca E w env σ xs _ (as r k env h xs)
        cases e : as r k env h xs with
        | no => simp only [e] at g; exact g
        | ex c d h' => simp only [e] at g; exact g
        | ok qs env2 h2 =>
          simp only [e] at g
          intro w2 vs s l y ar
          cases e2 : look env2 i with
          | none => simp only [e2] at g; exact g.elim
          | some d2 =>
            simp only [e2] at g
            exact g w2 (v0 :: vs) s l y ⟨d2, qs, v0, vs, rfl, rfl, ⟨e2, ev0⟩, ar⟩
    · have hv' := notVar hv
      refine PA.imp (pa_cons (IH x wx) ih (star1 hs)) fun σ H Q z => ?_
      obtain ⟨w, env, h, rfl, x0, g⟩ := z
      have g : pAs X.K M ca E w env σ (x :: xs) Q (as r k env h (x :: xs)) := g
      rw [as_of hv'] at g
      refine ⟨w, env, h, rfl, x0, pE_of_pS x0 ?_⟩
      show pS X.K M ca E w env σ _ (r.e k env h x)
      cases e : r.e k env h x with
      | no => simp only [e] at g; exact g
      | ex c d h' => simp only [e] at g; exact g
      | ok d fr env1 h1 =>
        simp only [e] at g
        intro w1 v s l y rv
        refine ⟨w1, env1, h1, rfl, y, ?_⟩
        have g := g.step x0 s l
        show pAs X.K M ca E w1 env1 σ xs _ (as r k env1 h1 xs)
        cases e2 : as r k env1 h1 xs with
        | ok qs env2 h2 => simp only [e2] at g; exact fun w2 ws s2 l2 y2 r2 => g w2 (v :: ws) s2 l2 y2 (argR_of hv' (s2.rep y.ok d v rv) r2)
        | ex c d h' => simp only [e2] at g; exact g
        | no => simp only [e2] at g; exact g
end
end Ev
/-! Soundness of the small interpreter, 16: calls. -/
namespace Ev
open PySem PySem.Spec PyProof.Rows L2
section
variable {K : PySem.W.Frag} {M : Nm} {ca : Nat → Addr} {w w' w1 w2 : Wd} {env env' env1 env2 : Env} {σ : L2.St} {h h' h1 h2 : Hs} {Q : VK} {E : XK} {d u v : D} {ds : List D} {a b : V} {vs : List V} {fr : Bool} {O : Addr → Prop}
/-- the lists that are lent -/
def Lent (env : Env) (σ : L2.St) (xs : List Ex) (a : Addr) : Prop := ∃ i p, Ex.var i p ∈ xs ∧ 2 ≤ tag (getS env i) ∧ σ[i]? = some (some (.ref a))
/-- the callee's world -/
def Wd.cal (w : Wd) (L : Addr → Prop) : Wd := ⟨[], fun a => w.S a ∧ ¬ L a, w.H⟩
theorem cal_ok (x : WdOk K M ca w h) {L : Addr → Prop} : WdOk K M ca (w.cal L) [] :=
  ⟨fun a z => x.dom a z.1, rfl, List.nodup_nil, fun i o e => by cases i <;> cases e⟩
theorem args_cal (x : SI K M ca env σ h w) : ∀ {xs : List Ex} {ds : List D} {vs : List V} {L : Addr → Prop}, (∀ a, Lent env σ xs a → L a) → pures ds = true → ArgR K w env σ xs ds vs → Reps K (w.cal L) ds vs
  | [], _, _, L, _, _, r => by
    obtain ⟨rfl, rfl⟩ := r
    exact Reps.nil
  | e :: xs, _, _, L, hL, p, r => by
    obtain ⟨d, ds, v, vs, rfl, rfl, r1, r2⟩ := r
    unfold pures at p
    cases pd : Ev.pure d with
    | false => rw [pd] at p; cases p
    | true =>
      rw [pd] at p
      refine Reps.cons ?_ (args_cal x (fun a z => hL a (let ⟨i, q, m, t⟩ := z; ⟨i, q, List.mem_cons_of_mem _ m, t⟩)) p r2)
      by_cases hv : isVar e = true
      · cases e <;> first | cases hv | skip
        rename_i i pos
        obtain ⟨l1, l2⟩ := r1
        have q := x.re.sl i
        unfold look at l1
        have own : ∀ qs : List D, (∃ a vs, σ[i]? = some (some (.ref a)) ∧ w.S a ∧ w.H a = some (.lst vs) ∧ Reps K w qs vs) → 2 ≤ tag (getS env i) → d = .lst qs → Rep K (w.cal L) d v := fun qs q t ed => by
          subst ed
          obtain ⟨a, us, e1, s, eh, rp⟩ := q
          rw [l2] at e1; cases e1
          unfold Rep
          refine ⟨a, us, rfl, fun z => z.2 (hL a ⟨i, pos, List.mem_cons_self .., t, l2⟩), .inl eh, Reps.pl (fun a z => z.1) qs us (by unfold Ev.pure at pd; exact pd) rp⟩
        cases hs : getS env i with
        | u => rw [hs] at l1; cases l1
        | v d2 =>
          rw [hs] at l1 q; cases l1
          obtain ⟨v2, e1, rp⟩ := q
          rw [l2] at e1; cases e1
          exact Rep.pl (fun a z => z.1) _ _ pd rp
        | l qs => rw [hs] at l1 q; cases l1; exact own qs q (by rw [hs]; exact Nat.le_refl 2) rfl
        | k qs => rw [hs] at l1 q; cases l1; exact own qs q (by rw [hs]; show 2 ≤ 3; decide) rfl
      · cases e <;> first | exact absurd rfl hv | exact Rep.pl (fun a z => z.1) d v pd r1
/-- back in the caller's world: the lists are owned as S says -/
theorem back_stp {L S2 : Addr → Prop} (x : WdOk K M ca w h) (s : Stp (fun _ => False) (w.cal L) w') (h1 : ∀ p, w.S p → ¬ O p → S2 p) (h2 : ∀ p, S2 p → w.S p ∨ w.H p = none) : Stp O w ⟨w.rho, S2, w'.H⟩ where
  own := fun p a no => ⟨h1 p a no, fun o e => by
    by_cases l : L p
    · exact s.keep p o e (fun z => nomatch z) fun z => z.2 l
    · exact (s.own p ⟨a, l⟩ fun z => z).2 o e⟩
  keep := fun b o e _ ns => s.keep b o e (fun z => nomatch z) fun z => ns z.1
  there := fun b e => s.there b e
  pre := ⟨[], by simp, fun _ z => nomatch z⟩
  fresh := h2
theorem back_keep {L : Addr → Prop} (s : Stp (fun _ => False) (w.cal L) w') {p : Addr} {o : HO} (e : w.H p = some o) : w'.H p = some o := by
  by_cases l : w.S p ∧ ¬ L p
  · exact (s.own p l fun z => z).2 o e
  · exact s.keep p o e (fun z => nomatch z) l
theorem back_ok {L S2 : Addr → Prop} (x : WdOk K M ca w h) (s : Stp (fun _ => False) (w.cal L) w') (st : Stp O w ⟨w.rho, S2, w'.H⟩) (hd : ∀ p, S2 p → w.S p ∨ ∃ vs, w'.H p = some (.lst vs)) : WdOk K M ca ⟨w.rho, S2, w'.H⟩ h := by
  refine ⟨fun p z => ?_, RH.on x st rfl fun p _ o e => back_keep s e⟩
  rcases hd p z with q | q
  · obtain ⟨vs, e⟩ := x.dom p q
    exact ⟨vs, back_keep s e⟩
  · exact q
/-- no list comes back -/
theorem back_nl {L : Addr → Prop} (x : SI K M ca env σ h w) (s : Stp (fun _ => False) (w.cal L) w') (p : Ev.pure d = true) (n : noLst d = true) (r : RV K (w.cal L) w' fr d a) :
    Stp (fun _ => False) w ⟨w.rho, w.S, w'.H⟩ ∧ SI K M ca env σ h ⟨w.rho, w.S, w'.H⟩ ∧ Rep K ⟨w.rho, w.S, w'.H⟩ d a := by
  have st : Stp (fun _ => False) w ⟨w.rho, w.S, w'.H⟩ := back_stp x.ok s (fun _ a _ => a) fun _ a => .inl a
  have ok : WdOk K M ca ⟨w.rho, w.S, w'.H⟩ h := back_ok x.ok s st fun p z => .inl z
  refine ⟨st, x.on0 st ok, ?_⟩
  cases fr with
  | true => obtain ⟨q, vs, ds, rfl, _⟩ := r; unfold noLst at n; cases n
  | false => exact Rep.nl d a p n r
/-- frozen slots -/
theorem froze_get : ∀ {xs : List Ex} {env env2 : Env}, froze env xs = some env2 → env2.length = env.length ∧ ∀ i, (getS env2 i = getS env i ∧ ((∃ p, Ex.var i p ∈ xs) → tag (getS env i) < 2)) ∨ ((∃ p, Ex.var i p ∈ xs) ∧ ∃ ds, getS env i = .l ds ∧ getS env2 i = .v (.lst ds))
  | [], env, env2, e => by
    cases e
    exact ⟨rfl, fun i => .inl ⟨rfl, fun ⟨p, z⟩ => nomatch z⟩⟩
  | x :: xs, env, env2, e => by
    by_cases hv : isVar x = true
    · cases x <;> first | cases hv | skip
      rename_i j pos
      have e : (match getS env j with
      | .l ds => froze (setS (.v (.lst ds)) env j) xs
      | .k _ => none
      | _ => froze env xs) = some env2 := e
      have same : tag (getS env j) < 2 → froze env xs = some env2 → env2.length = env.length ∧ ∀ i, (getS env2 i = getS env i ∧ ((∃ p, Ex.var i p ∈ (.var j pos :: xs)) → tag (getS env i) < 2)) ∨ ((∃ p, Ex.var i p ∈ (.var j pos :: xs)) ∧ ∃ ds, getS env i = .l ds ∧ getS env2 i = .v (.lst ds)) := fun tj e => by
        obtain ⟨l, f⟩ := froze_get e
        refine ⟨l, fun i => ?_⟩
        rcases f i with ⟨a, b⟩ | ⟨⟨p, m⟩, q⟩
        · refine .inl ⟨a, fun ⟨p, m⟩ => ?_⟩
          rcases List.mem_cons.mp m with m | m
          · cases m; exact tj
          · exact b ⟨p, m⟩
        · exact .inr ⟨⟨p, List.mem_cons_of_mem _ m⟩, q⟩
      cases hs : getS env j with
      | k ds => rw [hs] at e; cases e
      | u => rw [hs] at e; exact same (by rw [hs]; decide) e
      | v d => rw [hs] at e; exact same (by rw [hs]; show 1 < 2; decide) e
      | l ds =>
        rw [hs] at e
        have hj : j < env.length := getS_lt (by rw [hs]; exact fun z => by cases z)
        obtain ⟨l, f⟩ := froze_get e
        refine ⟨by rw [l, setS_len], fun i => ?_⟩
        by_cases ij : j = i
        · subst ij
          rcases f j with ⟨a, b⟩ | ⟨_, qs, q1, _⟩
          · rw [getS_set_same hj] at a
            exact .inr ⟨⟨pos, List.mem_cons_self ..⟩, ds, hs, a⟩
          · rw [getS_set_same hj] at q1; cases q1
        · rcases f i with ⟨a, b⟩ | ⟨⟨p, m⟩, qs, q1, q2⟩
          · rw [getS_set_ne ij] at a b
            refine .inl ⟨a, fun ⟨p, m⟩ => ?_⟩
            rcases List.mem_cons.mp m with m | m
            · cases m; exact absurd rfl ij
            · exact b ⟨p, m⟩
          · rw [getS_set_ne ij] at q1
            exact .inr ⟨⟨p, List.mem_cons_of_mem _ m⟩, qs, q1, q2⟩
    · have e : froze env xs = some env2 := by cases x <;> first | exact absurd rfl hv | exact e
      obtain ⟨l, f⟩ := froze_get e
      refine ⟨l, fun i => ?_⟩
      rcases f i with ⟨a, b⟩ | ⟨⟨p, m⟩, q⟩
      · refine .inl ⟨a, fun ⟨p, m⟩ => ?_⟩
        rcases List.mem_cons.mp m with m | m
        · subst m; exact absurd rfl hv
        · exact b ⟨p, m⟩
      · exact .inr ⟨⟨p, List.mem_cons_of_mem _ m⟩, q⟩
theorem froze_ele {xs : List Ex} (e : froze env xs = some env2) : ELe env env2 := by
  obtain ⟨l, f⟩ := froze_get e
  refine ⟨l, fun i => ?_⟩
  rcases f i with ⟨a, _⟩ | ⟨_, qs, q1, q2⟩
  · exact .inl (by rw [a])
  · exact .inr ⟨by rw [q1]; rfl, by rw [q2]; rfl⟩
/-- lists are handed on: a later world in which the lent ones are nobody's -/
theorem froze_si {xs : List Ex} (x : SI K M ca env σ h w) (e : froze env xs = some env2) {L : Addr → Prop} (hL : ∀ a, L a → Lent env σ xs a) (st : Stp L w w2) (ok : WdOk K M ca w2 h)
    (hn : ∀ a, Lent env σ xs a → ¬ w2.S a) (hk : ∀ a, L a → w2.H a = w.H a) : SI K M ca env2 σ h w2 := by
  obtain ⟨l, f⟩ := froze_get e
  have notL : ∀ i a, 2 ≤ tag (getS env i) → σ[i]? = some (some (.ref a)) → (∀ p, Ex.var i p ∉ xs) → ¬ L a := fun i a t ei no z => by
    obtain ⟨j, p, m, tj, ej⟩ := hL a z
    have := x.re.one i j a t tj ei ej
    subst this
    exact no p m
  have tg2 : ∀ i, 2 ≤ tag (getS env2 i) → getS env2 i = getS env i ∧ ∀ p, Ex.var i p ∉ xs := fun i t => by
    rcases f i with ⟨a, b⟩ | ⟨_, qs, q1, q2⟩
    · exact ⟨a, fun p m => by have := b ⟨p, m⟩; rw [← a] at this; omega⟩
    · rw [q2] at t; exact absurd t (show ¬ 2 ≤ 1 by decide)
  refine ⟨ok, by rw [l]; exact x.re.len, fun i => ?_, fun i j a hi hj ei ej => ?_⟩
  · have q := x.re.sl i
    rcases f i with ⟨a, b⟩ | ⟨⟨p, m⟩, qs, q1, q2⟩
    · rw [a]
      cases hs : getS env i with
      | u => trivial
      | v d =>
        rw [hs] at q
        obtain ⟨v, e, r⟩ := q
        exact ⟨v, e, st.rep x.ok d v r⟩
      | l ds =>
        rw [hs] at q
        obtain ⟨b2, us, e, sb, eb, r⟩ := q
        obtain ⟨s2, k2⟩ := st.own b2 sb (notL i b2 (by rw [hs]; exact Nat.le_refl 2) e fun p m => by have := b ⟨p, m⟩; rw [hs] at this; exact absurd this (show ¬ 2 < 2 by decide))
        exact ⟨b2, us, e, s2, k2 _ eb, st.reps x.ok ds us r⟩
      | k ds =>
        rw [hs] at q
        obtain ⟨b2, us, e, sb, eb, r⟩ := q
        obtain ⟨s2, k2⟩ := st.own b2 sb (notL i b2 (by rw [hs]; show 2 ≤ 3; decide) e fun p m => by have := b ⟨p, m⟩; rw [hs] at this; exact absurd this (show ¬ 3 < 2 by decide))
        exact ⟨b2, us, e, s2, k2 _ eb, st.reps x.ok ds us r⟩
    · rw [q2]
      rw [q1] at q
      obtain ⟨a, us, e1, sa, eh, rp⟩ := q
      have la : Lent env σ xs a := ⟨i, p, m, by rw [q1]; exact Nat.le_refl 2, e1⟩
      refine ⟨_, e1, ?_⟩
      unfold Rep
      refine ⟨a, us, rfl, hn a la, .inl ?_, st.reps x.ok qs us rp⟩
      by_cases z : L a
      · rw [hk a z]; exact eh
      · exact (st.own a sa z).2 _ eh
  · obtain ⟨a1, _⟩ := tg2 i hi
    obtain ⟨a2, _⟩ := tg2 j hj
    rw [a1] at hi
    rw [a2] at hj
    exact x.re.one i j a hi hj ei ej
/-- lists may have come back -/
theorem back_ls {xs : List Ex} (x : SI K M ca env σ h w) (e : froze env xs = some env2) (s : Stp (fun _ => False) (w.cal (Lent env σ xs)) w') (p : Ev.pure d = true) (r : RV K (w.cal (Lent env σ xs)) w' fr d a) :
    ∃ w2, w2.H = w'.H ∧ Stp (Own env σ) w w2 ∧ SI K M ca env2 σ h w2 ∧ RV K w w2 fr d a := by
  let S2 : Addr → Prop := fun q => (w.S q ∧ ¬ Lent env σ xs q) ∨ (fr = true ∧ a = .ref q ∧ w'.S q ∧ w.H q = none ∧ ∃ us, w'.H q = some (.lst us))
  have hs2 : ∀ q, S2 q → w'.S q := fun q z => by
    rcases z with z | z
    · exact (s.own q z fun z => z).1
    · exact z.2.2.1
  have st : Stp (Lent env σ xs) w ⟨w.rho, S2, w'.H⟩ := back_stp x.ok s (fun q a b => .inl ⟨a, b⟩) fun q z => by
    rcases z with z | z
    · exact .inl z.1
    · exact .inr z.2.2.2.1
  have ok : WdOk K M ca ⟨w.rho, S2, w'.H⟩ h := back_ok x.ok s st fun q z => by
    rcases z with z | z
    · exact .inl z.1
    · exact .inr z.2.2.2.2
  have f := (froze_get e).2
  have lo : ∀ q, Lent env σ xs q → Own env σ q := fun q ⟨i, pos, m, t, ei⟩ => ⟨i, by
    rcases f i with ⟨_, b⟩ | ⟨_, qs, q1, _⟩
    · have := b ⟨pos, m⟩; omega
    · rw [q1]; rfl, ei⟩
  refine ⟨⟨w.rho, S2, w'.H⟩, rfl, st.mono lo, froze_si x e (fun _ z => z) st ok (fun q z y => ?_) (fun q z => ?_), ?_⟩
  · rcases y with y | y
    · exact y.2 z
    · exact x.ok.ne (x.ownS (lo q z)) y.2.2.2.1
  · obtain ⟨us, eu⟩ := x.ok.dom q (x.ownS (lo q z))
    rw [eu]
    exact back_keep s eu
  · cases fr with
    | false => exact Rep.pl hs2 d a p r
    | true =>
      obtain ⟨q, us, ds, rfl, rfl, sq, eq, rq, nq⟩ := r
      exact ⟨q, us, ds, rfl, rfl, .inr ⟨rfl, rfl, sq, nq, us, eq⟩, eq, Reps.pl hs2 ds us (by unfold Ev.pure at p; exact p) rq, nq⟩
end
section
variable {X : Cx} {M : Nm} {T : Tab} {fa ca : Nat → Addr} {fds : Nat → FuncData} {pss : Nat → List Str} {N : List Str} {sc : Scope} {k n : Nat} {E : XK} {r : Self}
variable {w w' w1 w2 : Wd} {env env' env1 env2 : Env} {σ : L2.St} {h h' h1 h2 : Hs} {Q : VK} {d : D} {ds : List D} {v : V} {vs : List V} {O : Addr → Prop}
/-- the promises of the defs, at a level -/
def FsOk (X : Cx) (M : Nm) (T : Tab) (fa ca : Nat → Addr) (fds : Nat → FuncData) (pss : Nat → List Str) (k : Nat) (r : Self) : Prop :=
  ∀ k' f, k = k' + 1 → T.kind f ≠ .no → FnG X.prog X.w X.K X.mg X.base (2 * k' + 2) (fa f) (fds f) (pss f) (spF X.K M ca (pss f) fun ds h => r.run k' f ds h)
/-- a run that ends has the right number of arguments -/
def RunLen (T : Tab) (r : Self) : Prop := ∀ k f ds h, r.run k f ds h = .no ∨ ∃ fn, T.fns.get f = some fn ∧ ds.length = fn.nargs
theorem runLen (T : Tab) : ∀ n, RunLen T (ev T n)
  | 0 => fun _ _ _ _ => .inl rfl
  | n + 1 => fun k f ds h => by
    show (match T.fns.get f with
    | some fn => match Nat.beq ds.length fn.nargs with
      | true => (match T.nat k f ds with
        | some d => CR.ok d false h
        | none => (match ss (ev T n) k (vs ds ++ us (fn.nslots - fn.nargs)) h fn.body with
          | .rt d fr h1 => .ok d fr h1
          | .nx _ h1 => .ok .non false h1
          | .ex c d h1 => .ex c d h1
          | _ => .no))
      | false => .no
    | none => .no) = .no ∨ _
    cases e : T.fns.get f with
    | none => exact .inl rfl
    | some fn =>
      cases e2 : Nat.beq ds.length fn.nargs with
      | false => exact .inl (by simp only [e2])
      | true => exact .inr ⟨fn, rfl, Nat.eq_of_beq_eq_true e2⟩
theorem n_call (RL : RunLen T r) (C : XC X M T fa ca fds pss N sc k E) (IH : ∀ x, wfE M N sc x = true → Okx X M ca N k E r x) (FS : FsOk X M T fa ca fds pss k r) {f : Nat} {xs : List Ex} {p1 p : Pos} (wf : wfE M N sc (.call f xs p1 p) = true) : Okx X M ca N k E (F T r) (.call f xs p1 p) := by
  have wf2 : (isGlK (sc.names.lookup (M.f f)) && okName (M.f f) && noStar xs && wfEs M N sc xs) = true := by unfold wfE at wf; exact wf
  obtain ⟨wf3, ws⟩ := ba wf2
  obtain ⟨wf4, wn⟩ := ba wf3
  obtain ⟨wg, wo⟩ := ba wf4
  -- nothing to show where the interpreter does not go
  have bad : (∀ env h, (F T r).e k env h (.call f xs p1 p) = .no) → Okx X M ca N k E (F T r) (.call f xs p1 p) := fun e => ⟨fun pins s σ H Q I z => by
    obtain ⟨w, env, h, rfl, x, g⟩ := z
    have g : pE X.K M ca E w env σ Q ((F T r).e k env h (.call f xs p1 p)) := g
    rw [e] at g
    exact g.elim⟩
  cases hk : T.kind f with
  | mt c => exact bad fun env h => by simp only [F, hk]
  | no => exact bad fun env h => by simp only [F, hk]
  | fn =>
    cases k with
    | zero => exact bad fun env h => by simp only [F, hk]
    | succ k' =>
      obtain ⟨hm, kp⟩ := C.tf.fn f hk
      have kd : T.kind f ≠ .no := by rw [hk]; exact fun z => by cases z
      have hb := C.tf.bd f kd
      have FG := FS k' f rfl (by rw [hk]; exact fun z => by cases z)
      have gl : Gl X (M.f f) := by unfold Gl PySem.Env.kindOf; rw [C.hs]; exact gl_of wg
      have rm : Room (2 * k' + 2) X.A := C.room.mono (by omega)
      have main : PE X (dec M N (.call f xs p1 p)) (fun σ H Q => tAs X.K M ca E xs (fun env h => as r (k' + 1) env h xs) σ H fun vs H1 => spF X.K M ca (pss f) (fun ds h => r.run k' f ds h) vs H1 Q E) := by
        have pa := as_ok C IH xs ws wn
        cases xs with
        | nil =>
          refine PE.imp (pe_callG0 FG C.grd rm gl hm kp hb C.pas (okName.d wo).1) fun σ H Q z => ?_
          obtain ⟨w, env, h, rfl, x, g⟩ := z
          exact g w [] Stp.refl ELe.refl x ⟨rfl, rfl⟩
        | cons x xs => exact pe_callG FG C.grd rm gl hm kp hb C.pas pa (okName.d wo).1 (star1 wn) (star0 (noStar_t wn))
      refine PE.imp main fun σ H Q z => ?_
      obtain ⟨w, env, h, rfl, x, g⟩ := z
      have g : pE X.K M ca E w env σ Q (match as r (k' + 1) env h xs with
        | .ok ds env1 h1 => (match pures ds, r.run k' f ds [] with
          | true, .ok d fr _ => (match Ev.pure d with
            | true => (match noLst d with
              | true => .ok d false env1 h1
              | false => (match froze env1 xs with | some env2 => .ok d fr env2 h1 | none => .no))
            | false => .no)
          | true, .ex c d _ => (match Ev.pure d, noLst d with | true, true => .ex c d h1 | _, _ => .no)
          | _, _ => .no)
        | .ex c d h => .ex c d h
        | .no => .no) := by
        have g : pE X.K M ca E w env σ Q ((F T r).e (k' + 1) env h (.call f xs p1 p)) := g
        simp only [F, hk] at g
        exact g
      refine ⟨w, env, h, rfl, x, ?_⟩
      show pAs X.K M ca E w env σ xs _ (as r (k' + 1) env h xs)
      cases e : as r (k' + 1) env h xs with
      | no => simp only [e] at g; exact g
      | ex c d h' => simp only [e] at g; exact g
      | ok ds env1 h1 =>
        simp only [e] at g
        intro w1 vs s l y ar
        have g := g.step x s l
        cases hp : pures ds with
        | false => simp only [hp] at g; exact g.elim
        | true =>
          simp only [hp] at g
          have ra := args_cal y (fun a z => z) hp ar
          have ln : r.run k' f ds [] ≠ .no → vs.length = (pss f).length := fun ne => by
            rcases RL k' f ds [] with z | ⟨fn, e1, e2⟩
            · exact absurd z ne
            · rw [ra.length, e2]; exact C.tf.na f fn kd e1
          refine ⟨ln fun z => by simp only [z] at g; exact g, w1.cal (Lent env1 σ xs), ds, [], rfl, cal_ok y.ok, ra, ?_⟩
          show spR X.K M ca (w1.cal (Lent env1 σ xs)) Q E (r.run k' f ds [])
          cases er : r.run k' f ds [] with
          | no => simp only [er] at g; exact g.elim
          | ex c d h' =>
            simp only [er] at g
            intro w' dx v st ok ed rv
            cases pd : Ev.pure d with
            | false => simp only [pd] at g; exact g.elim
            | true => cases nd : noLst d with
              | false => simp only [pd, nd] at g; exact g.elim
              | true =>
                simp only [pd, nd] at g
                obtain ⟨s2, y2, r2⟩ := back_nl (fr := false) y st pd nd rv
                exact g ⟨w1.rho, w1.S, w'.H⟩ dx v s2.toAny y2.ok ed r2
          | ok d fr h' =>
            simp only [er] at g
            intro w' v st ok rv
            cases pd : Ev.pure d with
            | false => simp only [pd] at g; exact g.elim
            | true =>
              simp only [pd] at g
              cases nd : noLst d with
              | true =>
                simp only [nd] at g
                obtain ⟨s2, y2, r2⟩ := back_nl y st pd nd rv
                exact g ⟨w1.rho, w1.S, w'.H⟩ v s2.toAny ELe.refl y2 r2
              | false =>
                simp only [nd] at g
                cases ef : froze env1 xs with
                | none => simp only [ef] at g; exact g.elim
                | some env2 =>
                  simp only [ef] at g
                  obtain ⟨w2, e2, s2, y2, r2⟩ := back_ls y ef st pd rv
                  rw [← e2]
                  exact g w2 v s2 (froze_ele ef) y2 r2
end
end Ev
/-! Soundness of the small interpreter, 17: new instances, methods. -/
namespace Ev
open PySem PySem.Spec PyProof.Rows L2
section
variable {K : PySem.W.Frag} {M : Nm} {ca : Nat → Addr} {w w' w1 w2 : Wd} {env env' env1 env2 : Env} {σ : L2.St} {h h' h1 h2 : Hs} {Q : VK} {E : XK} {d u v : D} {ds : List D} {a b : V} {vs : List V} {fr : Bool} {O : Addr → Prop}
/-- a new object that the small heap knows -/
def Wd.put (w : Wd) (p : Addr) (H' : Hp) : Wd := ⟨w.rho ++ [p], w.S, H'⟩
theorem put_ok (x : WdOk K M ca w h) {p : Addr} {H' : Hp} {o : VO} {ho : HO} (np : w.H p = none) (keep : ∀ b u, w.H b = some u → H' b = some u) (there : ∀ b, H' b = none → w.H b = none) (ep : H' p = some ho)
    (hr : ∀ w2 : Wd, w2 = w.put p H' → ObR K M ca w2 p o ho) : Stp (fun _ => False) w (w.put p H') ∧ WdOk K M ca (w.put p H') (h ++ [o]) := by
  have st : Stp (fun _ => False) w (w.put p H') := ⟨fun q a _ => ⟨a, fun u e => keep q u e⟩, fun b u e _ _ => keep b u e, there, ⟨[p], rfl, fun b hb => by
    rw [List.mem_singleton] at hb
    subst hb; exact np⟩, fun a z => .inl z⟩
  refine ⟨st, fun a z => ?_, ?_, ?_, fun i ob e => ?_⟩
  · obtain ⟨us, e⟩ := x.dom a z
    exact ⟨us, keep a _ e⟩
  · show (w.rho ++ [p]).length = (h ++ [o]).length
    rw [List.length_append, List.length_append, x.rh.len]
    rfl
  · show (w.rho ++ [p]).Nodup
    rw [List.nodup_append]
    refine ⟨x.rh.nd, by simp, fun a ha b hb => ?_⟩
    rw [List.mem_singleton] at hb
    subst hb
    intro z
    subst z
    obtain ⟨i, hi, ei⟩ := List.getElem_of_mem ha
    obtain ⟨a2, ho2, e1, e2, _⟩ := x.rh.ob i (h[i]'(by rw [← x.rh.len]; exact hi)) (by rw [getH_eq]; exact List.getElem?_eq_getElem _)
    rw [List.getElem?_eq_getElem hi, ei] at e1
    cases e1
    rw [np] at e2; cases e2
  · rw [getH_eq] at e
    by_cases hi : i < h.length
    · rw [List.getElem?_append_left hi] at e
      obtain ⟨a, ho2, e1, e2, r⟩ := x.rh.ob i ob (by rw [getH_eq]; exact e)
      refine ⟨a, ho2, ?_, keep a _ e2, ?_⟩
      · show (w.rho ++ [p])[i]? = some a
        rw [List.getElem?_append_left (by rw [x.rh.len]; exact hi)]
        exact e1
      · cases ob with
        | dK kvs => obtain ⟨ks, e, r⟩ := r; exact ⟨ks, e, Paired.imp (fun a b z => ⟨z.1, st.rep x _ _ z.2⟩) r⟩
        | dT kvs => obtain ⟨ks, e, r⟩ := r; exact ⟨ks, e, Paired.imp (fun a b z => ⟨z.1, st.rdT x z.2.1, let ⟨v, r1, r2⟩ := z.2.2; ⟨v, r1, st.rep x _ _ r2⟩⟩) r⟩
        | ins c fs => obtain ⟨dx, fv, e, r⟩ := r; exact ⟨dx, fv, e, Paired.imp (fun a b z => ⟨z.1, st.rep x _ _ z.2⟩) r⟩
    · have hl : i = h.length := by
        have := (List.getElem?_eq_some_iff.mp e).1
        rw [List.length_append] at this
        have : i < h.length + 1 := this
        omega
      subst hl
      rw [List.getElem?_append_right (Nat.le_refl _), Nat.sub_self] at e
      cases e
      refine ⟨p, ho, ?_, ep, hr _ rfl⟩
      show (w.rho ++ [p])[h.length]? = some p
      rw [List.getElem?_append_right (by rw [x.rh.len]; exact Nat.le_refl _), x.rh.len, Nat.sub_self]
      rfl
theorem put_ref (x : WdOk K M ca w h) {p : Addr} {H' : Hp} : Rep K (w.put p H') (.ref h.length) (.ref p) := by
  unfold Rep
  refine ⟨p, ?_, rfl⟩
  show (w.rho ++ [p])[h.length]? = some p
  rw [List.getElem?_append_right (by rw [x.rh.len]; exact Nat.le_refl _), x.rh.len, Nat.sub_self]
  rfl
theorem Stp.transF (s : Stp (fun _ => False) w w1) (x : WdOk K M ca w h) (t : Stp (fun _ => False) w1 w2) : Stp (fun _ => False) w w2 :=
  s.trans t (fun a z => x.ne z) fun a z => z.elim
theorem lookup_none {fs : List (Nat × D)} {fv : List (Str × V)} {m : Str} (hm : ∀ g, M.fl g ≠ m) (r : FlR K M w fs fv) : fv.lookup m = none := by
  unfold FlR at r
  induction r with
  | nil => rfl
  | @cons p q ps qs hq t ih =>
    rw [List.lookup_cons, hq.1]
    rw [show (m == M.fl p.1) = false from beq_false_of_ne fun z => hm p.1 z.symm]
    exact ih
end
section
variable {X : Cx} {M : Nm} {T : Tab} {fa ca : Nat → Addr} {fds : Nat → FuncData} {pss : Nat → List Str} {N : List Str} {sc : Scope} {k n : Nat} {E : XK} {r : Self}
variable {w w' w1 w2 : Wd} {env env' env1 env2 : Env} {σ : L2.St} {h h' h1 h2 : Hs} {Q : VK} {d : D} {ds : List D} {v : V} {vs : List V} {O : Addr → Prop}
theorem tE_mono {K : PySem.W.Frag} {g : Env → Hs → Res} {H : Hp} {Q Q' : VK} (z : tE K M ca E g σ H Q) (hq : ∀ v H, Q v H → Q' v H) : tE K M ca E g σ H Q' := by
  obtain ⟨w, env, h, e, x, z⟩ := z
  refine ⟨w, env, h, e, x, ?_⟩
  cases e2 : g env h with
  | no => rw [e2] at z; exact z
  | ex c d h' => rw [e2] at z; exact z
  | ok d fr env1 h1 => rw [e2] at z; exact fun w' v s l y rv => hq v _ (z w' v s l y rv)
theorem meth_form {es : List Ex} {o : Expr} {m : Str} {pa p : Pos} (hb : attributeBase o m X.env (eval o X.env) = eval o X.env) (hm : mOk es pa p = true) (hs : noStar es = true) :
    eval (.Call (.Attribute o m pa) (decs M N es) [] p) X.env = (do
      let ov ← eval o X.env
      standAt pa.atName
      let (f, first) ← holding [ov] (getMethod ov m (do return (← importBound o X.env).getD true))
      callWith p f first (backTo p (starEach (decs M N es) X.env)) (backToKw p (keywordEach [] X.env))) := by
  obtain ⟨h1, h2⟩ := ba hm
  have hl : ∀ es : List Ex, (decs M N es).length = es.length := fun es => by
    induction es with
    | nil => rfl
    | cons a r ih => show (decs M N r).length + 1 = _; rw [ih]; rfl
  have ha : ∀ es : List Ex, noStar es = true → (backTo p (starEach (decs M N es) X.env)).all (!·.1) = true := fun es hs => by
    induction es with
    | nil => rfl
    | cons x xs ih =>
      have e : starEach (decs M N (x :: xs)) X.env = (false, eval (dec M N x) X.env) :: starEach (decs M N xs) X.env := star1 hs
      rw [e]
      show (true && (backTo p (starEach (decs M N xs) X.env)).all (!·.1)) = true
      rw [ih (noStar_t hs)]
      rfl
  have few : methodCallForm ((decs M N es).length + 0) (backTo p (starEach (decs M N es) X.env)) (backToKw p (keywordEach [] X.env)) = true := by
    unfold methodCallForm
    rw [ha es hs, hl]
    have : es.length < 25 := of_decide_eq_true h1
    show (true && true && decide (es.length + 0 + 0 < 30)) = true
    rw [decide_eq_true (by omega)]
    rfl
  have hp : methodCallPos true o X.env pa p = Pure.pure p := by
    unfold methodCallPos
    rw [h2]
    rfl
  show (do
    let ov ← attributeBase o m X.env (eval o X.env)
    standAt pa.atName
    methodCall o m pa p X.env ov ((decs M N es).length + 0) (backTo p (starEach (decs M N es) X.env)) (backToKw p (keywordEach [] X.env))) = _
  rw [hb]
  unfold methodCall
  rw [few, hp]
  rfl
theorem n_new (RL : RunLen T r) (C : XC X M T fa ca fds pss N sc k E) (IH : ∀ x, wfE M N sc x = true → Okx X M ca N k E r x) (FS : FsOk X M T fa ca fds pss k r) {c : Nat} {xs : List Ex} {p1 p : Pos} (wf : wfE M N sc (.new c xs p1 p) = true) : Okx X M ca N k E (F T r) (.new c xs p1 p) := by
  have wf2 : (isGlK (sc.names.lookup (M.c c)) && okName (M.c c) && noStar xs && wfEs M N sc xs) = true := by unfold wfE at wf; exact wf
  obtain ⟨wf3, ws⟩ := ba wf2
  obtain ⟨wf4, wn⟩ := ba wf3
  obtain ⟨wg, wo⟩ := ba wf4
  have bad : (∀ env h, (F T r).e k env h (.new c xs p1 p) = .no) → Okx X M ca N k E (F T r) (.new c xs p1 p) := fun e => ⟨fun pins s σ H Q I z => by
    obtain ⟨w, env, h, rfl, x, g⟩ := z
    have g : pE X.K M ca E w env σ Q ((F T r).e k env h (.new c xs p1 p)) := g
    rw [e] at g
    exact g.elim⟩
  cases hk : T.ini c with
  | none => exact bad fun env h => by simp only [F, hk]
  | some f =>
    cases k with
    | zero => exact bad fun env h => by simp only [F, hk]
    | succ k' =>
      obtain ⟨hm, mk, kd⟩ := C.tf.cl c f hk
      have hb := C.tf.bd f kd
      have FG := FS k' f rfl kd
      have gl : Gl X (M.c c) := by unfold Gl PySem.Env.kindOf; rw [C.hs]; exact gl_of wg
      have rm : Room (2 * k' + 2 + 1) X.A := C.room.mono (by omega)
      have main : PE X (dec M N (.new c xs p1 p)) (fun σ H Q => tEs X.K M ca E (fun env h => es r (k' + 1) env h xs) σ H fun vs H1 =>
          ∀ x dx, H1 x = none → H1 dx = none → dx ≠ x → spF X.K M ca (pss f) (fun ds h => r.run k' f ds h) (.ref x :: vs) (upd (upd H1 dx (.own x)) x (.ins (ca c) dx [])) (fun v H2 => v = .non ∧ Q (.ref x) H2) E) := by
        have pa := es_ok C IH xs ws
        cases xs with
        | nil =>
          refine PE.imp (pe_makeG0 mk FG C.grd rm gl hm hb C.pas (okName.d wo).1) fun σ H Q z => ?_
          obtain ⟨w, env, h, rfl, x, g⟩ := z
          exact g w [] Stp.refl ELe.refl x Reps.nil
        | cons x xs => exact pe_makeG mk FG C.grd rm gl hm hb C.pas pa (okName.d wo).1 (star1 wn) (star0 (noStar_t wn))
      refine PE.imp main fun σ H Q z => ?_
      obtain ⟨w, env, h, rfl, x, g⟩ := z
      have g : pE X.K M ca E w env σ Q (match es r (k' + 1) env h xs with
        | .ok ds env1 h1 => (match r.run k' f (.ref h1.length :: ds) (h1 ++ [.ins c []]) with
          | .ok .non _ h2 => .ok (.ref h1.length) false env1 h2
          | .ex c d h => .ex c d h
          | _ => .no)
        | .ex c d h => .ex c d h
        | .no => .no) := by
        have g : pE X.K M ca E w env σ Q ((F T r).e (k' + 1) env h (.new c xs p1 p)) := g
        simp only [F, hk] at g
        exact g
      refine ⟨w, env, h, rfl, x, ?_⟩
      show pEs X.K M ca E w env σ _ (es r (k' + 1) env h xs)
      cases e : es r (k' + 1) env h xs with
      | no => simp only [e] at g; exact g
      | ex c d h' => simp only [e] at g; exact g
      | ok ds env1 h1 =>
        simp only [e] at g
        intro w1 vs s l y rs a dx na nx ne
        replace g := g.step x s l
        let H2 := upd (upd w1.H dx (.own a)) a (.ins (ca c) dx [])
        have ox : H2 a = some (.ins (ca c) dx []) := upd_same
        obtain ⟨st, ok⟩ := put_ok (o := .ins c []) (ho := .ins (ca c) dx []) y.ok na (H' := H2) (fun b u e => by
            show upd (upd w1.H dx (.own a)) a _ b = _
            rw [upd_ne (ne_of_none e na), upd_ne (ne_of_none e nx)]; exact e) (fun b e => by
            have e : upd (upd w1.H dx (.own a)) a (.ins (ca c) dx []) b = none := e
            by_cases z : b = a
            · subst z; exact na
            · rw [upd_ne z] at e
              by_cases z2 : b = dx
              · subst z2; exact nx
              · rw [upd_ne z2] at e; exact e) ox (fun w2 _ => ⟨dx, [], rfl, .nil⟩)
        have r2 : Reps X.K (w1.put a H2) (.ref h1.length :: ds) (.ref a :: vs) := Reps.cons (put_ref y.ok) (st.reps y.ok ds vs rs)
        have ln : r.run k' f (.ref h1.length :: ds) (h1 ++ [.ins c []]) ≠ .no → (V.ref a :: vs).length = (pss f).length := fun ne => by
          rcases RL k' f (.ref h1.length :: ds) (h1 ++ [.ins c []]) with z | ⟨fn, e1, e2⟩
          · exact absurd z ne
          · rw [r2.length, e2]; exact C.tf.na f fn kd e1
        refine ⟨ln fun z => by simp only [z] at g; exact g, w1.put a H2, .ref h1.length :: ds, h1 ++ [.ins c []], rfl, ok, r2, ?_⟩
        show spR X.K M ca (w1.put a H2) _ E (r.run k' f (.ref h1.length :: ds) (h1 ++ [.ins c []]))
        cases er : r.run k' f (.ref h1.length :: ds) (h1 ++ [.ins c []]) with
        | no => simp only [er] at g; exact g.elim
        | ex c2 d h' =>
          simp only [er] at g
          intro w' dx2 v st2 ok2 ed rv
          exact g w' dx2 v ((st.transF y.ok st2).toAny) ok2 ed rv
        | ok d fr h' =>
          cases d <;> simp only [er] at g <;> first | exact g.elim | skip
          intro w' v st2 ok2 rv
          have st3 := st.transF y.ok st2
          have ev : v = .non := by
            have := Vw.of_rv rv
            unfold Vw Rep at this
            exact this
          refine ⟨ev, g w' (.ref a) st3.toAny ELe.refl (y.on0 st3 ok2) (st2.rep ok _ _ (put_ref y.ok))⟩
theorem n_mth (RL : RunLen T r) (C : XC X M T fa ca fds pss N sc k E) (IH : ∀ x, wfE M N sc x = true → Okx X M ca N k E r x) (FS : FsOk X M T fa ca fds pss k r) {f : Nat} {o : Ex} {xs : List Ex} {pa p : Pos} (wf : wfE M N sc (.mth f o xs pa p) = true) :
    Okx X M ca N k E (F T r) (.mth f o xs pa p) := by
  have wf2 : (mOk xs pa p && wfE M N sc o && wfA o && noStar xs && wfEs M N sc xs) = true := by unfold wfE at wf; exact wf
  obtain ⟨wf3, ws⟩ := ba wf2
  obtain ⟨wf4, wn⟩ := ba wf3
  obtain ⟨wf5, wa⟩ := ba wf4
  obtain ⟨wm, wo⟩ := ba wf5
  have bad : (∀ env h, (F T r).e k env h (.mth f o xs pa p) = .no) → Okx X M ca N k E (F T r) (.mth f o xs pa p) := fun e => ⟨fun pins s σ H Q I z => by
    obtain ⟨w, env, h, rfl, x, g⟩ := z
    have g : pE X.K M ca E w env σ Q ((F T r).e k env h (.mth f o xs pa p)) := g
    rw [e] at g
    exact g.elim⟩
  cases hk : T.kind f with
  | fn => exact bad fun env h => by simp only [F, hk]
  | no => exact bad fun env h => by simp only [F, hk]
  | mt c =>
    cases k with
    | zero => exact bad fun env h => by simp only [F, hk]
    | succ k' =>
      obtain ⟨hm, cl, nf⟩ := C.tf.mt f c hk
      have kd : T.kind f ≠ .no := by rw [hk]; exact fun z => by cases z
      have hb := C.tf.bd f kd
      have FG := FS k' f rfl kd
      have rm : Room (2 * k' + 2) X.A := C.room.mono (by omega)
      have main : PE X (dec M N (.mth f o xs pa p)) (fun σ H Q => tE X.K M ca E (fun env h => r.e (k' + 1) env h o) σ H fun x H1 => ∃ a dx fs, x = .ref a ∧ H1 a = some (.ins (ca c) dx fs) ∧ fs.lookup (M.f f) = none ∧
          tEs X.K M ca E (fun env h => es r (k' + 1) env h xs) σ H1 fun vs H2 => spF X.K M ca (pss f) (fun ds h => r.run k' f ds h) (x :: vs) H2 Q E) := by
        have pa2 := es_ok C IH xs ws
        have mf := meth_form (M := M) (N := N) (X := X) (o := dec M N o) (m := M.f f) (att_base wa) wm wn
        cases xs with
        | nil =>
          refine PE.imp (pe_methG0 (IH o wo) cl hm FG C.grd rm hb C.pas mf) fun σ H Q z => ?_
          refine tE_mono z fun v H1 ⟨a, dx, fs, e1, e2, e3, z⟩ => ⟨a, dx, fs, e1, e2, e3, ?_⟩
          obtain ⟨w, env, h, rfl, x, g⟩ := z
          exact g w [] Stp.refl ELe.refl x Reps.nil
        | cons x xs => exact pe_methG (IH o wo) cl hm FG C.grd rm hb C.pas pa2 (star1 wn) (star0 (noStar_t wn)) mf
      refine PE.imp main fun σ H Q z => ?_
      obtain ⟨w, env, h, rfl, x0, g⟩ := z
      have g : pE X.K M ca E w env σ Q (match r.e (k' + 1) env h o with
        | .ok (.ref i) _ env1 h1 => (match getH h1 i with
          | some (.ins c2 _) => (match Nat.beq c2 c with
            | true => (match es r (k' + 1) env1 h1 xs with
              | .ok ds env2 h2 => (match r.run k' f (.ref i :: ds) h2 with
                | .ok d fr h3 => .ok d fr env2 h3
                | .ex c d h => .ex c d h
                | .no => .no)
              | .ex c d h => .ex c d h
              | .no => .no)
            | false => .no)
          | _ => .no)
        | .ex c d h => .ex c d h
        | _ => .no) := by
        have g : pE X.K M ca E w env σ Q ((F T r).e (k' + 1) env h (.mth f o xs pa p)) := g
        simp only [F, hk] at g
        exact g
      refine ⟨w, env, h, rfl, x0, ?_⟩
      show pE X.K M ca E w env σ _ (r.e (k' + 1) env h o)
      cases e : r.e (k' + 1) env h o with
      | no => simp only [e] at g; exact g
      | ex c d h' => simp only [e] at g; exact g
      | ok d fr env1 h1 =>
        cases d <;> simp only [e] at g <;> first | exact g.elim | skip
        rename_i i
        intro w1 v s l y rv
        have rv0 := Vw.of_rv rv
        have rvr : Rep X.K w1 (.ref i) v := rv0
        unfold Rep at rvr
        obtain ⟨a1, ea, rfl⟩ := rvr
        replace g := g.step x0 s l
        cases eo : getH h1 i with
        | none => simp only [eo] at g; exact g.elim
        | some ob => cases ob with
          | dK _ => simp only [eo] at g; exact g.elim
          | dT _ => simp only [eo] at g; exact g.elim
          | ins c2 fs =>
            simp only [eo] at g
            cases hc : Nat.beq c2 c with
            | false => simp only [hc] at g; exact g.elim
            | true =>
              simp only [hc] at g
              have ec := Nat.eq_of_beq_eq_true hc
              subst ec
              obtain ⟨a2, ho, e2, e3, dx, fv, rfl, rf⟩ := y.ok.rh.ob i _ eo
              rw [ea] at e2; cases e2
              refine ⟨a1, dx, fv, rfl, e3, lookup_none nf rf, w1, env1, h1, rfl, y, ?_⟩
              show pEs X.K M ca E w1 env1 σ _ (es r (k' + 1) env1 h1 xs)
              cases e5 : es r (k' + 1) env1 h1 xs with
              | no => simp only [e5] at g; exact g
              | ex c d h' => simp only [e5] at g; exact g
              | ok ds env2 h2 =>
                simp only [e5] at g
                intro w2 vs s2 l2 y2 rs
                replace g := g.step y s2 l2
                have r2 : Reps X.K w2 (.ref i :: ds) (.ref a1 :: vs) := Reps.cons (s2.rep y.ok _ _ rv0) rs
                have ln : r.run k' f (.ref i :: ds) h2 ≠ .no → (V.ref a1 :: vs).length = (pss f).length := fun ne => by
                  rcases RL k' f (.ref i :: ds) h2 with z | ⟨fn, e1, e2⟩
                  · exact absurd z ne
                  · rw [r2.length, e2]; exact C.tf.na f fn kd e1
                refine ⟨ln fun z => by simp only [z] at g; exact g, w2, .ref i :: ds, h2, rfl, y2.ok, r2, ?_⟩
                show spR X.K M ca w2 Q E (r.run k' f (.ref i :: ds) h2)
                cases er : r.run k' f (.ref i :: ds) h2 with
                | no => simp only [er] at g; exact g.elim
                | ex c2 d h' =>
                  simp only [er] at g
                  intro w' dx2 v st2 ok2 ed rv
                  exact g w' dx2 v st2.toAny ok2 ed rv
                | ok d fr h' =>
                  simp only [er] at g
                  intro w' v st2 ok2 rv
                  exact g w' v st2.toAny ELe.refl (y2.on0 st2 ok2) rv
theorem n_calh (RL : RunLen T r) (C : XC X M T fa ca fds pss N sc k E) (IH : ∀ x, wfE M N sc x = true → Okx X M ca N k E r x) (FS : FsOk X M T fa ca fds pss k r) {f : Nat} {xs : List Ex} {p1 p : Pos} (wf : wfE M N sc (.calh f xs p1 p) = true) : Okx X M ca N k E (F T r) (.calh f xs p1 p) := by
  have wf2 : (isGlK (sc.names.lookup (M.f f)) && okName (M.f f) && noStar xs && wfEs M N sc xs) = true := by unfold wfE at wf; exact wf
  obtain ⟨wf3, ws⟩ := ba wf2
  obtain ⟨wf4, wn⟩ := ba wf3
  obtain ⟨wg, wo⟩ := ba wf4
  have bad : (∀ env h, (F T r).e k env h (.calh f xs p1 p) = .no) → Okx X M ca N k E (F T r) (.calh f xs p1 p) := fun e => ⟨fun pins s σ H Q I z => by
    obtain ⟨w, env, h, rfl, x, g⟩ := z
    have g : pE X.K M ca E w env σ Q ((F T r).e k env h (.calh f xs p1 p)) := g
    rw [e] at g
    exact g.elim⟩
  cases hk : T.kind f with
  | mt c => exact bad fun env h => by simp only [F, hk]
  | no => exact bad fun env h => by simp only [F, hk]
  | fn =>
    cases k with
    | zero => exact bad fun env h => by simp only [F, hk]
    | succ k' =>
      obtain ⟨hm, kp⟩ := C.tf.fn f hk
      have kd : T.kind f ≠ .no := by rw [hk]; exact fun z => by cases z
      have hb := C.tf.bd f kd
      have FG := FS k' f rfl kd
      have gl : Gl X (M.f f) := by unfold Gl PySem.Env.kindOf; rw [C.hs]; exact gl_of wg
      have rm : Room (2 * k' + 2) X.A := C.room.mono (by omega)
      have main : PE X (dec M N (.calh f xs p1 p)) (fun σ H Q => tEs X.K M ca E (fun env h => es r (k' + 1) env h xs) σ H fun vs H1 => spF X.K M ca (pss f) (fun ds h => r.run k' f ds h) vs H1 Q E) := by
        have pa := es_ok C IH xs ws
        cases xs with
        | nil =>
          refine PE.imp (pe_callG0 FG C.grd rm gl hm kp hb C.pas (okName.d wo).1) fun σ H Q z => ?_
          obtain ⟨w, env, h, rfl, x, g⟩ := z
          exact g w [] Stp.refl ELe.refl x Reps.nil
        | cons x xs => exact pe_callG FG C.grd rm gl hm kp hb C.pas pa (okName.d wo).1 (star1 wn) (star0 (noStar_t wn))
      refine PE.imp main fun σ H Q z => ?_
      obtain ⟨w, env, h, rfl, x, g⟩ := z
      have g : pE X.K M ca E w env σ Q (match es r (k' + 1) env h xs with
        | .ok ds env1 h1 => (match r.run k' f ds h1 with
          | .ok d fr h2 => .ok d fr env1 h2
          | .ex c d h => .ex c d h
          | .no => .no)
        | .ex c d h => .ex c d h
        | .no => .no) := by
        have g : pE X.K M ca E w env σ Q ((F T r).e (k' + 1) env h (.calh f xs p1 p)) := g
        simp only [F, hk] at g
        exact g
      refine ⟨w, env, h, rfl, x, ?_⟩
      show pEs X.K M ca E w env σ _ (es r (k' + 1) env h xs)
      cases e5 : es r (k' + 1) env h xs with
      | no => simp only [e5] at g; exact g
      | ex c d h' => simp only [e5] at g; exact g
      | ok ds env2 h2 =>
        simp only [e5] at g
        intro w2 vs s2 l2 y2 rs
        replace g := g.step x s2 l2
        have ln : r.run k' f ds h2 ≠ .no → vs.length = (pss f).length := fun ne => by
          rcases RL k' f ds h2 with z | ⟨fn, e1, e2⟩
          · exact absurd z ne
          · rw [rs.length, e2]; exact C.tf.na f fn kd e1
        refine ⟨ln fun z => by simp only [z] at g; exact g, w2, ds, h2, rfl, y2.ok, rs, ?_⟩
        show spR X.K M ca w2 Q E (r.run k' f ds h2)
        cases er : r.run k' f ds h2 with
        | no => simp only [er] at g; exact g.elim
        | ex c2 d h' =>
          simp only [er] at g
          intro w' dx2 v st2 ok2 ed rv
          exact g w' dx2 v st2.toAny ok2 ed rv
        | ok d fr h' =>
          simp only [er] at g
          intro w' v st2 ok2 rv
          exact g w' v st2.toAny ELe.refl (y2.on0 st2 ok2) rv
end
end Ev
/-! Soundness of the small interpreter, 18: built-ins. -/
namespace Ev
open PySem PySem.Spec PyProof.Rows L2
section
variable {X : Cx}
/-- repr of data -/
def rRpr (K : PySem.W.Frag) : List V → Hp → VK → Prop := fun xs H Q => ∃ a p, xs = [.ref a] ∧ Dp K H (.ref a) p ∧ p.showable = true ∧ p.depth ≤ 60 ∧ p.hasDict = false ∧ (PyData.shown p).length ≤ sizeLine ∧ Q (.str (PyData.shown p)) H
theorem call_rpr (hg : X.A.guards = some []) (hu : X.A.units + 100 < cLine) : CallR X (.builtin "repr") (rRpr X.K) := by
  intro pins s σ H xs us Q I r h
  obtain ⟨a, p, rfl, hd, h1, h2, h3, h4, q⟩ := h
  obtain ⟨u, rfl, rx⟩ := vals1 r
  obtain ⟨as, rd⟩ := Dp.reads I p (.ref a) u hd rx
  cases rx
  exact repr_of_reads' rd h1 (fun z => by rw [h3] at z; cases z) hg (by omega) (fun _ _ e => e) (fun h' t tk hk => ⟨.str (PyData.shown p), H, I.kept (t' := tk) hk, ⟨_, rfl⟩, q⟩) h4
/-- len of a dict whose keys are tuples -/
def rLenX (P : Program) (W : World) (K : PySem.W.Frag) : List V → Hp → VK → Prop := fun vs H Q => ∃ a xs, vs = [.ref a] ∧ H a = some (.ext (dxP P W a xs)) ∧ KsAt K H xs ∧ Q (.int ((xs.length : Nat) : Int)) H
theorem call_lenX : CallR X (.builtin "len") (rLenX X.prog X.w X.K) := by
  intro pins s σ H vs us Q I r h
  obtain ⟨a, xs, rfl, e, ke, q⟩ := h
  obtain ⟨u, rfl, rx⟩ := vals1 r
  cases rx
  obtain ⟨z, hd, dd⟩ := dx_of I e ke
  exact call_len_dictH hd dd (by rw [sizeLine_eq] at z; omega) ⟨.int ((xs.length : Nat) : Int), H, I.tok (s.toks + 1 + 1), ⟨_, rfl⟩, q⟩
/-- the keys of a dict whose keys are tuples -/
def rListX (P : Program) (W : World) (K : PySem.W.Frag) : List V → Hp → VK → Prop := fun vs H Q => ∃ a xs, vs = [.ref a] ∧ H a = some (.ext (dxP P W a xs)) ∧ KsAt K H xs ∧ ∀ p, H p = none → Q (.ref p) (upd H p (.lst ((xs.map fun x => x.2.1).map V.ref)))
theorem call_listX (hc : X.calm = true) : CallR X (.type "list") (rListX X.prog X.w X.K) := by
  intro pins s σ H vs us Q I r h
  obtain ⟨d, ks, rfl, e, ke, q⟩ := h
  obtain ⟨u, rfl, rx⟩ := r.one
  cases rx
  obtain ⟨⟨z, hs, o, es, ep, ho, hx, hdt, he, hn⟩, _, _⟩ := I.hok d _ e
  have l1 : es.size = ks.length := size_of_entries he
  refine PySem.W.kdl_call (kdl_raw hs hx hdt) (I.ok.hd hc) ho (by omega) fun h' tk acc' c' kp e it => ?_
  have ea : acc'.toList = ks.map fun x => Value.ref x.2.1 := by
    apply List.ext_getElem?
    intro j
    have hl : acc'.toList.length = ks.length := by rw [Array.length_toList, it.1]; exact l1
    rw [List.getElem?_map]
    cases hj : acc'.toList[j]? with
    | none =>
      have h1 := List.getElem?_eq_none_iff.mp hj
      rw [List.getElem?_eq_none (by omega)]
      all_goals rfl
    | some v =>
      obtain ⟨en, hen, hv⟩ := it.2 j v (by rw [← Array.getElem?_toList]; exact hj)
      have qe := entry_at he j
      rw [hen] at qe
      cases hb : ks[j]? with
      | none => rw [hb] at qe; exact nomatch (show some en = none from qe)
      | some b =>
        rw [hb] at qe
        have e2 : en = entryOfKey (tupleKind (mixKind X.prog X.w)) b := Option.some.inj qe
        rw [hv, e2]
        all_goals rfl
  have rv : Vals ((ks.map fun x => x.2.1).map V.ref) acc'.toList := by
    rw [show acc'.toList = (ks.map fun x => x.2.1).map Value.ref by rw [ea, List.map_map]; all_goals rfl]
    exact vals_refs _
  have hz : ((ks.map fun x => x.2.1).map V.ref).length ≤ sizeLine := by rw [List.length_map, List.length_map]; omega
  exact ⟨.ref s.heap.objs.size, _, I.laid (t' := tk) (o := .lst ((ks.map fun x => x.2.1).map V.ref)) kp (Nat.le_refl _) ⟨hz, acc'.toList, c', rv, by rw [Array.toArray_toList]; exact e⟩, rfl, q _ (I.hok.fresh (Nat.le_refl _))⟩
/-- the rules of the built-ins -/
def rBi (P : Program) (W : World) (K : PySem.W.Frag) : Nat → List V → Hp → VK → Prop
  | 0 => fun xs H Q => (∃ p ys, xs = [.ref p] ∧ (SqL K H p ys ∨ SqT K H p ys) ∧ Q (.int ys.length) H) ∨ ((∃ a kvs, xs = [V.ref a] ∧ H a = some (.dK kvs) ∧ Q (.int kvs.length) H) ∨ rLenX P W K xs H Q)
  | 1 => rAll K
  | 2 => rAny K
  | 3 => fun xs H Q => ∃ i, xs = [.int i] ∧ Q (.int (if i < 0 then -i else i)) H
  | 7 => fun xs H Q => (∃ i, xs = [.int i] ∧ Q (.int i) H) ∨ ∃ k, xs = [.bl k] ∧ Q (.int (if k then 1 else 0)) H
  | 8 => fun xs H Q => (∃ p ys, xs = [.ref p] ∧ (SqL K H p ys ∨ SqT K H p ys) ∧ ∀ l, H l = none → Q (.ref l) (upd H l (.lst ys))) ∨ rListX P W K xs H Q
  | 9 => fun xs H Q => ∃ p ys, xs = [.ref p] ∧ ((SqL K H p ys ∧ ∀ l, H l = none → Q (.ref l) (upd H l (.tup ys))) ∨ (SqT K H p ys ∧ Q (.ref p) H))
  | 10 => rRpr K
  | 11 => rSum K
  | _ => fun _ _ _ => False
/-- a call of a built-in by one value -/
theorem pe_bi (hg : X.A.guards = some []) (hu : X.A.units + 100 < cLine) (hc : X.calm = true) {b : Nat} {x : Expr} {t : TE} {p1 p : Pos} (hb : bOk b = true) (hb2 : b ≠ 12) (hgl : Gl X (bN b)) (hm : X.mg (bN b) = none) (hx : PE X x t) (he : starEach [x] X.env = (false, eval x X.env) :: starEach [] X.env) :
    PE X (.Call (.Name (bN b) p1) [x] [] p) (fun σ H Q => t σ H fun v H1 => rBi X.prog X.w X.K b [v] H1 Q) := by
  have pa : PA X [x] (tCons t tNil) := pa_cons hx pa_nil he
  match b, hb, hb2, hgl, hm with
  | 0, _, _, hgl, hm => exact pe_callB (CallR.or call_len_seq (CallR.or call_lenD call_lenX)) hgl hm (by decide +kernel) pa (by decide) (by decide) he rfl
  | 1, _, _, hgl, hm => exact pe_callB (cr_all hc) hgl hm (by decide +kernel) pa (by decide) (by decide) he rfl
  | 2, _, _, hgl, hm => exact pe_callB (cr_any hc) hgl hm (by decide +kernel) pa (by decide) (by decide) he rfl
  | 3, _, _, hgl, hm => exact pe_callB call_abs hgl hm (by decide +kernel) pa (by decide) (by decide) he rfl
  | 7, _, _, hgl, hm => exact pe_callTy call_int1 hgl hm (by decide +kernel) pa (by decide) (by decide) he rfl
  | 8, _, _, hgl, hm => exact pe_callTy (CallR.or call_list_of (call_listX hc)) hgl hm (by decide +kernel) pa (by decide) (by decide) he rfl
  | 9, _, _, hgl, hm => exact pe_callTy call_tuple_of hgl hm (by decide +kernel) pa (by decide) (by decide) he rfl
  | 10, _, _, hgl, hm => exact pe_callB (call_rpr hg hu) hgl hm (by decide +kernel) pa (by decide) (by decide) he rfl
  | 11, _, _, hgl, hm => exact pe_callB (cr_sum hc) hgl hm (by decide +kernel) pa (by decide) (by decide) he rfl
  | 12, _, h, _, _ => exact absurd rfl h
end
section
variable {K : PySem.W.Frag} {M : Nm} {ca : Nat → Addr} {w w' w1 w2 : Wd} {env env' env1 env2 : Env} {σ : L2.St} {h h' h1 h2 : Hs} {Q : VK} {E : XK} {d u v : D} {ds : List D} {a b : V} {vs : List V} {fr : Bool} {O : Addr → Prop}
theorem allB_ok : ∀ {ds : List D} {vs : List V} {c : Bool}, allB ds = some c → Reps K w ds vs → ∃ bs : List Bool, vs = bs.map V.bl ∧ bs.all id = c
  | [], _, c, e, r => by unfold Reps at r; subst r; cases e; exact ⟨[], rfl, rfl⟩
  | d :: ds, _, c, e, r => by
    unfold Reps at r
    obtain ⟨v, q, rfl, r1, r2⟩ := r
    cases d with
    | bl b =>
      have ev : v = .bl b := by unfold Rep at r1; exact r1
      subst ev
      cases b with
      | true =>
        obtain ⟨bs, e1, e2⟩ := allB_ok (show allB ds = some c from e) r2
        exact ⟨true :: bs, by rw [e1]; rfl, by rw [List.all_cons, e2]; rfl⟩
      | false =>
        have e : (match allB ds with | some _ => some false | none => none) = some c := e
        cases e3 : allB ds with
        | none => rw [e3] at e; cases e
        | some c2 =>
          rw [e3] at e; cases e
          obtain ⟨bs, e1, e2⟩ := allB_ok e3 r2
          exact ⟨false :: bs, by rw [e1]; rfl, rfl⟩
    | _ => cases e
theorem anyB_ok : ∀ {ds : List D} {vs : List V} {c : Bool}, anyB ds = some c → Reps K w ds vs → ∃ bs : List Bool, vs = bs.map V.bl ∧ bs.any id = c
  | [], _, c, e, r => by unfold Reps at r; subst r; cases e; exact ⟨[], rfl, rfl⟩
  | d :: ds, _, c, e, r => by
    unfold Reps at r
    obtain ⟨v, q, rfl, r1, r2⟩ := r
    cases d with
    | bl b =>
      have ev : v = .bl b := by unfold Rep at r1; exact r1
      subst ev
      cases b with
      | false =>
        obtain ⟨bs, e1, e2⟩ := anyB_ok (show anyB ds = some c from e) r2
        exact ⟨false :: bs, by rw [e1]; rfl, by rw [List.any_cons, e2]; rfl⟩
      | true =>
        have e : (match anyB ds with | some _ => some true | none => none) = some c := e
        cases e3 : anyB ds with
        | none => rw [e3] at e; cases e
        | some c2 =>
          rw [e3] at e; cases e
          obtain ⟨bs, e1, e2⟩ := anyB_ok e3 r2
          exact ⟨true :: bs, by rw [e1]; rfl, rfl⟩
    | _ => cases e
theorem sumI_ok : ∀ {ds : List D} {vs : List V} {acc z : Int}, sumI acc ds = some z → Reps K w ds vs → ∃ ns : List Int, vs = ns.map V.int ∧ acc + ns.sum = z
  | [], _, acc, z, e, r => by unfold Reps at r; subst r; cases e; exact ⟨[], rfl, by simp⟩
  | d :: ds, _, acc, z, e, r => by
    unfold Reps at r
    obtain ⟨v, q, rfl, r1, r2⟩ := r
    cases d with
    | int i =>
      have ev : v = .int i := by unfold Rep at r1; exact r1
      subst ev
      obtain ⟨ns, e1, e2⟩ := sumI_ok (show sumI (acc + i) ds = some z from e) r2
      exact ⟨i :: ns, by rw [e1]; rfl, by rw [List.sum_cons]; omega⟩
    | _ => cases e
theorem keysR_reps : ∀ {ds : List D} {ks : List L2.Key}, KeysR ds ks → Reps K w ds (ks.map kV)
  | [], ks, h => by
    have e : ks = [] := h
    subst e
    exact Reps.nil
  | d :: ds, ks, h => by
    obtain ⟨k, r, rfl, h1, t⟩ := h
    refine Reps.cons ?_ (keysR_reps t)
    cases d with
    | int i => have e : k = .inl i := h1; subst e; unfold Rep; rfl
    | str s => have e : k = .inr ⟨s.toArray⟩ := h1; subst e; unfold Rep; rfl
    | _ => exact h1.elim
theorem kxr_keys : ∀ {kvs : List (D × D)} {xs : List (List L2.Key × Addr × Value)}, KXR K w kvs xs → KsAt K w.H xs ∧ xs.length = kvs.length ∧ Reps K w (kvs.map (·.1)) ((xs.map fun x => x.2.1).map V.ref)
  | _, _, .nil => ⟨fun _ z => (nomatch z), rfl, Reps.nil⟩
  | p :: kvs, q :: xs, .cons r t => by
    obtain ⟨k1, l1, r1⟩ := kxr_keys t
    refine ⟨fun z hz => ?_, by show xs.length + 1 = kvs.length + 1; rw [l1], Reps.cons ?_ r1⟩
    · rcases List.mem_cons.mp hz with rfl | hz
      · exact r.2.1
      · exact k1 z hz
    · obtain ⟨kt, sq, _⟩ := r
      obtain ⟨pk, pv⟩ := p
      cases pk <;> first | exact kt.elim | skip
      unfold Rep
      exact ⟨q.2.1, q.1.map kV, rfl, sq, keysR_reps kt⟩
theorem rep_len {d : D} {p : PyData} (h : repOk d = true) (e : toP d = some p) : (PyData.shown p).length ≤ sizeLine := by
  have := (repOk_R h).2
  rw [← rep_tx h e] at this
  have e2 : (Tx (PyData.shown p)).length = (PyData.shown p).length := by simp [Tx, Str.length]
  rw [sizeLine_eq]
  omega
theorem bi_ok {P : Program} {W : World} (x : SI K M ca env σ h w) {b : Nat} {z : D} (r : Vw K w d a) (e : bi b d = some (z, fr)) (g : pE K M ca E w env σ Q (.ok z fr env h)) : rBi P W K b [a] w.H Q := by
  have atom : ∀ (z : D) (v : V), Rep K w z v → pE K M ca E w env σ Q (.ok z false env h) → Q v w.H := fun z v rz g => g w v Stp.refl ELe.refl x rz
  have aint : ∀ (z : Int), pE K M ca E w env σ Q (.ok (.int z) false env h) → Q (.int z) w.H := fun z g => atom (.int z) (.int z) (by unfold Rep; rfl) g
  have abl : ∀ (z : Bool), pE K M ca E w env σ Q (.ok (.bl z) false env h) → Q (.bl z) w.H := fun z g => atom (.bl z) (.bl z) (by unfold Rep; rfl) g
  have newl : ∀ (ds : List D) (vs : List V), Reps K w ds vs → pE K M ca E w env σ Q (.ok (.lst ds) true env h) → ∀ p, w.H p = none → Q (.ref p) (upd w.H p (.lst vs)) := fun ds vs rs g p np => by
    obtain ⟨s2, y2, r2⟩ := got_lst x np rs
    exact g _ _ s2 ELe.refl y2 r2
  unfold bi at e
  split at e
  · cases e
    obtain ⟨p, vs, rfl, q, t⟩ := r.tup
    refine .inl ⟨p, vs, rfl, .inr q, ?_⟩
    rw [t.length]
    exact aint _ g
  · cases e
    obtain ⟨p, vs, rfl, q, t⟩ := r
    refine .inl ⟨p, vs, rfl, .inl (.inl q), ?_⟩
    rw [t.length]
    exact aint _ g
  · rename_i xs
    obtain ⟨p, vs, rfl, q, t⟩ := r
    cases ea : allB xs with
    | none => simp only [ea] at e; cases e
    | some c =>
      simp only [ea] at e
      cases e
      obtain ⟨bs, rfl, e2⟩ := allB_ok ea t
      exact ⟨p, bs, rfl, .inl q, by rw [e2]; exact abl _ g⟩
  · rename_i xs
    obtain ⟨p, vs, rfl, q, t⟩ := r
    cases ea : anyB xs with
    | none => simp only [ea] at e; cases e
    | some c =>
      simp only [ea] at e
      cases e
      obtain ⟨bs, rfl, e2⟩ := anyB_ok ea t
      exact ⟨p, bs, rfl, .inl q, by rw [e2]; exact abl _ g⟩
  · rename_i i
    cases e
    refine ⟨i, by rw [r.int], ?_⟩
    have := aint _ g
    rw [show (if i < 0 then -i else i) = ((i.natAbs : Nat) : Int) by split <;> omega]
    exact this
  · cases e
    exact .inl ⟨_, by rw [r.int], aint _ g⟩
  · rename_i c
    cases e
    refine .inr ⟨c, by rw [r.bl], ?_⟩
    have := aint _ g
    cases c <;> exact this
  · cases e
    obtain ⟨p, vs, rfl, q, t⟩ := r
    exact .inl ⟨p, vs, rfl, .inl (.inl q), newl _ _ t g⟩
  · cases e
    obtain ⟨p, vs, rfl, q, t⟩ := r.tup
    exact .inl ⟨p, vs, rfl, .inr q, newl _ _ t g⟩
  · cases e
    obtain ⟨p, vs, rfl, q, t⟩ := r
    refine ⟨p, vs, rfl, .inl ⟨.inl q, fun l np => ?_⟩⟩
    obtain ⟨s2, y2, r2⟩ := got_tup x np t
    exact g _ _ s2 ELe.refl y2 r2
  · cases e
    have r0 : Rep K w (.tup _) a := r
    obtain ⟨p, vs, rfl, q, t⟩ := r.tup
    exact ⟨p, vs, rfl, .inr ⟨q, atom _ _ r0 g⟩⟩
  · rename_i xs
    cases ea : repOk (.tup xs) with
    | false => simp only [ea] at e; cases e
    | true =>
      simp only [ea] at e
      cases e
      obtain ⟨p, e1, h1, h2, h3⟩ := shR_toP (.tup xs) 60 (repOk_R ea).1
      have dp := r.dp e1
      obtain ⟨q, vs, rfl, _, _⟩ := r.tup
      exact ⟨q, p, rfl, dp, h1, h2, h3, rep_len ea e1, atom (.rep (.tup xs)) _ (by unfold Rep; exact ⟨ea, p, e1, rfl⟩) g⟩
  · rename_i xs
    cases ea : repOk (.lst xs) with
    | false => simp only [ea] at e; cases e
    | true =>
      simp only [ea] at e
      cases e
      obtain ⟨p, e1, h1, h2, h3⟩ := shR_toP (.lst xs) 60 (repOk_R ea).1
      have dp := r.dp e1
      obtain ⟨q, vs, rfl, _, _⟩ := r
      exact ⟨q, p, rfl, dp, h1, h2, h3, rep_len ea e1, atom (.rep (.lst xs)) _ (by unfold Rep; exact ⟨ea, p, e1, rfl⟩) g⟩
  · rename_i xs
    obtain ⟨p, vs, rfl, q, t⟩ := r
    cases ea : sumI 0 xs with
    | none => simp only [ea] at e; cases e
    | some c =>
      simp only [ea] at e
      cases e
      obtain ⟨bs, rfl, e2⟩ := sumI_ok ea t
      exact ⟨p, bs, rfl, .inl q, by rw [show bs.sum = c by omega]; exact aint _ g⟩
  · cases e
theorem bi_ok2 {P : Program} {W : World} (x : SI K M ca env σ h w) {b : Nat} (r : Vw K w d a) (g : pE K M ca E w env σ Q (match bi b d with | some (q, fr) => .ok q fr env h | none => .no)) : rBi P W K b [a] w.H Q := by
  cases e : bi b d with
  | none => rw [e] at g; exact g.elim
  | some q => obtain ⟨z, fr⟩ := q; rw [e] at g; exact bi_ok x r e g
theorem biC_ok (x : SI K M ca env σ h w) {b : Nat} (r : Vw K w d a) (g : pE K M ca E w env σ Q (biC b d env h)) : rBi M.prog M.wld K b [a] w.H Q := by
  have atom : ∀ (z : D) (v : V), Rep K w z v → pE K M ca E w env σ Q (.ok z false env h) → Q v w.H := fun z v rz g => g w v Stp.refl ELe.refl x rz
  have aint : ∀ (z : Int), pE K M ca E w env σ Q (.ok (.int z) false env h) → Q (.int z) w.H := fun z g => atom (.int z) (.int z) (by unfold Rep; rfl) g
  have abl : ∀ (z : Bool), pE K M ca E w env σ Q (.ok (.bl z) false env h) → Q (.bl z) w.H := fun z g => atom (.bl z) (.bl z) (by unfold Rep; rfl) g
  have newl : ∀ (ds : List D) (vs : List V), Reps K w ds vs → pE K M ca E w env σ Q (.ok (.lst ds) true env h) → ∀ p, w.H p = none → Q (.ref p) (upd w.H p (.lst vs)) := fun ds vs rs g p np => by
    obtain ⟨s2, y2, r2⟩ := got_lst x np rs
    exact g _ _ s2 ELe.refl y2 r2
  cases d with
  | ref i =>
      have rr : Rep K w (.ref i) a := r
      unfold Rep at rr
      obtain ⟨p, ep, rfl⟩ := rr
      unfold biC at g
      dsimp only at g
      split at g
      · rename_i kvs eo
        obtain ⟨p2, ho, e1, e2, ks, rfl, rk⟩ := x.ok.rh.ob i _ eo
        rw [ep] at e1; cases e1
        refine .inr (.inl ⟨p, ks, rfl, e2, ?_⟩)
        have l : kvs.length = ks.length := Paired.length rk
        rw [← l]
        exact aint _ g
      · rename_i kvs eo
        obtain ⟨p2, ho, e1, e2, ks, rfl, rk⟩ := x.ok.rh.ob i _ eo
        rw [ep] at e1; cases e1
        obtain ⟨k1, l1, _⟩ := kxr_keys rk
        refine .inr (.inr ⟨p, ks, rfl, e2, k1, ?_⟩)
        rw [l1]
        exact aint _ g
      · rename_i kvs eo
        obtain ⟨p2, ho, e1, e2, ks, rfl, rk⟩ := x.ok.rh.ob i _ eo
        rw [ep] at e1; cases e1
        obtain ⟨k1, l1, r1⟩ := kxr_keys rk
        exact .inr ⟨p, ks, rfl, e2, k1, newl _ _ r1 g⟩
      · exact g.elim
  | _ =>
    refine bi_ok2 (E := E) x r ?_
    exact g
/-! ### isinstance -/
def tyD : D → String
  | .non => "NoneType" | .bl _ => "bool" | .int _ => "int" | .str _ => "str" | .rep _ => "str" | .tup _ => "tuple" | .lst _ => "list" | .ref _ => ""
theorem tyD_ok (r : Vw K w d a) (hn : ∀ i, d ≠ .ref i) : TyX K w.H a (.type (tyD d)) := by
  cases d with
  | non => unfold Vw Rep at r; subst r; exact .base .non
  | bl i => rw [r.bl]; exact .base (.bl i)
  | int i => rw [r.int]; exact .base (.int i)
  | str i => unfold Vw Rep at r; subst r; exact .base (.str _)
  | rep i => unfold Vw Rep at r; obtain ⟨_, p, _, rfl⟩ := r; exact .base (.str _)
  | tup i =>
    obtain ⟨p, vs, rfl, q, _⟩ := r.tup
    rcases q with (q | ⟨o, q⟩) | ⟨o, its, n, q, c, _⟩
    · exact .base (.tup q)
    · exact .fTuple q
    · exact .kTuple q c
  | lst i =>
    obtain ⟨p, vs, rfl, q, _⟩ := r
    rcases q with q | ⟨o, q⟩
    · exact .base (.lst q)
    · exact .base (.frz q)
  | ref i => exact absurd rfl (hn i)
def tyT : Nat → String
  | 0 => "int" | 1 => "bool" | 2 => "tuple" | 3 => "str" | _ => "list"
theorem isi_kit {t : Nat} {c : Bool} (e : isi d t = some c) : (∀ i, d ≠ .ref i) ∧ PySem.W.kitOne K (.type (tyD d)) (.type (tyT t)) = some c := by
  cases d with
  | ref i => unfold isi at e; cases e
  | non =>
    match t, e with
    | 0, e => cases e; exact ⟨fun i z => (by cases z), kit_ty (a := "NoneType") (b := "int") (by decide +kernel)⟩
    | 1, e => cases e; exact ⟨fun i z => (by cases z), kit_ty (a := "NoneType") (b := "bool") (by decide +kernel)⟩
    | 2, e => cases e; exact ⟨fun i z => (by cases z), kit_ty (a := "NoneType") (b := "tuple") (by decide +kernel)⟩
    | 3, e => cases e; exact ⟨fun i z => (by cases z), kit_ty (a := "NoneType") (b := "str") (by decide +kernel)⟩
    | 4, e => cases e; exact ⟨fun i z => (by cases z), kit_ty (a := "NoneType") (b := "list") (by decide +kernel)⟩
    | t + 5, e => unfold isi at e; cases e
  | bl _ =>
    match t, e with
    | 0, e => cases e; exact ⟨fun i z => (by cases z), kit_ty (a := "bool") (b := "int") (by decide +kernel)⟩
    | 1, e => cases e; exact ⟨fun i z => (by cases z), kit_ty (a := "bool") (b := "bool") (by decide +kernel)⟩
    | 2, e => cases e; exact ⟨fun i z => (by cases z), kit_ty (a := "bool") (b := "tuple") (by decide +kernel)⟩
    | 3, e => cases e; exact ⟨fun i z => (by cases z), kit_ty (a := "bool") (b := "str") (by decide +kernel)⟩
    | 4, e => cases e; exact ⟨fun i z => (by cases z), kit_ty (a := "bool") (b := "list") (by decide +kernel)⟩
    | t + 5, e => unfold isi at e; cases e
  | int _ =>
    match t, e with
    | 0, e => cases e; exact ⟨fun i z => (by cases z), kit_ty (a := "int") (b := "int") (by decide +kernel)⟩
    | 1, e => cases e; exact ⟨fun i z => (by cases z), kit_ty (a := "int") (b := "bool") (by decide +kernel)⟩
    | 2, e => cases e; exact ⟨fun i z => (by cases z), kit_ty (a := "int") (b := "tuple") (by decide +kernel)⟩
    | 3, e => cases e; exact ⟨fun i z => (by cases z), kit_ty (a := "int") (b := "str") (by decide +kernel)⟩
    | 4, e => cases e; exact ⟨fun i z => (by cases z), kit_ty (a := "int") (b := "list") (by decide +kernel)⟩
    | t + 5, e => unfold isi at e; cases e
  | str _ =>
    match t, e with
    | 0, e => cases e; exact ⟨fun i z => (by cases z), kit_ty (a := "str") (b := "int") (by decide +kernel)⟩
    | 1, e => cases e; exact ⟨fun i z => (by cases z), kit_ty (a := "str") (b := "bool") (by decide +kernel)⟩
    | 2, e => cases e; exact ⟨fun i z => (by cases z), kit_ty (a := "str") (b := "tuple") (by decide +kernel)⟩
    | 3, e => cases e; exact ⟨fun i z => (by cases z), kit_ty (a := "str") (b := "str") (by decide +kernel)⟩
    | 4, e => cases e; exact ⟨fun i z => (by cases z), kit_ty (a := "str") (b := "list") (by decide +kernel)⟩
    | t + 5, e => unfold isi at e; cases e
  | rep _ =>
    match t, e with
    | 0, e => cases e; exact ⟨fun i z => (by cases z), kit_ty (a := "str") (b := "int") (by decide +kernel)⟩
    | 1, e => cases e; exact ⟨fun i z => (by cases z), kit_ty (a := "str") (b := "bool") (by decide +kernel)⟩
    | 2, e => cases e; exact ⟨fun i z => (by cases z), kit_ty (a := "str") (b := "tuple") (by decide +kernel)⟩
    | 3, e => cases e; exact ⟨fun i z => (by cases z), kit_ty (a := "str") (b := "str") (by decide +kernel)⟩
    | 4, e => cases e; exact ⟨fun i z => (by cases z), kit_ty (a := "str") (b := "list") (by decide +kernel)⟩
    | t + 5, e => unfold isi at e; cases e
  | tup _ =>
    match t, e with
    | 0, e => cases e; exact ⟨fun i z => (by cases z), kit_ty (a := "tuple") (b := "int") (by decide +kernel)⟩
    | 1, e => cases e; exact ⟨fun i z => (by cases z), kit_ty (a := "tuple") (b := "bool") (by decide +kernel)⟩
    | 2, e => cases e; exact ⟨fun i z => (by cases z), kit_ty (a := "tuple") (b := "tuple") (by decide +kernel)⟩
    | 3, e => cases e; exact ⟨fun i z => (by cases z), kit_ty (a := "tuple") (b := "str") (by decide +kernel)⟩
    | 4, e => cases e; exact ⟨fun i z => (by cases z), kit_ty (a := "tuple") (b := "list") (by decide +kernel)⟩
    | t + 5, e => unfold isi at e; cases e
  | lst _ =>
    match t, e with
    | 0, e => cases e; exact ⟨fun i z => (by cases z), kit_ty (a := "list") (b := "int") (by decide +kernel)⟩
    | 1, e => cases e; exact ⟨fun i z => (by cases z), kit_ty (a := "list") (b := "bool") (by decide +kernel)⟩
    | 2, e => cases e; exact ⟨fun i z => (by cases z), kit_ty (a := "list") (b := "tuple") (by decide +kernel)⟩
    | 3, e => cases e; exact ⟨fun i z => (by cases z), kit_ty (a := "list") (b := "str") (by decide +kernel)⟩
    | 4, e => cases e; exact ⟨fun i z => (by cases z), kit_ty (a := "list") (b := "list") (by decide +kernel)⟩
    | t + 5, e => unfold isi at e; cases e
end
section
variable {X : Cx} {M : Nm} {T : Tab} {fa ca : Nat → Addr} {fds : Nat → FuncData} {pss : Nat → List Str} {N : List Str} {sc : Scope} {k n : Nat} {E : XK} {r : Self}
variable {w w' w1 w2 : Wd} {env env' env1 env2 : Env} {σ : L2.St} {h h' h1 h2 : Hs} {Q : VK} {d : D} {ds : List D} {v : V} {vs : List V} {O : Addr → Prop}
theorem pe_tyN (C : XC X M T fa ca fds pss N sc k E) {t : Nat} {p : Pos} (wf : wfE M N sc (.ty t p) = true) : PE X (dec M N (.ty t p)) (tC (.ty (tyT t))) := by
  have wg : isGlK (sc.names.lookup (tN t)) = true := by unfold wfE at wf; exact wf
  have gl : Gl X (tN t) := by unfold Gl PySem.Env.kindOf; rw [C.hs]; exact gl_of wg
  have hm := C.tf.tb t
  match t, gl, hm with
  | 0, gl, hm => exact pe_bltn (v := .ty "int") (u := .type "int") gl hm (by decide +kernel) rfl (by decide) (by decide)
  | 1, gl, hm => exact pe_bltn (v := .ty "bool") (u := .type "bool") gl hm (by decide +kernel) rfl (by decide) (by decide)
  | 2, gl, hm => exact pe_bltn (v := .ty "tuple") (u := .type "tuple") gl hm (by decide +kernel) rfl (by decide) (by decide)
  | 3, gl, hm => exact pe_bltn (v := .ty "str") (u := .type "str") gl hm (by decide +kernel) rfl (by decide) (by decide)
  | t + 4, gl, hm => exact pe_bltn (x := "list") (v := .ty "list") (u := .type "list") gl hm (by decide +kernel) rfl (by decide) (by decide)
theorem blt_two {b : Nat} {x y : Ex} {p1 p : Pos} (ht : ¬ ∃ t pt, y = .ty t pt) (env : Env) (h : Hs) : (F T r).e k env h (.blt b [x, y] p1 p) = (match b with
        | 14 => two r k env h x y fun u v env2 h2 => (match u, v with
          | .int i, .int j => .ok (.int (match iLt i j with | true => j | false => i)) false env2 h2
          | _, _ => .no)
        | 15 => two r k env h x y fun u v env2 h2 => (match u, v with
          | .int i, .int j => .ok (.int (match iLt j i with | true => j | false => i)) false env2 h2
          | _, _ => .no)
        | _ => .no) := by
  cases y <;> first | rfl | exact absurd ⟨_, _, rfl⟩ ht
theorem n_blt (C : XC X M T fa ca fds pss N sc k E) (IH : ∀ x, wfE M N sc x = true → Okx X M ca N k E r x) {b : Nat} {xs : List Ex} {p1 p : Pos} (wf : wfE M N sc (.blt b xs p1 p) = true) : Okx X M ca N k E (F T r) (.blt b xs p1 p) := by
  have wf2 : (bK b xs && b12 b xs && isGlK (sc.names.lookup (bN b)) && noStar xs && wfEs M N sc xs) = true := by unfold wfE at wf; exact wf
  obtain ⟨wf3, ws⟩ := ba wf2
  obtain ⟨wf4, wn⟩ := ba wf3
  obtain ⟨wf5, wg⟩ := ba wf4
  obtain ⟨wb, w12⟩ := ba wf5
  have gl : Gl X (bN b) := by unfold Gl PySem.Env.kindOf; rw [C.hs]; exact gl_of wg
  have un := C.un
  have bad : (∀ env h, (F T r).e k env h (.blt b xs p1 p) = .no) → Okx X M ca N k E (F T r) (.blt b xs p1 p) := fun e => ⟨fun pins s σ H Q I z => by
    obtain ⟨w, env, h, rfl, x, g⟩ := z
    have g : pE X.K M ca E w env σ Q ((F T r).e k env h (.blt b xs p1 p)) := g
    rw [e] at g
    exact g.elim⟩
  match xs, wb, ws, wn, bad, w12 with
  | [], _, _, _, bad, _ => exact bad fun _ _ => rfl
  | [x], wb, ws, wn, bad, w12 =>
    have wb : bOk b = true := wb
    have wx : wfE M N sc x = true := by unfold wfEs at ws; exact (ba ws).1
    by_cases h12 : b = 12
    · subst h12
      cases w12
    · refine PE.imp (pe_bi C.grd (by omega) C.calm wb h12 gl (C.tf.bl b) (pO C IH wx) (star1 wn)) fun σ H Q z => ?_
      obtain ⟨w, env, h, rfl, x0, g⟩ := z
      have g : pE X.K M ca E w env σ Q (match eB r k env h x with
        | .ok d _ env1 h1 => biC b d env1 h1
        | .ex c d h => .ex c d h
        | .no => .no) := g
      refine opd_at x0 (fun e => by rw [e] at g; exact g) (fun c d h' e => by rw [e] at g; exact g) fun d fr env1 h1 w1 v e s l y1 rv _ => ?_
      simp only [e] at g
      rw [C.hp, C.hw]
      exact biC_ok y1 rv (g.step x0 s l)
  | x :: y :: z :: r, _, _, _, bad, _ => exact bad fun _ _ => by cases y <;> rfl
  | [x, y], wb, ws, wn, bad, _ =>
    have wx : wfE M N sc x = true := by unfold wfEs at ws; exact (ba ws).1
    have wy : wfE M N sc y = true := by unfold wfEs at ws; have := (ba ws).2; unfold wfEs at this; exact (ba this).1
    by_cases ht : ∃ t pt, y = .ty t pt
    case neg =>
      have two_ := fun env h => blt_two (T := T) (r := r) (k := k) (b := b) (x := x) (p1 := p1) (p := p) ht env h
      by_cases h14 : b = 14
      · subst h14
        refine PE.imp (pe_callB (call_max2 C.calm) gl (C.tf.bl 14) (by decide +kernel) (pa_cons (pO C IH wx) (pa_cons (pO C IH wy) pa_nil (star1 (noStar_t wn))) (star1 wn)) (by decide) (by decide) (star1 wn) (star0 (noStar_t wn))) fun σ H Q z => ?_
        obtain ⟨w, env, h, rfl, x0, g⟩ := z
        have g : pE X.K M ca E w env σ Q ((F T r).e k env h (.blt 14 [x, y] p1 p)) := g
        rw [two_] at g
        refine two_ok x0 g fun u v env2 h2 w2 x1 y1 s l y2 ru rv g2 => ?_
        cases u <;> first | exact (show False from g2).elim | skip
        cases v <;> first | exact (show False from g2).elim | skip
        rename_i i j
        cases ru.int
        cases rv.int
        refine ⟨i, j, rfl, ?_⟩
        have e : (if j > i then j else i) = (match iLt i j with | true => j | false => i) := by
          rw [iLt_eq]
          by_cases hh : i < j
          · rw [if_pos hh, decide_eq_true hh]
          · rw [if_neg hh, decide_eq_false hh]
        rw [e]
        exact g2 w2 _ Stp.refl ELe.refl y2 (by show Rep X.K w2 (.int _) (.int _); unfold Rep; rfl)
      · by_cases h15 : b = 15
        · subst h15
          refine PE.imp (pe_callB (call_min2 C.calm) gl (C.tf.bl 15) (by decide +kernel) (pa_cons (pO C IH wx) (pa_cons (pO C IH wy) pa_nil (star1 (noStar_t wn))) (star1 wn)) (by decide) (by decide) (star1 wn) (star0 (noStar_t wn))) fun σ H Q z => ?_
          obtain ⟨w, env, h, rfl, x0, g⟩ := z
          have g : pE X.K M ca E w env σ Q ((F T r).e k env h (.blt 15 [x, y] p1 p)) := g
          rw [two_] at g
          refine two_ok x0 g fun u v env2 h2 w2 x1 y1 s l y2 ru rv g2 => ?_
          cases u <;> first | exact (show False from g2).elim | skip
          cases v <;> first | exact (show False from g2).elim | skip
          rename_i i j
          cases ru.int
          cases rv.int
          refine ⟨i, j, rfl, ?_⟩
          have e : (if j < i then j else i) = (match iLt j i with | true => j | false => i) := by
            rw [iLt_eq]
            by_cases hh : j < i
            · rw [if_pos hh, decide_eq_true hh]
            · rw [if_neg hh, decide_eq_false hh]
          rw [e]
          exact g2 w2 _ Stp.refl ELe.refl y2 (by show Rep X.K w2 (.int _) (.int _); unfold Rep; rfl)
        · refine bad fun env h => ?_
          rw [two_]
          split
          · exact absurd rfl h14
          · exact absurd rfl h15
          · rfl
    obtain ⟨t, pt, rfl⟩ := ht
    by_cases h12 : b = 12
    · subst h12
      refine PE.imp (pe_callB call_isi gl (C.tf.bl 12) (by decide +kernel) (pa_cons (pO C IH wx) (pa_cons (pe_tyN C wy) pa_nil rfl) (star1 wn)) (by decide) (by decide) (star1 wn) rfl) fun σ H Q z => ?_
      obtain ⟨w, env, h, rfl, x0, g⟩ := z
      have g : pE X.K M ca E w env σ Q (match eB r k env h x with
          | .ok d _ env1 h1 => (match isi d t with | some c => .ok (.bl c) false env1 h1 | none => .no)
          | .ex c d h => .ex c d h
          | .no => .no) := g
      show opd X.K M ca r k E x σ w.H fun v H1 => rIsi X.K [v, .ty (tyT t)] H1 Q
      refine opd_at x0 (fun e => by rw [e] at g; exact g) (fun c d h' e => by rw [e] at g; exact g) fun d fr env1 h1 w1 v e s l y1 rv _ => ?_
      simp only [e] at g
      cases ei : isi d t with
      | none => simp only [ei] at g; exact g.elim
      | some c =>
        simp only [ei] at g
        obtain ⟨nr, kt⟩ := isi_kit (K := X.K) ei
        exact ⟨v, .ty (tyT t), .type (tyD d), .type (tyT t), c, rfl, .ty _, tyD_ok rv nr, kt, g w1 (.bl c) s l y1 (show Rep X.K w1 (.bl c) (.bl c) by unfold Rep; rfl)⟩
    · refine bad fun env h => ?_
      show (match b with
        | 12 => (match eB r k env h x with
          | .ok d _ env1 h1 => (match isi d t with | some c => Res.ok (.bl c) false env1 h1 | none => .no)
          | .ex c d h => .ex c d h
          | .no => .no)
        | _ => .no) = .no
      split
      · exact absurd rfl h12
      · rfl
end
end Ev
/-! Soundness of the small interpreter, 19: methods of lists. -/
namespace Ev
open PySem PySem.Spec PyProof.Rows L2
section
variable {X : Cx}
theorem MtR.orR {id : String} {r1 r2 : V → List V → Hp → VK → Prop} (a : MtR X id r1) (b : MtR X id r2) : MtR X id (fun x xs H Q => r1 x xs H Q ∨ r2 x xs H Q) := by
  intro pins s σ H x xs v us Q I rx rv h
  rcases h with h | h
  · exact a pins s σ H x xs v us Q I rx rv h
  · exact b pins s σ H x xs v us Q I rx rv h
def rExtR : V → List V → Hp → VK → Prop := fun x vs H Q => ∃ l b xs zs, x = .ref l ∧ vs = [.ref b] ∧ H l = some (.lst xs) ∧ Rd H b (.lst zs) ∧ xs.length + zs.length ≤ sizeLine ∧ Q .non (upd H l (.lst (xs ++ zs)))
theorem mt_extR : MtR X "list.extend" rExtR := by
  intro pins s σ H x vs v us Q I rx rv h
  obtain ⟨l, b, xs, zs, rfl, rfl, hH, hB, hz, q⟩ := h
  cases rx
  obtain ⟨u, rfl, ru⟩ := rv.one
  cases ru
  obtain ⟨z, its, n, r, hl, e⟩ := I.lstM hH
  obtain ⟨z2, its2, n2, r2, e2⟩ := hB.ok I.hok
  have hl2 := r2.length
  have hsz : its.toArray.size + its2.toArray.size ≤ sizeLine := by rw [List.size_toArray, List.size_toArray]; omega
  have hlong : ¬ (!its.toArray.isEmpty && Builtin.List.listTooLong (its.toArray.size + its2.toArray.size)) = true := by
    rw [notLongL hsz, Bool.and_false]
    exact Bool.false_ne_true
  refine call_meets F.slot_list_extend ⟨_, e, rfl⟩ F.entry_list_extend (F.args_list_extend_2 _ _)
    (AutoSeq1.list_extend_list_list_0 l its.toArray n b its2.toArray n2 hlong (by rw [List.size_toArray]; omega) (by omega)) ⟨e, e2, ?_⟩
  exact ⟨.non, _, I.lset (its' := its ++ its2) hH e (by simp) (r.append r2) (by rw [List.length_append]; omega), rfl, q⟩
end
section
variable {K : PySem.W.Frag} {M : Nm} {ca : Nat → Addr} {w w' w1 w2 : Wd} {env env' env1 env2 : Env} {σ : L2.St} {h h' h1 h2 : Hs} {Q : VK} {E : XK} {d u v : D} {ds es : List D} {a b : V} {vs us : List V} {fr : Bool} {O : Addr → Prop}
/-- an own list is written -/
theorem write_own (x : SI K M ca env σ h w) {i : Nat} {p : Addr} (hs : getS env i = .l ds) (ei : σ[i]? = some (some (.ref p))) (r : Reps K w es us) :
    Stp (Own env σ) w ⟨w.rho, w.S, upd w.H p (.lst us)⟩ ∧ ELe env (setS (.l es) env i) ∧ SI K M ca (setS (.l es) env i) σ h ⟨w.rho, w.S, upd w.H p (.lst us)⟩ := by
  have own : Own env σ p := ⟨i, by rw [hs]; rfl, ei⟩
  have sp : w.S p := x.ownS own
  obtain ⟨vs0, eh⟩ := x.ok.dom p sp
  have hi : i < env.length := getS_lt (by rw [hs]; exact fun z => by cases z)
  have st : Stp (fun q => q = p) w ⟨w.rho, w.S, upd w.H p (.lst us)⟩ := ⟨fun q a no => ⟨a, fun o e => by
      show upd w.H p _ q = _
      rw [upd_ne no]; exact e⟩, fun q o e _ ns => by
      show upd w.H p _ q = _
      rw [upd_ne (fun z => by subst z; exact ns sp)]; exact e, fun q e => by
      have e : upd w.H p (.lst us) q = none := e
      by_cases z : q = p
      · subst z; rw [upd_same] at e; cases e
      · rw [upd_ne z] at e; exact e, ⟨[], by simp, fun _ z => nomatch z⟩, fun q z => .inl z⟩
  have ok : WdOk K M ca ⟨w.rho, w.S, upd w.H p (.lst us)⟩ h := by
    refine ⟨fun q z => ?_, RH.on x.ok st rfl fun q hq o e => ?_⟩
    · by_cases zz : q = p
      · subst zz; exact ⟨us, upd_same⟩
      · obtain ⟨vs, e⟩ := x.ok.dom q z
        exact ⟨vs, by show upd w.H p _ q = _; rw [upd_ne zz]; exact e⟩
    · show upd w.H p _ q = _
      rw [upd_ne fun z => by subst z; exact (x.ok.rh.no hq eh).1 _ rfl]; exact e
  refine ⟨st.mono fun q z => z ▸ own, ⟨setS_len _ _ _, fun j => .inl ?_⟩, ok, by rw [setS_len]; exact x.re.len, fun j => ?_, fun j m b hj hm ej em => ?_⟩
  · rw [set_tag hi]
    by_cases e : i = j
    · subst e; rw [if_pos rfl, hs]; rfl
    · rw [if_neg e]
  · by_cases e : i = j
    · subst e
      rw [getS_set_same hi]
      exact ⟨p, us, ei, sp, upd_same, st.reps x.ok es us r⟩
    · rw [getS_set_ne e]
      have q := x.re.sl j
      have ne : ∀ b, 2 ≤ tag (getS env j) → σ[j]? = some (some (.ref b)) → b ≠ p := fun b t ej z => by
        subst z
        exact e (x.re.one i j b (by rw [hs]; exact Nat.le_refl 2) t ei ej)
      cases hj : getS env j with
      | u => trivial
      | v d =>
        rw [hj] at q
        obtain ⟨v, e2, r2⟩ := q
        exact ⟨v, e2, st.rep x.ok d v r2⟩
      | l qs =>
        rw [hj] at q ne
        obtain ⟨b, ws, e2, sb, eb, r2⟩ := q
        exact ⟨b, ws, e2, sb, (st.own b sb (ne b (Nat.le_refl 2) e2)).2 _ eb, st.reps x.ok qs ws r2⟩
      | k qs =>
        rw [hj] at q ne
        obtain ⟨b, ws, e2, sb, eb, r2⟩ := q
        exact ⟨b, ws, e2, sb, (st.own b sb (ne b (show 2 ≤ 3 by decide) e2)).2 _ eb, st.reps x.ok qs ws r2⟩
  · have tg : ∀ j, 2 ≤ tag (getS (setS (.l es) env i) j) → 2 ≤ tag (getS env j) := fun j t => by
      rw [set_tag hi] at t
      by_cases e : i = j
      · subst e; rw [hs]; exact Nat.le_refl 2
      · rw [if_neg e] at t; exact t
    exact x.re.one j m b (tg j hj) (tg m hm) ej em
/-- what an own list's slot tells -/
theorem own_at (x : SI K M ca env σ h w) {i : Nat} (hs : getS env i = .l ds) : ∃ p vs, σ[i]? = some (some (.ref p)) ∧ w.S p ∧ w.H p = some (.lst vs) ∧ Reps K w ds vs := by
  have q := x.re.sl i
  rw [hs] at q
  exact q
theorem ELe.isl (l : ELe env env') {i : Nat} (hs : getS env' i = .l ds) : ∃ es, getS env i = .l es := by
  have t : tag (getS env i) = 2 := by
    rcases l.2 i with z | z
    · rw [← z, hs]; rfl
    · exact z.1
  cases e : getS env i with
  | l es => exact ⟨es, rfl⟩
  | _ => rw [e] at t; cases t
theorem insertAt_eq (x : D) : ∀ (n : Nat) (l : List D), insertAt x n l = l.take n ++ [x] ++ l.drop n
  | 0, l => by unfold insertAt; simp
  | n + 1, [] => by unfold insertAt; simp
  | n + 1, y :: r => by unfold insertAt; rw [insertAt_eq x n r]; simp
end
section
variable {X : Cx} {M : Nm} {T : Tab} {fa ca : Nat → Addr} {fds : Nat → FuncData} {pss : Nat → List Str} {N : List Str} {sc : Scope} {k n : Nat} {E : XK} {r : Self}
variable {w w' w1 w2 : Wd} {env env' env1 env2 : Env} {σ : L2.St} {h h' h1 h2 : Hs} {Q : VK} {d : D} {ds : List D} {v : V} {vs : List V} {O : Addr → Prop}
theorem few_of {es : List Ex} {pa p : Pos} (hm : mOk es pa p = true) (hs : noStar es = true) : ((backTo p (starEach (decs M N es) X.env)).all (fun x => !x.1) && (backToKw p (keywordEach [] X.env)).all (fun x => x.1.isSome)
      && decide ((decs M N es).length + ([] : List Keyword).length + (if ([] : List Keyword).isEmpty then 0 else 1) < 30)) = true := by
  obtain ⟨h1, h2⟩ := ba hm
  have hl : ∀ es : List Ex, (decs M N es).length = es.length := fun es => by
    induction es with
    | nil => rfl
    | cons a r ih => show (decs M N r).length + 1 = _; rw [ih]; rfl
  have ha : ∀ es : List Ex, noStar es = true → (backTo p (starEach (decs M N es) X.env)).all (!·.1) = true := fun es hs => by
    induction es with
    | nil => rfl
    | cons x xs ih =>
      have e : starEach (decs M N (x :: xs)) X.env = (false, eval (dec M N x) X.env) :: starEach (decs M N xs) X.env := star1 hs
      rw [e]
      show (true && (backTo p (starEach (decs M N xs) X.env)).all (!·.1)) = true
      rw [ih (noStar_t hs)]
      rfl
  rw [ha es hs, hl]
  have : es.length < 25 := of_decide_eq_true h1
  show (true && true && decide (es.length + 0 + 0 < 30)) = true
  rw [decide_eq_true (by omega)]
  rfl
theorem n_lm (C : XC X M T fa ca fds pss N sc k E) (IH : ∀ x, wfE M N sc x = true → Okx X M ca N k E r x) {m : Nat} {o : Ex} {xs : List Ex} {pa p : Pos} (wf : wfE M N sc (.lm m o xs pa p) = true) : Okx X M ca N k E (F T r) (.lm m o xs pa p) := by
  have wf2 : (mOk xs pa p && wfE M N sc o && wfA o && noStar xs && wfEs M N sc xs) = true := by unfold wfE at wf; exact wf
  obtain ⟨wf3, ws⟩ := ba wf2
  obtain ⟨wf4, wn⟩ := ba wf3
  obtain ⟨wf5, wa⟩ := ba wf4
  obtain ⟨wm, wo⟩ := ba wf5
  have bad : (∀ env h, (F T r).e k env h (.lm m o xs pa p) = .no) → Okx X M ca N k E (F T r) (.lm m o xs pa p) := fun e => ⟨fun pins s σ H Q I z => by
    obtain ⟨w, env, h, rfl, x, g⟩ := z
    have g : pE X.K M ca E w env σ Q ((F T r).e k env h (.lm m o xs pa p)) := g
    rw [e] at g
    exact g.elim⟩
  have hb := att_base (X := X) (M := M) (N := N) (f := mN m) wa
  have hl : (pa.endLine == p.line) = true := (ba wm).2
  have fw := few_of (X := X) (M := M) (N := N) wm wn
  have st0 := star0 (X := X) (M := M) (N := N) (pos := p) wn
  cases o <;> first | exact bad fun _ _ => rfl | skip
  rename_i i pv
  have hv := pv_of C wo
  have nonV : ∀ (w : Wd), Rep X.K w .non .non := fun w => by unfold Rep; rfl
  have start : ∀ {w : Wd} {env : Env} {σ : L2.St} {h : Hs}, SI X.K M ca env σ h w → ∀ {ds : List D}, getS env i = .l ds → ∃ q, σ[i]? = some (some (.ref q)) ∧ tyV X.K "list" (.ref q) w.H := fun {w env σ h} x {ds} hs => by
    obtain ⟨q, vs, e1, _, e2, _⟩ := own_at x hs
    exact ⟨q, e1, .inl ⟨rfl, vs, .inl (.inl e2)⟩⟩
  have same : ∀ {w : Wd} {env : Env} {σ : L2.St} {h : Hs} {q : Addr}, σ[i]? = some (some (.ref q)) → SI X.K M ca env σ h w → ∀ {ds : List D}, getS env i = .l ds → ∃ vs, w.H q = some (.lst vs) ∧ Reps X.K w ds vs := fun {w env σ h q} eq x {ds} hs => by
    obtain ⟨q2, vs, e1, _, e2, rs⟩ := own_at x hs
    rw [eq] at e1; cases e1
    exact ⟨vs, e2, rs⟩
  match m, xs, ws, wn, fw, bad, hb with
  | 0, [], _, _, _, bad, _ => exact bad fun env _ => by show (match getS env i with | .l _ => Res.no | _ => .no) = .no; split <;> rfl
  | 0, [y], ws, wn, fw, bad, hb =>
    have wy : wfE M N sc y = true := by unfold wfEs at ws; exact (ba ws).1
    refine PE.imp (pe_bm F.plainAttrs_list F.slot_list_append F.type_list_append mt_append hv (pa_cons (IH y wy) pa_nil (star1 wn)) hb fw hl (star1 wn) rfl) fun σ H Q z => ?_
    obtain ⟨w, env, h, rfl, x, g⟩ := z
    have g : pE X.K M ca E w env σ Q (match getS env i with
       | .l _ => (match r.e k env h y with
          | .ok d _ env1 h1 => (match getS env1 i with | .l ds => (match lenOk ds with | true => .ok .non false (setS (.l (ds ++ [d])) env1 i) h1 | false => .no) | _ => .no)
          | .ex c d h => .ex c d h
          | .no => .no)
       | _ => .no) := g
    cases h0 : getS env i with
    | l ds0 =>
      simp only [h0] at g
      obtain ⟨q, eq, ty⟩ := start x h0
      refine ⟨.ref q, eq, ty, w, env, h, rfl, x, pE_of_pS x ?_⟩
      show pS X.K M ca E w env σ _ (r.e k env h y)
      cases e : r.e k env h y with
      | no => simp only [e] at g; exact g
      | ex c d h' => simp only [e] at g; exact g
      | ok d fr env1 h1 =>
        simp only [e] at g
        intro w1 v s l y1 rv
        cases h2 : getS env1 i with
        | l ds =>
          cases h3 : lenOk ds with
          | false => simp only [h2, h3] at g; exact g.elim
          | true =>
            simp only [h2, h3] at g
            obtain ⟨vs, e2, rs⟩ := same eq y1 h2
            obtain ⟨s2, l2, y2⟩ := write_own y1 h2 eq (rs.append (Reps.one rv))
            have hn := lenOk_le h3 rs
            exact ⟨q, vs, v, rfl, rfl, e2, by rw [sizeLine_eq]; omega, g ⟨w1.rho, w1.S, upd w1.H q (.lst (vs ++ [v]))⟩ .non (x.trans s l s2) (l.trans l2) y2 (nonV w)⟩
        | _ => simp only [h2] at g; exact g.elim
    | _ => simp only [h0] at g; exact g.elim
  | 0, _ :: _ :: _, _, _, _, bad, _ => exact bad fun env _ => by show (match getS env i with | .l _ => Res.no | _ => .no) = .no; split <;> rfl
  | 1, [], _, _, _, bad, _ => exact bad fun env _ => by show (match getS env i with | .l _ => Res.no | _ => .no) = .no; split <;> rfl
  | 1, [y], ws, wn, fw, bad, hb =>
    have wy : wfE M N sc y = true := by unfold wfEs at ws; exact (ba ws).1
    refine PE.imp (pe_bm F.plainAttrs_list F.slot_list_extend F.type_list_extend mt_extR hv (pa_cons (pO C IH wy) pa_nil (star1 wn)) hb fw hl (star1 wn) rfl) fun σ H Q z => ?_
    obtain ⟨w, env, h, rfl, x, g⟩ := z
    have g : pE X.K M ca E w env σ Q (match getS env i with
       | .l _ => (match eB r k env h y with
          | .ok (.lst qs) _ env1 h1 => (match getS env1 i with | .l ds => (match lenOk ds, lenOk qs with | true, true => .ok .non false (setS (.l (ds ++ qs)) env1 i) h1 | _, _ => .no) | _ => .no)
          | .ex c d h => .ex c d h
          | _ => .no)
       | _ => .no) := g
    cases h0 : getS env i with
    | l ds0 =>
      simp only [h0] at g
      obtain ⟨q, eq, ty⟩ := start x h0
      refine ⟨.ref q, eq, ty, ?_⟩
      refine opd_at x (fun e => by rw [e] at g; exact g) (fun c d h' e => by rw [e] at g; exact g) fun d fr env1 h1 w1 v e s l y1 rv nv => ?_
      simp only [e] at g
      cases d <;> first | exact g.elim | skip
      rename_i qs
      cases h2 : getS env1 i with
      | l ds =>
        cases h3 : lenOk ds with
        | false => simp only [h2, h3] at g; exact g.elim
        | true => cases h4 : lenOk qs with
          | false => simp only [h2, h3, h4] at g; exact g.elim
          | true =>
            simp only [h2, h3, h4] at g
            obtain ⟨vs, e2, rs⟩ := same eq y1 h2
            obtain ⟨b, us, rfl, q2, t2⟩ := rv
            obtain ⟨s2, l2, y2⟩ := write_own y1 h2 eq (rs.append t2)
            have hn := lenOk_le h3 rs
            have hn2 := lenOk_le h4 t2
            exact ⟨q, b, vs, us, rfl, rfl, e2, q2, by rw [sizeLine_eq]; omega, g ⟨w1.rho, w1.S, upd w1.H q (.lst (vs ++ us))⟩ .non (x.trans s l s2) (l.trans l2) y2 (nonV w)⟩
      | _ => simp only [h2] at g; exact g.elim
    | _ => simp only [h0] at g; exact g.elim
  | 1, _ :: _ :: _, _, _, _, bad, _ => exact bad fun env _ => by show (match getS env i with | .l _ => Res.no | _ => .no) = .no; split <;> rfl
  | 2, [], _, _, _, bad, _ => exact bad fun env _ => by show (match getS env i with | .l _ => Res.no | _ => .no) = .no; split <;> rfl
  | 2, [_], _, _, _, bad, _ => exact bad fun env _ => by show (match getS env i with | .l _ => Res.no | _ => .no) = .no; split <;> rfl
  | 2, [y, z], ws, wn, fw, bad, hb =>
    have wy : wfE M N sc y = true := by unfold wfEs at ws; exact (ba ws).1
    have wz : wfE M N sc z = true := by unfold wfEs at ws; have := (ba ws).2; unfold wfEs at this; exact (ba this).1
    refine PE.imp (pe_bm F.plainAttrs_list F.slot_list_insert F.type_list_insert mt_insert hv (pa_cons (IH y wy) (pa_cons (IH z wz) pa_nil (star1 (noStar_t wn))) (star1 wn)) hb fw hl (star1 wn) (star0 (noStar_t wn))) fun σ H Q z' => ?_
    obtain ⟨w, env, h, rfl, x, g⟩ := z'
    have g : pE X.K M ca E w env σ Q (match getS env i with
       | .l _ => (match r.e k env h y with
          | .ok (.int (.ofNat n)) _ env1 h1 => (match r.e k env1 h1 z with
            | .ok d _ env2 h2 => (match getS env2 i with | .l ds => (match lenOk ds, Nat.ble n 1000000 with | true, true => .ok .non false (setS (.l (insertAt d n ds)) env2 i) h2 | _, _ => .no) | _ => .no)
            | .ex c d h => .ex c d h
            | .no => .no)
          | .ex c d h => .ex c d h
          | _ => .no)
       | _ => .no) := g
    cases h0 : getS env i with
    | l ds0 =>
      simp only [h0] at g
      obtain ⟨q, eq, ty⟩ := start x h0
      refine ⟨.ref q, eq, ty, w, env, h, rfl, x, ?_⟩
      show pE X.K M ca E w env σ _ (r.e k env h y)
      cases e : r.e k env h y with
      | no => simp only [e] at g; exact g
      | ex c d h' => simp only [e] at g; exact g
      | ok d fr env1 h1 =>
        cases d <;> simp only [e] at g <;> first | exact g.elim | skip
        rename_i j
        cases j <;> simp only at g <;> first | exact g.elim | skip
        rename_i n
        intro w1 v s l y1 rv
        have rv := Vw.of_rv rv
        replace g := g.step x s l
        refine ⟨w1, env1, h1, rfl, y1, pE_of_pS y1 ?_⟩
        show pS X.K M ca E w1 env1 σ _ (r.e k env1 h1 z)
        cases e2 : r.e k env1 h1 z with
        | no => simp only [e2] at g; exact g
        | ex c d h' => simp only [e2] at g; exact g
        | ok d fr2 env2 h2 =>
          simp only [e2] at g
          intro w2 v2 s2 l2 y2 rv2
          cases h2 : getS env2 i with
          | l ds =>
            cases h3 : lenOk ds with
            | false => simp only [h2, h3] at g; exact g.elim
            | true => cases h4 : Nat.ble n 1000000 with
              | false => simp only [h2, h3, h4] at g; exact g.elim
              | true =>
                simp only [h2, h3, h4] at g
                obtain ⟨vs, e3, rs⟩ := same eq y2 h2
                have rn : Reps X.K w2 (insertAt d n ds) (vs.take n ++ [v2] ++ vs.drop n) := by
                  rw [insertAt_eq]
                  exact ((rs.take n).append (Reps.one rv2)).append (rs.drop n)
                obtain ⟨s3, l3, y3⟩ := write_own y2 h2 eq rn
                have hn := lenOk_le h3 rs
                have hb := Nat.le_of_ble_eq_true h4
                refine ⟨q, vs, (n : Int), v2, rfl, by rw [rv.int]; rfl, e3, by rw [sizeLine_eq]; omega, by omega, by omega, ?_⟩
                rw [Int.toNat_natCast]
                exact g ⟨w2.rho, w2.S, upd w2.H q (.lst (vs.take n ++ [v2] ++ vs.drop n))⟩ .non (y1.trans s2 l2 s3) (l2.trans l3) y3 (nonV w)
          | _ => simp only [h2] at g; exact g.elim
    | _ => simp only [h0] at g; exact g.elim
  | 2, _ :: _ :: _ :: _, _, _, _, bad, _ => exact bad fun env _ => by show (match getS env i with | .l _ => Res.no | _ => .no) = .no; split <;> rfl
  | 3, [], _, _, _, bad, hb =>
    refine PE.imp (pe_bm0 F.plainAttrs_list F.slot_list_pop F.type_list_pop mt_pop hv hb hl) fun σ H Q z => ?_
    obtain ⟨w, env, h, rfl, x, g⟩ := z
    have g : pE X.K M ca E w env σ Q (match getS env i with
       | .l _ => (match getS env i with
          | .l ds => (match ixOf ds.length (-1) with
            | some n => (match atL ds n with | some d => .ok d false (setS (.l (dropAt n ds)) env i) h | none => .no)
            | none => .no)
          | _ => .no)
       | _ => .no) := g
    cases h0 : getS env i with
    | l ds =>
      simp only [h0] at g
      obtain ⟨q, eq, ty⟩ := start x h0
      refine ⟨.ref q, eq, ty, ?_⟩
      cases e1 : ixOf ds.length (-1) with
      | none => simp only [e1] at g; exact g.elim
      | some n => cases e2 : atL ds n with
        | none => simp only [e1, e2] at g; exact g.elim
        | some d =>
          simp only [e1, e2] at g
          obtain ⟨vs, e3, rs⟩ := same eq x h0
          rw [atL_eq] at e2
          obtain ⟨v, e4, rv⟩ := rs.get e2
          rw [dropAt_eq] at g
          obtain ⟨s2, l2, y2⟩ := write_own x h0 eq (rs.erase n)
          rw [ixOf_eq] at e1
          have hl := rs.length
          have hn : n = vs.length - 1 := by
            unfold ixN at e1
            rw [if_neg (by decide)] at e1
            split at e1
            · cases e1; omega
            · cases e1
          refine ⟨q, vs, v, rfl, rfl, e3, by rw [← hn]; exact e4, ?_⟩
          have ed : vs.dropLast = vs.eraseIdx n := by rw [hn, List.eraseIdx_eq_dropLast (by have := (List.getElem?_eq_some_iff.mp e4).1; omega)]
          rw [ed]
          exact g ⟨w.rho, w.S, upd w.H q (.lst (vs.eraseIdx n))⟩ v s2 l2 y2 (s2.rep x.ok d v rv)
    | _ => simp only [h0] at g; exact g.elim
  | 3, [y], ws, wn, fw, bad, hb =>
    have wy : wfE M N sc y = true := by unfold wfEs at ws; exact (ba ws).1
    refine PE.imp (pe_bm F.plainAttrs_list F.slot_list_pop F.type_list_pop mt_popAt hv (pa_cons (IH y wy) pa_nil (star1 wn)) hb fw hl (star1 wn) rfl) fun σ H Q z => ?_
    obtain ⟨w, env, h, rfl, x, g⟩ := z
    have g : pE X.K M ca E w env σ Q (match getS env i with
       | .l _ => (match r.e k env h y with
          | .ok (.int j) _ env1 h1 => (match getS env1 i with
            | .l ds => (match lenOk ds, ixOf ds.length j with
              | true, some n => (match atL ds n with | some d => .ok d false (setS (.l (dropAt n ds)) env1 i) h1 | none => .no)
              | _, _ => .no)
            | _ => .no)
          | .ex c d h => .ex c d h
          | _ => .no)
       | _ => .no) := g
    cases h0 : getS env i with
    | l ds0 =>
      simp only [h0] at g
      obtain ⟨q, eq, ty⟩ := start x h0
      refine ⟨.ref q, eq, ty, w, env, h, rfl, x, ?_⟩
      show pE X.K M ca E w env σ _ (r.e k env h y)
      cases e : r.e k env h y with
      | no => simp only [e] at g; exact g
      | ex c d h' => simp only [e] at g; exact g
      | ok d fr env1 h1 =>
        cases d <;> simp only [e] at g <;> first | exact g.elim | skip
        rename_i j
        intro w1 v s l y1 rv
        have rv := Vw.of_rv rv
        cases h2 : getS env1 i with
        | l ds =>
          cases h3 : lenOk ds with
          | false => simp only [h2, h3] at g; exact g.elim
          | true => cases h4 : ixOf ds.length j with
            | none => simp only [h2, h3, h4] at g; exact g.elim
            | some n => cases h5 : atL ds n with
              | none => simp only [h2, h3, h4, h5] at g; exact g.elim
              | some d =>
                simp only [h2, h3, h4, h5] at g
                obtain ⟨vs, e3, rs⟩ := same eq y1 h2
                rw [atL_eq] at h5
                obtain ⟨z, e4, rz⟩ := rs.get h5
                rw [dropAt_eq] at g
                obtain ⟨s2, l2, y2⟩ := write_own y1 h2 eq (rs.erase n)
                rw [ixOf_eq, ← rs.length] at h4
                obtain ⟨q1, q2, q3, q4⟩ := ixN_seq h4
                have hn := lenOk_le h3 rs
                exact ⟨q, vs, j, n, z, rfl, by rw [rv.int], e3, by omega, by omega, q1, e4, g ⟨w1.rho, w1.S, upd w1.H q (.lst (vs.eraseIdx n))⟩ z (x.trans s l s2) (l.trans l2) y2 (s2.rep y1.ok d z rz)⟩
        | _ => simp only [h2] at g; exact g.elim
    | _ => simp only [h0] at g; exact g.elim
  | 3, _ :: _ :: _, _, _, _, bad, _ => exact bad fun env _ => by show (match getS env i with | .l _ => Res.no | _ => .no) = .no; split <;> rfl
  | m + 4, _, _, _, _, bad, _ => exact bad fun env _ => by show (match getS env i with | .l _ => Res.no | _ => .no) = .no; split <;> rfl
end
end Ev
/-! Soundness of the small interpreter, 20: names stored, targets. -/
namespace Ev
open PySem PySem.Spec PyProof.Rows L2
/-- from one state of a frame to a later one -/
structure Stq (w : Wd) (env : Env) (σ : L2.St) (w' : Wd) (env' : Env) (σ' : L2.St) : Prop where
  st : Stp (Own env σ) w w'
  ow : ∀ a, Own env' σ' a → Own env σ a ∨ w.H a = none
  ln : env'.length = env.length
section
variable {K : PySem.W.Frag} {M : Nm} {ca : Nat → Addr} {w w' w1 w2 : Wd} {env env' env1 env2 : Env} {σ σ1 σ2 : L2.St} {h h' h1 h2 : Hs} {Q : VK} {E : XK} {d u v : D} {ds es : List D} {a b : V} {vs us : List V} {fr : Bool} {O : Addr → Prop}
theorem Stq.refl : Stq w env σ w env σ := ⟨Stp.refl, fun _ z => .inl z, rfl⟩
theorem Stq.of (s : Stp (Own env σ) w w') (l : ELe env env') : Stq w env σ w' env' σ := ⟨s, fun a z => .inl (l.own z), l.1⟩
theorem Stq.trans (x : SI K M ca env σ h w) (s : Stq w env σ w1 env1 σ1) (t : Stq w1 env1 σ1 w2 env2 σ2) : Stq w env σ w2 env2 σ2 := by
  refine ⟨s.st.trans t.st (fun a z => x.ok.ne z) s.ow, fun a z => ?_, t.ln.trans s.ln⟩
  rcases t.ow a z with q | q
  · exact s.ow a q
  · exact .inr (s.st.there a q)
/-- a value stored -/
theorem put_v (x : SI K M ca env σ h w) {i : Nat} (hi : i < env.length) (r : Rep K w d a) : SI K M ca (setS (.v d) env i) (σ.set i (some a)) h w ∧ Stq w env σ w (setS (.v d) env i) (σ.set i (some a)) := by
  have hl : i < σ.length := by rw [← x.re.len]; exact hi
  have tg : ∀ j, 2 ≤ tag (getS (setS (.v d) env i) j) → i ≠ j ∧ 2 ≤ tag (getS env j) := fun j t => by
    rw [set_tag hi] at t
    by_cases e : i = j
    · rw [if_pos e] at t; exact absurd t (show ¬ 2 ≤ 1 by decide)
    · rw [if_neg e] at t; exact ⟨e, t⟩
  refine ⟨⟨x.ok, by rw [setS_len, List.length_set]; exact x.re.len, fun j => ?_, fun j m b hj hm ej em => ?_⟩, Stp.refl, fun p ⟨j, hj, ej⟩ => ?_, setS_len _ _ _⟩
  · by_cases e : i = j
    · subst e
      rw [getS_set_same hi]
      exact ⟨a, List.getElem?_set_self hl, r⟩
    · rw [getS_set_ne e, List.getElem?_set_ne e]
      exact x.re.sl j
  · obtain ⟨n1, t1⟩ := tg j hj
    obtain ⟨n2, t2⟩ := tg m hm
    rw [List.getElem?_set_ne n1] at ej
    rw [List.getElem?_set_ne n2] at em
    exact x.re.one j m b t1 t2 ej em
  · have t : 2 ≤ tag (getS (setS (.v d) env i) j) := by rw [isL_tag.mp hj]; exact Nat.le_refl 2
    obtain ⟨n1, t1⟩ := tg j t
    rw [getS_set_ne n1] at hj
    rw [List.getElem?_set_ne n1] at ej
    exact .inl ⟨j, hj, ej⟩
/-- a new list stored -/
theorem put_l (x0 : SI K M ca env σ h w) (l : ELe env env1) (s : Stp (Own env σ) w w1) (x : SI K M ca env1 σ h1 w1) {i : Nat} (hi : i < env.length) (r : RV K w w1 true d a) :
    ∃ ds, d = .lst ds ∧ SI K M ca (setS (.l ds) env1 i) (σ.set i (some a)) h1 w1 ∧ Stq w env σ w1 (setS (.l ds) env1 i) (σ.set i (some a)) := by
  obtain ⟨p, vs, ds, rfl, rfl, sp, ep, rp, np⟩ := r
  have hi1 : i < env1.length := by rw [l.1]; exact hi
  have hl : i < σ.length := by rw [← x.re.len]; exact hi1
  have np1 : ∀ j, 2 ≤ tag (getS env1 j) → σ[j]? ≠ some (some (.ref p)) := fun j t e => x0.ok.ne (x0.sS (l.ge t) e) np
  have cs : ∀ j b, 2 ≤ tag (getS (setS (.l ds) env1 i) j) → (σ.set i (some (.ref p)))[j]? = some (some (.ref b)) → (i = j ∧ b = p) ∨ (i ≠ j ∧ 2 ≤ tag (getS env1 j) ∧ σ[j]? = some (some (.ref b)) ∧ b ≠ p) := fun j b t e => by
    by_cases z : i = j
    · subst z
      rw [List.getElem?_set_self hl] at e
      cases e
      exact .inl ⟨rfl, rfl⟩
    · rw [set_tag hi1, if_neg z] at t
      rw [List.getElem?_set_ne z] at e
      exact .inr ⟨z, t, e, fun y => np1 j t (y ▸ e)⟩
  refine ⟨ds, rfl, ⟨x.ok, by rw [setS_len, List.length_set]; exact x.re.len, fun j => ?_, fun j m b hj hm ej em => ?_⟩, s, fun q ⟨j, hj, ej⟩ => ?_, by rw [setS_len]; exact l.1⟩
  · by_cases e : i = j
    · subst e
      rw [getS_set_same hi1]
      exact ⟨p, vs, List.getElem?_set_self hl, sp, ep, rp⟩
    · rw [getS_set_ne e, List.getElem?_set_ne e]
      exact x.re.sl j
  · rcases cs j b hj ej with ⟨e1, e2⟩ | ⟨e1, e2, e3, e4⟩ <;> rcases cs m b hm em with ⟨f1, f2⟩ | ⟨f1, f2, f3, f4⟩
    · exact e1.symm.trans f1
    · exact absurd e2 f4
    · exact absurd f2 e4
    · exact x.re.one j m b e2 f2 e3 f3
  · have t : 2 ≤ tag (getS (setS (.l ds) env1 i) j) := by rw [isL_tag.mp hj]; exact Nat.le_refl 2
    rcases cs j q t ej with ⟨e1, e2⟩ | ⟨e1, e2, e3, e4⟩
    · exact .inr (e2 ▸ np)
    · rw [getS_set_ne e1] at hj
      exact .inl (l.own ⟨j, hj, e3⟩)
/-- any value stored -/
theorem put_ok2 (x0 : SI K M ca env σ h w) (l : ELe env env1) (s : Stp (Own env σ) w w1) (x : SI K M ca env1 σ h1 w1) {i : Nat} (hi : i < env.length) (r : RV K w w1 fr d a) :
    SI K M ca (put env1 i d fr) (σ.set i (some a)) h1 w1 ∧ Stq w env σ w1 (put env1 i d fr) (σ.set i (some a)) := by
  cases fr with
  | true =>
    obtain ⟨ds, rfl, y, t⟩ := put_l x0 l s x hi r
    exact ⟨y, t⟩
  | false =>
    obtain ⟨y, t⟩ := put_v x (i := i) (by rw [l.1]; exact hi) r
    have e : put env1 i d false = setS (.v d) env1 i := by unfold put; cases d <;> rfl
    rw [e]
    exact ⟨y, Stq.trans x0 (Stq.of s l) t⟩
end
/-! ### targets -/
/-- slots outside L stand -/
def Out (L : List Nat) (σ σ2 : L2.St) : Prop := σ2.length = σ.length ∧ ∀ j, j ∉ L → σ2[j]? = σ[j]?
theorem Out.refl {L : List Nat} {σ : L2.St} : Out L σ σ := ⟨rfl, fun _ _ => rfl⟩
theorem Out.trans {L L9 : List Nat} {σ σ1 σ2 : L2.St} (a : Out L σ σ1) (b : Out L9 σ1 σ2) : Out (L ++ L9) σ σ2 :=
  ⟨b.1.trans a.1, fun j n => (b.2 j fun z => n (List.mem_append_right _ z)).trans (a.2 j fun z => n (List.mem_append_left _ z))⟩
section
variable (K : PySem.W.Frag) (M : Nm) (ca : Nat → Addr)
def tTg (L : List Nat) (g : D → Env → Option Env) : TG := fun v σ H Q => ∃ w env h d env2, w.H = H ∧ SI K M ca env σ h w ∧ Rep K w d v ∧ g d env = some env2 ∧ ∀ σ2, SI K M ca env2 σ2 h w → Stq w env σ w env2 σ2 → Out L σ σ2 → Q σ2 H
def tTgs (L : List Nat) (g : List D → Env → Option Env) : TGs := fun vs σ H Q => ∃ w env h ds env2, w.H = H ∧ SI K M ca env σ h w ∧ Reps K w ds vs ∧ g ds env = some env2 ∧ ∀ σ2, SI K M ca env2 σ2 h w → Stq w env σ w env2 σ2 → Out L σ σ2 → Q σ2 H
end
section
variable {X : Cx} {M : Nm} {ca : Nat → Addr} {N : List Str} {sc : Scope} {fn : Str → Bool}
theorem asg_each {n : Nat} : ∀ {ts : List Ex}, (ts.all (wfT N sc fn n)) = true → (assignEach (decs M N ts) X.env).length = ts.length ∧ (assignEach (decs M N ts) X.env).findIdx? (·.1) = none
  | [], _ => ⟨rfl, rfl⟩
  | t :: ts, h => by
    rw [List.all_cons, Bool.and_eq_true] at h
    obtain ⟨l, f⟩ := asg_each h.2
    have e : ∃ a, assignEach (dec M N t :: decs M N ts) X.env = (false, a) :: assignEach (decs M N ts) X.env := by
      cases n with
      | zero => unfold wfT at h; cases h.1
      | succ n => cases t <;> first | exact ⟨_, rfl⟩ | (unfold wfT at h; cases h.1)
    obtain ⟨a, e⟩ := e
    have e2 : assignEach (decs M N (t :: ts)) X.env = (false, a) :: assignEach (decs M N ts) X.env := e
    rw [e2]
    refine ⟨by show (assignEach (decs M N ts) X.env).length + 1 = _; rw [l]; rfl, ?_⟩
    rw [List.findIdx?_cons, f]
    rfl
/-- several targets, where each is fine -/
theorem pgs_ok {n : Nat} {a : Ex → D → Env → Option Env} (ih : ∀ t, wfT N sc fn n t = true → PG X (dec M N t) (tTg X.K M ca (tv t) (a t))) : ∀ {ts : List Ex}, (ts.all (wfT N sc fn n)) = true → PGs X (decs M N ts) (tTgs X.K M ca (tvs ts) (tgs a ts))
  | [], _ => by
    refine ⟨fun pins s σ H vs us Q I r h => pgs_nil.run pins s σ H vs us Q I r ?_⟩
    obtain ⟨w, env, h, ds, env2, rfl, x, rs, e, g⟩ := h
    cases ds with
    | nil => cases e; unfold Reps at rs; exact ⟨rs, g σ x Stq.refl Out.refl⟩
    | cons => cases e
  | t :: ts, hw => by
    rw [List.all_cons, Bool.and_eq_true] at hw
    have e : ∃ b, assignEach (dec M N t :: decs M N ts) X.env = (b, assign (dec M N t) X.env) :: assignEach (decs M N ts) X.env := by
      cases n with
      | zero => unfold wfT at hw; cases hw.1
      | succ n => cases t <;> first | exact ⟨_, rfl⟩ | (unfold wfT at hw; cases hw.1)
    obtain ⟨b, e⟩ := e
    refine ⟨fun pins s σ H vs us Q I r h => (pgs_cons (ih t hw.1) (pgs_ok ih hw.2) (by cases n with
      | zero => unfold wfT at hw; cases hw.1
      | succ n => cases t <;> first | rfl | (unfold wfT at hw; cases hw.1))).run pins s σ H vs us Q I r ?_⟩
    obtain ⟨w, env, h, ds, env2, rfl, x, rs, e, g⟩ := h
    cases ds with
    | nil => cases e
    | cons d ds =>
      have e : (match a t d env with | some env1 => tgs a ts ds env1 | none => none) = some env2 := e
      unfold Reps at rs
      obtain ⟨v, q, rfl, r1, r2⟩ := rs
      cases e1 : a t d env with
      | none => rw [e1] at e; cases e
      | some env1 =>
        rw [e1] at e
        exact ⟨v, q, rfl, w, env, h, d, env1, rfl, x, r1, e1, fun σ2 y s o => ⟨w, env1, h, ds, env2, rfl, y, r2, e, fun σ3 y3 s3 o3 => g σ3 y3 (s.trans x s3) (o.trans o3)⟩⟩
theorem pg_ok (hN : X.N = N) (nd : N.Nodup) (hs : X.env.scope = sc) (hc : X.calm = true) (hf : ∀ x, fn x = true → X.fn x = true) : ∀ (n : Nat) (t : Ex), wfT N sc fn n t = true → PG X (dec M N t) (tTg X.K M ca (tv t) (tg n t))
  | 0, t, h => by unfold wfT at h; cases h
  | n + 1, t, hw => by
    cases t with
    | var i p =>
      have wf2 : (decide (i < N.length) && isLocK (sc.names.lookup (N.getD i "")) && (fn (N.getD i "") || decide (sc.names.lookup (N.getD i "") = some .local))) = true := by unfold wfT at hw; exact hw
      obtain ⟨wf3, w3⟩ := ba wf2
      obtain ⟨w1, w2⟩ := ba wf3
      have hl : i < N.length := of_decide_eq_true w1
      have hor : X.fn (N.getD i "") = true ∨ X.env.scope.names.lookup (N.getD i "") = some .local := by
        rcases Bool.or_eq_true_iff.mp w3 with z | z
        · exact .inl (hf _ z)
        · rw [hs]; exact .inr (of_decide_eq_true z)
      refine ⟨fun pins s σ H v u Q I r z => (pg_name (X := X) (i := i) (x := N.getD i "") (pos := p) (by rw [hN]; exact nd) (by rw [hN, List.getD_eq_getElem?_getD, List.getElem?_eq_getElem hl]; rfl) (by rw [hs]; exact loc_of w2) hor).run pins s σ H v u Q I r ?_⟩
      obtain ⟨w, env, h, d, env2, rfl, x, rv, e, g⟩ := z
      have e : some (setS (.v d) env i) = some env2 := e
      cases e
      have hi : i < env.length := by rw [x.re.len, I.len, hN]; exact hl
      obtain ⟨y, st⟩ := put_v x hi rv
      exact g _ y st ⟨List.length_set, fun j nj => List.getElem?_set_ne fun z => nj (by unfold tv; rw [z]; exact List.mem_singleton_self _)⟩
    | tup ts q p =>
      have wf2 : (ts.all (wfT N sc fn n)) = true := by unfold wfT at hw; exact hw
      obtain ⟨a1, a2⟩ := asg_each (X := X) (M := M) wf2
      refine ⟨fun pins s σ H v u Q I r z => (pg_tup (n := ts.length) hc (pgs_ok (ca := ca) (pg_ok hN nd hs hc hf n) wf2) a1 a2).run pins s σ H v u Q I r ?_⟩
      obtain ⟨w, env, h, d, env2, rfl, x, rv, e, g⟩ := z
      cases d <;> first | (cases e; done) | skip
      rename_i ds
      have e : tgs (tg n) ts ds env = some env2 := e
      unfold Rep at rv
      obtain ⟨p, vs, rfl, sq, t⟩ := rv
      have hlen : ∀ (ts : List Ex) (ds : List D) (env : Env), tgs (tg n) ts ds env = some env2 → ds.length = ts.length := fun ts => by
        induction ts with
        | nil => intro ds env e; cases ds with
          | nil => rfl
          | cons => cases e
        | cons t ts ih => intro ds env e; cases ds with
          | nil => cases e
          | cons d ds =>
            have e : (match tg n t d env with | some env1 => tgs (tg n) ts ds env1 | none => none) = some env2 := e
            cases e1 : tg n t d env with
            | none => rw [e1] at e; cases e
            | some env1 => rw [e1] at e; show ds.length + 1 = ts.length + 1; rw [ih ds env1 e]
      exact ⟨p, vs, rfl, sq, by rw [t.length]; exact hlen ts ds env e, w, env, h, ds, env2, rfl, x, t, e, g⟩
    | _ => unfold wfT at hw; cases hw
end
end Ev
/-! Soundness of the small interpreter, 21: what is walked. -/
namespace Ev
open PySem PySem.Spec PyProof.Rows L2
set_option maxHeartbeats 4000000 in
theorem meets_enum1 {v : Value} {o : Obj} {H : Heap → Prop} (B : Begins v o H) :
    Meets (Builtin.«enumerate.__new__» ⟨[.type "enumerate", v], []⟩) (fun _ R s => H s.heap ∧
      R (.ok (.ret (.ref (s.heap.push o).objs.size))) { s with heap := (s.heap.push o).push { cls := .type "enumerate", data := .fields #[.none, .bool false, .ref s.heap.objs.size, rawInt 0, .none, .none] } }) :=
  .of_wp fun prog w A R s h => by
    obtain ⟨hp, g, d, tk, os⟩ := s; obtain ⟨h1, h⟩ := h
    have hsub := sub_enumerate
    have q1 : ∀ {A' : Around} {E : Value → Shared → Prop} {Q : Value → Shared → Prop}, Q (.ref hp.objs.size) ⟨hp.push o, g, d, tk, os⟩ → wpAny (model prog w) A' (pyIter v) Q E ⟨hp, g, d, tk, os⟩ :=
      fun q => B.iter prog w _ _ ⟨hp, g, d, tk, os⟩ _ h1 q
    wp_walk using q1
    refine wpAny_stack_any fun st => wpAny_pure ?_
    split
    · rename_i c _ _ _ _ _
      cases (c == Value.type "enumerate")
      · wp_walk using q1
        exact ⟨_, rfl, h⟩
      · wp_walk using q1
        exact ⟨_, rfl, h⟩
    · wp_walk using q1
      exact ⟨_, rfl, h⟩
section
variable {prog : Program} {w : World} {A : Around} {E : Value → Shared → Prop} {s : Shared}
theorem enum1_begins {v : Value} {o : Obj} {H : Heap → Prop} {Q : Value → Shared → Prop} (B : Begins v o H) (h1 : H s.heap)
    (h : ∀ h', IsEnum h' (s.heap.objs.size + 1) s.heap.objs.size 0 .none → h'.get? s.heap.objs.size = some o → h'.objs.size = s.heap.objs.size + 2 →
      (∀ b o, s.heap.get? b = some o → h'.get? b = some o) → Q (.ref (s.heap.objs.size + 1)) { s with heap := h' }) :
    wpAny (model prog w) A (call (.type "enumerate") [v]) Q E s := by
  refine callType_new F.called_enumerate (by decide) (F.typeCall_enumerate_1 _) (F.newCall_enumerate_1 _) (fun obj => F.args_object_init_2 obj _) F.entry_enumerate_new
    (meets_enum1 B) ⟨h1, ?_⟩
  have hz : (s.heap.push o).objs.size = s.heap.objs.size + 1 := Heap.size_push ..
  show _ ∧ _
  rw [hz]
  have he : IsEnum ((s.heap.push o).push { cls := .type "enumerate", data := .fields #[.none, .bool false, .ref s.heap.objs.size, rawInt 0, .none, .none] }) (s.heap.objs.size + 1) s.heap.objs.size 0 .none := by
    have := Heap.get?_push_size (s.heap.push o) (o := { cls := .type "enumerate", data := .fields #[.none, .bool false, .ref s.heap.objs.size, rawInt 0, .none, .none] }) rfl
    rw [hz] at this; exact this
  exact ⟨⟨_, he, rfl⟩, h _ he (Heap.get?_push_of_some _ (Heap.get?_push_size _ B.free)) (by rw [Heap.size_push, hz]) fun b o x => Heap.get?_push_of_some _ (Heap.get?_push_of_some _ x)⟩
end
/-- the tuple at a, each item in a new pair -/
def Iet (K : PySem.W.Frag) (a : Addr) : It :=
  ⟨fun i H => ∃ (xs : List V) (x : V), SqT K H a xs ∧ xs[i]? = some x, fun i H v H' => ∃ T x, v = .ref T ∧ H T = none ∧ H' = upd H T (.tup [.int (i : Nat), x]) ∧ ∀ xs, SqT K H a xs → xs[i]? = some x, fun i H => ∃ xs : List V, SqT K H a xs ∧ xs.length = i⟩
theorem turn_enumT {P : Program} {w : World} {K : PySem.W.Frag} {elts : List Expr} {kk : Nat} {tpos : Pos} (a e it : Addr) :
    Turn P w K (.Tuple elts kk tpos) (Iet K a) [e, it] e (fun i h => (∃ old, IsEnum h e it ((i : Nat) : Int) old) ∧ h.IsTupleIter it a i ∧ e ≠ it) where
  mem := by simp
  obj := fun i h st b hb => by
    obtain ⟨⟨old, he⟩, ⟨o, ho, hc, hd⟩, _⟩ := st
    have e' : b = e ∨ b = it := by simpa using hb
    rcases e' with z | z
    · rw [z]; exact ⟨_, he, fun v q => nomatch q⟩
    · rw [z]; exact ⟨o, ho, fun v q => by rw [hd] at q; cases q⟩
  keep := fun i h h' st k => let ⟨⟨old, he⟩, hi, hne⟩ := st; ⟨⟨old, k e (by simp) _ he⟩, hi.at fun o q => k it (by simp) o q, hne⟩
  item := by
    intro X hP hw hK hc i pins s σ H E I hf st hg
    subst hP hw hK
    obtain ⟨⟨old, he⟩, hit, hne⟩ := st
    obtain ⟨xs, x, hq, hx⟩ := hg
    obtain ⟨its, rv, p, hz⟩ := I.tuple hq
    obtain ⟨u, hu, ru⟩ := rv.get hx
    have hel : e < s.heap.objs.size := Heap.lt_size he
    have hil : it < s.heap.objs.size := by obtain ⟨_, q, _⟩ := hit; exact Heap.lt_size q
    have hp : s.heap.IsTuple a its.toArray := p
    have hai : a ≠ it := fun z => by
      obtain ⟨o1, q1, c1, d1⟩ := hit
      obtain ⟨o2, q2, c2, n2, d2⟩ := hp
      rw [z, q1] at q2
      cases q2
      rw [d1] at d2
      cases d2
    have hae : e ≠ a := fun z => by
      obtain ⟨o2, q2, c2, n2, d2⟩ := hp
      have he2 : s.heap.get? e = _ := he
      rw [z, q2] at he2
      cases he2
      cases d2
    have hlt : i < its.toArray.size := by
      have := (List.getElem?_eq_some_iff.mp hu).1
      simpa using this
    refine wpAny_pyNext_enum_itemD (Draws.tuple (prog := X.prog) (w := X.w) (A := X.A.in1) (by exact I.ok.hd hc) it a hai its.toArray) he ⟨hit, hp⟩ hlt hne (by simp [hne, hae]) fun v h' tk hv ho hst hT hsz hk => ?_
    have ev : v = u := by
      have hv : its.toArray[i]? = some v := hv
      rw [← Array.getElem?_toList] at hv
      have hv : its[i]? = some v := hv
      rw [hu] at hv
      cases hv; rfl
    subst ev
    refine ⟨_, rfl, wpAny_letOwnedTupleGo_enum (s := { s with heap := h', toks := tk + 1 }) ho fun h'' he' sb => ?_⟩
    have hT2 : h''.get? s.heap.objs.size = some { cls := .type "tuple", data := .seq #[.int i tk, v] } := (sb.2 _ (Nat.ne_of_gt hel)).trans hT
    have new : ObjOk X.prog X.w (upd H s.heap.objs.size (.tup [.int (i : Nat), x])) h'' s.heap.objs.size (.tup [.int (i : Nat), x]) :=
      ⟨by show 2 ≤ sizeLine; decide, [.int i tk, v], .cons ⟨_, rfl⟩ (.cons ru .nil), ⟨_, hT2, rfl, _, rfl⟩⟩
    have I1 : Inv X pins σ (upd H s.heap.objs.size (.tup [.int (i : Nat), x])) { s with heap := h'', toks := tk + 1 } :=
      I.turnedNew (ch := [e, it]) (fun b ob hb q => (sb.2 b (fun z => hb (by simp [z]))).trans (hk b ob (fun z => hb (by simp [z])) (fun z => hb (by simp [z])) q)) hf (Nat.le_refl _) new
    refine ⟨.ref s.heap.objs.size, _, I1, rfl, ⟨_, x, rfl, I.hok.fresh (Nat.le_refl _), rfl, fun ys hy => by rw [I.tuple_inj hy hq]; exact hx⟩, ⟨⟨v, ?_⟩, hst.1.at fun o q => (sb.2 it (Ne.symm hne)).trans q, hne⟩, fun b hb => ?_⟩
    · have e1 : ((i + 1 : Nat) : Int) = (i : Int) + 1 := by omega
      rw [e1]; exact he'
    · have hb' : b < s.heap.objs.size := by
        have e' : b = e ∨ b = it := by simpa using hb
        rcases e' with z | z
        · rw [z]; exact hel
        · rw [z]; exact hil
      rw [upd_ne (Nat.ne_of_lt hb')]
      exact (hf b hb).1
  done := by
    intro X hP hw hK hc i pins s σ H E I hf st hg
    subst hP hw hK
    obtain ⟨⟨old, he⟩, hit, hne⟩ := st
    obtain ⟨xs, hq, hx⟩ := hg
    obtain ⟨its, rv, p, hz⟩ := I.tuple hq
    have hp : s.heap.IsTuple a its.toArray := p
    obtain ⟨f0, f1, f2, f3, f4, f5⟩ := hf it (by simp)
    have hai : a ≠ it := fun z => by
      obtain ⟨o1, q1, c1, d1⟩ := hit
      obtain ⟨o2, q2, c2, n2, d2⟩ := hp
      rw [z, q1] at q2
      cases q2
      rw [d1] at d2
      cases d2
    have hl : i = its.toArray.size := by have := rv.length; simp; omega
    refine wpAny_pyNext_enum_endD (Draws.tuple (prog := X.prog) (w := X.w) (A := X.A.in1) (by exact I.ok.hd hc) it a hai its.toArray) he ⟨hl ▸ hit, hp⟩ fun h' eb => ⟨rfl, I.turned (t' := s.toks) (fun b o hb q => eb b o hb q) f0 f1 f3 f4 f5⟩
  self := fun A i s Q E st h => let ⟨⟨_, he⟩, _⟩ := st; wpAny_pyIter_enum he h
/-- enumerate(l), enumerate(t) -/
def iEn (K : PySem.W.Frag) (ta : TA) : TI := fun σ H R => ta σ H fun vs H1 => (∃ a xs, vs = [.ref a] ∧ SqL K H1 a xs ∧ R (Ite K a) H1) ∨ ∃ a xs, vs = [.ref a] ∧ SqT K H1 a xs ∧ R (Iet K a) H1
theorem pi_en {X : Cx} {e : Expr} {ta : TA} {p pos tpos : Pos} {elts : List Expr} {kk : Nat} (hg : Gl X "enumerate") (hm : X.mg "enumerate" = none) (ha : PA X [e] ta) (hs : starEach [e] X.env = [(false, eval e X.env)]) :
    PI X (.Tuple elts kk tpos) (.Call (.Name "enumerate" p) [e] [] pos) (iEn X.K ta) := by
  refine ⟨fun pins s σ H R I h => ?_⟩
  refine Call_ (ld_blt I hg hm boot_enumerate (PyProof.Rows.callWith_type1 (thn (ha.run pos pins s σ H _ I h) fun us s1 ⟨vs, H1, I1, r1, q1⟩ => ?_) hs rfl))
  have fin : ∀ b : Addr, b = s1.heap.objs.size + 1 ∨ b = s1.heap.objs.size → FpOk X pins H1 b := fun b e' => by
    have hle : s1.heap.objs.size ≤ b := by
      rcases e' with z | z
      · rw [z]; exact Nat.le_add_right _ _
      · rw [z]; exact Nat.le_refl _
    exact I1.fpOk hle (I1.hok.fresh hle)
  rcases q1 with ⟨a, xs, ex, hq, q⟩ | ⟨a, xs, ex, hq, q⟩
  · subst ex
    cases r1 with
    | cons r rr =>
      cases rr
      cases r
      obtain ⟨its, rv, p', hz⟩ := I1.list hq
      refine call_enumerate_list p'.isList fun h' he hit hsz hk => wpAny_pyIter_enum he ?_
      have I2 : Inv X pins σ H1 { s1 with heap := h' } := I1.kept (t' := s1.toks) hk
      exact ⟨s1.heap.objs.size + 1, [s1.heap.objs.size + 1, s1.heap.objs.size], _, _, H1, rfl, I2, turn_enum a (s1.heap.objs.size + 1) s1.heap.objs.size, ⟨⟨.none, he⟩, hit, Nat.succ_ne_self _⟩, fun b hb => fin b (by simpa using hb), q⟩
  · subst ex
    cases r1 with
    | cons r rr =>
      cases rr
      cases r
      obtain ⟨its, rv, p', hz⟩ := I1.tuple hq
      refine enum1_begins (begins_tuple a its.toArray) p' fun h' he hit hsz hk => wpAny_pyIter_enum he ?_
      have I2 : Inv X pins σ H1 { s1 with heap := h' } := I1.kept (t' := s1.toks) hk
      exact ⟨s1.heap.objs.size + 1, [s1.heap.objs.size + 1, s1.heap.objs.size], _, _, H1, rfl, I2, turn_enumT a (s1.heap.objs.size + 1) s1.heap.objs.size, ⟨⟨.none, he⟩, ⟨_, hit, rfl, rfl⟩, Nat.succ_ne_self _⟩, fun b hb => fin b (by simpa using hb), q⟩
/-- a list, a tuple -/
def iLT (K : PySem.W.Frag) (tl : TE) : TI := fun σ H R => tl σ H fun x H1 => (∃ a, x = .ref a ∧ (∃ xs, SqL K H1 a xs) ∧ R (Itl K a) H1) ∨ ∃ a, x = .ref a ∧ (∃ xs, SqT K H1 a xs) ∧ R (Itt K a) H1
theorem pi_lt {X : Cx} {tg l : Expr} {tl : TE} (hl : PE X l tl) : PI X tg l (iLT X.K tl) := by
  refine ⟨fun pins s σ H R I h => ?_⟩
  refine thn (hl.run pins s σ H _ I h) fun v s1 ⟨x, H1, I1, r1, q1⟩ => ?_
  have fin : ∀ b : Addr, b ∈ [s1.heap.objs.size] → FpOk X pins H1 b := fun b hb => by
    have e : b = s1.heap.objs.size := by simpa using hb
    subst e
    exact I1.fpOk (Nat.le_refl _) (I1.hok.fresh (Nat.le_refl _))
  rcases q1 with ⟨a, e, ⟨xs, hq⟩, q⟩ | ⟨a, e, ⟨xs, hq⟩, q⟩
  · subst e
    cases r1
    obtain ⟨its, rv, p, hz⟩ := I1.list hq
    refine wpAny_pyIter_list p.isList ?_
    exact ⟨s1.heap.objs.size, [s1.heap.objs.size], _, _, H1, rfl, I1.kept (t' := s1.toks) fun b o e => Heap.get?_push_of_some _ e, turn_list a _, ⟨_, Heap.get?_push_size _ rfl, rfl, rfl⟩, fin, q⟩
  · subst e
    cases r1
    obtain ⟨its, rv, p, hz⟩ := I1.tuple hq
    refine wpAny_pyIter_tuple (show s1.heap.IsTuple a its.toArray from p) ?_
    exact ⟨s1.heap.objs.size, [s1.heap.objs.size], _, _, H1, rfl, I1.kept (t' := s1.toks) fun b o e => Heap.get?_push_of_some _ e, turn_tuple a _, ⟨_, Heap.get?_push_size _ rfl, rfl, rfl⟩, fin, q⟩
/-! ### what the walk serves -/
section
variable {K : PySem.W.Frag} {M : Nm} {ca : Nat → Addr} {w w' w1 w2 : Wd} {env env' env1 env2 : Env} {σ : L2.St} {h h' h1 h2 : Hs} {d : D} {ds : List D} {v : V} {vs : List V} {O P : Addr → Prop}
/-- the items that are to come, at the objects that are walked; P: what is known of a list that is somebody's own -/
inductive Src (K : PySem.W.Frag) (w : Wd) (P : Addr → Prop) : List D → It → Prop
  | lst {a : Addr} {vs : List V} {ds : List D} : Rd w.H a (.lst vs) → Reps K w ds vs → (w.S a → P a) → Src K w P ds (Itl K a)
  | tup {a : Addr} {vs : List V} {ds : List D} : SqT K w.H a vs → Reps K w ds vs → Src K w P ds (Itt K a)
  | enl {a : Addr} {vs : List V} {ds : List D} : Rd w.H a (.lst vs) → Reps K w ds vs → (w.S a → P a) → Src K w P (enumL 0 ds) (Ite K a)
  | ent {a : Addr} {vs : List V} {ds : List D} : SqT K w.H a vs → Reps K w ds vs → Src K w P (enumL 0 ds) (Iet K a)
  | rng {lo : Int} {n : Nat} : Src K w P (rangeL lo n) (Itr lo n)
theorem Src.imp {P' : Addr → Prop} (h : ∀ a, w.S a → P a → P' a) {J : It} (s : Src K w P ds J) : Src K w P' ds J := by
  cases s with
  | lst a b c => exact .lst a b fun z => h _ z (c z)
  | tup a b => exact .tup a b
  | enl a b c => exact .enl a b fun z => h _ z (c z)
  | ent a b => exact .ent a b
  | rng => exact .rng
/-- the same where other lists are owned -/
theorem Src.chg {P' : Addr → Prop} (hH : w2.H = w.H) (st : Stp O w w2) (x : WdOk K M ca w h) (hp : ∀ a, w2.S a → (w.S a → P a) → P' a) {J : It} (s : Src K w P ds J) : Src K w2 P' ds J := by
  cases s with
  | lst a b c => exact .lst (by rw [hH]; exact a) (st.reps x _ _ b) fun z => hp _ z c
  | tup a b => exact .tup (by rw [hH]; exact a) (st.reps x _ _ b)
  | enl a b c => exact .enl (by rw [hH]; exact a) (st.reps x _ _ b) fun z => hp _ z c
  | ent a b => exact .ent (by rw [hH]; exact a) (st.reps x _ _ b)
  | rng => exact .rng
theorem enumL_get : ∀ (ds : List D) (n i : Nat) (d : D), (enumL n ds)[i]? = some d → ∃ e, ds[i]? = some e ∧ d = .tup [.int ((n + i : Nat) : Int), e]
  | [], n, i, d, h => by simp [enumL] at h
  | e :: ds, n, 0, d, h => by
    have h : (D.tup [.int (n : Int), e] :: enumL (n + 1) ds)[0]? = some d := h
    simp at h
    exact ⟨e, rfl, by rw [← h]; rfl⟩
  | e :: ds, n, i + 1, d, h => by
    have h : (enumL (n + 1) ds)[i]? = some d := h
    obtain ⟨e2, h1, h2⟩ := enumL_get ds (n + 1) i d h
    exact ⟨e2, h1, by rw [h2]; congr 3; omega⟩
theorem enumL_len : ∀ (ds : List D) (n : Nat), (enumL n ds).length = ds.length
  | [], _ => rfl
  | _ :: ds, n => by show (enumL (n + 1) ds).length + 1 = ds.length + 1; rw [enumL_len ds]
theorem rangeL_len : ∀ (n : Nat) (lo : Int), (rangeL lo n).length = n
  | 0, _ => rfl
  | n + 1, lo => by show (rangeL (lo + 1) n).length + 1 = _; rw [rangeL_len n]
theorem rangeL_get : ∀ (n : Nat) (lo : Int) (i : Nat) (d : D), (rangeL lo n)[i]? = some d → i < n ∧ d = .int (lo + (i : Nat))
  | 0, lo, i, d, h => by simp [rangeL] at h
  | n + 1, lo, 0, d, h => by
    have h : (D.int lo :: rangeL (lo + 1) n)[0]? = some d := h
    simp at h
    exact ⟨Nat.succ_pos n, by rw [← h]; congr 1; omega⟩
  | n + 1, lo, i + 1, d, h => by
    have h : (rangeL (lo + 1) n)[i]? = some d := h
    obtain ⟨h1, h2⟩ := rangeL_get n (lo + 1) i d h
    exact ⟨Nat.succ_lt_succ h1, by rw [h2]; congr 1; omega⟩
/-- what is served at a turn, in a later world -/
theorem Src.serve {J : It} (x : WdOk K M ca w h) (s : Src K w P ds J) (st : Stp O w w') (x' : WdOk K M ca w' h') (hno : ∀ a, w.S a → P a → ¬ O a) (i : Nat) :
    (∀ d, ds[i]? = some d → J.go i w'.H ∧ ∀ v H', J.yld i w'.H v H' → ∃ w2, w2.H = H' ∧ Stp (fun _ => False) w' w2 ∧ WdOk K M ca w2 h' ∧ Rep K w2 d v) ∧ (ds.length = i → J.stop i w'.H) := by
  have rl : ∀ {a : Addr} {vs : List V}, Rd w.H a (.lst vs) → (w.S a → P a) → SqL K w'.H a vs := fun {a vs} r c => by
    by_cases hs : w.S a
    · have q := (st.own a hs (hno a hs (c hs))).2
      rcases r with r | ⟨o, r⟩
      · exact .inl (.inl (q _ r))
      · exact .inl (.inr ⟨o, q _ r⟩)
    · exact .inl (st.rdL x hs r).2
  have one : ∀ {a : Addr} {vs us : List V}, SqL K w'.H a vs → ∀ {d : D} {ds : List D}, Reps K w ds vs → ds[i]? = some d → ∃ v, vs[i]? = some v ∧ Rep K w' d v := fun {a vs us} _ {d ds} r e => by
    obtain ⟨v, e1, r1⟩ := r.get e
    exact ⟨v, e1, st.rep x d v r1⟩
  have pair : ∀ {e : D} {v : V} {T : Addr}, Rep K w' e v → w'.H T = none → ∃ w2, w2.H = upd w'.H T (.tup [.int (i : Nat), v]) ∧ Stp (fun _ => False) w' w2 ∧ WdOk K M ca w2 h' ∧ Rep K w2 (.tup [.int ((0 + i : Nat) : Int), e]) (.ref T) := fun {e v T} r np => by
    have s2 : Stp (fun _ => False) w' (w'.alc T (.tup [.int (i : Nat), v]) false) := Stp.alc np
    refine ⟨w'.alc T (.tup [.int (i : Nat), v]) false, rfl, s2, x'.alc np (fun z => by cases z), ?_⟩
    unfold Rep
    refine ⟨T, _, rfl, .inl (.inl upd_same), Reps.cons ?_ (Reps.one (s2.rep x' e v r))⟩
    unfold Rep
    rw [Nat.zero_add]
  cases s with
  | @lst a vs ds r rs c =>
    have q := rl r c
    refine ⟨fun d e => ?_, fun e => ⟨vs, q, by rw [rs.length, e]; exact Nat.le_refl _⟩⟩
    obtain ⟨v, e1, r1⟩ := rs.get e
    refine ⟨⟨vs, v, q, e1⟩, fun u H' y => ?_⟩
    obtain ⟨eH, ey⟩ := y
    have := ey vs q
    rw [e1] at this; cases this
    exact ⟨w', eH.symm, Stp.refl, x', st.rep x d v r1⟩
  | @tup a vs ds r rs =>
    have q : SqT K w'.H a vs := st.rdT x r
    refine ⟨fun d e => ?_, fun e => ⟨vs, q, by rw [rs.length, e]; exact Nat.le_refl _⟩⟩
    obtain ⟨v, e1, r1⟩ := rs.get e
    refine ⟨⟨vs, v, q, e1⟩, fun u H' y => ?_⟩
    obtain ⟨eH, ey⟩ := y
    have := ey vs q
    rw [e1] at this; cases this
    exact ⟨w', eH.symm, Stp.refl, x', st.rep x d v r1⟩
  | @enl a vs ds r rs c =>
    have q := rl r c
    refine ⟨fun d e => ?_, fun e => ⟨vs, q, by rw [enumL_len] at e; rw [rs.length, e]; exact Nat.le_refl _⟩⟩
    obtain ⟨e0, e1, rfl⟩ := enumL_get ds 0 i d e
    obtain ⟨v, e2, r1⟩ := rs.get e1
    refine ⟨⟨vs, v, q, e2⟩, fun u H' y => ?_⟩
    obtain ⟨Tt, z, rfl, nT, eH, ey⟩ := y
    have := ey vs q
    rw [e2] at this; cases this
    rw [eH]
    exact pair (st.rep x e0 v r1) nT
  | @ent a vs ds r rs =>
    have q : SqT K w'.H a vs := st.rdT x r
    refine ⟨fun d e => ?_, fun e => ⟨vs, q, by rw [enumL_len] at e; rw [rs.length, e]⟩⟩
    obtain ⟨e0, e1, rfl⟩ := enumL_get ds 0 i d e
    obtain ⟨v, e2, r1⟩ := rs.get e1
    refine ⟨⟨vs, v, q, e2⟩, fun u H' y => ?_⟩
    obtain ⟨Tt, z, rfl, nT, eH, ey⟩ := y
    have := ey vs q
    rw [e2] at this; cases this
    rw [eH]
    exact pair (st.rep x e0 v r1) nT
  | @rng lo n =>
    refine ⟨fun d e => ?_, fun e => ?_⟩
    · obtain ⟨h1, h2⟩ := rangeL_get n lo i d e
      refine ⟨h1, fun u H' y => ?_⟩
      obtain ⟨eH, ey⟩ := y
      subst ey
      refine ⟨w', eH.symm, Stp.refl, x', ?_⟩
      rw [h2]
      unfold Rep
      rfl
    · rw [rangeL_len] at e
      exact Nat.le_of_eq e
end
end Ev
/-! Soundness of the small interpreter, 22: walks. -/
namespace Ev
open PySem PySem.Spec PyProof.Rows L2
section
variable {K : PySem.W.Frag} {M : Nm} {ca : Nat → Addr} {w w' w1 w2 : Wd} {env env' env1 env2 : Env} {σ : L2.St} {h h' h1 h2 : Hs} {Q : VK} {E : XK} {r : Self} {k : Nat} {a b : Ex} {d : D} {ds : List D} {v : V} {vs : List V}
/-- one operand, and where it stands -/
theorem opd_at2 {R : VK} (x : SI K M ca env σ h w) (pn : eB r k env h a ≠ .no) (px : ∀ c d h', eB r k env h a = .ex c d h' → ExW K M ca (Own env σ) w E c d h')
    (c : ∀ d fr env1 h1 w1 v, eB r k env h a = .ok d fr env1 h1 → Stp (Own env σ) w w1 → ELe env env1 → SI K M ca env1 σ h1 w1 → Vw K w1 d v → (isVar a = false → RV K w w1 fr d v) → (∀ i p, a = .var i p → σ[i]? = some (some v)) → R v w1.H) :
    opd K M ca r k E a σ w.H R := by
  by_cases hv : isVar a = true
  · cases a <;> first | cases hv | skip
    rename_i i pos
    unfold eB at pn px c
    cases e : look env i with
    | none =>
      simp only [e] at pn
      exact absurd rfl pn
    | some d =>
      simp only [e] at c
      obtain ⟨v, ev, rv⟩ := x.look e
      exact ⟨v, ev, c d false env h w v rfl Stp.refl ELe.refl x rv (fun z => by cases z) fun j p z => by cases z; exact ev⟩
  · have hv' := notVar hv
    rw [opd_of hv']
    rw [eB_of hv'] at pn px c
    refine ⟨w, env, h, rfl, x, ?_⟩
    show pE K M ca E w env σ R (r.e k env h a)
    cases e : r.e k env h a with
    | ok d fr env1 h1 => exact fun w1 v s l y rv => c d fr env1 h1 w1 v e s l y (Vw.of_rv rv) (fun _ => rv) fun j p z => by subst z; exact absurd rfl hv
    | ex c d h' => exact px c d h' e
    | no => exact absurd e pn
/-- whose a list is that is walked -/
def WkP (w : Wd) (env1 : Env) (σ : L2.St) (xs : List Ex) (q : Addr) : Prop := Lent env1 σ xs q ∨ w.H q = none
theorem src_own {xs : List Ex} {fr : Bool} (x : SI K M ca env σ h w) (e : eB r k env h a = .ok d fr env1 h1) (l : ELe env env1) (y : SI K M ca env1 σ h1 w1) (hr : isVar a = false → RV K w w1 fr d v) (hv : ∀ i p, a = .var i p → σ[i]? = some (some v))
    (hm : isVar a = true → a ∈ xs) {q : Addr} (eq : v = .ref q) (sq : w1.S q) (hd : ∃ ds, d = .lst ds) : WkP w env1 σ xs q := by
  subst eq
  obtain ⟨ds, rfl⟩ := hd
  by_cases iv : isVar a = true
  · have m := hm iv
    cases a <;> first | cases iv | skip
    rename_i i pos
    have ei := hv i pos rfl
    have e : (match look env i with | some d => Res.ok d false env h | none => .no) = .ok (.lst ds) fr env1 h1 := e
    have look1 : look env1 i = some (.lst ds) := by
      cases e2 : look env i with
      | none => rw [e2] at e; cases e
      | some d2 => rw [e2] at e; cases e; exact e2
    have qq := y.re.sl i
    unfold look at look1
    cases hs : getS env1 i with
    | u => rw [hs] at look1; cases look1
    | v d2 =>
      rw [hs] at look1 qq; cases look1
      obtain ⟨v2, e2, r2⟩ := qq
      rw [ei] at e2; cases e2
      unfold Rep at r2
      obtain ⟨a2, us, e3, ns, _⟩ := r2
      cases e3
      exact absurd sq ns
    | l ds2 => exact .inl ⟨i, pos, m, by rw [hs]; exact Nat.le_refl 2, ei⟩
    | k ds2 => exact .inl ⟨i, pos, m, by rw [hs]; show 2 ≤ 3; decide, ei⟩
  · have r := hr (notVar iv)
    cases fr with
    | false =>
      have r : Rep K w1 (.lst ds) (.ref q) := r
      unfold Rep at r
      obtain ⟨a2, us, e3, ns, _⟩ := r
      cases e3
      exact absurd sq ns
    | true =>
      obtain ⟨p, us, ds2, e1, e2, sp, ep, rp, np⟩ := r
      cases e2
      exact .inr np
end
section
variable {X : Cx} {M : Nm} {T : Tab} {fa ca : Nat → Addr} {fds : Nat → FuncData} {pss : Nat → List Str} {N : List Str} {sc : Scope} {k n : Nat} {E : XK} {r : Self}
variable {w w' w1 w2 : Wd} {env env' env1 env2 : Env} {σ : L2.St} {h h' h1 h2 : Hs} {Q : VK} {d : D} {ds : List D} {v : V} {vs : List V} {O : Addr → Prop}
/-- what is wanted behind a walk's beginning -/
def pWk (K : PySem.W.Frag) (M : Nm) (ca : Nat → Addr) (E : XK) (it : Ex) (w : Wd) (env : Env) (σ : L2.St) (R : It → Hp → Prop) : Rs → Prop
  | .ok items env1 h1 => ∀ w1 J, Stp (Own env σ) w w1 → ELe env env1 → SI K M ca env1 σ h1 w1 → Src K w1 (WkP w env1 σ (lent it)) items J → R J w1.H
  | .ex c d h' => ExW K M ca (Own env σ) w E c d h'
  | .no => False
def tWk (K : PySem.W.Frag) (M : Nm) (ca : Nat → Addr) (E : XK) (r : Self) (k : Nat) (it : Ex) : TI := fun σ H R => ∃ w env h, w.H = H ∧ SI K M ca env σ h w ∧ pWk K M ca E it w env σ R (walk r k env h it)
theorem PI.imp {tg e : Expr} {t t' : TI} (p : PI X tg e t) (g : ∀ σ H R, t' σ H R → t σ H R) : PI X tg e t' := ⟨fun pins s σ H R I z => p.run pins s σ H R I (g σ H R z)⟩
theorem walk_of {it : Ex} (h4 : ∀ b xs p1 p, it = .blt b xs p1 p → bK b xs = true) (env : Env) (h : Hs) : walk r k env h it = (match eB r k env h it with
    | .ok (.tup ds) _ env1 h1 => .ok ds env1 h1
    | .ok (.lst ds) _ env1 h1 => .ok ds env1 h1
    | .ex c d h => .ex c d h
    | _ => .no) := by
  cases it <;> first | rfl | skip
  rename_i b xs p1 p
  have := h4 b xs p1 p rfl
  unfold bK at this
  split at this
  · rename_i y z
    cases h14 : Nat.beq b 14 with
    | true => have := Nat.eq_of_beq_eq_true h14; subst this; rfl
    | false => cases h15 : Nat.beq b 15 with
      | true => have := Nat.eq_of_beq_eq_true h15; subst this; rfl
      | false =>
        rw [h14, h15, Bool.or_false, Bool.or_false] at this
        unfold bOk at this
        split at this <;> first | exact absurd this (by decide) | rfl
  · unfold bOk at this
    split at this <;> first | exact absurd this (by decide) | rfl
theorem rngOk_ok {j : Int} (h : rngOk j = true) : -(2 ^ 62) ≤ j ∧ j < 2 ^ 62 := by
  unfold rngOk at h
  have h := Nat.blt_eq.mp h
  omega
theorem pi_wk (C : XC X M T fa ca fds pss N sc k E) (IH : ∀ x, wfE M N sc x = true → Okx X M ca N k E r x) {t it : Ex} (wf : wfW M N sc it = true) (ht : tgOk t it = true) : PI X (dec M N t) (dec M N it) (tWk X.K M ca E r k it) := by
  by_cases hen : ∃ y p1 p, it = .blt 4 [y] p1 p
  · obtain ⟨y, p1, p, rfl⟩ := hen
    have wf2 : (isGlK (sc.names.lookup (bN 4)) && noStar [y] && wfE M N sc y) = true := by unfold wfW at wf; exact wf
    obtain ⟨wf3, wy⟩ := ba wf2
    obtain ⟨wg, wn⟩ := ba wf3
    have gl : Gl X (bN 4) := by unfold Gl PySem.Env.kindOf; rw [C.hs]; exact gl_of wg
    cases t <;> first | (unfold tgOk at ht; cases ht; done) | skip
    rename_i ts q tp
    refine PI.imp (pi_en gl (C.tf.bl 4) (pa_cons (pO C IH wy) pa_nil (star1 wn)) (star1 wn)) fun σ H R z => ?_
    obtain ⟨w, env, h, rfl, x, g⟩ := z
    have g : pWk X.K M ca E (.blt 4 [y] p1 p) w env σ R (match eB r k env h y with
    | .ok (.tup ds) _ env1 h1 => .ok (enumL 0 ds) env1 h1
    | .ok (.lst ds) _ env1 h1 => .ok (enumL 0 ds) env1 h1
    | .ex c d h => .ex c d h
    | _ => .no) := g
    refine opd_at2 x (fun e => by rw [e] at g; exact g) (fun c d h' e => by rw [e] at g; exact g) fun d fr env1 h1 w1 v e s l y1 rv hr hv => ?_
    simp only [e] at g
    cases d <;> first | exact g.elim | skip
    · obtain ⟨a, vs, rfl, sq, t⟩ := rv.tup
      exact .inr ⟨a, vs, rfl, sq, g w1 _ s l y1 (.ent sq t)⟩
    · obtain ⟨a, vs, rfl, sq, t⟩ := rv
      exact .inl ⟨a, vs, rfl, .inl sq, g w1 _ s l y1 (.enl sq t fun z => src_own x e l y1 hr hv (fun _ => List.mem_cons_self ..) rfl z ⟨_, rfl⟩)⟩
  · by_cases hr1 : ∃ y p1 p, it = .blt 6 [y] p1 p
    · obtain ⟨y, p1, p, rfl⟩ := hr1
      have wf2 : (isGlK (sc.names.lookup (bN 6)) && noStar [y] && wfE M N sc y) = true := by unfold wfW at wf; exact wf
      obtain ⟨wf3, wy⟩ := ba wf2
      obtain ⟨wg, wn⟩ := ba wf3
      have gl : Gl X (bN 6) := by unfold Gl PySem.Env.kindOf; rw [C.hs]; exact gl_of wg
      refine PI.imp (pi_range1 gl (C.tf.bl 6) (pa_cons (IH y wy) pa_nil (star1 wn)) (star1 wn)) fun σ H R z => ?_
      obtain ⟨w, env, h, rfl, x, g⟩ := z
      have g : pWk X.K M ca E (.blt 6 [y] p1 p) w env σ R (match r.e k env h y with
    | .ok (.int j) _ env1 h1 => (match rngOk j with | true => .ok (rangeL 0 j.toNat) env1 h1 | false => .no)
    | .ex c d h => .ex c d h
    | _ => .no) := g
      refine ⟨w, env, h, rfl, x, pE_of_pS x ?_⟩
      show pS X.K M ca E w env σ _ (r.e k env h y)
      cases e : r.e k env h y with
      | no => simp only [e] at g; exact g
      | ex c d h' => simp only [e] at g; exact g
      | ok d fr env1 h1 =>
        simp only [e] at g
        intro w1 v s l y1 rv
        cases d <;> first | exact (show False from g).elim | skip
        rename_i j
        cases (Vw.of_rep rv).int
        have g : pWk X.K M ca E (.blt 6 [y] p1 p) w env σ R (match rngOk j with | true => .ok (rangeL 0 j.toNat) env1 h1 | false => .no) := g
        cases hj : rngOk j with
        | false => rw [hj] at g; exact g.elim
        | true =>
          rw [hj] at g
          have hj := rngOk_ok hj
          exact ⟨j, rfl, hj.1, hj.2, g w1 _ s l y1 .rng⟩
    by_cases hr2 : ∃ y z p1 p, it = .blt 6 [y, z] p1 p
    · obtain ⟨y, z, p1, p, rfl⟩ := hr2
      have wf2 : (isGlK (sc.names.lookup (bN 6)) && noStar [y, z] && wfE M N sc y && wfE M N sc z) = true := by unfold wfW at wf; exact wf
      obtain ⟨wf3, wz⟩ := ba wf2
      obtain ⟨wf4, wy⟩ := ba wf3
      obtain ⟨wg, wn⟩ := ba wf4
      have gl : Gl X (bN 6) := by unfold Gl PySem.Env.kindOf; rw [C.hs]; exact gl_of wg
      have wn2 := noStar_t wn
      refine PI.imp (pi_range2 gl (C.tf.bl 6) (pa_cons (IH y wy) (pa_cons (IH z wz) pa_nil (star1 wn2)) (star1 wn)) (by
        have e1 : starEach [dec M N y, dec M N z] X.env = (false, eval (dec M N y) X.env) :: starEach [dec M N z] X.env := star1 wn
        rw [e1, show starEach [dec M N z] X.env = (false, eval (dec M N z) X.env) :: starEach [] X.env from star1 wn2]
        rfl) (star1 wn2)) fun σ H R q => ?_
      obtain ⟨w, env, h, rfl, x, g⟩ := q
      have g : pWk X.K M ca E (.blt 6 [y, z] p1 p) w env σ R (match r.e k env h y with
    | .ok (.int i) _ env1 h1 => (match r.e k env1 h1 z with
      | .ok (.int j) _ env2 h2 => (match rngOk i, rngOk j with | true, true => .ok (rangeL i (j - i).toNat) env2 h2 | _, _ => .no)
      | .ex c d h => .ex c d h
      | _ => .no)
    | .ex c d h => .ex c d h
    | _ => .no) := g
      refine ⟨w, env, h, rfl, x, pE_of_pS x ?_⟩
      show pS X.K M ca E w env σ _ (r.e k env h y)
      cases e : r.e k env h y with
      | no => simp only [e] at g; exact g
      | ex c d h' => simp only [e] at g; exact g
      | ok d fr env1 h1 =>
        simp only [e] at g
        intro w1 v s l y1 rv
        cases d <;> first | exact (show False from g).elim | skip
        rename_i i
        cases (Vw.of_rep rv).int
        have g : pWk X.K M ca E (.blt 6 [y, z] p1 p) w env σ R (match r.e k env1 h1 z with
      | .ok (.int j) _ env2 h2 => (match rngOk i, rngOk j with | true, true => .ok (rangeL i (j - i).toNat) env2 h2 | _, _ => .no)
      | .ex c d h => .ex c d h
      | _ => .no) := g
        refine ⟨w1, env1, h1, rfl, y1, pE_of_pS y1 ?_⟩
        show pS X.K M ca E w1 env1 σ _ (r.e k env1 h1 z)
        cases e2 : r.e k env1 h1 z with
        | no => simp only [e2] at g; exact g
        | ex c d h' => simp only [e2] at g; exact ExW.step x s l g
        | ok d2 fr2 env2 h2 =>
          simp only [e2] at g
          intro w2 v2 s2 l2 y2 rv2
          cases d2 <;> first | exact (show False from g).elim | skip
          rename_i j
          cases (Vw.of_rep rv2).int
          have g : pWk X.K M ca E (.blt 6 [y, z] p1 p) w env σ R (match rngOk i, rngOk j with | true, true => .ok (rangeL i (j - i).toNat) env2 h2 | _, _ => .no) := g
          cases hi : rngOk i with
          | false => rw [hi] at g; exact g.elim
          | true =>
            cases hj : rngOk j with
            | false => rw [hi, hj] at g; exact g.elim
            | true =>
              rw [hi, hj] at g
              have hi := rngOk_ok hi
              have hj := rngOk_ok hj
              exact ⟨i, j, rfl, ⟨hi.1, hi.2, hj.1, hj.2⟩, g w2 _ (x.trans s l s2) (l.trans l2) y2 .rng⟩
    have wf2 : wfE M N sc it = true := by
      unfold wfW at wf
      split at wf
      · exact absurd ⟨_, _, _, rfl⟩ hen
      · exact absurd ⟨_, _, _, rfl⟩ hr1
      · exact absurd ⟨_, _, _, _, rfl⟩ hr2
      · exact wf
    have hb : ∀ b xs p1 p, it = .blt b xs p1 p → bK b xs = true := fun b xs p1 p e => by
      subst e
      have wf3 : (bK b xs && b12 b xs && isGlK (sc.names.lookup (bN b)) && noStar xs && wfEs M N sc xs) = true := by unfold wfE at wf2; exact wf2
      exact (ba (ba (ba (ba wf3).1).1).1).1
    refine PI.imp (pi_lt (pO C IH wf2)) fun σ H R z => ?_
    obtain ⟨w, env, h, rfl, x, g⟩ := z
    rw [walk_of hb] at g
    refine opd_at2 x (fun e => by rw [e] at g; exact g) (fun c d h' e => by rw [e] at g; exact g) fun d fr env1 h1 w1 v e s l y1 rv hr hv => ?_
    simp only [e] at g
    cases d <;> first | exact g.elim | skip
    · obtain ⟨a, vs, rfl, sq, t⟩ := rv.tup
      exact .inr ⟨a, rfl, ⟨vs, sq⟩, g w1 _ s l y1 (.tup sq t)⟩
    · obtain ⟨a, vs, rfl, sq, t⟩ := rv
      refine .inl ⟨a, rfl, ⟨vs, .inl sq⟩, g w1 _ s l y1 (.lst sq t fun z => src_own x e l y1 hr hv (fun iv => ?_) rfl z ⟨_, rfl⟩)⟩
      cases it <;> first | exact List.mem_cons_self .. | cases iv
end
end Ev
/-! Soundness of the small interpreter, 23: comprehensions. -/
namespace Ev
open PySem PySem.Spec PyProof.Rows L2
/-! ### slots forgotten -/
theorem lwipe_get (σ : L2.St) : ∀ (vs : List Nat) (j : Nat), (L2.wipe σ vs)[j]? = if j ∈ vs ∧ j < σ.length then some none else σ[j]?
  | [], j => by rw [if_neg (by simp)]; rfl
  | v :: vs, j => by
    unfold L2.wipe
    have ih := lwipe_get σ vs j
    have hl := wipe_length σ vs
    by_cases e : v = j
    · subst e
      by_cases hj : v < σ.length
      · rw [List.getElem?_set_self (by rw [hl]; exact hj), if_pos ⟨List.mem_cons_self .., hj⟩]
      · rw [List.getElem?_eq_none (by rw [List.length_set, hl]; omega), if_neg fun z => hj z.2, List.getElem?_eq_none (by omega)]
    · rw [List.getElem?_set_ne e, ih]
      by_cases h : j ∈ vs ∧ j < σ.length
      · rw [if_pos h, if_pos ⟨List.mem_cons_of_mem _ h.1, h.2⟩]
      · rw [if_neg h, if_neg fun z => h ⟨(List.mem_cons.mp z.1).elim (fun q => absurd q.symm e) id, z.2⟩]
theorem wipe_out {L vs : List Nat} {σ σ2 : L2.St} (o : Out L (L2.wipe σ vs) σ2) (h : ∀ j ∈ L, j ∈ vs) : L2.wipe σ2 vs = L2.wipe σ vs := by
  apply List.ext_getElem?
  intro j
  have hl : σ2.length = σ.length := by rw [o.1, wipe_length]
  rw [lwipe_get, lwipe_get, hl]
  by_cases hj : j ∈ vs ∧ j < σ.length
  · rw [if_pos hj, if_pos hj]
  · rw [if_neg hj, if_neg hj]
    by_cases hv : j ∈ vs
    · have : ¬ j < σ.length := fun z => hj ⟨hv, z⟩
      rw [List.getElem?_eq_none (by omega), List.getElem?_eq_none (by omega)]
    · rw [o.2 j fun z => hv (h j z), lwipe_get, if_neg hj]
theorem ewipe_get (env : Env) : ∀ (vs : List Nat) (j : Nat), getS (Ev.wipe env vs) j = if j ∈ vs then .u else getS env j
  | [], j => by rw [if_neg (by simp)]; rfl
  | v :: vs, j => by
    have ih := ewipe_get env vs j
    show getS (setS .u (Ev.wipe env vs) v) j = _
    by_cases e : v = j
    · subst e
      rw [if_pos (List.mem_cons_self ..)]
      by_cases hl : v < (Ev.wipe env vs).length
      · exact getS_set_same hl
      · exact getS_out (by rw [setS_len]; omega)
    · rw [getS_set_ne e, ih]
      by_cases h : j ∈ vs
      · rw [if_pos h, if_pos (List.mem_cons_of_mem _ h)]
      · rw [if_neg h, if_neg fun z => h ((List.mem_cons.mp z).elim (fun q => absurd q.symm e) id)]
theorem ewipe_len (env : Env) : ∀ vs : List Nat, (Ev.wipe env vs).length = env.length
  | [] => rfl
  | v :: vs => by show (setS .u (Ev.wipe env vs) v).length = _; rw [setS_len, ewipe_len env vs]
section
variable {K : PySem.W.Frag} {M : Nm} {ca : Nat → Addr} {w w' w1 w2 : Wd} {env env' env1 env2 : Env} {σ σ2 : L2.St} {h h' h1 h2 : Hs} {Q : VK} {E : XK} {d u v : D} {ds es : List D} {a b : V} {vs us : List V} {fr : Bool} {O : Addr → Prop}
theorem SI.wipe (x : SI K M ca env σ h w) (ws : List Nat) : SI K M ca (Ev.wipe env ws) (L2.wipe σ ws) h w := by
  have tg : ∀ j, 2 ≤ tag (getS (Ev.wipe env ws) j) → j ∉ ws ∧ 2 ≤ tag (getS env j) := fun j t => by
    rw [ewipe_get] at t
    by_cases e : j ∈ ws
    · rw [if_pos e] at t; exact absurd t (show ¬ 2 ≤ 0 by decide)
    · rw [if_neg e] at t; exact ⟨e, t⟩
  refine ⟨x.ok, by rw [ewipe_len, wipe_length]; exact x.re.len, fun j => ?_, fun j m b hj hm ej em => ?_⟩
  · rw [ewipe_get, lwipe_get]
    by_cases e : j ∈ ws
    · rw [if_pos e]; trivial
    · rw [if_neg e, if_neg fun z => e z.1]; exact x.re.sl j
  · obtain ⟨n1, t1⟩ := tg j hj
    obtain ⟨n2, t2⟩ := tg m hm
    rw [lwipe_get, if_neg fun z => n1 z.1] at ej
    rw [lwipe_get, if_neg fun z => n2 z.1] at em
    exact x.re.one j m b t1 t2 ej em
theorem wipe_noOwn (hn : ∀ a, ¬ Own env σ a) (ws : List Nat) (a : Addr) : ¬ Own (Ev.wipe env ws) (L2.wipe σ ws) a := fun ⟨j, hj, ej⟩ => by
  rw [ewipe_get] at hj
  by_cases e : j ∈ ws
  · rw [if_pos e] at hj; cases hj
  · rw [if_neg e] at hj
    rw [lwipe_get, if_neg fun z => e z.1] at ej
    exact hn a ⟨j, hj, ej⟩
theorem Stp.none (hn : ∀ a, ¬ O a) (s : Stp O w w') : Stp (fun _ => False) w w' := s.mono fun a z => hn a z
theorem Stp.le {O' : Addr → Prop} (s : Stp (fun _ => False) w w') : Stp O' w w' := s.mono fun _ z => z.elim
/-- an object of one's own, laid after the world began, is written -/
theorem write_acc (x : SI K M ca env σ h w1) (st : Stp (fun _ => False) w w1) {p : Addr} (np : w.H p = none) (sp : w1.S p) (ep : w1.H p = some (.lst us)) (hno : ∀ i, 2 ≤ tag (getS env i) → σ[i]? ≠ some (some (.ref p))) {us' : List V} :
    Stp (fun _ => False) w ⟨w1.rho, w1.S, upd w1.H p (.lst us')⟩ ∧ SI K M ca env σ h ⟨w1.rho, w1.S, upd w1.H p (.lst us')⟩ ∧ Stp (fun q => q = p) w1 ⟨w1.rho, w1.S, upd w1.H p (.lst us')⟩ := by
  have st2 : Stp (fun q => q = p) w1 ⟨w1.rho, w1.S, upd w1.H p (.lst us')⟩ := ⟨fun q a no => ⟨a, fun o e => by
      show upd w1.H p _ q = _
      rw [upd_ne no]; exact e⟩, fun q o e _ ns => by
      show upd w1.H p _ q = _
      rw [upd_ne fun z => by subst z; exact ns sp]; exact e, fun q e => by
      have e : upd w1.H p (.lst us') q = none := e
      by_cases z : q = p
      · subst z; rw [upd_same] at e; cases e
      · rw [upd_ne z] at e; exact e, ⟨[], by simp, fun _ z => nomatch z⟩, fun q z => .inl z⟩
  have ok : WdOk K M ca ⟨w1.rho, w1.S, upd w1.H p (.lst us')⟩ h := by
    refine ⟨fun q z => ?_, RH.on x.ok st2 rfl fun q hq o e => ?_⟩
    · by_cases zz : q = p
      · subst zz; exact ⟨us', upd_same⟩
      · obtain ⟨vs, e⟩ := x.ok.dom q z
        exact ⟨vs, by show upd w1.H p _ q = _; rw [upd_ne zz]; exact e⟩
    · show upd w1.H p _ q = _
      rw [upd_ne fun z => by subst z; exact (x.ok.rh.no hq ep).1 _ rfl]; exact e
  have ne : ∀ b o, w.H b = some o → b ≠ p := fun b o e z => by subst z; rw [np] at e; cases e
  refine ⟨⟨fun q a no => ?_, fun q o e nr ns => ?_, fun q e => st.there q (st2.there q e), st.pre, fun q z => st.fresh q z⟩, ?_, st2⟩
  · obtain ⟨s1, k1⟩ := st.own q a no
    exact ⟨s1, fun o e => by show upd w1.H p _ q = _; rw [upd_ne (ne q o e)]; exact k1 o e⟩
  · show upd w1.H p _ q = _
    rw [upd_ne (ne q o e)]
    exact st.keep q o e nr ns
  · refine ⟨ok, x.re.len, fun j => ?_, x.re.one⟩
    have q := x.re.sl j
    have hn := hno j
    cases hj : getS env j with
    | u => trivial
    | v d =>
      rw [hj] at q
      obtain ⟨v, e2, r2⟩ := q
      exact ⟨v, e2, st2.rep x.ok d v r2⟩
    | l qs =>
      rw [hj] at q hn
      obtain ⟨b, ws, e2, sb, eb, r2⟩ := q
      exact ⟨b, ws, e2, sb, (st2.own b sb fun z => hn (Nat.le_refl 2) (by rw [e2, z])).2 _ eb, st2.reps x.ok qs ws r2⟩
    | k qs =>
      rw [hj] at q hn
      obtain ⟨b, ws, e2, sb, eb, r2⟩ := q
      exact ⟨b, ws, e2, sb, (st2.own b sb fun z => hn (show 2 ≤ 3 by decide) (by rw [e2, z])).2 _ eb, st2.reps x.ok qs ws r2⟩
end
section
variable {X : Cx} {M : Nm} {T : Tab} {fa ca : Nat → Addr} {fds : Nat → FuncData} {pss : Nat → List Str} {N : List Str} {sc : Scope} {k n : Nat} {E : XK} {r : Self}
variable {w w' w1 w2 : Wd} {env env' env1 env2 : Env} {σ : L2.St} {h h' h1 h2 : Hs} {Q : VK} {d : D} {ds : List D} {v : V} {vs : List V} {O : Addr → Prop}
/-- no error leaves a block -/
def E0 : XK := fun _ _ _ => False
theorem passes0 {X : Cx} : Passes (L2.CX X.prog X.w) X E0 := fun pins σ H s e s' I c => by
  obtain ⟨a, B, H', cls, d, _, _, _, _, _, _, _, z⟩ := c
  exact z.elim
/-- the context of a comprehension's block -/
theorem XC.blk (C : XC X M T fa ca fds pss N sc k E) {s : Shared} {H : Hp} {sc2 : Scope} {c : Addr} {cl : List (Str × Addr)} {fp : List Addr} : XC (X.blk s H sc2 (compEnvC sc2 cl c X.env) fp) M T fa ca fds pss N (relS sc2 sc) k E0 :=
  ⟨C.tf, C.hN, C.hp, C.hw, C.nd, by rw [← C.hs]; rfl, C.calm, C.grd, C.room, passes0, C.fs⟩
/-- tests of a clause, where nothing is owned -/
def tTs (K : PySem.W.Frag) (M : Nm) (ca : Nat → Addr) (r : Self) (k : Nat) (ifs : List Ex) : TT := fun σ H Q => ∃ w env h, w.H = H ∧ SI K M ca env σ h w ∧ (∀ a, ¬ Own env σ a) ∧
  match tests r k env h ifs with
  | some (b, h1) => ∀ w', Stp (fun _ => False) w w' → SI K M ca env σ h1 w' → Q b w'.H
  | none => False
theorem PTs.imp {ifs : List Expr} {t t' : TT} (p : PTs X ifs t) (g : ∀ σ H Q, t' σ H Q → t σ H Q) : PTs X ifs t' := ⟨fun pins s σ H Q I z => p.run pins s σ H Q I (g σ H Q z)⟩
theorem pts_ok (hv : VarOk r) (IHT : ∀ x, wfE M N sc x = true → Okt X M ca N k E r x) {ifs : List Ex} (hl : ifs.length < 2) (wf : wfEs M N sc ifs = true) : PTs X (decs M N ifs) (tTs X.K M ca r k ifs) := by
  match ifs, hl, wf with
  | [], _, _ =>
    refine PTs.imp pts_nil fun σ H Q z => ?_
    obtain ⟨w, env, h, rfl, x, no, g⟩ := z
    exact g w Stp.refl x
  | [c], _, wf =>
    have wc : wfE M N sc c = true := by unfold wfEs at wf; exact (ba wf).1
    refine PTs.imp (pts_one (okt_full hv (IHT c wc))) fun σ H Q z => ?_
    obtain ⟨w, env, h, rfl, x, no, g⟩ := z
    refine ⟨w, env, h, rfl, x, ?_⟩
    show pT X.K M ca E w env σ Q (r.e k env h c)
    unfold tests at g
    cases e : r.e k env h c with
    | no => simp only [e] at g
    | ex c d h' => simp only [e] at g
    | ok d fr env1 h1 =>
      simp only [e] at g
      cases e1 : truth d with
      | none => simp only [e1] at g
      | some b =>
        refine ⟨b, e1, fun w' s l y => ?_⟩
        cases b with
        | true => simp only [e1, tests] at g; exact g w' (s.none no) (x.on0 (s.none no) y.ok)
        | false => simp only [e1] at g; exact g w' (s.none no) (x.on0 (s.none no) y.ok)
  | _ :: _ :: _, hl, _ => exact absurd hl (by simp)
end
end Ev
/-! Soundness of the small interpreter, 24: comprehensions, their turns. -/
namespace Ev
open PySem PySem.Spec PyProof.Rows L2
section
variable {X X2 : Cx} {M : Nm} {T : Tab} {fa ca : Nat → Addr} {fds : Nat → FuncData} {pss : Nat → List Str} {N : List Str} {sc : Scope} {k n : Nat} {E : XK} {r : Self}
variable {w w' w1 w2 : Wd} {env env' env1 env2 : Env} {σ : L2.St} {h h' h1 h2 h0 hE : Hs} {Q : VK} {d : D} {ds items acc0 qs : List D} {v : V} {vs : List V} {O P : Addr → Prop}
/-- what has been gathered -/
def Acc (K : PySem.W.Frag) (M : Nm) (ca : Nat → Addr) (w1 wS : Wd) (env : Env) (σ : L2.St) (p : Addr) (acc : List D) (h : Hs) (H : Hp) : Prop :=
  ∃ w us, w.H = H ∧ Stp (fun _ => False) w1 w ∧ Stp (fun q => q = p) wS w ∧ SI K M ca env σ h w ∧ w.S p ∧ w.H p = some (.lst us) ∧ Reps K w acc us
theorem drop_cons {α : Type} {l : List α} {i : Nat} (h : i < l.length) : l.drop i = l[i] :: l.drop (i + 1) := (List.getElem_cons_drop h).symm
/-- an item appended -/
theorem acc_app {K : PySem.W.Frag} {p : Addr} {wS : Wd} {hS : Hs} {acc : List D} (xS : WdOk K M ca wS hS) (sS : Stp (fun q => q = p) wS w) (hsl : ∀ j, 2 ≤ tag (getS env j) → σ[j]? ≠ some (some (.ref p))) (np : w1.H p = none) (x : SI K M ca env σ h w) (st : Stp (fun _ => False) w1 w) {us : List V} (sp : w.S p) (ep : w.H p = some (.lst us)) (ra : Reps K w acc us) {y : V} (ry : Rep K w d y) :
    Acc K M ca w1 wS env σ p (acc ++ [d]) h (upd w.H p (.lst (us ++ [y]))) := by
  obtain ⟨s1, x2, s2⟩ := write_acc x st np sp ep (us' := us ++ [y]) hsl
  exact ⟨_, us ++ [y], rfl, s1, sS.trans s2 (fun a z => xS.ne z) fun a z => .inl z, x2, sp, upd_same, s2.reps x.ok _ _ (ra.append (Reps.one ry))⟩
/-- slots behind a target -/
theorem tg_tag : ∀ (n : Nat) (t : Ex) (d : D) (env env2 : Env), tg n t d env = some env2 → ∀ j, 2 ≤ tag (getS env2 j) → j ∉ tv t ∧ getS env2 j = getS env j
  | 0, _, _, _, _, e => by cases e
  | n + 1, .var i p, d, env, env2, e => fun j tj => by
    have e : some (setS (.v d) env i) = some env2 := e
    cases e
    by_cases hi : i < env.length
    · rw [set_tag hi] at tj
      by_cases z : i = j
      · rw [if_pos z] at tj; exact absurd tj (show ¬ 2 ≤ 1 by decide)
      · exact ⟨fun m => by unfold tv at m; exact z (List.mem_singleton.mp m).symm, getS_set_ne z⟩
    · by_cases z : i = j
      · subst z
        rw [getS_out (by rw [setS_len]; omega)] at tj
        exact absurd tj (show ¬ 2 ≤ 0 by decide)
      · exact ⟨fun m => by unfold tv at m; exact z (List.mem_singleton.mp m).symm, getS_set_ne z⟩
  | n + 1, .tup ts q p, d, env, env2, e => by
    cases d <;> first | (cases e; done) | skip
    rename_i ds
    have e : tgs (tg n) ts ds env = some env2 := e
    have all : ∀ (ts : List Ex) (ds : List D) (env : Env), tgs (tg n) ts ds env = some env2 → ∀ j, 2 ≤ tag (getS env2 j) → j ∉ tvs ts ∧ getS env2 j = getS env j := fun ts => by
      induction ts with
      | nil => intro ds env e j tj; cases ds with
        | nil => cases e; exact ⟨fun m => (nomatch m), rfl⟩
        | cons => cases e
      | cons t ts ih => intro ds env e j tj; cases ds with
        | nil => cases e
        | cons d ds =>
          have e : (match tg n t d env with | some env1 => tgs (tg n) ts ds env1 | none => none) = some env2 := e
          cases e1 : tg n t d env with
          | none => rw [e1] at e; cases e
          | some env1 =>
            rw [e1] at e
            obtain ⟨n1, g1⟩ := ih ds env1 e j tj
            obtain ⟨n2, g2⟩ := tg_tag n t d env env1 e1 j (by rw [← g1]; exact tj)
            exact ⟨fun m => by unfold tvs at m; exact (List.mem_append.mp m).elim n2 n1, g1.trans g2⟩
    exact all ts ds env e
  | n + 1, .num _ _ _, _, _, _, e => by cases e
  | n + 1, .str _ _ _, _, _, _, e => by cases e
  | n + 1, .cb _ _ _, _, _, _, e => by cases e
  | n + 1, .cn _ _, _, _, _, e => by cases e
  | n + 1, .glob _ _, _, _, _, e => by cases e
  | n + 1, .ty _ _, _, _, _, e => by cases e
  | n + 1, .lst _ _, _, _, _, e => by cases e
  | n + 1, .star _ _, _, _, _, e => by cases e
  | n + 1, .bin _ _ _ _, _, _, _, e => by cases e
  | n + 1, .neg _ _, _, _, _, e => by cases e
  | n + 1, .cmp _ _ _ _, _, _, _, e => by cases e
  | n + 1, .chn _ _ _ _ _ _, _, _, _, e => by cases e
  | n + 1, .and _ _, _, _, _, e => by cases e
  | n + 1, .or _ _, _, _, _, e => by cases e
  | n + 1, .not _ _, _, _, _, e => by cases e
  | n + 1, .ife _ _ _ _, _, _, _, e => by cases e
  | n + 1, .idx _ _ _, _, _, _, e => by cases e
  | n + 1, .slc _ _ _ _ _, _, _, _, e => by cases e
  | n + 1, .att _ _ _, _, _, _, e => by cases e
  | n + 1, .call _ _ _ _, _, _, _, e => by cases e
  | n + 1, .calh _ _ _ _, _, _, _, e => by cases e
  | n + 1, .new _ _ _ _, _, _, _, e => by cases e
  | n + 1, .mth _ _ _ _ _, _, _, _, e => by cases e
  | n + 1, .blt _ _ _ _, _, _, _, e => by cases e
  | n + 1, .lm _ _ _ _ _, _, _, _, e => by cases e
  | n + 1, .lc _ _ _ _ _ _ _, _, _, _, e => by cases e
  | n + 1, .lc2 _ _ _ _ _ _ _ _ _ _ _, _, _, _, e => by cases e
  | n + 1, .dic _ _ _ _, _, _, _, e => by cases e
/-- the turns -/
theorem lc_turns {K : PySem.W.Frag} {wS : Wd} {hS : Hs} {J : It} {p : Addr} {elt t : Ex} {ifs : List Ex} {ws : List Nat} {H0 : Hp} {Qd : Hp → Prop} (hw : ∀ j ∈ tv t, j ∈ ws)
    (ok1 : WdOk K M ca w1 h1) (hsl : ∀ j, 2 ≤ tag (getS env j) → (L2.wipe σ ws)[j]? ≠ some (some (.ref p))) (no : ∀ a, ¬ Own env (L2.wipe σ ws) a) (xS : WdOk K M ca wS hS) (sr : Src K wS P items J) (hno : ∀ a, wS.S a → P a → a ≠ p) (np : w1.H p = none)
    (a0 : Acc K M ca w1 wS env (L2.wipe σ ws) p acc0 h0 H0) (et : turns r k env elt t ifs h0 items = some (qs, hE)) (hl : (acc0 ++ qs).length ≤ 100000)
    (hQ : ∀ H, Acc K M ca w1 wS env (L2.wipe σ ws) p (acc0 ++ qs) hE H → Qd H) :
    ∃ W : Nat → Nat → Hp → Prop, (∃ m, W 0 m H0) ∧ ∀ i m H, W i m H →
      (J.stop i H ∧ Qd H) ∨ (J.go i H ∧ ∃ Nx : Hp → Prop, (∀ H', Nx H' → ∃ m', m' < m ∧ W (i + 1) m' H') ∧ ∀ x H', J.yld i H x H' → tTg K M ca (tv t) (tg 4 t) x (L2.wipe σ ws) H' fun σ2 H2 => L2.wipe σ2 ws = L2.wipe σ ws ∧ tTs K M ca r k ifs σ2 H2 fun b H3 =>
        if b = true then tE K M ca E0 (fun env h => r.e k env h elt) σ2 H3 fun y H4 => ∃ acc, H4 p = some (.lst acc) ∧ acc.length < sizeLine ∧ Nx (upd H4 p (.lst (acc ++ [y]))) else Nx H3) := by
  refine ⟨fun i m H => m = items.length - i ∧ i ≤ items.length ∧ ∃ acc h rest, Acc K M ca w1 wS env (L2.wipe σ ws) p acc h H ∧ turns r k env elt t ifs h (items.drop i) = some (rest, hE) ∧ acc ++ rest = acc0 ++ qs,
    ⟨items.length, by simp, Nat.zero_le _, acc0, h0, qs, a0, by rw [List.drop_zero]; exact et, rfl⟩, ?_⟩
  rintro i m H ⟨rfl, hi, acc, hh, rest, ac, ets, ea⟩
  obtain ⟨w', us, rfl, st, tS, x', sp, ep, ra⟩ := ac
  obtain ⟨sv1, sv2⟩ := sr.serve xS tS x'.ok hno i
  by_cases hlt : i < items.length
  · rw [drop_cons hlt] at ets
    obtain ⟨go, yl⟩ := sv1 items[i] (List.getElem?_eq_getElem hlt)
    refine .inr ⟨go, fun H => ∃ acc h rest, Acc K M ca w1 wS env (L2.wipe σ ws) p acc h H ∧ turns r k env elt t ifs h (items.drop (i + 1)) = some (rest, hE) ∧ acc ++ rest = acc0 ++ qs, fun H' z => ⟨items.length - (i + 1), by omega, rfl, hlt, z⟩, fun v H' y => ?_⟩
    obtain ⟨w2, rfl, s2, ok2, rv⟩ := yl v H' y
    have x2 : SI K M ca env (L2.wipe σ ws) hh w2 := x'.on0 s2 ok2
    have ets : (match tg 4 t items[i] env with
    | some env1 => (match tests r k env1 hh ifs with
      | some (true, h1) => (match r.e k env1 h1 elt with
        | .ok q _ _ h2 => (match turns r k env elt t ifs h2 (items.drop (i + 1)) with | some (qs, h3) => some (q :: qs, h3) | none => none)
        | _ => none)
      | some (false, h1) => turns r k env elt t ifs h1 (items.drop (i + 1))
      | none => none)
    | none => none) = some (rest, hE) := ets
    cases e1 : tg 4 t items[i] env with
    | none => rw [e1] at ets; cases ets
    | some env1 =>
      simp only [e1] at ets
      refine ⟨w2, env, hh, items[i], env1, rfl, x2, rv, e1, fun σ2 y2 sq o => ⟨wipe_out o hw, w2, env1, hh, rfl, y2, ?_, ?_⟩⟩
      · intro a oa
        rcases sq.ow a oa with z | z
        · exact no a z
        · exact y2.ok.ne (y2.ownS oa) z
      · have no2 : ∀ a, ¬ Own env1 σ2 a := fun a oa => by
          rcases sq.ow a oa with z | z
          · exact no a z
          · exact y2.ok.ne (y2.ownS oa) z
        cases e2 : tests r k env1 hh ifs with
        | none => simp only [e2] at ets; cases ets
        | some bh =>
          obtain ⟨b, h3⟩ := bh
          simp only [e2]
          intro w3 s3 y3
          have st3 : Stp (fun _ => False) w1 w3 := (st.transF ok1 s2).transF ok1 s3
          have k3 : ∀ {wz : Wd}, Stp (fun _ => False) w' wz → wz.S p ∧ wz.H p = some (.lst us) := fun {wz} s => let ⟨a, b⟩ := s.own p sp fun z => z; ⟨a, b _ ep⟩
          have s23 := s2.transF x'.ok s3
          have tT : ∀ {wz : Wd}, Stp (fun _ => False) w' wz → Stp (fun q => q = p) wS wz := fun {wz} s => tS.trans s (fun a z => xS.ne z) fun a z => z.elim
          cases b with
          | false =>
            simp only [e2] at ets
            rw [if_neg (by decide)]
            obtain ⟨p3, q3⟩ := k3 s23
            exact ⟨acc, h3, rest, ⟨w3, us, rfl, st3, tT s23, x2.on0 s3 y3.ok, p3, q3, s23.reps x'.ok _ _ ra⟩, ets, ea⟩
          | true =>
            simp only [e2] at ets
            rw [if_pos rfl]
            refine ⟨w3, env1, h3, rfl, y3, pE_of_pS y3 ?_⟩
            show pS K M ca E0 w3 env1 σ2 _ (r.e k env1 h3 elt)
            cases e4 : r.e k env1 h3 elt with
            | no => simp only [e4] at ets; cases ets
            | ex c d h' => simp only [e4] at ets; cases ets
            | ok q fr env4 h4 =>
              simp only [e4] at ets
              intro w4 z s4 l4 y4 rz
              have s4 := s4.none no2
              have s34 := s23.transF x'.ok s4
              obtain ⟨p4, q4⟩ := k3 s34
              cases e5 : turns r k env elt t ifs h4 (items.drop (i + 1)) with
              | none => simp only [e5] at ets; cases ets
              | some rh =>
                obtain ⟨rest2, h5⟩ := rh
                simp only [e5] at ets
                cases ets
                have ra4 := s34.reps x'.ok _ _ ra
                refine ⟨us, q4, ?_, acc ++ [q], h4, rest2, acc_app xS (tT s34) hsl np ((x2.on0 s3 y3.ok).on0 s4 y4.ok) (st3.transF ok1 s4) p4 q4 ra4 rz, e5, by rw [← ea, List.append_assoc]; rfl⟩
                have : acc.length ≤ (acc0 ++ qs).length := by rw [← ea, List.length_append]; omega
                rw [ra.length, sizeLine_eq]
                omega
  · have e : i = items.length := by omega
    subst e
    rw [List.drop_length] at ets
    cases ets
    exact .inl ⟨sv2 rfl, hQ _ ⟨w', us, rfl, st, tS, x', sp, ep, by rw [← ea, List.append_nil]; exact ra⟩⟩
/-- the claims at a level, in every context -/
def AllOk (M : Nm) (T : Tab) (fa ca : Nat → Addr) (fds : Nat → FuncData) (pss : Nat → List Str) (N : List Str) (k : Nat) (r : Self) : Prop :=
  ∀ (X : Cx) (sc : Scope) (E : XK), XC X M T fa ca fds pss N sc k E → (∀ x, wfE M N sc x = true → Okx X M ca N k E r x) ∧ ∀ x, wfE M N sc x = true → Okt X M ca N k E r x
theorem fold_set {e : Ex} {env : PySem.Env} (x : Value) : foldedSetIterable (dec M N e) env x = Pure.pure x := by cases e <;> rfl
theorem lc_read {elt t it : Ex} {ifs : List Ex} {sc2 : Scope} {own : List (Str × Nat)} {p : Pos} {H : Hp} (hvs : ∀ j ∈ tv t, j ∈ own.map (·.2)) (z : tE X.K M ca E (fun env h => (F T r).e k env h (.lc elt t it ifs sc2 own p)) σ H Q) :
    tLc (tWk X.K M ca E r k it) (tTg X.K M ca (tv t) (tg 4 t)) (tTs X.K M ca r k ifs) (tE X.K M ca E0 fun env h => r.e k env h elt) (own.map (·.2)) σ H Q := by
  obtain ⟨w, env, h, rfl, x, g⟩ := z
  have g : pE X.K M ca E w env σ Q (match walk r k env h it with
    | .ok items env1 h1 => (match turns r k (Ev.wipe (Ev.lock env1) (own.map (·.2))) elt t ifs h1 items with
      | some (ds, h2) => (match lenOk ds with | true => .ok (.lst ds) true env1 h2 | false => .no)
      | none => .no)
    | .ex c d h => .ex c d h
    | .no => .no) := g
  refine ⟨w, env, h, rfl, x, ?_⟩
  cases e : walk r k env h it with
  | no => simp only [e] at g; exact g
  | ex c d h' => simp only [e] at g; exact g
  | ok items env1 h1 =>
    simp only [e] at g
    intro w1 J s l y sr D np
    cases e1 : turns r k (Ev.wipe (Ev.lock env1) (own.map (·.2))) elt t ifs h1 items with
    | none => simp only [e1] at g; exact g.elim
    | some q =>
      obtain ⟨qs, hE⟩ := q
      cases e2 : lenOk qs with
      | false => simp only [e1, e2] at g; exact g.elim
      | true =>
        simp only [e1, e2] at g
        have x1 := y.lock.wipe (own.map (·.2))
        have s0 : Stp (fun _ => False) w1 (w1.alc D (.lst []) true) := Stp.alc np
        refine lc_turns (acc0 := []) hvs x1.ok (fun j t e => x1.ok.ne (x1.sS t e) np) (wipe_noOwn (fun a => lock_own) _) y.ok sr (fun a z _ q => y.ok.ne z (q ▸ np)) np ⟨w1.alc D (.lst []) true, [], rfl, s0, s0.le, x1.on0 s0 (x1.ok.alc np fun _ => ⟨[], rfl⟩), .inr ⟨rfl, rfl⟩, upd_same, Reps.nil⟩ e1 (by exact Nat.le_of_ble_eq_true e2) fun H ac => ?_
        obtain ⟨w2, us, rfl, st, _, x2, sp, ep, ra⟩ := ac
        exact g w2 (.ref D) (x.trans s l st.le) l (y.on0 st x2.ok) ⟨D, us, qs, rfl, rfl, sp, ep, ra, s.there D np⟩
theorem n_lc (hv : VarOk r) (C : XC X M T fa ca fds pss N sc k E) (A : AllOk M T fa ca fds pss N k r) {elt t it : Ex} {ifs : List Ex} {sc2 : Scope} {own : List (Str × Nat)} {p : Pos} (wf : wfE M N sc (.lc elt t it ifs sc2 own p) = true) :
    Okx X M ca N k E (F T r) (.lc elt t it ifs sc2 own p) := by
  have wf2 : (blkC N sc sc2 own && wfW M N sc it && tgOk t it && decide (ifs.length < 2) && ((tv t).all fun i => decide (i ∈ own.map (·.2))) && wfT N (relS sc2 sc) (fun x => sc2.names.lookup x == some .cell) 4 t && wfEs M N (relS sc2 sc) ifs && wfE M N (relS sc2 sc) elt) = true := by unfold wfE at wf; exact wf
  obtain ⟨b1, we⟩ := ba wf2
  obtain ⟨b2, wi⟩ := ba b1
  obtain ⟨b3, wt⟩ := ba b2
  obtain ⟨b4, wv⟩ := ba b3
  obtain ⟨b5, wl⟩ := ba b4
  obtain ⟨b6, wg⟩ := ba b5
  obtain ⟨wb, ww⟩ := ba b6
  have IH := (A X sc E C).1
  have hvs : ∀ j ∈ tv t, j ∈ own.map (·.2) := fun j hj => of_decide_eq_true (List.all_eq_true.mp wv j hj)
  refine PE.imp (pe_lc (wi := tWk X.K M ca E r k it) (g := tTg X.K M ca (tv t) (tg 4 t)) (tt := tTs X.K M ca r k ifs) (te := tE X.K M ca E0 fun env h => r.e k env h elt) (own := own) C.calm (by rw [C.hN]; exact C.nd) (pi_wk C IH ww wg) (by rw [C.hN, C.hs]; exact blkOk_by wb) (fun s H c cl fp => ?_) (fun s H c cl fp => ?_) (fun s H c cl fp => ?_) (fun x => fold_set x)) fun σ H Q z => ?_
  · exact pg_ok (X := X.blk s H sc2 (compEnvC sc2 cl c X.env) fp) (sc := relS sc2 sc) (fn := fun x => sc2.names.lookup x == some .cell) C.hN C.nd (C.blk (s := s) (H := H) (c := c) (cl := cl) (fp := fp)).hs C.calm (fun _ z => z) 4 t wt
  · exact pts_ok (sc := relS sc2 sc) hv (A _ _ _ (C.blk (s := s) (H := H) (c := c) (cl := cl) (fp := fp))).2 (of_decide_eq_true wl) wi
  · exact (A _ _ _ (C.blk (s := s) (H := H) (c := c) (cl := cl) (fp := fp))).1 elt we
  · exact lc_read hvs z
/-- the turns of two clauses -/
theorem lc2_turns {K : PySem.W.Frag} {J : It} {p : Addr} {elt t t2 i2 : Ex} {ifs ifs2 : List Ex} {ws vs1 : List Nat} {H0 : Hp} {Qd : Hp → Prop} (hw : ∀ j ∈ tv t, j ∈ ws) (hw2 : ∀ j ∈ tv t2, j ∈ vs1)
    (x1 : SI K M ca env (L2.wipe σ ws) h1 w1) (no : ∀ a, ¬ Own env (L2.wipe σ ws) a) (sr : Src K w1 P items J) (np : w1.H p = none)
    (a0 : Acc K M ca w1 w1 env (L2.wipe σ ws) p acc0 h0 H0) (et : turns2 r k env elt t ifs t2 i2 ifs2 vs1 h0 items = some (qs, hE)) (hl : (acc0 ++ qs).length ≤ 100000)
    (hQ : ∀ H, Acc K M ca w1 w1 env (L2.wipe σ ws) p (acc0 ++ qs) hE H → Qd H) :
    ∃ W : Nat → Nat → Hp → Prop, (∃ m, W 0 m H0) ∧ ∀ i m H, W i m H →
      (J.stop i H ∧ Qd H) ∨ (J.go i H ∧ ∃ Nx : Hp → Prop, (∀ H', Nx H' → ∃ m', m' < m ∧ W (i + 1) m' H') ∧ ∀ x H', J.yld i H x H' → tTg K M ca (tv t) (tg 4 t) x (L2.wipe σ ws) H' fun σ2 H2 => L2.wipe σ2 ws = L2.wipe σ ws ∧ tTs K M ca r k ifs σ2 H2 fun b H3 =>
        if b = true then tWk K M ca E0 r k i2 σ2 H3 fun J1 H4 => ∃ W1 : Nat → Nat → Hp → Prop, (∃ m, W1 0 m H4) ∧ ∀ j k' H, W1 j k' H →
          (J1.stop j H ∧ Nx H) ∨ (J1.go j H ∧ ∃ Nx1 : Hp → Prop, (∀ H', Nx1 H' → ∃ k'', k'' < k' ∧ W1 (j + 1) k'' H') ∧ ∀ x H', J1.yld j H x H' → tTg K M ca (tv t2) (tg 4 t2) x (L2.wipe σ2 vs1) H' fun σ3 H5 => L2.wipe σ3 vs1 = L2.wipe σ2 vs1 ∧ tTs K M ca r k ifs2 σ3 H5 fun b H6 =>
            if b = true then tE K M ca E0 (fun env h => r.e k env h elt) σ3 H6 fun y H7 => ∃ acc, H7 p = some (.lst acc) ∧ acc.length < sizeLine ∧ Nx1 (upd H7 p (.lst (acc ++ [y]))) else Nx1 H6)
        else Nx H3) := by
  refine ⟨fun i m H => m = items.length - i ∧ i ≤ items.length ∧ ∃ acc h rest, Acc K M ca w1 w1 env (L2.wipe σ ws) p acc h H ∧ turns2 r k env elt t ifs t2 i2 ifs2 vs1 h (items.drop i) = some (rest, hE) ∧ acc ++ rest = acc0 ++ qs,
    ⟨items.length, by simp, Nat.zero_le _, acc0, h0, qs, a0, by rw [List.drop_zero]; exact et, rfl⟩, ?_⟩
  rintro i m H ⟨rfl, hi, acc, hh, rest, ac, ets, ea⟩
  obtain ⟨w', us, rfl, st, tS, x', sp, ep, ra⟩ := ac
  obtain ⟨sv1, sv2⟩ := sr.serve x1.ok st x'.ok (fun _ _ _ z => z) i
  by_cases hlt : i < items.length
  · rw [drop_cons hlt] at ets
    obtain ⟨go, yl⟩ := sv1 items[i] (List.getElem?_eq_getElem hlt)
    refine .inr ⟨go, fun H => ∃ acc h rest, Acc K M ca w1 w1 env (L2.wipe σ ws) p acc h H ∧ turns2 r k env elt t ifs t2 i2 ifs2 vs1 h (items.drop (i + 1)) = some (rest, hE) ∧ acc ++ rest = acc0 ++ qs, fun H' z => ⟨items.length - (i + 1), by omega, rfl, hlt, z⟩, fun v H' y => ?_⟩
    obtain ⟨w2, rfl, s2, ok2, rv⟩ := yl v H' y
    have x2 : SI K M ca env (L2.wipe σ ws) hh w2 := x'.on0 s2 ok2
    have ets : (match tg 4 t items[i] env with
    | some env1 => (match tests r k env1 hh ifs with
      | some (true, h1) => (match walk r k env1 h1 i2 with
        | .ok items2 _ h2 => (match turns r k (Ev.wipe env1 vs1) elt t2 ifs2 h2 items2 with
          | some (qs, h3) => (match turns2 r k env elt t ifs t2 i2 ifs2 vs1 h3 (items.drop (i + 1)) with | some (rs, h4) => some (qs ++ rs, h4) | none => none)
          | none => none)
        | _ => none)
      | some (false, h1) => turns2 r k env elt t ifs t2 i2 ifs2 vs1 h1 (items.drop (i + 1))
      | none => none)
    | none => none) = some (rest, hE) := ets
    cases e1 : tg 4 t items[i] env with
    | none => rw [e1] at ets; cases ets
    | some env1 =>
      simp only [e1] at ets
      refine ⟨w2, env, hh, items[i], env1, rfl, x2, rv, e1, fun σ2 y2 sq o => ?_⟩
      have no2 : ∀ a, ¬ Own env1 σ2 a := fun a oa => by
        rcases sq.ow a oa with z | z
        · exact no a z
        · exact y2.ok.ne (y2.ownS oa) z
      refine ⟨wipe_out o hw, w2, env1, hh, rfl, y2, no2, ?_⟩
      cases e2 : tests r k env1 hh ifs with
      | none => simp only [e2] at ets; cases ets
      | some bh =>
        obtain ⟨b, h3⟩ := bh
        simp only [e2]
        intro w3 s3 y3
        have st3 : Stp (fun _ => False) w1 w3 := (st.transF x1.ok s2).transF x1.ok s3
        have k3 : ∀ {wz : Wd}, Stp (fun _ => False) w' wz → wz.S p ∧ wz.H p = some (.lst us) := fun {wz} s => let ⟨a, b⟩ := s.own p sp fun z => z; ⟨a, b _ ep⟩
        have s23 := s2.transF x'.ok s3
        have tT : ∀ {wz : Wd}, Stp (fun _ => False) w' wz → Stp (fun q => q = p) w1 wz := fun {wz} s => tS.trans s (fun a z => x1.ok.ne z) fun a z => z.elim
        cases b with
        | false =>
          simp only [e2] at ets
          rw [if_neg (by decide)]
          obtain ⟨p3, q3⟩ := k3 s23
          exact ⟨acc, h3, rest, ⟨w3, us, rfl, st3, tT s23, x2.on0 s3 y3.ok, p3, q3, s23.reps x'.ok _ _ ra⟩, ets, ea⟩
        | true =>
          simp only [e2] at ets
          rw [if_pos rfl]
          refine ⟨w3, env1, h3, rfl, y3, ?_⟩
          cases e4 : walk r k env1 h3 i2 with
          | no => simp only [e4] at ets; cases ets
          | ex c d h' => simp only [e4] at ets; cases ets
          | ok items2 env4 h4 =>
            simp only [e4] at ets
            intro w4 J1 s4 l4 y4 sr4
            have s4 := s4.none no2
            have s34 := s23.transF x'.ok s4
            obtain ⟨p4, q4⟩ := k3 s34
            have ra4 := s34.reps x'.ok _ _ ra
            cases e5 : turns r k (Ev.wipe env1 vs1) elt t2 ifs2 h4 items2 with
            | none => simp only [e5] at ets; cases ets
            | some qh =>
              obtain ⟨qs2, h5⟩ := qh
              simp only [e5] at ets
              cases e6 : turns2 r k env elt t ifs t2 i2 ifs2 vs1 h5 (items.drop (i + 1)) with
              | none => simp only [e6] at ets; cases ets
              | some rh =>
                obtain ⟨rest2, h6⟩ := rh
                simp only [e6] at ets
                cases ets
                have x4 : SI K M ca env1 σ2 h4 w4 := y3.on0 s4 y4.ok
                have xw : SI K M ca (Ev.wipe env1 vs1) (L2.wipe σ2 vs1) h4 w4 := x4.wipe vs1
                have old : ∀ j, 2 ≤ tag (getS env1 j) → σ2[j]? ≠ some (some (.ref p)) := fun j tj ej => by
                  obtain ⟨nj, gj⟩ := tg_tag 4 t items[i] env env1 e1 j tj
                  rw [o.2 j nj] at ej
                  rw [gj] at tj
                  exact x1.ok.ne (x1.sS tj ej) np
                refine lc_turns (acc0 := acc) (P := WkP w3 env4 σ2 (lent i2)) (w1 := w1) (wS := w4) (hS := h4) (h1 := h1) hw2 x1.ok (fun j tj ej => ?_) (wipe_noOwn no2 vs1) y4.ok sr4 (fun a sa pa z => ?_) np ⟨w4, us, rfl, st3.transF x1.ok s4, Stp.refl, xw, p4, q4, ra4⟩ e5 ?_ fun H ac => ?_
                · rw [ewipe_get] at tj
                  by_cases m : j ∈ vs1
                  · rw [if_pos m] at tj; exact absurd tj (show ¬ 2 ≤ 0 by decide)
                  · rw [if_neg m] at tj
                    rw [lwipe_get, if_neg fun z => m z.1] at ej
                    exact old j tj ej
                · subst z
                  rcases pa with ⟨j, pp, m, tj, ej⟩ | z
                  · exact old j (l4.ge tj) ej
                  · have := (k3 s23).2
                    rw [z] at this; cases this
                · have : (acc ++ qs2).length ≤ (acc0 ++ qs).length := by rw [← ea, List.length_append, List.length_append, List.length_append]; omega
                  omega
                · obtain ⟨w5, us5, rfl, st5, tS5, x5, p5, q5, ra5⟩ := ac
                  exact ⟨acc ++ qs2, h5, rest2, ⟨w5, us5, rfl, st5, st5.le, x1.on0 st5 x5.ok, p5, q5, ra5⟩, e6, by rw [← ea, List.append_assoc]⟩
  · have e : i = items.length := by omega
    subst e
    rw [List.drop_length] at ets
    cases ets
    exact .inl ⟨sv2 rfl, hQ _ ⟨w', us, rfl, st, tS, x', sp, ep, by rw [← ea, List.append_nil]; exact ra⟩⟩
theorem n_lc2 (hv : VarOk r) (C : XC X M T fa ca fds pss N sc k E) (A : AllOk M T fa ca fds pss N k r) {elt t it t2 i2 : Ex} {ifs ifs2 : List Ex} {sc2 : Scope} {own : List (Str × Nat)} {vs1 : List Nat} {p : Pos} (wf : wfE M N sc (.lc2 elt t it ifs t2 i2 ifs2 sc2 own vs1 p) = true) :
    Okx X M ca N k E (F T r) (.lc2 elt t it ifs t2 i2 ifs2 sc2 own vs1 p) := by
  have wf2 : (blkC N sc sc2 own && wfW M N sc it && tgOk t it && decide (ifs.length < 2) && ((tv t).all fun i => decide (i ∈ own.map (·.2))) && wfT N (relS sc2 sc) (fun x => sc2.names.lookup x == some .cell) 4 t && wfEs M N (relS sc2 sc) ifs &&
      (vs1.all fun i => decide (i ∈ own.map (·.2))) && wfW M N (relS sc2 sc) i2 && tgOk t2 i2 && decide (ifs2.length < 2) && ((tv t2).all fun i => decide (i ∈ vs1)) && wfT N (relS sc2 sc) (fun x => sc2.names.lookup x == some .cell) 4 t2 && wfEs M N (relS sc2 sc) ifs2 && wfE M N (relS sc2 sc) elt) = true := by unfold wfE at wf; exact wf
  obtain ⟨c1, we⟩ := ba wf2
  obtain ⟨c2, wi2⟩ := ba c1
  obtain ⟨c3, wt2⟩ := ba c2
  obtain ⟨c4, wv2⟩ := ba c3
  obtain ⟨c5, wl2⟩ := ba c4
  obtain ⟨c6, wg2⟩ := ba c5
  obtain ⟨c7, ww2⟩ := ba c6
  obtain ⟨b1, wvs⟩ := ba c7
  obtain ⟨b2, wi⟩ := ba b1
  obtain ⟨b3, wt⟩ := ba b2
  obtain ⟨b4, wv⟩ := ba b3
  obtain ⟨b5, wl⟩ := ba b4
  obtain ⟨b6, wg⟩ := ba b5
  obtain ⟨wb, ww⟩ := ba b6
  have IH := (A X sc E C).1
  have hvs : ∀ j ∈ tv t, j ∈ own.map (·.2) := fun j hj => of_decide_eq_true (List.all_eq_true.mp wv j hj)
  have hvs2 : ∀ j ∈ tv t2, j ∈ vs1 := fun j hj => of_decide_eq_true (List.all_eq_true.mp wv2 j hj)
  refine PE.imp (pe_lc2 (wi := tWk X.K M ca E r k it) (g := tTg X.K M ca (tv t) (tg 4 t)) (tt := tTs X.K M ca r k ifs) (wi1 := tWk X.K M ca E0 r k i2) (g1 := tTg X.K M ca (tv t2) (tg 4 t2)) (tt1 := tTs X.K M ca r k ifs2) (te := tE X.K M ca E0 fun env h => r.e k env h elt) (own := own) (vs1 := vs1)
    C.calm (by rw [C.hN]; exact C.nd) (pi_wk C IH ww wg) (by rw [C.hN, C.hs]; exact blkOk_by wb) (fun j hj => of_decide_eq_true (List.all_eq_true.mp wvs j hj)) (fun s H c cl fp => ?_) (fun s H c cl fp => ?_) (fun s H c cl fp => ?_) (fun s H c cl fp => ?_) (fun s H c cl fp => ?_) (fun s H c cl fp => ?_) (fun x => fold_set x) (fun _ x => fold_set x)) fun σ H Q z => ?_
  · exact pg_ok (X := X.blk s H sc2 (compEnvC sc2 cl c X.env) fp) (sc := relS sc2 sc) (fn := fun x => sc2.names.lookup x == some .cell) C.hN C.nd (C.blk (s := s) (H := H) (c := c) (cl := cl) (fp := fp)).hs C.calm (fun _ z => z) 4 t wt
  · exact pts_ok (sc := relS sc2 sc) hv (A _ _ _ (C.blk (s := s) (H := H) (c := c) (cl := cl) (fp := fp))).2 (of_decide_eq_true wl) wi
  · exact pi_wk (C.blk (s := s) (H := H) (c := c) (cl := cl) (fp := fp)) (A _ _ _ (C.blk (s := s) (H := H) (c := c) (cl := cl) (fp := fp))).1 ww2 wg2
  · exact pg_ok (X := X.blk s H sc2 (compEnvC sc2 cl c X.env) fp) (sc := relS sc2 sc) (fn := fun x => sc2.names.lookup x == some .cell) C.hN C.nd (C.blk (s := s) (H := H) (c := c) (cl := cl) (fp := fp)).hs C.calm (fun _ z => z) 4 t2 wt2
  · exact pts_ok (sc := relS sc2 sc) hv (A _ _ _ (C.blk (s := s) (H := H) (c := c) (cl := cl) (fp := fp))).2 (of_decide_eq_true wl2) wi2
  · exact (A _ _ _ (C.blk (s := s) (H := H) (c := c) (cl := cl) (fp := fp))).1 elt we
  · obtain ⟨w, env, h, rfl, x, g⟩ := z
    have g : pE X.K M ca E w env σ Q (match walk r k env h it with
      | .ok items env1 h1 => (match turns2 r k (Ev.wipe (Ev.lock env1) (own.map (·.2))) elt t ifs t2 i2 ifs2 vs1 h1 items with
        | some (ds, h2) => (match lenOk ds with | true => .ok (.lst ds) true env1 h2 | false => .no)
        | none => .no)
      | .ex c d h => .ex c d h
      | .no => .no) := g
    refine ⟨w, env, h, rfl, x, ?_⟩
    cases e : walk r k env h it with
    | no => simp only [e] at g; exact g
    | ex c d h' => simp only [e] at g; exact g
    | ok items env1 h1 =>
      simp only [e] at g
      intro w1 J s l y sr D np
      cases e1 : turns2 r k (Ev.wipe (Ev.lock env1) (own.map (·.2))) elt t ifs t2 i2 ifs2 vs1 h1 items with
      | none => simp only [e1] at g; exact g.elim
      | some q =>
        obtain ⟨qs, hE⟩ := q
        cases e2 : lenOk qs with
        | false => simp only [e1, e2] at g; exact g.elim
        | true =>
          simp only [e1, e2] at g
          have x1 := y.lock.wipe (own.map (·.2))
          have s0 : Stp (fun _ => False) w1 (w1.alc D (.lst []) true) := Stp.alc np
          refine lc2_turns (acc0 := []) hvs hvs2 x1 (wipe_noOwn (fun a => lock_own) _) sr np ⟨w1.alc D (.lst []) true, [], rfl, s0, s0.le, x1.on0 s0 (x1.ok.alc np fun _ => ⟨[], rfl⟩), .inr ⟨rfl, rfl⟩, upd_same, Reps.nil⟩ e1 (by exact Nat.le_of_ble_eq_true e2) fun H ac => ?_
          obtain ⟨w2, us, rfl, st, _, x2, sp, ep, ra⟩ := ac
          exact g w2 (.ref D) (x.trans s l st.le) l (y.on0 st x2.ok) ⟨D, us, qs, rfl, rfl, sp, ep, ra, s.there D np⟩
end
end Ev
/-! Soundness of the small interpreter, 25: displays of dicts; every expression. -/
namespace Ev
open PySem PySem.Spec PyProof.Rows L2
theorem pe_dnewX {X : Cx} {pos : Pos} : PE X (.Dict [] [] pos) (fun _ H Q => ∀ p, H p = none → Q (.ref p) (upd H p (.ext (dxP X.prog X.w p [])))) := ⟨fun pins s σ H Q I h =>
  wpAny_Dict_empty ⟨.ref s.heap.objs.size, _, I.laid (a := s.heap.objs.size) (o := .ext (dxP X.prog X.w s.heap.objs.size [])) (t' := s.toks) (fun _ _ q => Heap.get?_push_of_some _ q) (Nat.le_refl _)
    ⟨⟨Nat.zero_le _, beq_eq_false_iff_ne.mpr (Ne.symm (Nat.ne_of_lt I.big)), _, #[], 0, Heap.get?_push_size _ rfl, ⟨rfl, rfl, rfl⟩, rfl, rfl, List.nodup_nil⟩, ⟨_, Heap.get?_push_size _ rfl⟩,
      fun h1 h2 ⟨a, b, o, es, ep, e, r⟩ k => ⟨a, b, o, es, ep, k o e, r⟩⟩, rfl, h _ (I.hok.fresh (Nat.le_refl _))⟩⟩
section
variable {K : PySem.W.Frag} {M : Nm} {ca : Nat → Addr} {w w' w0 : Wd} {h h' h0 : Hs} {d : D} {v : V} {q : Addr} {ks : List (L2.Key × V)} {o : HO}
/-- a dict that nobody knows yet becomes the small heap's -/
def Wd.own (w : Wd) (q : Addr) (o : HO) : Wd := ⟨w.rho ++ [q], w.S, upd w.H q o⟩
theorem own_rd (hq : w.H q = some (.dK ks)) {a : Addr} {u : HO} (hu : (∃ xs, u = .lst xs) ∨ ∃ xs, u = .tup xs) (r : Rd w.H a u) : Rd (w.own q o).H a u := by
  have ne : a ≠ q := fun z => by
    subst z
    rcases r with r | ⟨ob, r⟩
    · rw [hq] at r; cases r
      rcases hu with ⟨_, e⟩ | ⟨_, e⟩ <;> cases e
    · rw [hq] at r; cases r
  rcases r with r | ⟨ob, r⟩
  · exact .inl (by show upd w.H q o a = _; rw [upd_ne ne]; exact r)
  · exact .inr ⟨ob, by show upd w.H q o a = _; rw [upd_ne ne]; exact r⟩
theorem own_sqt (hq : w.H q = some (.dK ks)) {a : Addr} {vs : List V} (r : SqT K w.H a vs) : SqT K (w.own q o).H a vs := by
  rcases r with r | r
  · exact .inl (own_rd hq (.inr ⟨_, rfl⟩) r)
  · exact .inr r
mutual
theorem Rep.own (hq : w.H q = some (.dK ks)) : ∀ (d : D) (v : V), Rep K w d v → Rep K (w.own q o) d v
  | .non, _, r => by unfold Rep at r ⊢; exact r
  | .bl _, _, r => by unfold Rep at r ⊢; exact r
  | .int _, _, r => by unfold Rep at r ⊢; exact r
  | .str _, _, r => by unfold Rep at r ⊢; exact r
  | .rep _, _, r => by unfold Rep at r ⊢; exact r
  | .tup ds, v, r => by
    unfold Rep at r ⊢
    obtain ⟨a, vs, e, s, t⟩ := r
    exact ⟨a, vs, e, own_sqt hq s, Reps.own hq ds vs t⟩
  | .lst ds, v, r => by
    unfold Rep at r ⊢
    obtain ⟨a, vs, e, n, s, t⟩ := r
    exact ⟨a, vs, e, n, own_rd hq (.inl ⟨_, rfl⟩) s, Reps.own hq ds vs t⟩
  | .ref i, v, r => by
    unfold Rep at r ⊢
    obtain ⟨a, e, z⟩ := r
    exact ⟨a, by show (w.rho ++ [q])[i]? = _; rw [List.getElem?_append_left (List.getElem?_eq_some_iff.mp e).1]; exact e, z⟩
theorem Reps.own (hq : w.H q = some (.dK ks)) : ∀ (ds : List D) (vs : List V), Reps K w ds vs → Reps K (w.own q o) ds vs
  | [], _, r => by unfold Reps at r ⊢; exact r
  | d :: ds, vs, r => by
    unfold Reps at r ⊢
    obtain ⟨v, p, e, r1, r2⟩ := r
    exact ⟨v, p, e, Rep.own hq d v r1, Reps.own hq ds p r2⟩
end
theorem own_ok (x0 : WdOk K M ca w0 h0) (n0 : w0.H q = none) (st : Stp (fun _ => False) w0 w) (x : WdOk K M ca w h) (hq : w.H q = some (.dK ks)) (nr : q ∉ w.rho) (ns : ¬ w.S q) {ob : VO} (r : ObR K M ca (w.own q o) q ob o) :
    Stp (fun _ => False) w0 (w.own q o) ∧ WdOk K M ca (w.own q o) (h ++ [ob]) := by
  have ne : ∀ b u, w0.H b = some u → b ≠ q := fun b u e z => by subst z; rw [n0] at e; cases e
  refine ⟨⟨fun p a no => ?_, fun b u e nb ns2 => ?_, fun b e => ?_, ?_, st.fresh⟩, fun a z => ?_, ?_, ?_, fun i vo e => ?_⟩
  · obtain ⟨s1, k1⟩ := st.own p a no
    exact ⟨s1, fun u e => by show upd w.H q o p = _; rw [upd_ne (ne p u e)]; exact k1 u e⟩
  · show upd w.H q o b = _
    rw [upd_ne (ne b u e)]
    exact st.keep b u e nb ns2
  · have e : upd w.H q o b = none := e
    by_cases z : b = q
    · subst z; exact n0
    · rw [upd_ne z] at e; exact st.there b e
  · obtain ⟨r2, er, hr⟩ := st.pre
    refine ⟨r2 ++ [q], by show w.rho ++ [q] = _; rw [er, List.append_assoc], fun b hb => ?_⟩
    rcases List.mem_append.mp hb with z | z
    · exact hr b z
    · rw [List.mem_singleton] at z; subst z; exact n0
  · obtain ⟨us, e⟩ := x.dom a z
    exact ⟨us, by show upd w.H q o a = _; rw [upd_ne (fun y => by subst y; exact ns z)]; exact e⟩
  · show (w.rho ++ [q]).length = (h ++ [ob]).length
    rw [List.length_append, List.length_append, x.rh.len]
    rfl
  · show (w.rho ++ [q]).Nodup
    rw [List.nodup_append]
    refine ⟨x.rh.nd, by simp, fun a ha b hb => ?_⟩
    rw [List.mem_singleton] at hb
    subst hb
    intro z
    subst z
    exact nr ha
  · rw [getH_eq] at e
    by_cases hi : i < h.length
    · rw [List.getElem?_append_left hi] at e
      obtain ⟨a, ho2, e1, e2, r⟩ := x.rh.ob i vo (by rw [getH_eq]; exact e)
      have na : a ≠ q := fun z => by subst z; exact nr (List.mem_of_getElem? e1)
      refine ⟨a, ho2, ?_, by show upd w.H q o a = _; rw [upd_ne na]; exact e2, ?_⟩
      · show (w.rho ++ [q])[i]? = some a
        rw [List.getElem?_append_left (by rw [x.rh.len]; exact hi)]
        exact e1
      · cases vo with
        | dK kvs => obtain ⟨ks, e, r⟩ := r; exact ⟨ks, e, Paired.imp (fun a b z => ⟨z.1, Rep.own hq _ _ z.2⟩) r⟩
        | dT kvs => obtain ⟨ks, e, r⟩ := r; exact ⟨ks, e, Paired.imp (fun a b z => ⟨z.1, own_sqt hq z.2.1, let ⟨v, r1, r2⟩ := z.2.2; ⟨v, r1, Rep.own hq _ _ r2⟩⟩) r⟩
        | ins c fs => obtain ⟨dx, fv, e, r⟩ := r; exact ⟨dx, fv, e, Paired.imp (fun a b z => ⟨z.1, Rep.own hq _ _ z.2⟩) r⟩
    · have hl : i = h.length := by
        have := (List.getElem?_eq_some_iff.mp e).1
        rw [List.length_append] at this
        have : i < h.length + 1 := this
        omega
      subst hl
      rw [List.getElem?_append_right (Nat.le_refl _), Nat.sub_self] at e
      cases e
      refine ⟨q, o, ?_, upd_same, r⟩
      show (w.rho ++ [q])[h.length]? = some q
      rw [List.getElem?_append_right (by rw [x.rh.len]; exact Nat.le_refl _), x.rh.len, Nat.sub_self]
      rfl
end
section
variable {X : Cx} {M : Nm} {T : Tab} {fa ca : Nat → Addr} {fds : Nat → FuncData} {pss : Nat → List Str} {N : List Str} {sc : Scope} {k n : Nat} {E : XK} {r : Self}
variable {w w' w1 w2 : Wd} {env env' env1 env2 : Env} {σ : L2.St} {h h' h1 h2 : Hs} {Q : VK} {d : D} {ds : List D} {v : V} {vs : List V} {O : Addr → Prop}
/-- a display by texts, its pairs' readings -/
def trsS (K : PySem.W.Frag) (M : Nm) (ca : Nat → Addr) (E : XK) (r : Self) (k : Nat) : List Ex → List Ex → List (TE × TE)
  | x :: xs, y :: ys => (tC (.str ⟨((strK x).getD []).toArray⟩), tE K M ca E fun env h => r.e k env h y) :: trsS K M ca E r k xs ys
  | _, _ => []
theorem strK_eq {x : Ex} {s : List Nat} (h : strK x = some s) : ∃ q p, x = .str s q p := by
  cases x <;> cases h
  exact ⟨_, _, rfl⟩
theorem strK_some {x : Ex} (h : (strK x).isSome = true) : ∃ s q p, x = .str s q p := by
  cases e : strK x with
  | none => rw [e] at h; cases h
  | some s => exact ⟨s, strK_eq e⟩
theorem ppsS (IH : ∀ x, wfE M N sc x = true → Okx X M ca N k E r x) {pos : Pos} : ∀ (xs ys : List Ex), xs.length = ys.length → xs.all (fun x => (strK x).isSome) = true → wfEs M N sc ys = true → PPs X pos ((decs M N xs).map some) (decs M N ys) (trsS X.K M ca E r k xs ys)
  | [], [], _, _, _ => pps_nil
  | [], _ :: _, h, _, _ => by cases h
  | _ :: _, [], h, _, _ => by cases h
  | x :: xs, y :: ys, h, ha, wf => by
    have wf2 : (wfE M N sc y && wfEs M N sc ys) = true := by unfold wfEs at wf; exact wf
    obtain ⟨wy, ws⟩ := ba wf2
    obtain ⟨hx, hs⟩ := ba (show ((strK x).isSome && xs.all fun x => (strK x).isSome) = true from ha)
    obtain ⟨s, q, p, rfl⟩ := strK_some hx
    exact pps_cons (v := dec M N y) (vs := decs M N ys) (pe_str) (IH y wy) (ppsS IH xs ys (Nat.succ.inj h) hs ws)
theorem dicS_read {w0 : Wd} : ∀ (xs ys : List Ex) (h h2 : Hs) (kvs : List (D × D)) (w1 : Wd) (Q : List (V × V) → Hp → Prop), dicS r k env h xs ys = some (kvs, h2) → SI X.K M ca (lock env) σ h w1 →
    (∀ w2 kk, Stp (fun _ => False) w1 w2 → WdOk X.K M ca w2 h2 → KVR X.K w2 kvs kk → kk.map (·.1) = xs.map (fun x => .inr ⟨((strK x).getD []).toArray⟩) → Q (kk.map fun kv => (kV kv.1, kv.2)) w2.H) → tPairs (trsS X.K M ca E r k xs ys) σ w1.H Q
  | [], [], h, h2, kvs, w1, Q, e, y, c => by
    cases e
    exact c w1 [] Stp.refl y.ok .nil rfl
  | [], _ :: _, h, h2, kvs, w1, Q, e, y, c => by cases e
  | x :: xs, [], h, h2, kvs, w1, Q, e, y, c => by cases e
  | x :: xs, z :: ys, h, h2, kvs, w1, Q, e, y, c => by
    cases hx : strK x with
    | none => cases x <;> first | cases e | cases hx
    | some s =>
    obtain ⟨q, p, rfl⟩ := strK_eq hx
    have e : (match r.e k (lock env) h z with
      | .ok v _ _ h1 => (match dicS r k env h1 xs ys with | some (q, h2) => some ((D.str s, v) :: q, h2) | none => none)
      | _ => none) = some (kvs, h2) := e
    show tE X.K M ca E (fun env h => r.e k env h z) σ w1.H fun yv H2 => tPairs (trsS X.K M ca E r k xs ys) σ H2 fun ps H3 => Q ((V.str ⟨s.toArray⟩, yv) :: ps) H3
    refine ⟨w1, lock env, h, rfl, y, pE_of_pS y ?_⟩
    show pS X.K M ca E w1 (lock env) σ _ (r.e k (lock env) h z)
    cases e2 : r.e k (lock env) h z with
    | no => simp only [e2] at e; cases e
    | ex c2 d2 h' => simp only [e2] at e; cases e
    | ok vd fr env2 h1 =>
      simp only [e2] at e
      intro w2 vv s2 l2 y2 rv
      have s2 := s2.ofLock
      cases e3 : dicS r k env h1 xs ys with
      | none => simp only [e3] at e; cases e
      | some o =>
        obtain ⟨kvs2, h3⟩ := o
        simp only [e3] at e
        cases e
        refine dicS_read (w0 := w0) xs ys h1 _ _ w2 _ e3 (y.on0 s2 y2.ok) fun w3 kk s3 ok3 rk ek => ?_
        exact c w3 ((.inr ⟨s.toArray⟩, vv) :: kk) (s2.transF y.ok s3) ok3 (.cons ⟨rfl, s3.rep y2.ok _ _ rv⟩ rk) (by rw [List.map_cons, ek]; rfl)
theorem merge_nd : ∀ (kk acc : List (L2.Key × V)), (∀ q ∈ kk, ∀ p ∈ acc, p.1 ≠ q.1) → (kk.map (·.1)).Nodup → mergeK acc kk = acc ++ kk
  | [], acc, _, _ => by show acc = acc ++ []; rw [List.append_nil]
  | q :: kk, acc, h, nd => by
    show mergeK (putK acc q.1 q.2) kk = _
    have e : putK acc q.1 q.2 = acc ++ [q] := by
      unfold putK
      rw [if_neg]
      intro z
      obtain ⟨p, hp, e⟩ := List.any_eq_true.mp z
      exact h q List.mem_cons_self p hp (of_decide_eq_true e)
    rw [List.map_cons, List.nodup_cons] at nd
    rw [e, merge_nd kk (acc ++ [q]) (fun q2 h2 p hp => ?_) nd.2]
    · rw [List.append_assoc]; rfl
    · rcases List.mem_append.mp hp with hp | hp
      · exact h q2 (List.mem_cons_of_mem _ h2) p hp
      · rw [List.mem_singleton] at hp
        subst hp
        exact fun z => nd.1 (by rw [z]; exact List.mem_map_of_mem h2)
theorem ndS_ok : ∀ (xs : List Ex), ndS (xs.map fun x => (strK x).getD []) = true → (xs.map fun x => (Sum.inr ⟨((strK x).getD []).toArray⟩ : L2.Key)).Nodup
  | [], _ => List.nodup_nil
  | x :: xs, h => by
    obtain ⟨h1, h2⟩ := ba (show (((xs.map fun x => (strK x).getD []).all fun q => !(decide (q = (strK x).getD []))) && ndS (xs.map fun x => (strK x).getD [])) = true from h)
    rw [List.map_cons, List.nodup_cons]
    refine ⟨fun z => ?_, ndS_ok xs h2⟩
    obtain ⟨y, hy, e⟩ := List.mem_map.mp z
    have e2 : (strK y).getD [] = (strK x).getD [] := by
      have e := Sum.inr.inj e
      have e := congrArg (fun s : Str => s.cps.toList) e
      simpa using e
    have := List.all_eq_true.mp h1 _ (List.mem_map_of_mem hy)
    rw [e2] at this
    simp at this
theorem nr_of {q : Addr} (x0 : WdOk X.K M ca w h) (nq : w.H q = none) : q ∉ w.rho := fun z => by
  obtain ⟨i, hi, ei⟩ := List.getElem_of_mem z
  obtain ⟨a2, ho2, e1, e2, _⟩ := x0.rh.ob i (h[i]'(by rw [← x0.rh.len]; exact hi)) (by rw [getH_eq]; exact List.getElem?_eq_getElem _)
  rw [List.getElem?_eq_getElem hi, ei] at e1
  cases e1
  rw [nq] at e2; cases e2
theorem dicS_len : ∀ (xs ys : List Ex) (h h2 : Hs) (kvs : List (D × D)), dicS r k env h xs ys = some (kvs, h2) → xs.length = ys.length
  | [], [], _, _, _, _ => rfl
  | [], _ :: _, _, _, _, e => by cases e
  | _ :: _, [], _, _, _, e => by cases e
  | x :: xs, z :: ys, h, h2, kvs, e => by
    cases hx : strK x with
    | none => cases x <;> first | cases e | cases hx
    | some s =>
    obtain ⟨q, p, rfl⟩ := strK_eq hx
    have e : (match r.e k (lock env) h z with
      | .ok v _ _ h1 => (match dicS r k env h1 xs ys with | some (q, h2) => some ((D.str s, v) :: q, h2) | none => none)
      | _ => none) = some (kvs, h2) := e
    cases e2 : r.e k (lock env) h z with
    | no => simp only [e2] at e; cases e
    | ex c2 d2 h' => simp only [e2] at e; cases e
    | ok vd fr env2 h1 =>
      simp only [e2] at e
      cases e3 : dicS r k env h1 xs ys with
      | none => simp only [e3] at e; cases e
      | some o => rw [List.length_cons, List.length_cons, dicS_len xs ys h1 o.2 o.1 e3]
theorem n_dicS (C : XC X M T fa ca fds pss N sc k E) (IH : ∀ x, wfE M N sc x = true → Okx X M ca N k E r x) {x1 x2 : Ex} {xs ys : List Ex} {p : Pos} (dk : dicOk (x1 :: x2 :: xs) ys = true) (wy : wfEs M N sc ys = true) : Okx X M ca N k E (F T r) (.dic (x1 :: x2 :: xs) ys false p) := by
  have dk : (Nat.beq (x1 :: x2 :: xs).length ys.length && Nat.ble (x1 :: x2 :: xs).length 15 && (x1 :: x2 :: xs).all (fun x => (strK x).isSome) && ndS ((x1 :: x2 :: xs).map fun x => (strK x).getD [])) = true := by
    cases ys with
    | nil => exact dk
    | cons y ys => cases ys <;> exact dk
  obtain ⟨dk1, d4⟩ := ba dk
  obtain ⟨dk2, d3⟩ := ba dk1
  obtain ⟨d1, d2⟩ := ba dk2
  have hl := Nat.eq_of_beq_eq_true d1
  have h15 := Nat.le_of_ble_eq_true d2
  have dl : ∀ es : List Ex, (decs M N es).length = es.length := fun es => by
    induction es with
    | nil => rfl
    | cons a r ih => show (decs M N r).length + 1 = _; rw [ih]; rfl
  refine PE.imp (pe_disp (ppsS (pos := p) IH (x1 :: x2 :: xs) ys hl d3 wy) (by simp) (by rw [List.length_map, dl, dl]; exact hl) (fun z => by cases z) (by rw [List.length_map, dl]; exact h15)) fun σ H Q z => ?_
  obtain ⟨w, env, h, rfl, x0, g⟩ := z
  have g : pE X.K M ca E w env σ Q (match dicS r k env h (x1 :: x2 :: xs) ys with | some (kvs, h1) => .ok (.ref h1.length) false env (h1 ++ [.dK kvs]) | none => .no) := g
  cases e : dicS r k env h (x1 :: x2 :: xs) ys with
  | none => rw [e] at g; exact g.elim
  | some o =>
    obtain ⟨kvs, h1⟩ := o
    rw [e] at g
    intro q nq
    have s0 : Stp (fun _ => False) w (w.alc q (.dK []) false) := Stp.alc nq
    have ok0 : WdOk X.K M ca (w.alc q (.dK []) false) h := x0.ok.alc nq fun z => by cases z
    have xl := x0.lock.on0 s0 ok0
    refine dicS_read (w0 := w) (E := E) (x1 :: x2 :: xs) ys h h1 kvs (w.alc q (.dK []) false) _ e xl fun w2 kk s12 ok2 rk ek => ?_
    have s02 := s0.transF x0.ok s12
    have eq : w2.H q = some (.dK []) := s12.keep q _ upd_same (show q ∉ w.rho from nr_of x0.ok nq) (fun z => by
      rcases z with z | ⟨z, _⟩
      · exact x0.ok.ne z nq
      · cases z)
    have hk : kk.length = (x1 :: x2 :: xs).length := by
      have := congrArg List.length ek
      rw [List.length_map, List.length_map] at this
      exact this
    refine ⟨eq, kk, rfl, by rw [hk]; exact h15, ?_⟩
    have mk : mergeK [] kk = kk := by
      rw [merge_nd kk [] (fun _ _ p hp => by cases hp) (by rw [ek]; exact ndS_ok _ d4)]
      rfl
    rw [mk]
    have nr : q ∉ w2.rho := fun z => by
      obtain ⟨r2, er, hr⟩ := s12.pre
      rw [er] at z
      rcases List.mem_append.mp z with z | z
      · exact nr_of x0.ok nq z
      · have := hr q z
        rw [show (w.alc q (.dK []) false).H q = some (.dK []) from upd_same] at this
        cases this
    have ns : ¬ w2.S q := ok2.noS eq fun _ z => by cases z
    obtain ⟨st3, ok3⟩ := own_ok (o := .dK kk) (ob := .dK kvs) x0.ok nq s02 ok2 eq nr ns ⟨kk, rfl, Paired.imp (fun a b z => ⟨z.1, Rep.own eq _ _ z.2⟩) rk⟩
    exact g _ (.ref q) st3.toAny ELe.refl (x0.on0 st3 ok3) (by
      show Rep X.K (w2.own q _) (.ref h1.length) (.ref q)
      unfold Rep
      refine ⟨q, ?_, rfl⟩
      show (w2.rho ++ [q])[h1.length]? = some q
      rw [List.getElem?_append_right (by rw [ok2.rh.len]; exact Nat.le_refl _), ok2.rh.len, Nat.sub_self]
      rfl)
theorem n_dic (C : XC X M T fa ca fds pss N sc k E) (IH : ∀ x, wfE M N sc x = true → Okx X M ca N k E r x) {xs ys : List Ex} {t : Bool} {p : Pos} (wf : wfE M N sc (.dic xs ys t p) = true) : Okx X M ca N k E (F T r) (.dic xs ys t p) := by
  have wf2 : (dicOk xs ys && wfEs M N sc xs && wfEs M N sc ys) = true := by unfold wfE at wf; exact wf
  obtain ⟨wf3, wy⟩ := ba wf2
  obtain ⟨dk, wx⟩ := ba wf3
  have bad : (∀ env h, (F T r).e k env h (.dic xs ys t p) = .no) → Okx X M ca N k E (F T r) (.dic xs ys t p) := fun e => ⟨fun pins s σ H Q I z => by
    obtain ⟨w, env, h, rfl, x, g⟩ := z
    have g : pE X.K M ca E w env σ Q ((F T r).e k env h (.dic xs ys t p)) := g
    rw [e] at g
    exact g.elim⟩
  match xs, ys, t, dk, wx, wy, bad with
  | [], [], true, _, _, _, _ =>
    refine PE.imp pe_dnewX fun σ H Q z => ?_
    obtain ⟨w, env, h, rfl, x, g⟩ := z
    have g : pE X.K M ca E w env σ Q (.ok (.ref h.length) false env (h ++ [.dT []])) := g
    intro q nq
    obtain ⟨st, ok⟩ := put_ok (o := .dT []) (H' := upd w.H q (.ext (dxP X.prog X.w q []))) x.ok nq (fun b u e => by rw [upd_ne (ne_of_none e nq)]; exact e) (fun b e => by
      by_cases z : b = q
      · subst z; exact nq
      · rw [upd_ne z] at e; exact e) upd_same (fun w2 _ => ⟨[], by rw [C.hp, C.hw], .nil⟩)
    exact g _ _ st.toAny ELe.refl (x.on0 st ok) (put_ref x.ok)
  | [], [], false, _, _, _, _ =>
    refine PE.imp pe_dnewK fun σ H Q z => ?_
    obtain ⟨w, env, h, rfl, x, g⟩ := z
    have g : pE X.K M ca E w env σ Q (.ok (.ref h.length) false env (h ++ [.dK []])) := g
    intro q nq
    obtain ⟨st, ok⟩ := put_ok (o := .dK []) (H' := upd w.H q (.dK [])) x.ok nq (fun b u e => by rw [upd_ne (ne_of_none e nq)]; exact e) (fun b e => by
      by_cases z : b = q
      · subst z; exact nq
      · rw [upd_ne z] at e; exact e) upd_same (fun w2 _ => ⟨[], rfl, .nil⟩)
    exact g _ _ st.toAny ELe.refl (x.on0 st ok) (put_ref x.ok)
  | [x], [y], false, _, wx, wy, _ =>
    have wx1 : wfE M N sc x = true := by unfold wfEs at wx; exact (ba wx).1
    have wy1 : wfE M N sc y = true := by unfold wfEs at wy; exact (ba wy).1
    refine PE.imp (pe_disp (pps_cons (IH x wx1) (IH y wy1) pps_nil) rfl rfl (fun z => by cases z) (by show 1 ≤ 15; decide)) fun σ H Q z => ?_
    obtain ⟨w, env, h, rfl, x0, g⟩ := z
    have g : pE X.K M ca E w env σ Q (match r.e k (lock env) h x with
        | .ok q _ _ h1 => (match key1 q, r.e k (lock env) h1 y with
          | true, .ok v _ _ h2 => .ok (.ref h2.length) false env (h2 ++ [.dK [(q, v)]])
          | _, _ => .no)
        | _ => .no) := g
    intro q nq
    have s0 : Stp (fun _ => False) w (w.alc q (.dK []) false) := Stp.alc nq
    have ok0 : WdOk X.K M ca (w.alc q (.dK []) false) h := x0.ok.alc nq fun z => by cases z
    have xl := x0.lock.on0 s0 ok0
    refine ⟨w.alc q (.dK []) false, lock env, h, rfl, xl, pE_of_pS xl ?_⟩
    show pS X.K M ca E (w.alc q (.dK []) false) (lock env) σ _ (r.e k (lock env) h x)
    cases e : r.e k (lock env) h x with
    | no => simp only [e] at g; exact g
    | ex c d h' => simp only [e] at g; exact g.elim
    | ok kd fr env1 h1 =>
      simp only [e] at g
      intro w1 kv s1 l1 y1 rk
      have s1 := s1.ofLock
      cases hk : key1 kd with
      | false => simp only [hk] at g; exact g.elim
      | true =>
        simp only [hk] at g
        have xl1 := xl.on0 s1 y1.ok
        refine ⟨w1, lock env, h1, rfl, xl1, pE_of_pS xl1 ?_⟩
        show pS X.K M ca E w1 (lock env) σ _ (r.e k (lock env) h1 y)
        cases e2 : r.e k (lock env) h1 y with
        | no => simp only [e2] at g; exact g
        | ex c d h' => simp only [e2] at g; exact g.elim
        | ok vd fr2 env2 h2 =>
          simp only [e2] at g
          intro w2 vv s2 l2 y2 rv
          have s2 := s2.ofLock
          obtain ⟨key, k1, rfl⟩ := key1_ok hk (Vw.of_rep rk)
          have s12 := s1.transF ok0 s2
          have s02 := s0.transF x0.ok s12
          have eq : w2.H q = some (.dK []) := s12.keep q _ upd_same (fun z => by
            obtain ⟨i, hi, ei⟩ := List.getElem_of_mem (show q ∈ w.rho from z)
            obtain ⟨a2, ho2, e1, e2, _⟩ := x0.ok.rh.ob i (h[i]'(by rw [← x0.ok.rh.len]; exact hi)) (by rw [getH_eq]; exact List.getElem?_eq_getElem _)
            rw [List.getElem?_eq_getElem hi, ei] at e1
            cases e1
            rw [nq] at e2; cases e2) (fun z => by
            rcases z with z | ⟨z, _⟩
            · exact x0.ok.ne z nq
            · cases z)
          refine ⟨eq, [(key, vv)], rfl, by show 1 ≤ 15; decide, ?_⟩
          have mk : mergeK [] [(key, vv)] = [(key, vv)] := rfl
          rw [mk]
          have nr : q ∉ w2.rho := fun z => by
            obtain ⟨r2, er, hr⟩ := s12.pre
            rw [er] at z
            rcases List.mem_append.mp z with z | z
            · obtain ⟨i, hi, ei⟩ := List.getElem_of_mem (show q ∈ w.rho from z)
              obtain ⟨a2, ho2, e1, e2, _⟩ := x0.ok.rh.ob i (h[i]'(by rw [← x0.ok.rh.len]; exact hi)) (by rw [getH_eq]; exact List.getElem?_eq_getElem _)
              rw [List.getElem?_eq_getElem hi, ei] at e1
              cases e1
              rw [nq] at e2; cases e2
            · have := hr q z
              rw [show (w.alc q (.dK []) false).H q = some (.dK []) from upd_same] at this
              cases this
          have ns : ¬ w2.S q := y2.ok.noS eq fun _ z => by cases z
          obtain ⟨st3, ok3⟩ := own_ok (o := .dK [(key, vv)]) (ob := .dK [(kd, vd)]) x0.ok nq s02 y2.ok eq nr ns ⟨[(key, vv)], rfl, .cons ⟨k1, Rep.own eq _ _ rv⟩ .nil⟩
          exact g _ (.ref q) st3.toAny ELe.refl (x0.on0 st3 ok3) (by
            show Rep X.K (w2.own q _) (.ref h2.length) (.ref q)
            unfold Rep
            refine ⟨q, ?_, rfl⟩
            show (w2.rho ++ [q])[h2.length]? = some q
            rw [List.getElem?_append_right (by rw [y2.ok.rh.len]; exact Nat.le_refl _), y2.ok.rh.len, Nat.sub_self]
            rfl)
  | [], _ :: _, _, _, _, _, bad => exact bad fun _ _ => rfl
  | [_], [], _, _, _, _, bad => exact bad fun _ _ => rfl
  | [_], [_], true, _, _, _, bad => exact bad fun _ _ => rfl
  | [_], _ :: _ :: _, _, _, _, _, bad => exact bad fun _ _ => rfl
  | _ :: _ :: _, _, true, _, _, _, bad => exact bad fun _ _ => rfl
  | x1 :: x2 :: xs, ys, false, dk, _, wy, _ => exact n_dicS C IH dk wy
/-- every expression, at the next level -/
theorem all_e (hv : VarOk r) (RL : RunLen T r) (A : AllOk M T fa ca fds pss N k r) (FS : ∀ (X : Cx) (sc : Scope) (E : XK), XC X M T fa ca fds pss N sc k E → FsOk X M T fa ca fds pss k r) : AllOk M T fa ca fds pss N k (F T r) := fun X sc E C => by
  have IH := (A X sc E C).1
  have IHT := (A X sc E C).2
  have fs := FS X sc E C
  have hx : ∀ x, wfE M N sc x = true → Okx X M ca N k E (F T r) x := fun x wf => by
    cases x with
    | var i p => exact n_var C wf
    | num i q p => exact n_num
    | str s q p => exact n_str
    | cb b q p => exact n_cb
    | cn q p => exact n_cn
    | glob g p => exact n_glob C wf
    | ty t p => exact ⟨fun pins s σ H Q I z => by obtain ⟨w, env, h, rfl, x, g⟩ := z; exact (show False from g).elim⟩
    | star e p => exact ⟨fun pins s σ H Q I z => by obtain ⟨w, env, h, rfl, x, g⟩ := z; exact (show False from g).elim⟩
    | tup xs q p => exact n_tup C IH wf
    | lst xs p => exact n_lst C IH wf
    | bin o a b p => exact n_bin C IH wf
    | neg a p => exact n_neg C IH wf
    | cmp o a b p => exact n_cmp C IH wf
    | chn o o2 a b c p => exact n_chn C IH wf
    | and xs p => exact n_and IH wf
    | or xs p => exact n_or IH wf
    | not a p => exact n_not C IH wf
    | ife t a b p => exact n_ife C IH IHT wf
    | idx a i p => exact n_idx C IH wf
    | slc a lo hi p2 p => exact n_slc C IH wf
    | att a f p => exact n_att C IH wf
    | call f xs p1 p => exact n_call RL C IH fs wf
    | calh f xs p1 p => exact n_calh RL C IH fs wf
    | new c xs p1 p => exact n_new RL C IH fs wf
    | mth f o xs pa p => exact n_mth RL C IH fs wf
    | blt b xs p1 p => exact n_blt C IH wf
    | lm m o xs pa p => exact n_lm C IH wf
    | lc elt t it ifs sc2 own p => exact n_lc hv C A wf
    | lc2 elt t it ifs t2 i2 ifs2 sc2 own vs1 p => exact n_lc2 hv C A wf
    | dic xs ys t p => exact n_dic C IH wf
  exact ⟨hx, fun x wf => n_tst C hv hx IH IHT wf⟩
end
end Ev
/-! Soundness of the small interpreter, 26: statements. -/
namespace Ev
open PySem PySem.Spec PyProof.Rows L2
section
variable (K : PySem.W.Frag) (M : Nm) (ca : Nat → Addr)
/-- a value that is handed back: a new list, or one of the frame's own -/
def RVo (O : Addr → Prop) (w w' : Wd) : Bool → D → V → Prop
  | true, d, v => ∃ p vs ds, d = .lst ds ∧ v = .ref p ∧ w'.S p ∧ w'.H p = some (.lst vs) ∧ Reps K w' ds vs ∧ (w.H p = none ∨ O p)
  | false, d, v => Rep K w' d v
/-- what is wanted behind a statement -/
def pSt (D : Ends) (E : XK) (w : Wd) (env : Env) (σ : L2.St) : SR → Prop
  | .nx env' h' => ∀ w' σ', Stq w env σ w' env' σ' → SI K M ca env' σ' h' w' → D.nx σ' w'.H
  | .rt d fr h' => ∀ w' v, Stp (Own env σ) w w' → WdOk K M ca w' h' → RVo K (Own env σ) w w' fr d v → D.rt v w'.H
  | .bk env' h' => ∀ w' σ', Stq w env σ w' env' σ' → SI K M ca env' σ' h' w' → D.bk σ' w'.H
  | .ct env' h' => ∀ w' σ', Stq w env σ w' env' σ' → SI K M ca env' σ' h' w' → D.ct σ' w'.H
  | .ex c d h' => ExW K M ca (Own env σ) w E c d h'
  | .no => False
def tSt (E : XK) (g : Env → Hs → SR) : TS := fun D σ H => ∃ w env h, w.H = H ∧ SI K M ca env σ h w ∧ pSt K M ca D E w env σ (g env h)
end
section
variable {K : PySem.W.Frag} {M : Nm} {ca : Nat → Addr} {w w' w1 w2 : Wd} {env env' env1 env2 : Env} {σ σ1 σ2 : L2.St} {h h' h1 h2 : Hs} {Q : VK} {E : XK} {d u v : D} {ds es : List D} {a b : V} {vs us : List V} {fr : Bool} {O : Addr → Prop} {De : Ends}
theorem pSt.step (x : SI K M ca env σ h w) (s : Stq w env σ w1 env1 σ1) {r : SR} (g : pSt K M ca De E w env σ r) : pSt K M ca De E w1 env1 σ1 r := by
  have tr : ∀ {w2 : Wd}, Stp (Own env1 σ1) w1 w2 → Stp (Own env σ) w w2 := fun {w2} t => s.st.trans t (fun a z => x.ok.ne z) s.ow
  cases r with
  | nx env' h' => exact fun w' σ' t y => g w' σ' (s.trans x t) y
  | bk env' h' => exact fun w' σ' t y => g w' σ' (s.trans x t) y
  | ct env' h' => exact fun w' σ' t y => g w' σ' (s.trans x t) y
  | rt d fr h' =>
    intro w' v t y r
    refine g w' v (tr t) y ?_
    cases fr with
    | false => exact r
    | true =>
      obtain ⟨p, vs, ds, e1, e2, sp, ep, rp, z⟩ := r
      refine ⟨p, vs, ds, e1, e2, sp, ep, rp, ?_⟩
      rcases z with z | z
      · exact .inl (s.st.there p z)
      · rcases s.ow p z with z | z
        · exact .inr z
        · exact .inl z
  | ex c d h' => exact fun w' dx v t ok ed r => g w' dx v (tr t) ok ed r
  | no => exact g
theorem RVo.of (r : RV K w w' fr d a) : RVo K O w w' fr d a := by
  cases fr with
  | false => exact r
  | true =>
    obtain ⟨p, vs, ds, e1, e2, sp, ep, rp, np⟩ := r
    exact ⟨p, vs, ds, e1, e2, sp, ep, rp, .inl np⟩
end
/-! ### what a statement's names must be -/
section
variable (M : Nm) (N : List Str)
/-- a statement that stores a list comprehension on one line: the store is made before the block's frame goes -/
def lcTop (sc : Scope) (y : Str) (py p : Pos) (sc2 : Scope) (pe : Pos) : Bool :=
  (match sc.kind with | .function => true | _ => false) && decide (sc.names.lookup y = some .local) && (py.line == pe.line) && !(sc2.names.any fun (n, k) => n == y && (k == .local || k == .cell))
def isTupD : Ex → Bool
  | .tup _ _ _ => true
  | .lst _ _ => true
  | _ => false
def noComp : Ex → Bool
  | .lc _ _ _ _ _ _ _ => false
  | .lc2 _ _ _ _ _ _ _ _ _ _ _ => false
  | _ => true
/-- an assignment -/
def wfAsg (sc : Scope) (t x : Ex) (p : Pos) : Bool := match t with
  | .var i pv => wfT N sc (fun _ => true) 4 (.var i pv) && (match x with
    | .lc _ _ _ _ sc2 _ pe => lcTop sc (N.getD i "") pv p sc2 pe
    | .lc2 _ _ _ _ _ _ _ _ _ _ _ => false
    | _ => true) && wfE M N sc x
  | .tup ts k pt => wfT N sc (fun _ => true) 4 (.tup ts k pt) && wfE M N sc x && (match ts, x with
    | [.var i pi, .var j pj], .tup [x1, x2] _ _ => (match isNum x1 && isNum x2 with
      | true => true
      | false => decide (i ≠ j) && decide (sc.names.lookup (N.getD i "") = some .local) && decide (sc.names.lookup (N.getD j "") = some .local) && (match sc.kind with | .function => true | _ => false) && (pi.line == pj.line) && !(N.getD i "" == N.getD j "") &&
          !([dec M N x1, dec M N x2].all (foldedForSure 8)) && !([dec M N x1, dec M N x2].all (constantsAlone 8)) && noStar [x1, x2])
    | _, x => !(isTupD x) && noComp x)
  | .idx o y _ => noComp x && wfE M N sc x && wfE M N sc o && wfE M N sc y
  | .att o _ _ => noComp x && wfE M N sc x && wfE M N sc o
  | _ => false
mutual
def wfS (sc : Scope) : St → Bool
  | .ret e _ => wfE M N sc e
  | .retN _ => true
  | .asg t x p => wfAsg M N sc t x p
  | .aug _ _ _ _ _ => false
  | .iff t a b _ => wfE M N sc t && wfSs sc a && wfSs sc b
  | .whl t b _ => wfE M N sc t && wfSs sc b
  | .for_ t it b _ => wfW M N sc it && tgOk t it && wfT N sc (fun _ => true) 4 t && wfSs sc b
  | .exp e _ => wfE M N sc e && noComp e
  | .rai _ _ => true
  | .brk _ => true
  | .cnt _ => true
  | .pas _ => true
def wfSs (sc : Scope) : List St → Bool
  | [] => true
  | s :: r => wfS sc s && wfSs sc r
end
end
section
variable {X : Cx} {M : Nm} {T : Tab} {fa ca : Nat → Addr} {fds : Nat → FuncData} {pss : Nat → List Str} {N : List Str} {sc : Scope} {k n : Nat} {E : XK} {r : Self}
variable {w w' w1 w2 : Wd} {env env' env1 env2 : Env} {σ : L2.St} {h h' h1 h2 : Hs} {Q : VK} {d : D} {ds : List D} {v : V} {vs : List V} {O : Addr → Prop}
abbrev Oks (X : Cx) (M : Nm) (ca : Nat → Addr) (N : List Str) (k : Nat) (E : XK) (r : Self) (st : St) : Prop := PS X (decS M N st) (tSt X.K M ca E fun env h => r.s k env h st)
abbrev Okss (X : Cx) (M : Nm) (ca : Nat → Addr) (N : List Str) (k : Nat) (E : XK) (r : Self) (sts : List St) : Prop := PSs X (decSs M N sts) (tSt X.K M ca E fun env h => ss r k env h sts)
theorem s_never {st : St} (e : ∀ env h, r.s k env h st = .no) : Oks X M ca N k E r st := ⟨fun pins s σ H D I z => by
  obtain ⟨w, env, h, rfl, x, g⟩ := z
  have g : pSt X.K M ca D E w env σ (r.s k env h st) := g
  rw [e] at g
  exact g.elim⟩
theorem ss_ok (IH : ∀ st, wfS M N sc st = true → Oks X M ca N k E r st) : ∀ (sts : List St), wfSs M N sc sts = true → Okss X M ca N k E r sts
  | [], _ => by
    refine PSs.imp pss_nil fun D σ H z => ?_
    obtain ⟨w, env, h, rfl, x, g⟩ := z
    exact g w σ Stq.refl x
  | st :: sts, wf => by
    have wf2 : (wfS M N sc st && wfSs M N sc sts) = true := by unfold wfSs at wf; exact wf
    obtain ⟨ws, wr⟩ := ba wf2
    refine PSs.imp (pss_cons (IH st ws) (ss_ok IH sts wr)) fun D σ H z => ?_
    obtain ⟨w, env, h, rfl, x, g⟩ := z
    have g : pSt X.K M ca D E w env σ (match r.s k env h st with
    | .nx env1 h1 => ss r k env1 h1 sts
    | q => q) := g
    refine ⟨w, env, h, rfl, x, ?_⟩
    show pSt X.K M ca _ E w env σ (r.s k env h st)
    cases e : r.s k env h st with
    | nx env1 h1 =>
      simp only [e] at g
      exact fun w1 σ1 s y => ⟨w1, env1, h1, rfl, y, g.step x s⟩
    | rt d fr h1 => simp only [e] at g; exact g
    | bk env1 h1 => simp only [e] at g; exact g
    | ct env1 h1 => simp only [e] at g; exact g
    | ex c d h' => simp only [e] at g; exact g
    | no => simp only [e] at g; exact g
theorem s_ret (C : XC X M T fa ca fds pss N sc k E) (IH : ∀ x, wfE M N sc x = true → Okx X M ca N k E r x) {x : Ex} {p : Pos} (wf : wfS M N sc (.ret x p) = true) : Oks X M ca N k E (F T r) (.ret x p) := by
  have wx : wfE M N sc x = true := by unfold wfS at wf; exact wf
  by_cases hv : isVar x = true
  · cases x <;> first | cases hv | skip
    rename_i i pv
    refine PS.imp (ps_ret (pv_of C wx)) fun D σ H z => ?_
    obtain ⟨w, env, h, rfl, x, g⟩ := z
    have g : pSt X.K M ca D E w env σ (match getS env i with
        | .v d => .rt d false h
        | .l ds => .rt (.lst ds) true h
        | _ => .no) := g
    have q := x.re.sl i
    cases hs : getS env i with
    | u => simp only [hs] at g; exact g.elim
    | k ds => simp only [hs] at g; exact g.elim
    | v d =>
      simp only [hs] at g
      rw [hs] at q
      obtain ⟨v, e1, rp⟩ := q
      exact ⟨v, e1, g w v Stp.refl x.ok rp⟩
    | l ds =>
      simp only [hs] at g
      rw [hs] at q
      obtain ⟨a, vs, e1, sa, eh, rp⟩ := q
      exact ⟨_, e1, g w _ Stp.refl x.ok ⟨a, vs, ds, rfl, rfl, sa, eh, rp, .inr ⟨i, by rw [hs]; rfl, e1⟩⟩⟩
  · refine PS.imp (ps_ret (IH x wx)) fun D σ H z => ?_
    obtain ⟨w, env, h, rfl, x0, g⟩ := z
    have g : pSt X.K M ca D E w env σ (match r.e k env h x with
        | .ok d fr _ h1 => .rt d fr h1
        | .ex c d h => .ex c d h
        | .no => .no) := by
      cases x <;> first | exact absurd rfl hv | exact g
    refine ⟨w, env, h, rfl, x0, ?_⟩
    show pE X.K M ca E w env σ _ (r.e k env h x)
    cases e : r.e k env h x with
    | no => simp only [e] at g; exact g
    | ex c d h' => simp only [e] at g; exact g
    | ok d fr env1 h1 =>
      simp only [e] at g
      exact fun w1 v s l y rv => g w1 v s y.ok (RVo.of rv)
theorem s_retN {p : Pos} : Oks X M ca N k E (F T r) (.retN p) := by
  refine PS.imp ps_retN fun D σ H z => ?_
  obtain ⟨w, env, h, rfl, x, g⟩ := z
  exact g w .non Stp.refl x.ok (show Rep X.K w .non .non by unfold Rep; rfl)
theorem s_iff (IHT : ∀ x, wfE M N sc x = true → Okt X M ca N k E r x) (IHS : ∀ st, wfS M N sc st = true → Oks X M ca N k E r st) {t : Ex} {a b : List St} {p : Pos} (wf : wfS M N sc (.iff t a b p) = true) : Oks X M ca N k E (F T r) (.iff t a b p) := by
  have wf2 : (wfE M N sc t && wfSs M N sc a && wfSs M N sc b) = true := by unfold wfS at wf; exact wf
  obtain ⟨wf3, wb⟩ := ba wf2
  obtain ⟨wt, wa⟩ := ba wf3
  refine PS.imp (ps_if (IHT t wt) (ss_ok IHS a wa) (ss_ok IHS b wb)) fun D σ H z => ?_
  obtain ⟨w, env, h, rfl, x, g⟩ := z
  have g : pSt X.K M ca D E w env σ (match eB r k env h t with
      | .ok d _ env1 h1 => (match truth d with
        | some true => ss r k env1 h1 a
        | some false => ss r k env1 h1 b
        | none => .no)
      | .ex c d h => .ex c d h
      | .no => .no) := g
  refine ⟨w, env, h, rfl, x, ?_⟩
  show pT X.K M ca E w env σ _ (eB r k env h t)
  cases e : eB r k env h t with
  | no => simp only [e] at g; exact g
  | ex c d h' => simp only [e] at g; exact g
  | ok d fr env1 h1 =>
    simp only [e] at g
    cases e1 : truth d with
    | none => simp only [e1] at g; exact g.elim
    | some c =>
      refine ⟨c, e1, fun w1 s l y => ?_⟩
      cases c with
      | true =>
        simp only [e1] at g
        rw [if_pos rfl]
        exact ⟨w1, env1, h1, rfl, y, g.step x (Stq.of s l)⟩
      | false =>
        simp only [e1] at g
        rw [if_neg (by decide)]
        exact ⟨w1, env1, h1, rfl, y, g.step x (Stq.of s l)⟩
theorem s_exp (IH : ∀ x, wfE M N sc x = true → Okx X M ca N k E r x) {x : Ex} {p : Pos} (wf : wfS M N sc (.exp x p) = true) : Oks X M ca N k E (F T r) (.exp x p) := by
  have wf2 : (wfE M N sc x && noComp x) = true := by unfold wfS at wf; exact wf
  obtain ⟨wx, wn⟩ := ba wf2
  refine PS.imp (ps_expr (IH x wx) (by cases x <;> first | rfl | cases wn)) fun D σ H z => ?_
  obtain ⟨w, env, h, rfl, x0, g⟩ := z
  have g : pSt X.K M ca D E w env σ (match r.e k env h x with
      | .ok _ _ env1 h1 => .nx env1 h1
      | .ex c d h => .ex c d h
      | .no => .no) := g
  refine ⟨w, env, h, rfl, x0, ?_⟩
  show pE X.K M ca E w env σ _ (r.e k env h x)
  cases e : r.e k env h x with
  | no => simp only [e] at g; exact g
  | ex c d h' => simp only [e] at g; exact g
  | ok d fr env1 h1 =>
    simp only [e] at g
    exact fun w1 v s l y rv => g w1 σ (Stq.of s l) y
theorem s_brk {p : Pos} : Oks X M ca N k E (F T r) (.brk p) := by
  refine PS.imp ps_break fun D σ H z => ?_
  obtain ⟨w, env, h, rfl, x, g⟩ := z
  exact g w σ Stq.refl x
theorem s_cnt {p : Pos} : Oks X M ca N k E (F T r) (.cnt p) := by
  refine PS.imp ps_continue fun D σ H z => ?_
  obtain ⟨w, env, h, rfl, x, g⟩ := z
  exact g w σ Stq.refl x
theorem s_pas {p : Pos} : Oks X M ca N k E (F T r) (.pas p) := by
  refine PS.imp ps_pass fun D σ H z => ?_
  obtain ⟨w, env, h, rfl, x, g⟩ := z
  exact g w σ Stq.refl x
/-- the same reading at one of several levels -/
theorem pt_any {e : Expr} {P : Nat → Prop} {t : Nat → TT} (h : ∀ i, P i → PT X e (t i)) : PT X e (fun σ H Q => ∃ i, P i ∧ t i σ H Q) := ⟨fun pins s σ H Q I ⟨i, p, z⟩ => (h i p).run pins s σ H Q I z⟩
theorem pss_any {e : List Stmt} {P : Nat → Prop} {t : Nat → TS} (h : ∀ i, P i → PSs X e (t i)) : PSs X e (fun D σ H => ∃ i, P i ∧ t i D σ H) := ⟨fun pins s σ H D I ⟨i, p, z⟩ => (h i p).run pins s σ H D I z⟩
theorem s_whl (po : PassesOwn (model X.prog X.w) X.A X.env X.xe) (IHT : ∀ m, m ≤ n → ∀ x, wfE M N sc x = true → Okt X M ca N k E (ev T m) x) (IHS : ∀ m, m ≤ n → ∀ st, wfS M N sc st = true → Oks X M ca N k E (ev T m) st) {t : Ex} {b : List St} {p : Pos}
    (wf : wfS M N sc (.whl t b p) = true) : Oks X M ca N k E (ev T (n + 1)) (.whl t b p) := by
  have wf2 : (wfE M N sc t && wfSs M N sc b) = true := by unfold wfS at wf; exact wf
  obtain ⟨wt, wb⟩ := ba wf2
  refine PS.imp (ps_while po (pt_any (P := fun m => m ≤ n) fun m hm => IHT m hm t wt) (pss_any (P := fun m => m ≤ n) fun m hm => ss_ok (IHS m hm) b wb)) fun D σ H z => ?_
  obtain ⟨w, env, h, rfl, x, g⟩ := z
  refine ⟨fun m σ H => m ≤ n ∧ ∃ w env h, w.H = H ∧ SI X.K M ca env σ h w ∧ pSt X.K M ca D E w env σ ((ev T (m + 1)).s k env h (.whl t b p)), ⟨n, Nat.le_refl n, w, env, h, rfl, x, g⟩, ?_⟩
  rintro m σ H ⟨hm, w, env, h, rfl, x, g⟩
  have g : pSt X.K M ca D E w env σ (match eB (ev T m) k env h t with
      | .ok d _ env1 h1 => (match truth d with
        | some true => (match ss (ev T m) k env1 h1 b with
          | .nx env2 h2 => (ev T m).s k env2 h2 (.whl t b p)
          | .ct env2 h2 => (ev T m).s k env2 h2 (.whl t b p)
          | .bk env2 h2 => .nx env2 h2
          | q => q)
        | some false => .nx env1 h1
        | none => .no)
      | .ex c d h => .ex c d h
      | .no => .no) := g
  refine ⟨m, hm, w, env, h, rfl, x, ?_⟩
  show pT X.K M ca E w env σ _ (eB (ev T m) k env h t)
  cases e : eB (ev T m) k env h t with
  | no => simp only [e] at g; exact g
  | ex c d h' => simp only [e] at g; exact g
  | ok d fr env1 h1 =>
    simp only [e] at g
    cases e1 : truth d with
    | none => simp only [e1] at g; exact g.elim
    | some c =>
      refine ⟨c, e1, fun w1 s l y => ?_⟩
      cases c with
      | false =>
        simp only [e1] at g
        rw [if_neg (by decide)]
        exact g w1 σ (Stq.of s l) y
      | true =>
        simp only [e1] at g
        replace g := g.step x (Stq.of s l)
        rw [if_pos rfl]
        refine ⟨fun σ' H' => ∃ m', m' < m ∧ (m' ≤ n ∧ ∃ w env h, w.H = H' ∧ SI X.K M ca env σ' h w ∧ pSt X.K M ca D E w env σ' ((ev T (m' + 1)).s k env h (.whl t b p))), fun σ' H' z => z, m, hm, w1, env1, h1, rfl, y, ?_⟩
        have again : ∀ env2 h2, pSt X.K M ca D E w1 env1 σ ((ev T m).s k env2 h2 (.whl t b p)) → ∀ w2 σ2, Stq w1 env1 σ w2 env2 σ2 → SI X.K M ca env2 σ2 h2 w2 →
            ∃ m', m' < m ∧ (m' ≤ n ∧ ∃ w env h, w.H = w2.H ∧ SI X.K M ca env σ2 h w ∧ pSt X.K M ca D E w env σ2 ((ev T (m' + 1)).s k env h (.whl t b p))) := fun env2 h2 g w2 σ2 s2 y2 => by
          cases m with
          | zero => exact g.elim
          | succ m' => exact ⟨m', Nat.lt_succ_self _, by omega, w2, env2, h2, rfl, y2, g.step y s2⟩
        show pSt X.K M ca _ E w1 env1 σ (ss (ev T m) k env1 h1 b)
        cases e2 : ss (ev T m) k env1 h1 b with
        | nx env2 h2 => simp only [e2] at g; exact again env2 h2 g
        | ct env2 h2 => simp only [e2] at g; exact again env2 h2 g
        | bk env2 h2 => simp only [e2] at g; exact g
        | rt d fr h2 => simp only [e2] at g; exact g
        | ex c d h' => simp only [e2] at g; exact g
        | no => simp only [e2] at g; exact g
end
end Ev
/-! Soundness of the small interpreter, 27: loops over items. -/
namespace Ev
open PySem PySem.Spec PyProof.Rows L2
section
variable {X : Cx} {M : Nm} {T : Tab} {fa ca : Nat → Addr} {fds : Nat → FuncData} {pss : Nat → List Str} {N : List Str} {sc : Scope} {k n : Nat} {E : XK} {r : Self}
variable {w w' w1 w2 : Wd} {env env' env1 env2 : Env} {σ : L2.St} {h h' h1 h2 : Hs} {Q : VK} {d : D} {ds : List D} {v : V} {vs : List V} {O : Addr → Prop}
theorem s_for (ft : ∀ x, X.fn x = true) (po : PassesOwn (model X.prog X.w) X.A X.env X.xe) (C : XC X M T fa ca fds pss N sc k E) (IH : ∀ x, wfE M N sc x = true → Okx X M ca N k E r x) (IHS : ∀ st, wfS M N sc st = true → Oks X M ca N k E r st) {t it : Ex} {b : List St} {p : Pos}
    (wf : wfS M N sc (.for_ t it b p) = true) : Oks X M ca N k E (F T r) (.for_ t it b p) := by
  have wf2 : (wfW M N sc it && tgOk t it && wfT N sc (fun _ => true) 4 t && wfSs M N sc b) = true := by unfold wfS at wf; exact wf
  obtain ⟨wf3, wb⟩ := ba wf2
  obtain ⟨wf4, wt⟩ := ba wf3
  obtain ⟨ww, wg⟩ := ba wf4
  refine PS.imp (ps_for po C.calm (pi_wk C IH ww wg) (pg_ok (M := M) (ca := ca) (fn := fun _ => true) C.hN C.nd C.hs C.calm (fun x _ => ft x) 4 t wt) (ss_ok IHS b wb) (fun x => fold_set x)) fun D σ H z => ?_
  obtain ⟨w, env, h, rfl, x, g⟩ := z
  have g : pSt X.K M ca D E w env σ (match walk r k env h it with
      | .ok items env1 h1 => (match froze env1 (lent it) with | some env2 => forL k t (fun env h => ss r k env h b) env2 h1 items | none => .no)
      | .ex c d h => .ex c d h
      | .no => .no) := g
  refine ⟨w, env, h, rfl, x, ?_⟩
  cases e : walk r k env h it with
  | no => simp only [e] at g; exact g
  | ex c d h' => simp only [e] at g; exact g
  | ok items env1 h1 =>
    simp only [e] at g
    intro w1 J s l y sr
    cases e1 : froze env1 (lent it) with
    | none => simp only [e1] at g; exact g.elim
    | some env2 =>
      simp only [e1] at g
      let S2 : Addr → Prop := fun a => w1.S a ∧ ¬ Lent env1 σ (lent it) a
      have st2 : Stp (Lent env1 σ (lent it)) w1 (w1.les S2) := ⟨fun q a no => ⟨⟨a, no⟩, fun o e => e⟩, fun q o e _ _ => e, fun q e => e, ⟨[], by simp [Wd.les], fun _ z => nomatch z⟩, fun q z => .inl z.1⟩
      have ok2 : WdOk X.K M ca (w1.les S2) h1 := y.ok.less fun a z => z.1
      have y2 : SI X.K M ca env2 σ h1 (w1.les S2) := froze_si y e1 (fun _ z => z) st2 ok2 (fun a z q => q.2 z) fun _ _ => rfl
      have f := (froze_get e1).2
      have lo : ∀ q, Lent env1 σ (lent it) q → Own env1 σ q := fun q ⟨i, pos, m, t, ei⟩ => ⟨i, by
        rcases f i with ⟨_, b⟩ | ⟨_, qs, q1, _⟩
        · have := b ⟨pos, m⟩; omega
        · rw [q1]; rfl, ei⟩
      have l2 := froze_ele e1
      have noO : ∀ a, (w1.les S2).S a → (w1.S a → WkP w env1 σ (lent it) a) → ¬ Own env2 σ a := fun a sa pa o => by
        rcases pa sa.1 with z | z
        · exact sa.2 z
        · exact x.ok.ne (x.ownS (l.own (l2.own o))) z
      have sr2 : Src X.K (w1.les S2) (fun a => ¬ Own env2 σ a) items J := Src.chg (w := w1) (w2 := w1.les S2) rfl st2 y.ok noO sr
      have sq : Stq w env σ (w1.les S2) env2 σ := Stq.of (x.trans s l (st2.mono lo)) (l.trans l2)
      replace g := g.step x sq
      refine ⟨fun i m σ' H => m = items.length - i ∧ i ≤ items.length ∧ ∃ w' env' h', w'.H = H ∧ SI X.K M ca env' σ' h' w' ∧ Stq (w1.les S2) env2 σ w' env' σ' ∧ pSt X.K M ca D E w' env' σ' (forL k t (fun env h => ss r k env h b) env' h' (items.drop i)),
        ⟨items.length, by simp, Nat.zero_le _, w1.les S2, env2, h1, rfl, y2, Stq.refl, by rw [List.drop_zero]; exact g⟩, ?_⟩
      rintro i m σ' H ⟨rfl, hi, w', env', h', rfl, x', sq', g'⟩
      obtain ⟨sv1, sv2⟩ := sr2.serve y2.ok sq'.st x'.ok (fun _ _ z => z) i
      by_cases hlt : i < items.length
      · obtain ⟨go, yl⟩ := sv1 items[i] (List.getElem?_eq_getElem hlt)
        rw [drop_cons hlt] at g'
        refine .inr ⟨go, fun σ'' H => ∃ w' env' h', w'.H = H ∧ SI X.K M ca env' σ'' h' w' ∧ Stq (w1.les S2) env2 σ w' env' σ'' ∧ pSt X.K M ca D E w' env' σ'' (forL k t (fun env h => ss r k env h b) env' h' (items.drop (i + 1))), fun σ'' H' z => ⟨items.length - (i + 1), by omega, rfl, hlt, z⟩, fun v H' yy => ?_⟩
        obtain ⟨w3, rfl, s3, ok3, rv⟩ := yl v H' yy
        have x3 : SI X.K M ca env' σ' h' w3 := x'.on0 s3 ok3
        have sq3 : Stq w' env' σ' w3 env' σ' := Stq.of s3.le ELe.refl
        have g' : pSt X.K M ca D E w' env' σ' (match tg 4 t items[i] env' with
    | some env1 => (match ss r k env1 h' b with
      | .nx env2 h2 => forL k t (fun env h => ss r k env h b) env2 h2 (items.drop (i + 1))
      | .ct env2 h2 => forL k t (fun env h => ss r k env h b) env2 h2 (items.drop (i + 1))
      | .bk env2 h2 => .nx env2 h2
      | q => q)
    | none => .no) := g'
        cases e3 : tg 4 t items[i] env' with
        | none => simp only [e3] at g'; exact g'.elim
        | some env3 =>
          simp only [e3] at g'
          refine ⟨w3, env', h', items[i], env3, rfl, x3, rv, e3, fun σ2 y3 sq4 _ => ?_⟩
          have sq5 : Stq w' env' σ' w3 env3 σ2 := sq3.trans x' sq4
          replace g' := g'.step x' sq5
          refine ⟨w3, env3, h', rfl, y3, ?_⟩
          have next : ∀ env4 h4, pSt X.K M ca D E w3 env3 σ2 (forL k t (fun env h => ss r k env h b) env4 h4 (items.drop (i + 1))) → ∀ w4 σ4, Stq w3 env3 σ2 w4 env4 σ4 → SI X.K M ca env4 σ4 h4 w4 →
              ∃ w' env' h', w'.H = w4.H ∧ SI X.K M ca env' σ4 h' w' ∧ Stq (w1.les S2) env2 σ w' env' σ4 ∧ pSt X.K M ca D E w' env' σ4 (forL k t (fun env h => ss r k env h b) env' h' (items.drop (i + 1))) :=
            fun env4 h4 g4 w4 σ4 s4 y4 => ⟨w4, env4, h4, rfl, y4, sq'.trans y2 (sq5.trans x' s4), g4.step y3 s4⟩
          show pSt X.K M ca _ E w3 env3 σ2 (ss r k env3 h' b)
          cases e4 : ss r k env3 h' b with
          | nx env4 h4 => simp only [e4] at g'; exact next env4 h4 g'
          | ct env4 h4 => simp only [e4] at g'; exact next env4 h4 g'
          | bk env4 h4 => simp only [e4] at g'; exact g'
          | rt d fr h4 => simp only [e4] at g'; exact g'
          | ex c d h4 => simp only [e4] at g'; exact g'
          | no => simp only [e4] at g'; exact g'
      · have ee : i = items.length := by omega
        subst ee
        rw [List.drop_length] at g'
        exact .inl ⟨sv2 rfl, g' w' σ' Stq.refl x'⟩
end
end Ev
/-! Soundness of the small interpreter, 28: stores into objects. -/
namespace Ev
open PySem PySem.Spec PyProof.Rows L2
section
variable {X : Cx}
/-- d[y] = v where keys are tuples -/
def rSetX (P : Program) (W : World) (K : PySem.W.Frag) : TSet := fun o i v H Q => ∃ a p xs ks, o = .ref a ∧ i = .ref p ∧ H a = some (.ext (dxP P W a xs)) ∧ KsAt K H xs ∧ SqT K H p (ks.map kV) ∧ xs.length < sizeLine ∧
  ∀ u, RelV v u → Q (upd H a (.ext (dxP P W a (storedH xs ks p u))))
theorem storedH_len (xs : List (List L2.Key × Addr × Value)) (ks : List L2.Key) (p : Addr) (u : Value) : (storedH xs ks p u).length ≤ xs.length + 1 := by
  unfold storedH
  split
  · rw [List.length_map]; omega
  · rw [List.length_append]; exact Nat.le_refl _
theorem set_x (hu : X.A.units + 1 < cLine) : PSet X (rSetX X.prog X.w X.K) := by
  intro pins s σ H o i v ov iv u Q I ro ri rv h
  obtain ⟨a, p, xs, ks, rfl, rfl, e, ke, hp, hl, q⟩ := h
  cases ro
  cases ri
  obtain ⟨z, hd, dd⟩ := dx_of I e ke
  refine wpAny_setItem_heap (hsz := z) (tupleKind_room_in1 hu) (keyT_is I hp) dd fun h' dd' hs => ⟨_, ?_, q u rv⟩
  obtain ⟨ob, es, ep, hq, h2, h3, h4, _, h5⟩ := dd'
  refine d_write I (by rw [e]; exact True.intro) hs ⟨ob, hq⟩ ⟨⟨by have := storedH_len xs ks p u; omega, hd, ob, es, ep, hq, h2, h3, h4, h5⟩, ⟨ob, hq⟩, fun g1 g2 ⟨a1, b1, o1, es1, ep1, e1, r1⟩ k => ⟨a1, b1, o1, es1, ep1, k o1 e1, r1⟩⟩
theorem psetOr {t1 t2 : TSet} (a : PSet X t1) (b : PSet X t2) : PSet X (fun o i v H Q => t1 o i v H Q ∨ t2 o i v H Q) := by
  intro pins s σ H o i v ov iv u Q I ro ri rv h
  rcases h with h | h
  · exact a pins s σ H o i v ov iv u Q I ro ri rv h
  · exact b pins s σ H o i v ov iv u Q I ro ri rv h
def rSetA (P : Program) (W : World) (K : PySem.W.Frag) : TSet := fun o i v H Q => rSetL o i v H Q ∨ (rSetD o i v H Q ∨ rSetX P W K o i v H Q)
theorem set_all (hu : X.A.units + 1 < cLine) : PSet X (rSetA X.prog X.w X.K) := psetOr set_list (psetOr (set_dict hu) (set_x hu))
end
section
variable {K : PySem.W.Frag} {M : Nm} {ca : Nat → Addr} {w w' w1 w2 : Wd} {env env' env1 env2 : Env} {σ : L2.St} {h h' h1 h2 : Hs} {Q : VK} {E : XK} {d u v : D} {ds es : List D} {a b : V} {vs us : List V} {fr : Bool} {O : Addr → Prop}
/-- an object of the small heap is written -/
theorem write_obj (x : SI K M ca env σ h w) {i : Nat} {p : Addr} {o0 o : VO} {ho0 ho : HO} (e0 : getH h i = some o0) (ep : w.rho[i]? = some p) (eh : w.H p = some ho0)
    (hr : ∀ w2 : Wd, Stp (fun _ => False) w w2 → ObR K M ca w2 p o ho) :
    Stp (fun _ => False) w ⟨w.rho, w.S, upd w.H p ho⟩ ∧ SI K M ca env σ (setH o h i) ⟨w.rho, w.S, upd w.H p ho⟩ := by
  have pm : p ∈ w.rho := List.mem_of_getElem? ep
  have st : Stp (fun _ => False) w ⟨w.rho, w.S, upd w.H p ho⟩ := ⟨fun q a _ => ⟨a, fun u e => by
      show upd w.H p ho q = _
      rw [upd_ne fun z => by
        subst z
        obtain ⟨vs, e2⟩ := x.ok.dom q a
        exact (x.ok.rh.no pm e2).1 _ rfl]; exact e⟩, fun q u e nr _ => by
      show upd w.H p ho q = _
      rw [upd_ne (fun z => by subst z; exact nr pm)]; exact e, fun q e => by
      have e : upd w.H p ho q = none := e
      by_cases z : q = p
      · subst z; rw [upd_same] at e; cases e
      · rw [upd_ne z] at e; exact e, ⟨[], by simp, fun _ z => nomatch z⟩, fun q z => .inl z⟩
  have hl : i < h.length := by rw [getH_eq] at e0; exact (List.getElem?_eq_some_iff.mp e0).1
  have ok : WdOk K M ca ⟨w.rho, w.S, upd w.H p ho⟩ (setH o h i) := by
    refine ⟨fun q z => ?_, by rw [setH_eq, List.length_set]; exact x.ok.rh.len, x.ok.rh.nd, fun j ob e => ?_⟩
    · obtain ⟨vs, e⟩ := x.ok.dom q z
      exact ⟨vs, (st.own q z fun y => y).2 _ e⟩
    · rw [getH_eq, setH_eq] at e
      by_cases z : i = j
      · subst z
        rw [List.getElem?_set_self hl] at e
        cases e
        exact ⟨p, ho, ep, upd_same, hr _ st⟩
      · rw [List.getElem?_set_ne z] at e
        obtain ⟨a, ho2, e1, e2, r⟩ := x.ok.rh.ob j ob (by rw [getH_eq]; exact e)
        have na : a ≠ p := fun y => by
          subst y
          have hj := (List.getElem?_eq_some_iff.mp e1)
          have hi := (List.getElem?_eq_some_iff.mp ep)
          exact z ((List.getElem_inj x.ok.rh.nd (h₀ := hi.1) (h₁ := hj.1)).mp (hi.2.trans hj.2.symm))
        refine ⟨a, ho2, e1, by show upd w.H p ho a = _; rw [upd_ne na]; exact e2, ?_⟩
        cases ob with
        | dK kvs => obtain ⟨ks, e, r⟩ := r; exact ⟨ks, e, Paired.imp (fun a b z => ⟨z.1, st.rep x.ok _ _ z.2⟩) r⟩
        | dT kvs => obtain ⟨ks, e, r⟩ := r; exact ⟨ks, e, Paired.imp (fun a b z => ⟨z.1, st.rdT x.ok z.2.1, let ⟨v, r1, r2⟩ := z.2.2; ⟨v, r1, st.rep x.ok _ _ r2⟩⟩) r⟩
        | ins c fs => obtain ⟨dx, fv, e, r⟩ := r; exact ⟨dx, fv, e, Paired.imp (fun a b z => ⟨z.1, st.rep x.ok _ _ z.2⟩) r⟩
  exact ⟨st, x.on0 st ok⟩
theorem KVR.on (st : Stp O w w2) (x : WdOk K M ca w h) {kvs : List (D × D)} {ks : List (L2.Key × V)} (r : KVR K w kvs ks) : KVR K w2 kvs ks := Paired.imp (fun _ _ z => ⟨z.1, st.rep x _ _ z.2⟩) r
theorem KXR.on (st : Stp O w w2) (x : WdOk K M ca w h) {kvs : List (D × D)} {ks : List (List L2.Key × Addr × Value)} (r : KXR K w kvs ks) : KXR K w2 kvs ks := Paired.imp (fun _ _ z => ⟨z.1, st.rdT x z.2.1, let ⟨v, r1, r2⟩ := z.2.2; ⟨v, r1, st.rep x _ _ r2⟩⟩) r
theorem pairedApp {α β : Type} {F : α → β → Prop} : ∀ {l : List α} {m : List β} {a : α} {b : β}, Paired F l m → F a b → Paired F (l ++ [a]) (m ++ [b])
  | _, _, _, _, .nil, h => .cons h .nil
  | _, _, _, _, .cons r t, h => .cons r (pairedApp t h)
theorem dRepK {key : L2.Key} (hk : KeyR d key) {z : D} {y : V} (rz : Rep K w z y) : ∀ {kvs : List (D × D)} {ks : List (L2.Key × V)}, KVR K w kvs ks → KVR K w (dRep d z kvs) (ks.map fun kv => if kv.1 = key then (kv.1, y) else kv)
  | _, _, .nil => .nil
  | (q, x) :: kvs, p :: ks, .cons r t => by
    unfold dRep
    rw [kEq_ok r.1 hk, List.map_cons]
    by_cases e : p.1 = key
    · rw [decide_eq_true e, if_pos e]
      exact .cons ⟨r.1, rz⟩ (dRepK hk rz t)
    · rw [decide_eq_false e, if_neg e]
      exact .cons r (dRepK hk rz t)
/-- a pair put -/
theorem dPutK {key : L2.Key} (hk : KeyR d key) {z : D} {y : V} (rz : Rep K w z y) {kvs : List (D × D)} {ks : List (L2.Key × V)} (r : KVR K w kvs ks) : KVR K w (dPut d z kvs) (putK ks key y) := by
  have g := dGetK hk r
  have a := valV_any key ks
  unfold dPut putK
  cases e : dGet d kvs with
  | none =>
    rw [e] at g
    have g : valV ks key = none := g
    rw [g] at a
    rw [if_neg (by rw [a]; decide)]
    exact pairedApp r ⟨hk, rz⟩
  | some x =>
    rw [e] at g
    obtain ⟨v, g, _⟩ := g
    rw [g] at a
    rw [if_pos (by rw [a]; rfl)]
    exact dRepK hk rz r
theorem dRepT {key : List L2.Key} (hk : KeyT d key) {z : D} {y : V} {uu : Value} (rz : Rep K w z y) (ry : RelV y uu) : ∀ {kvs : List (D × D)} {xs : List (List L2.Key × Addr × Value)}, KXR K w kvs xs → KXR K w (dRep d z kvs) (xs.map (putAt key uu))
  | _, _, .nil => .nil
  | (q, x) :: kvs, t :: xs, .cons r tl => by
    unfold dRep
    rw [kEqT_ok r.1 hk, List.map_cons]
    by_cases e : t.1 = key
    · rw [decide_eq_true e]
      unfold putAt
      rw [if_pos e]
      exact .cons ⟨r.1, r.2.1, y, ry, rz⟩ (dRepT hk rz ry tl)
    · rw [decide_eq_false e]
      unfold putAt
      rw [if_neg e]
      exact .cons r (dRepT hk rz ry tl)
theorem dPutT {key : List L2.Key} {p : Addr} (hk : KeyT d key) (hp : SqT K w.H p (key.map kV)) {z : D} {y : V} {uu : Value} (rz : Rep K w z y) (ry : RelV y uu) {kvs : List (D × D)} {xs : List (List L2.Key × Addr × Value)} (r : KXR K w kvs xs) : KXR K w (dPut d z kvs) (storedH xs key p uu) := by
  have g := dGetT hk r
  unfold dPut storedH
  cases e : dGet d kvs with
  | none =>
    rw [e] at g
    have g : atKey xs key = none := g
    rw [if_neg (by rw [g]; decide)]
    exact pairedApp r ⟨hk, hp, y, ry, rz⟩
  | some x =>
    rw [e] at g
    obtain ⟨p2, v, g, _⟩ := g
    rw [if_pos (by rw [g]; rfl)]
    exact dRepT hk rz ry r
/-- y[q] = d at a dict of the small heap -/
theorem set_dict_ok (x : SI K M ca env σ h w) {i : Nat} {o : VO} {q : D} {c b y : V} {kvs : List (D × D)} (eo : getH h i = some o) (ri : Vw K w (.ref i) c) (rq : Vw K w q b) (rd : Rep K w d y) (hl : kvs.length ≤ 100000)
    (hk : (o = .dK kvs ∧ key1 q = true) ∨ (o = .dT kvs ∧ keyOk true q = true)) {R : Hp → Prop}
    (g : ∀ w' o', Stp (fun _ => False) w w' → SI K M ca env σ (setH o' h i) w' → ((o = .dK kvs ∧ o' = .dK (dPut q d kvs)) ∨ (o = .dT kvs ∧ o' = .dT (dPut q d kvs))) → R w'.H) : rSetA M.prog M.wld K c b y w.H R := by
  unfold Vw Rep at ri
  obtain ⟨p, ep, rfl⟩ := ri
  obtain ⟨p2, ho, e1, e2, r⟩ := x.ok.rh.ob i o eo
  rw [ep] at e1; cases e1
  rcases hk with ⟨rfl, hk⟩ | ⟨rfl, hk⟩
  · obtain ⟨ks, rfl, r⟩ := r
    obtain ⟨key, k1, rfl⟩ := key1_ok hk rq
    obtain ⟨st, y2⟩ := write_obj (o := .dK (dPut q d kvs)) (ho := .dK (putK ks key y)) x eo ep e2 fun w2 s => ⟨_, rfl, dPutK k1 (s.rep x.ok _ _ rd) (KVR.on s x.ok r)⟩
    have hz : ks.length < sizeLine := by have : kvs.length = ks.length := Paired.length r; rw [sizeLine_eq]; omega
    exact .inr (.inl ⟨p, _, rfl, DPut.k e2 hz, g _ _ st y2 (.inl ⟨rfl, rfl⟩)⟩)
  · obtain ⟨xs, rfl, r⟩ := r
    obtain ⟨a, ks, k1, rfl, sq⟩ := keyT_ok hk rq
    obtain ⟨ka, l1, _⟩ := kxr_keys r
    refine .inr (.inr ⟨p, a, xs, ks, rfl, rfl, e2, ka, sq, by rw [sizeLine_eq]; omega, fun u ru => ?_⟩)
    obtain ⟨st, y2⟩ := write_obj (o := .dT (dPut q d kvs)) (ho := .ext (dxP M.prog M.wld p (storedH xs ks a u))) x eo ep e2 fun w2 s => ⟨_, rfl, dPutT k1 (s.rdT x.ok sq) (s.rep x.ok _ _ rd) ru (KXR.on s x.ok r)⟩
    exact g _ _ st y2 (.inr ⟨rfl, rfl⟩)
end
end Ev
/-! Soundness of the small interpreter, 29: assignments. -/
namespace Ev
open PySem PySem.Spec PyProof.Rows L2
section
variable {X : Cx} {M : Nm} {T : Tab} {fa ca : Nat → Addr} {fds : Nat → FuncData} {pss : Nat → List Str} {N : List Str} {sc : Scope} {k n : Nat} {E : XK} {r : Self}
variable {w w' w1 w2 : Wd} {env env' env1 env2 : Env} {σ : L2.St} {h h' h1 h2 : Hs} {Q : VK} {d : D} {ds : List D} {v : V} {vs : List V} {O : Addr → Prop}
theorem nb {b : Bool} (h : (!b) = true) : b = false := by cases b <;> first | rfl | cases h
def stE : Expr → Bool
  | .Starred .. => true
  | _ => false
theorem sw_pair {x y : Str} {px py pt : Pos} {a b : Expr} {kt k2 : Nat} {pt2 : Pos} {env : PySem.Env} (hk : env.scope.kind = .function) (hx : env.scope.names.lookup x = some .local) (hy : env.scope.names.lookup y = some .local) (hl : (px.line == py.line) = true) (hne : (x == y) = false)
    (ha : stE a = false) (hb2 : stE b = false) (hf : ([a, b].all (foldedForSure 8)) = false) (hc : ([a, b].all (constantsAlone 8)) = false) :
    swappedStores [.Tuple [.Name x px, .Name y py] kt pt] (.Tuple [a, b] k2 pt2) env = Pure.pure (some [x, y]) := by
  have kx : env.kindOf x = some .local := hx
  have ky : env.kindOf y = some .local := hy
  have hb : env.blockKind = .function := by unfold PySem.Env.blockKind; rw [hk]; rfl
  have hl2 : py.line = px.line := (beq_iff_eq.mp hl).symm
  have hne2 : ¬ x = y := fun z => by rw [z] at hne; simp at hne
  have hne3 : ¬ y = x := fun z => hne2 z.symm
  unfold swappedStores
  simp only [List.length_cons, List.length_nil, hb, List.head?_cons, Option.map_some, Option.getD_some, Expr.pos, List.filterMap_cons, kx, ky, hl2, List.filterMap_nil]
  simp [hf, hc, List.eraseDups_cons, hne2, hne3]
  intro z
  rcases z with z | z
  · have z2 : stE a = true := z
    rw [ha] at z2; cases z2
  · have z2 : stE b = true := z
    rw [hb2] at z2; cases z2
theorem sw_nums {env : PySem.Env} {ts : List Expr} {a b : Ex} {k1 k2 : Nat} {p1 p2 : Pos} (ha : isNum a = true) (hb : isNum b = true) : swappedStores [.Tuple ts k1 p1] (.Tuple [dec M N a, dec M N b] k2 p2) env = Pure.pure none := by
  cases a <;> first | cases ha | skip
  cases b <;> first | cases hb | skip
  unfold swappedStores
  simp only
  split
  · rfl
  · split
    · rfl
    · split
      · rfl
      · rw [if_pos (by rfl)]
theorem sws_false {tg : Expr} {x : Ex} {l : Nat} {env : PySem.Env} (h : noComp x = true) : swapsWith (dec M N x) (some tg) l env = Pure.pure false := by cases x <;> first | rfl | cases h
theorem sws_tup {ts : List Expr} {k1 : Nat} {p1 : Pos} {x : Ex} {l : Nat} {env : PySem.Env} : swapsWithSole [.Tuple ts k1 p1] (dec M N x) l env = Pure.pure false := by cases x <;> rfl
theorem sws_sub {o i : Expr} {p1 : Pos} {x : Ex} {l : Nat} {env : PySem.Env} : swapsWithSole [.Subscript o i p1] (dec M N x) l env = Pure.pure false := by cases x <;> rfl
/-- a list of one's own stored, whose address no slot has -/
theorem put_core {K : PySem.W.Frag} (x : SI K M ca env σ h w) {i : Nat} {p : Addr} {us : List V} (hi : i < env.length) (np : ∀ j, 2 ≤ tag (getS env j) → σ[j]? ≠ some (some (.ref p))) (sp : w.S p) (ep : w.H p = some (.lst us)) (rp : Reps K w ds us) :
    SI K M ca (setS (.l ds) env i) (σ.set i (some (.ref p))) h w ∧ ∀ a, Own (setS (.l ds) env i) (σ.set i (some (.ref p))) a → a = p ∨ Own env σ a := by
  have hl : i < σ.length := by rw [← x.re.len]; exact hi
  have cs : ∀ j b, 2 ≤ tag (getS (setS (.l ds) env i) j) → (σ.set i (some (.ref p)))[j]? = some (some (.ref b)) → (i = j ∧ b = p) ∨ (i ≠ j ∧ 2 ≤ tag (getS env j) ∧ σ[j]? = some (some (.ref b)) ∧ b ≠ p) := fun j b t e => by
    by_cases z : i = j
    · subst z
      rw [List.getElem?_set_self hl] at e
      cases e
      exact .inl ⟨rfl, rfl⟩
    · rw [set_tag hi, if_neg z] at t
      rw [List.getElem?_set_ne z] at e
      exact .inr ⟨z, t, e, fun y => np j t (y ▸ e)⟩
  refine ⟨⟨x.ok, by rw [setS_len, List.length_set]; exact x.re.len, fun j => ?_, fun j m b hj hm ej em => ?_⟩, fun q ⟨j, hj, ej⟩ => ?_⟩
  · by_cases e : i = j
    · subst e
      rw [getS_set_same hi]
      exact ⟨p, us, List.getElem?_set_self hl, sp, ep, rp⟩
    · rw [getS_set_ne e, List.getElem?_set_ne e]
      exact x.re.sl j
  · rcases cs j b hj ej with ⟨e1, e2⟩ | ⟨e1, e2, e3, e4⟩ <;> rcases cs m b hm em with ⟨f1, f2⟩ | ⟨f1, f2, f3, f4⟩
    · exact e1.symm.trans f1
    · exact absurd e2 f4
    · exact absurd f2 e4
    · exact x.re.one j m b e2 f2 e3 f3
  · have t : 2 ≤ tag (getS (setS (.l ds) env i) j) := by rw [isL_tag.mp hj]; exact Nat.le_refl 2
    rcases cs j q t ej with ⟨e1, e2⟩ | ⟨e1, e2, e3, e4⟩
    · exact .inl e2
    · rw [getS_set_ne e1] at hj
      exact .inr ⟨j, hj, e3⟩
theorem put_len (env : Env) (i : Nat) (d : D) (fr : Bool) : (put env i d fr).length = env.length := by unfold put; split <;> exact setS_len _ _ _
/-- name = value -/
theorem s_asgV (C : XC X M T fa ca fds pss N sc k E) (A : AllOk M T fa ca fds pss N k r) (hv : VarOk r) {i : Nat} {pv p : Pos} {x : Ex} (wt : wfT N sc (fun _ => true) 4 (.var i pv) = true) (wx : wfE M N sc x = true)
    (hx : PS X (.Assign [dec M N (.var i pv)] (dec M N x) p) (tAsg (tE X.K M ca E fun env h => r.e k env h x) (gName i))) : Oks X M ca N k E (F T r) (.asg (.var i pv) x p) := by
  have wf2 : (decide (i < N.length) && isLocK (sc.names.lookup (N.getD i "")) && ((fun _ : Str => true) (N.getD i "") || decide (sc.names.lookup (N.getD i "") = some .local))) = true := by unfold wfT at wt; exact wt
  have hl : i < N.length := of_decide_eq_true (ba (ba wf2).1).1
  refine ⟨fun pins s σ H D I z => hx.run pins s σ H D I ?_⟩
  obtain ⟨w, env, h, rfl, x0, g⟩ := z
  have hi : i < env.length := by rw [x0.re.len, I.len, C.hN]; exact hl
  have g : pSt X.K M ca D E w env σ (match r.e k env h x with
        | .ok d fr env1 h1 => .nx (put env1 i d fr) h1
        | .ex c d h => .ex c d h
        | .no => .no) := g
  refine ⟨w, env, h, rfl, x0, ?_⟩
  show pE X.K M ca E w env σ _ (r.e k env h x)
  cases e : r.e k env h x with
  | no => simp only [e] at g; exact g
  | ex c d h' => simp only [e] at g; exact g
  | ok d fr env1 h1 =>
    simp only [e] at g
    intro w1 v s1 l y rv
    obtain ⟨y2, st2⟩ := put_ok2 x0 l s1 y hi rv
    exact g w1 _ st2 y2
theorem loc_get {i : Nat} {pv : Pos} (hN : X.N = N) (wt : wfT N sc (fun _ => true) 4 (.var i pv) = true) : i < N.length ∧ X.N[i]? = some (N.getD i "") ∧ L2.Loc sc (N.getD i "") := by
  have wf2 : (decide (i < N.length) && isLocK (sc.names.lookup (N.getD i "")) && ((fun _ : Str => true) (N.getD i "") || decide (sc.names.lookup (N.getD i "") = some .local))) = true := by unfold wfT at wt; exact wt
  obtain ⟨wf3, w3⟩ := ba wf2
  obtain ⟨w1, w2⟩ := ba wf3
  have hl : i < N.length := of_decide_eq_true w1
  refine ⟨hl, by rw [hN, List.getD_eq_getElem?_getD, List.getElem?_eq_getElem hl]; rfl, loc_of w2⟩
/-- a target of several names -/
theorem s_asgG (ft : ∀ x, X.fn x = true) (C : XC X M T fa ca fds pss N sc k E) (IH : ∀ x, wfE M N sc x = true → Okx X M ca N k E r x) {ts : List Ex} {kt : Nat} {pt p : Pos} {x : Ex} (wt : wfT N sc (fun _ => true) 4 (.tup ts kt pt) = true) (wx : wfE M N sc x = true)
    (hw : swappedStores [dec M N (.tup ts kt pt)] (dec M N x) X.env = Pure.pure none) (hF : ∀ env h, (F T r).s k env h (.asg (.tup ts kt pt) x p) = (match r.e k env h x with
          | .ok d _ env1 h1 => (match tg 4 (.tup ts kt pt) d env1 with | some env2 => .nx env2 h1 | none => .no)
          | .ex c d h => .ex c d h
          | .no => .no)) : Oks X M ca N k E (F T r) (.asg (.tup ts kt pt) x p) := by
  refine PS.imp (ps_asg (IH x wx) (pg_ok (M := M) (ca := ca) (fn := fun _ => true) C.hN C.nd C.hs C.calm (fun x _ => ft x) 4 _ wt) sws_tup hw rfl) fun D σ H z => ?_
  obtain ⟨w, env, h, rfl, x0, g⟩ := z
  have g : pSt X.K M ca D E w env σ ((F T r).s k env h (.asg (.tup ts kt pt) x p)) := g
  rw [hF] at g
  refine ⟨w, env, h, rfl, x0, pE_of_pS x0 ?_⟩
  show pS X.K M ca E w env σ _ (r.e k env h x)
  cases e : r.e k env h x with
  | no => simp only [e] at g; exact g
  | ex c d h' => simp only [e] at g; exact g
  | ok d fr env1 h1 =>
    simp only [e] at g
    intro w1 v s1 l y rv
    cases e1 : tg 4 (.tup ts kt pt) d env1 with
    | none => simp only [e1] at g; exact g.elim
    | some env2 =>
      simp only [e1] at g
      exact ⟨w1, env1, h1, d, env2, rfl, y, rv, e1, fun σ2 y2 st _ => g w1 σ2 ((Stq.of s1 l).trans x0 st) y2⟩
/-- two names, two values -/
theorem s_asgP (C : XC X M T fa ca fds pss N sc k E) (IH : ∀ x, wfE M N sc x = true → Okx X M ca N k E r x) {i j : Nat} {pi pj pt p p2 : Pos} {kt k2 : Nat} {x1 x2 : Ex} (wt : wfT N sc (fun _ => true) 4 (.tup [.var i pi, .var j pj] kt pt) = true) (w1 : wfE M N sc x1 = true) (w2 : wfE M N sc x2 = true)
    (hn : (isNum x1 && isNum x2) = false)
    (hc : (decide (i ≠ j) && decide (sc.names.lookup (N.getD i "") = some .local) && decide (sc.names.lookup (N.getD j "") = some .local) && (match sc.kind with | .function => true | _ => false) && (pi.line == pj.line) && !(N.getD i "" == N.getD j "") &&
          !([dec M N x1, dec M N x2].all (foldedForSure 8)) && !([dec M N x1, dec M N x2].all (constantsAlone 8)) && noStar [x1, x2]) = true) : Oks X M ca N k E (F T r) (.asg (.tup [.var i pi, .var j pj] kt pt) (.tup [x1, x2] k2 p2) p) := by
  obtain ⟨c1, ns⟩ := ba hc
  obtain ⟨c2, hca⟩ := ba c1
  obtain ⟨c3, hff⟩ := ba c2
  obtain ⟨c4, hne⟩ := ba c3
  obtain ⟨c5, hl⟩ := ba c4
  obtain ⟨c6, hk⟩ := ba c5
  obtain ⟨c7, hy⟩ := ba c6
  obtain ⟨hij, hx⟩ := ba c7
  have hij : i ≠ j := of_decide_eq_true hij
  have wt2 : ([Ex.var i pi, Ex.var j pj].all (wfT N sc (fun _ => true) 3)) = true := by unfold wfT at wt; exact wt
  have wti : wfT N sc (fun _ => true) 4 (.var i pi) = true := by rw [List.all_cons, Bool.and_eq_true] at wt2; have := wt2.1; unfold wfT at this ⊢; exact this
  have wtj : wfT N sc (fun _ => true) 4 (.var j pj) = true := by rw [List.all_cons, Bool.and_eq_true, List.all_cons, Bool.and_eq_true] at wt2; have := wt2.2.1; unfold wfT at this ⊢; exact this
  obtain ⟨li, gi, _⟩ := loc_get (X := X) C.hN wti
  have loi := of_decide_eq_true hx
  obtain ⟨lj, gj, _⟩ := loc_get (X := X) C.hN wtj
  have loj := of_decide_eq_true hy
  have fk : sc.kind = .function := by revert hk; cases sc.kind <;> intro hk <;> first | rfl | cases hk
  have st : ∀ {x : Ex} {xs : List Ex}, noStar (x :: xs) = true → stE (dec M N x) = false := fun {x xs} h => by cases x <;> first | rfl | cases h
  have sw := sw_pair (a := dec M N x1) (b := dec M N x2) (kt := kt) (k2 := k2) (pt := pt) (pt2 := p2) (px := pi) (py := pj) (env := X.env) (by rw [C.hs]; exact fk) (by rw [C.hs]; exact loi) (by rw [C.hs]; exact loj) hl (nb hne) (st ns) (st (noStar_t ns)) (nb hff) (nb hca)
  refine ⟨fun pins s σ H D I z => (ps_par (X := X) (pos := p) C.calm (by rw [C.hN]; exact C.nd) gi gj hij (by rw [C.hs]; exact loi) (by rw [C.hs]; exact loj) (pa_cons (IH x1 w1) (pa_cons (IH x2 w2) pa_nil (star1 (noStar_t ns))) (star1 ns)) sw rfl).run pins s σ H D I ?_⟩
  obtain ⟨w, env, h, rfl, x0, g⟩ := z
  have hi : i < env.length := by rw [x0.re.len, I.len, C.hN]; exact li
  have hj : j < env.length := by rw [x0.re.len, I.len, C.hN]; exact lj
  have g : pSt X.K M ca D E w env σ (match r.e k env h x1 with
          | .ok d1 fr1 env1 h1 => (match r.e k env1 h1 x2 with
            | .ok d2 fr2 env2 h2 => .nx (put (put env2 i d1 fr1) j d2 fr2) h2
            | .ex c d h => .ex c d h
            | .no => .no)
          | .ex c d h => .ex c d h
          | .no => .no) := by
    have g : pSt X.K M ca D E w env σ (match isNum x1 && isNum x2 with
         | true => (match r.e k env h (.tup [x1, x2] k2 p2) with
          | .ok d _ env1 h1 => (match tg 4 (.tup [.var i pi, .var j pj] kt pt) d env1 with | some env2 => .nx env2 h1 | none => .no)
          | .ex c d h => .ex c d h
          | .no => .no)
         | false => (match r.e k env h x1 with
          | .ok d1 fr1 env1 h1 => (match r.e k env1 h1 x2 with
            | .ok d2 fr2 env2 h2 => .nx (put (put env2 i d1 fr1) j d2 fr2) h2
            | .ex c d h => .ex c d h
            | .no => .no)
          | .ex c d h => .ex c d h
          | .no => .no)) := g
    rw [hn] at g
    exact g
  refine ⟨w, env, h, rfl, x0, ?_⟩
  show pE X.K M ca E w env σ _ (r.e k env h x1)
  cases e : r.e k env h x1 with
  | no => simp only [e] at g; exact g
  | ex c d h' => simp only [e] at g; exact g
  | ok d1 fr1 env1 h1 =>
    simp only [e] at g
    intro wa v1 s1 l1 y1 r1
    have g0 : ∀ {d2 : Ev.D} {fr2 : Bool} {env2 : Env} {h2 : Hs}, r.e k env1 h1 x2 = .ok d2 fr2 env2 h2 → pSt X.K M ca D E w env σ (.nx (put (put env2 i d1 fr1) j d2 fr2) h2) := fun {d2 fr2 env2 h2} e2 => by
      simp only [e2] at g; exact g
    replace g := g.step x0 (Stq.of s1 l1)
    refine ⟨wa, env1, h1, rfl, y1, ?_⟩
    show pE X.K M ca E wa env1 σ _ (r.e k env1 h1 x2)
    cases e2 : r.e k env1 h1 x2 with
    | no => simp only [e2] at g; exact g
    | ex c d h' => simp only [e2] at g; exact g
    | ok d2 fr2 env2 h2 =>
      simp only [e2] at g
      intro wb v2 s2 l2 y2 r2
      refine ⟨v1, v2, rfl, ?_⟩
      have r1b := r1.stay x0 y1 l1 s2
      obtain ⟨yA, stA⟩ := put_ok2 x0 (l1.trans l2) (x0.trans s1 l1 s2) y2 hi r1b
      have hjA : j < (put env2 i d1 fr1).length := by rw [put_len, l2.1, l1.1]; exact hj
      have g2 : pSt X.K M ca D E w env σ (.nx (put (put env2 i d1 fr1) j d2 fr2) h2) := g0 e2
      cases fr2 with
      | false =>
        obtain ⟨yB, stB⟩ := put_v yA hjA r2
        have e3 : put (put env2 i d1 fr1) j d2 false = setS (.v d2) (put env2 i d1 fr1) j := by cases d2 <;> rfl
        rw [e3] at g2
        exact g2 wb _ (stA.trans x0 stB) yB
      | true =>
        obtain ⟨p2, us, ds, rfl, rfl, sp, ep, rp, np⟩ := r2
        obtain ⟨yB, owB⟩ := put_core yA hjA (fun m tm em => by
          by_cases z : i = m
          · subst z
            cases fr1 with
            | false =>
              have e4 : put env2 i d1 false = setS (.v d1) env2 i := by cases d1 <;> rfl
              rw [e4, getS_set_same (by rw [l2.1, l1.1]; exact hi)] at tm
              exact absurd tm (show ¬ 2 ≤ 1 by decide)
            | true =>
              obtain ⟨p1, us1, ds1, rfl, rfl, sp1, ep1, rp1, np1⟩ := r1
              rw [List.getElem?_set_self (by rw [← x0.re.len]; exact hi)] at em
              cases em
              rw [ep1] at np; cases np
          · have e5 : getS (put env2 i d1 fr1) m = getS env2 m := by unfold put; split <;> exact getS_set_ne z
            rw [e5] at tm
            rw [List.getElem?_set_ne z] at em
            exact y1.ok.ne (y1.sS (l2.ge tm) em) np) sp ep rp
        refine g2 wb _ ⟨stA.st, fun a o => ?_, by show (setS _ _ _).length = _; rw [setS_len]; exact stA.ln⟩ yB
        rcases owB a o with z | z
        · exact .inr (z ▸ s1.there p2 np)
        · exact stA.ow a z
end
end Ev
/-! Soundness of the small interpreter, 30: assignments to items and fields; every statement. -/
namespace Ev
open PySem PySem.Spec PyProof.Rows L2
section
variable {X : Cx} {M : Nm} {T : Tab} {fa ca : Nat → Addr} {fds : Nat → FuncData} {pss : Nat → List Str} {N : List Str} {sc : Scope} {k n : Nat} {E : XK} {r : Self}
variable {w w' w1 w2 : Wd} {env env' env1 env2 : Env} {σ : L2.St} {h h' h1 h2 : Hs} {Q : VK} {d : D} {ds : List D} {v : V} {vs : List V} {O : Addr → Prop}
theorem s_idxV (C : XC X M T fa ca fds pss N sc k E) (IH : ∀ x, wfE M N sc x = true → Okx X M ca N k E r x) {i : Nat} {pv pt p : Pos} {y x : Ex} (wi : wfE M N sc (.var i pv) = true) (wy : wfE M N sc y = true) (wx : wfE M N sc x = true) :
    Oks X M ca N k E (F T r) (.asg (.idx (.var i pv) y pt) x p) := by
  refine PS.imp (ps_asg (IH x wx) (pg_sub (pv_of C wi) (IH y wy) (set_all (by have := C.un; omega)) (by cases y <;> (intro _; rfl))) sws_sub rfl rfl) fun De σ H z => ?_
  obtain ⟨w, env, h, rfl, x0, g⟩ := z
  have g : pSt X.K M ca De E w env σ (match r.e k env h x with
        | .ok d _ env1 h1 => (match getS env1 i with
          | .l _ => (match r.e k env1 h1 y with
            | .ok (.int j) _ env2 h2 => (match getS env2 i with
              | .l ds => (match ixOf ds.length j with | some n => .nx (setS (.l (setAt d n ds)) env2 i) h2 | none => .no)
              | _ => .no)
            | .ex c d h => .ex c d h
            | _ => .no)
          | .v (.ref o) => (match r.e k env1 h1 y with
            | .ok q _ env2 h2 => (match getH h2 o with
              | some (.dK kvs) => (match keyOk false q, Nat.ble kvs.length 100000 with | true, true => .nx env2 (setH (.dK (dPut q d kvs)) h2 o) | _, _ => .no)
              | some (.dT kvs) => (match keyOk true q, Nat.ble kvs.length 100000 with | true, true => .nx env2 (setH (.dT (dPut q d kvs)) h2 o) | _, _ => .no)
              | _ => .no)
            | .ex c d h => .ex c d h
            | .no => .no)
          | _ => .no)
        | .ex c d h => .ex c d h
        | .no => .no) := g
  refine ⟨w, env, h, rfl, x0, pE_of_pS x0 ?_⟩
  show pS X.K M ca E w env σ _ (r.e k env h x)
  cases e : r.e k env h x with
  | no => simp only [e] at g; exact g
  | ex c d h' => simp only [e] at g; exact g
  | ok d fr env1 h1 =>
    simp only [e] at g
    intro w1 v s1 l1 y1 rv
    replace g := g.step x0 (Stq.of s1 l1)
    cases hs : getS env1 i with
    | u => simp only [hs] at g; exact g.elim
    | k _ => simp only [hs] at g; exact g.elim
    | l ds0 =>
      simp only [hs] at g
      obtain ⟨q0, vs0, eq0, _, _, _⟩ := own_at y1 hs
      refine ⟨.ref q0, eq0, w1, env1, h1, rfl, y1, ?_⟩
      show pE X.K M ca E w1 env1 σ _ (r.e k env1 h1 y)
      cases e2 : r.e k env1 h1 y with
      | no => simp only [e2] at g; exact g
      | ex c d h' => simp only [e2] at g; exact g
      | ok dj fr2 env2 h2 =>
        cases dj <;> simp only [e2] at g <;> first | exact g.elim | skip
        rename_i j
        intro w2 v2 s2 l2 y2 rj
        have rj := (Vw.of_rv rj).int
        cases hs2 : getS env2 i with
        | l ds =>
          simp only [hs2] at g
          cases hx : ixOf ds.length j with
          | none => simp only [hx] at g; exact g.elim
          | some m =>
            simp only [hx] at g
            obtain ⟨q, us, eq, _, eh, rs⟩ := own_at y2 hs2
            rw [eq0] at eq; cases eq
            rw [setAt_eq] at g
            obtain ⟨s3, l3, y3⟩ := write_own y2 hs2 eq0 (Reps.set (s2.rep y1.ok _ _ rv) m rs)
            refine .inl ⟨q0, us, j, m, rfl, rj, eh, by rw [ixOf_eq, ← rs.length] at hx; exact hx, ?_⟩
            exact g ⟨w2.rho, w2.S, upd w2.H q0 (.lst (us.set m v))⟩ σ (Stq.of (y1.trans s2 l2 s3) (l2.trans l3)) y3
        | _ => simp only [hs2] at g; exact g.elim
    | v dv =>
      cases dv <;> simp only [hs] at g <;> first | exact g.elim | skip
      rename_i o
      have q := y1.re.sl i
      rw [hs] at q
      obtain ⟨vo, eo, ro⟩ := q
      refine ⟨vo, eo, w1, env1, h1, rfl, y1, pE_of_pS y1 ?_⟩
      show pS X.K M ca E w1 env1 σ _ (r.e k env1 h1 y)
      cases e2 : r.e k env1 h1 y with
      | no => simp only [e2] at g; exact g
      | ex c d h' => simp only [e2] at g; exact g
      | ok qd fr2 env2 h2 =>
        simp only [e2] at g
        intro w2 v2 s2 l2 y2 rq
        rw [C.hp, C.hw]
        have ro2 := s2.rep y1.ok _ _ ro
        have rv2 := s2.rep y1.ok _ _ rv
        have fin : ∀ (ob : VO) (kvs : List (Ev.D × Ev.D)), getH h2 o = some ob → Nat.ble kvs.length 100000 = true → ((ob = .dK kvs ∧ key1 qd = true) ∨ (ob = .dT kvs ∧ keyOk true qd = true)) →
            (∀ o', ((ob = .dK kvs ∧ o' = .dK (dPut qd d kvs)) ∨ (ob = .dT kvs ∧ o' = .dT (dPut qd d kvs))) → pSt X.K M ca De E w1 env1 σ (.nx env2 (setH o' h2 o))) → rSetA M.prog M.wld X.K vo v2 v w2.H fun H3 => De.nx σ H3 := fun ob kvs eb hl hk g =>
          set_dict_ok y2 eb ro2 (Vw.of_rep rq) rv2 (Nat.le_of_ble_eq_true hl) hk fun w' o' st y' ho => g o' ho w' σ (Stq.of (y1.trans s2 l2 st.le) l2) y'
        cases eb : getH h2 o with
        | none => simp only [eb] at g; exact g.elim
        | some ob => cases ob with
          | ins c fs => simp only [eb] at g; exact g.elim
          | dK kvs =>
            cases hk : keyOk false qd with
            | false => simp only [eb, hk] at g; exact g.elim
            | true => cases hl : Nat.ble kvs.length 100000 with
              | false => simp only [eb, hk, hl] at g; exact g.elim
              | true =>
                simp only [eb, hk, hl] at g
                exact fin _ kvs eb hl (.inl ⟨rfl, hk⟩) fun o' ho => by
                  rcases ho with ⟨_, rfl⟩ | ⟨z, _⟩
                  · exact g
                  · cases z
          | dT kvs =>
            cases hk : keyOk true qd with
            | false => simp only [eb, hk] at g; exact g.elim
            | true => cases hl : Nat.ble kvs.length 100000 with
              | false => simp only [eb, hk, hl] at g; exact g.elim
              | true =>
                simp only [eb, hk, hl] at g
                exact fin _ kvs eb hl (.inr ⟨rfl, hk⟩) fun o' ho => by
                  rcases ho with ⟨z, _⟩ | ⟨_, rfl⟩
                  · cases z
                  · exact g
theorem s_idxF (C : XC X M T fa ca fds pss N sc k E) (IH : ∀ x, wfE M N sc x = true → Okx X M ca N k E r x) {f : Nat} {o0 : Ex} {pa pt p : Pos} {y x : Ex} (wi : wfE M N sc (.att o0 f pa) = true) (wy : wfE M N sc y = true) (wx : wfE M N sc x = true) :
    Oks X M ca N k E (F T r) (.asg (.idx (.att o0 f pa) y pt) x p) := by
  refine PS.imp (ps_asg (IH x wx) (pg_sub (IH _ wi) (IH y wy) (set_all (by have := C.un; omega)) (by cases y <;> (intro _; rfl))) sws_sub rfl rfl) fun De σ H z => ?_
  obtain ⟨w, env, h, rfl, x0, g⟩ := z
  have g : pSt X.K M ca De E w env σ (match r.e k env h x with
        | .ok d _ env1 h1 => (match r.e k env1 h1 (.att o0 f pa) with
          | .ok (.ref o) _ env2 h2 => (match r.e k env2 h2 y with
            | .ok q _ env3 h3 => (match getH h3 o with
              | some (.dK kvs) => (match keyOk false q, Nat.ble kvs.length 100000 with | true, true => .nx env3 (setH (.dK (dPut q d kvs)) h3 o) | _, _ => .no)
              | some (.dT kvs) => (match keyOk true q, Nat.ble kvs.length 100000 with | true, true => .nx env3 (setH (.dT (dPut q d kvs)) h3 o) | _, _ => .no)
              | _ => .no)
            | .ex c d h => .ex c d h
            | .no => .no)
          | .ex c d h => .ex c d h
          | _ => .no)
        | .ex c d h => .ex c d h
        | .no => .no) := g
  refine ⟨w, env, h, rfl, x0, pE_of_pS x0 ?_⟩
  show pS X.K M ca E w env σ _ (r.e k env h x)
  cases e : r.e k env h x with
  | no => simp only [e] at g; exact g
  | ex c d h' => simp only [e] at g; exact g
  | ok d fr env1 h1 =>
    simp only [e] at g
    intro w1 v s1 l1 y1 rv
    replace g := g.step x0 (Stq.of s1 l1)
    refine ⟨w1, env1, h1, rfl, y1, ?_⟩
    show pE X.K M ca E w1 env1 σ _ (r.e k env1 h1 (.att o0 f pa))
    cases e1 : r.e k env1 h1 (.att o0 f pa) with
    | no => simp only [e1] at g; exact g
    | ex c d h' => simp only [e1] at g; exact g
    | ok od fr1 env2 h2 =>
      cases od <;> simp only [e1] at g <;> first | exact g.elim | skip
      rename_i o
      intro w2 vo s2 l2 y2 ro
      have ro := Vw.of_rv ro
      have rv2 := s2.rep y1.ok _ _ rv
      replace g := g.step y1 (Stq.of s2 l2)
      refine ⟨w2, env2, h2, rfl, y2, pE_of_pS y2 ?_⟩
      show pS X.K M ca E w2 env2 σ _ (r.e k env2 h2 y)
      cases e2 : r.e k env2 h2 y with
      | no => simp only [e2] at g; exact g
      | ex c d h' => simp only [e2] at g; exact g
      | ok qd fr2 env3 h3 =>
        simp only [e2] at g
        intro w3 v2 s3 l3 y3 rq
        rw [C.hp, C.hw]
        have ro3 : Vw X.K w3 (.ref o) vo := s3.rep y2.ok _ _ ro
        have rv3 := s3.rep y2.ok _ _ rv2
        have fin : ∀ (ob : VO) (kvs : List (Ev.D × Ev.D)), getH h3 o = some ob → Nat.ble kvs.length 100000 = true → ((ob = .dK kvs ∧ key1 qd = true) ∨ (ob = .dT kvs ∧ keyOk true qd = true)) →
            (∀ o', ((ob = .dK kvs ∧ o' = .dK (dPut qd d kvs)) ∨ (ob = .dT kvs ∧ o' = .dT (dPut qd d kvs))) → pSt X.K M ca De E w2 env2 σ (.nx env3 (setH o' h3 o))) → rSetA M.prog M.wld X.K vo v2 v w3.H fun H3 => De.nx σ H3 := fun ob kvs eb hl hk g =>
          set_dict_ok y3 eb ro3 (Vw.of_rep rq) rv3 (Nat.le_of_ble_eq_true hl) hk fun w' o' st y' ho => g o' ho w' σ (Stq.of (y2.trans s3 l3 st.le) l3) y'
        cases eb : getH h3 o with
        | none => simp only [eb] at g; exact g.elim
        | some ob => cases ob with
          | ins c fs => simp only [eb] at g; exact g.elim
          | dK kvs =>
            cases hk : keyOk false qd with
            | false => simp only [eb, hk] at g; exact g.elim
            | true => cases hl : Nat.ble kvs.length 100000 with
              | false => simp only [eb, hk, hl] at g; exact g.elim
              | true =>
                simp only [eb, hk, hl] at g
                exact fin _ kvs eb hl (.inl ⟨rfl, hk⟩) fun o' ho => by
                  rcases ho with ⟨_, rfl⟩ | ⟨z, _⟩
                  · exact g
                  · cases z
          | dT kvs =>
            cases hk : keyOk true qd with
            | false => simp only [eb, hk] at g; exact g.elim
            | true => cases hl : Nat.ble kvs.length 100000 with
              | false => simp only [eb, hk, hl] at g; exact g.elim
              | true =>
                simp only [eb, hk, hl] at g
                exact fin _ kvs eb hl (.inr ⟨rfl, hk⟩) fun o' ho => by
                  rcases ho with ⟨z, _⟩ | ⟨_, rfl⟩
                  · cases z
                  · exact g
theorem fPut_ok {K : PySem.W.Frag} {f : Nat} (inj : ∀ g', M.fl g' = M.fl f → g' = f) (rd : Rep K w d v) : ∀ {fs : List (Nat × D)} {fv : List (Str × V)}, FlR K M w fs fv → FlR K M w (fPut f d fs) (putF (M.fl f) v fv)
  | _, _, .nil => .cons ⟨rfl, rd⟩ .nil
  | (g, x) :: fs, q :: fv, .cons r t => by
    obtain ⟨r1, r2⟩ := r
    obtain ⟨qn, qv⟩ := q
    have r1 : qn = M.fl g := r1
    unfold fPut putF
    rw [nbeq]
    by_cases z : g = f
    · rw [decide_eq_true z, if_pos (by rw [r1, z])]
      exact .cons ⟨r1, rd⟩ t
    · rw [decide_eq_false z, if_neg (fun y => z (inj g (by rw [← r1]; exact y)))]
      exact .cons ⟨r1, r2⟩ (fPut_ok inj rd t)
theorem s_att (C : XC X M T fa ca fds pss N sc k E) (IH : ∀ x, wfE M N sc x = true → Okx X M ca N k E r x) {f : Nat} {o0 : Ex} {pt p : Pos} {x : Ex} (wo : wfE M N sc o0 = true) (wx : wfE M N sc x = true) (nc : noComp x = true) :
    Oks X M ca N k E (F T r) (.asg (.att o0 f pt) x p) := by
  refine PS.imp (ps_fld (IH o0 wo) (IH x wx) (sws_false nc)) fun De σ H z => ?_
  obtain ⟨w, env, h, rfl, x0, g⟩ := z
  have g : pSt X.K M ca De E w env σ (match r.e k env h x with
        | .ok d _ env1 h1 => (match r.e k env1 h1 o0 with
          | .ok (.ref o) _ env2 h2 => (match getH h2 o with
            | some (.ins c fs) => (match T.att c f, Nat.blt fs.length 900 with | true, true => .nx env2 (setH (.ins c (fPut f d fs)) h2 o) | _, _ => .no)
            | _ => .no)
          | .ex c d h => .ex c d h
          | _ => .no)
        | .ex c d h => .ex c d h
        | .no => .no) := g
  refine ⟨w, env, h, rfl, x0, pE_of_pS x0 ?_⟩
  show pS X.K M ca E w env σ _ (r.e k env h x)
  cases e : r.e k env h x with
  | no => simp only [e] at g; exact g
  | ex c d h' => simp only [e] at g; exact g
  | ok d fr env1 h1 =>
    simp only [e] at g
    intro w1 v s1 l1 y1 rv
    replace g := g.step x0 (Stq.of s1 l1)
    refine ⟨w1, env1, h1, rfl, y1, ?_⟩
    show pE X.K M ca E w1 env1 σ _ (r.e k env1 h1 o0)
    cases e1 : r.e k env1 h1 o0 with
    | no => simp only [e1] at g; exact g
    | ex c d h' => simp only [e1] at g; exact g
    | ok od fr1 env2 h2 =>
      cases od <;> simp only [e1] at g <;> first | exact g.elim | skip
      rename_i o
      intro w2 vo s2 l2 y2 ro
      have rr : Rep X.K w2 (.ref o) vo := Vw.of_rv ro
      unfold Rep at rr
      obtain ⟨a, ea, rfl⟩ := rr
      have rv2 := s2.rep y1.ok _ _ rv
      cases eb : getH h2 o with
      | none => simp only [eb] at g; exact g.elim
      | some ob => cases ob with
        | dK _ => simp only [eb] at g; exact g.elim
        | dT _ => simp only [eb] at g; exact g.elim
        | ins c fs =>
          cases ht : T.att c f with
          | false => simp only [eb, ht] at g; exact g.elim
          | true => cases hl : Nat.blt fs.length 900 with
            | false => simp only [eb, ht, hl] at g; exact g.elim
            | true =>
              simp only [eb, ht, hl] at g
              obtain ⟨a2, ho, e2, e3, dx, fv, rfl, rf⟩ := y2.ok.rh.ob o _ eb
              rw [ea] at e2; cases e2
              obtain ⟨t1, t2, t3⟩ := C.tf.at_ c f ht
              have hz : fv.length < 1000 := by have : fs.length = fv.length := Paired.length rf; have := Nat.blt_eq.mp hl; omega
              obtain ⟨st, y3⟩ := write_obj (o := .ins c (fPut f d fs)) (ho := .ins (ca c) dx (putF (M.fl f) v fv)) y2 eb ea e3 fun w3 s3 => ⟨dx, _, rfl, fPut_ok t3 (s3.rep y2.ok _ _ rv2) (Paired.imp (fun a b z => ⟨z.1, s3.rep y2.ok _ _ z.2⟩) rf)⟩
              exact ⟨a, ca c, dx, fv, rfl, e3, t1, t2, hz, g ⟨w2.rho, w2.S, upd w2.H a (.ins (ca c) dx (putF (M.fl f) v fv))⟩ σ (Stq.of (y1.trans s2 l2 st.le) l2) y3⟩
end
end Ev
/-! Soundness of the small interpreter, 31: the induction. -/
namespace Ev
open PySem PySem.Spec PyProof.Rows L2
section
variable {X : Cx} {M : Nm} {T : Tab} {fa ca : Nat → Addr} {fds : Nat → FuncData} {pss : Nat → List Str} {N : List Str} {sc : Scope} {k n : Nat} {E : XK} {r : Self}
variable {w w' w1 w2 : Wd} {env env' env1 env2 : Env} {σ : L2.St} {h h' h1 h2 : Hs} {Q : VK} {d : D} {ds : List D} {v : V} {vs : List V} {O : Addr → Prop}
theorem okx_bot (x : Ex) : Okx X M ca N k E (ev T 0) x := ⟨fun pins s σ H Q I z => by obtain ⟨w, env, h, rfl, x, g⟩ := z; exact (show False from g).elim⟩
theorem all_0 : AllOk M T fa ca fds pss N k (ev T 0) := fun X sc E C => by
  refine ⟨fun x _ => okx_bot x, fun x wf => ?_⟩
  cases x with
  | var i p => exact okt_plain C (fun y _ => okx_bot y) wf fun _ => rfl
  | _ => exact ⟨fun pins s σ H Q I z => by obtain ⟨w, env, h, rfl, x, g⟩ := z; exact (show False from g).elim⟩
theorem all_n : ∀ n, AllOk M T fa ca fds pss N k (ev T n)
  | 0 => all_0
  | n + 1 => all_e (varOk T n) (runLen T n) (all_n n) fun X sc E C k' f hk hf => C.fs k' n f hk hf
theorem s_asg (ft : ∀ x, X.fn x = true) (C : XC X M T fa ca fds pss N sc k E) {t x : Ex} {p : Pos} (wf : wfS M N sc (.asg t x p) = true) : Oks X M ca N k E (ev T (n + 1)) (.asg t x p) := by
  have A : AllOk M T fa ca fds pss N k (ev T n) := all_n n
  have IH := (A X sc E C).1
  have wf2 : wfAsg M N sc t x p = true := by unfold wfS at wf; exact wf
  unfold wfAsg at wf2
  cases t <;> first | (cases wf2; done) | skip
  · rename_i i pv
    obtain ⟨wf3, wx⟩ := ba wf2
    obtain ⟨wt, wl⟩ := ba wf3
    obtain ⟨hl, hg, hloc⟩ := loc_get (X := X) C.hN wt
    by_cases nc : noComp x = true
    · refine s_asgV C A (varOk T n) wt wx ?_
      exact ps_set (by rw [C.hN]; exact C.nd) hg (by rw [C.hs]; exact hloc) (IH x wx) (sws_false nc) (.inl (ft _))
    · cases x <;> first | exact absurd rfl nc | (cases wl; done) | skip
      rename_i elt tt it ifs sc2 own pe
      have wl : lcTop sc (N.getD i "") pv p sc2 pe = true := wl
      unfold lcTop at wl
      obtain ⟨l1, l2⟩ := ba wl
      obtain ⟨l3, l4⟩ := ba l1
      obtain ⟨l5, l6⟩ := ba l3
      have hlo := of_decide_eq_true l6
      have fk : sc.kind = .function := by revert l5; cases sc.kind <;> intro l5 <;> first | rfl | cases l5
      cases n with
      | zero => exact s_never fun env h => rfl
      | succ m =>
        refine s_asgV C A (varOk T (m + 1)) wt wx ?_
        have A2 : AllOk M T fa ca fds pss N k (ev T m) := all_n m
        have hv := varOk T m
        have wfx : (blkC N sc sc2 own && wfW M N sc it && tgOk tt it && decide (ifs.length < 2) && ((tv tt).all fun i => decide (i ∈ own.map (·.2))) && wfT N (relS sc2 sc) (fun x => sc2.names.lookup x == some .cell) 4 tt && wfEs M N (relS sc2 sc) ifs && wfE M N (relS sc2 sc) elt) = true := by unfold wfE at wx; exact wx
        obtain ⟨b1, we⟩ := ba wfx
        obtain ⟨b2, wi⟩ := ba b1
        obtain ⟨b3, wtt⟩ := ba b2
        obtain ⟨b4, wv⟩ := ba b3
        obtain ⟨b5, wll⟩ := ba b4
        obtain ⟨b6, wg⟩ := ba b5
        obtain ⟨wb, ww⟩ := ba b6
        have hvs : ∀ j ∈ tv tt, j ∈ own.map (·.2) := fun j hj => of_decide_eq_true (List.all_eq_true.mp wv j hj)
        refine PS.imp (ps_setLc (wi := tWk X.K M ca E (ev T m) k it) (g := tTg X.K M ca (tv tt) (tg 4 tt)) (tt := tTs X.K M ca (ev T m) k ifs) (te := tE X.K M ca E0 fun env h => (ev T m).e k env h elt) (own := own) C.calm (by rw [C.hN]; exact C.nd) hg (by rw [C.hs]; exact hlo)
          (sw_true (by rw [C.hs]; exact fk) (by rw [C.hs]; exact hlo) l4 (nb l2)) (pi_wk C (A2 X sc E C).1 ww wg) (by rw [C.hN, C.hs]; exact blkOk_by wb) (fun s H c cl fp => ?_) (fun s H c cl fp => ?_) (fun s H c cl fp => ?_) (fun x => fold_set x)) fun De σ H z => ?_
        · exact pg_ok (X := X.blk s H sc2 (compEnvC sc2 cl c X.env) fp) (sc := relS sc2 sc) (fn := fun x => sc2.names.lookup x == some .cell) C.hN C.nd (C.blk (s := s) (H := H) (c := c) (cl := cl) (fp := fp)).hs C.calm (fun _ z => z) 4 tt wtt
        · exact pts_ok (sc := relS sc2 sc) hv (A2 _ _ _ (C.blk (s := s) (H := H) (c := c) (cl := cl) (fp := fp))).2 (of_decide_eq_true wll) wi
        · exact (A2 _ _ _ (C.blk (s := s) (H := H) (c := c) (cl := cl) (fp := fp))).1 elt we
        · exact lc_read (T := T) (p := pe) (sc2 := sc2) hvs z
  · rename_i ts kt pt
    obtain ⟨wf3, wr⟩ := ba wf2
    obtain ⟨wt, wx⟩ := ba wf3
    by_cases hp : ∃ i pi j pj x1 x2 k2 p2, ts = [.var i pi, .var j pj] ∧ x = .tup [x1, x2] k2 p2
    · obtain ⟨i, pi, j, pj, x1, x2, k2, p2, rfl, rfl⟩ := hp
      have wxs : wfEs M N sc [x1, x2] = true := by unfold wfE at wx; exact wx
      have w1 : wfE M N sc x1 = true := by unfold wfEs at wxs; exact (ba wxs).1
      have w2 : wfE M N sc x2 = true := by unfold wfEs at wxs; have := (ba wxs).2; unfold wfEs at this; exact (ba this).1
      cases hn : isNum x1 && isNum x2 with
      | true =>
        obtain ⟨n1, n2⟩ := ba hn
        refine s_asgG ft C IH wt wx (sw_nums n1 n2) fun env h => ?_
        simp only [F, hn] <;> rfl
      | false =>
        have wr : (match isNum x1 && isNum x2 with
      | true => true
      | false => decide (i ≠ j) && decide (sc.names.lookup (N.getD i "") = some .local) && decide (sc.names.lookup (N.getD j "") = some .local) && (match sc.kind with | .function => true | _ => false) && (pi.line == pj.line) && !(N.getD i "" == N.getD j "") &&
          !([dec M N x1, dec M N x2].all (foldedForSure 8)) && !([dec M N x1, dec M N x2].all (constantsAlone 8)) && noStar [x1, x2]) = true := wr
        rw [hn] at wr
        exact s_asgP C IH wt w1 w2 hn wr
    · have wr2 : (!(isTupD x) && noComp x) = true := by
        split at wr
        · exact absurd ⟨_, _, _, _, _, _, _, _, rfl, rfl⟩ hp
        · exact wr
      have nt := nb (ba wr2).1
      refine s_asgG ft C IH wt wx (by cases x <;> first | rfl | cases nt) fun env h => ?_
      simp only [F]
      split
      · exact absurd ⟨_, _, _, _, _, _, _, _, rfl, rfl⟩ hp
      · rfl
  · rename_i o y pt
    obtain ⟨wf3, wy⟩ := ba wf2
    obtain ⟨wf4, wo⟩ := ba wf3
    obtain ⟨nc, wx⟩ := ba wf4
    cases o <;> first | exact s_never fun env h => rfl | skip
    · exact s_idxV C IH wo wy wx
    · exact s_idxF C IH wo wy wx
  · rename_i o f pt
    obtain ⟨wf4, wo⟩ := ba wf2
    obtain ⟨nc, wx⟩ := ba wf4
    exact s_att C IH wo wx nc
/-- every statement, at every level -/
theorem all_s (ft : ∀ x, X.fn x = true) (po : PassesOwn (model X.prog X.w) X.A X.env X.xe) (C : XC X M T fa ca fds pss N sc k E) : ∀ n, ∀ m, m ≤ n → ∀ st, wfS M N sc st = true → Oks X M ca N k E (ev T m) st
  | n, 0, _ => fun st wf => s_never fun env h => rfl
  | 0, m + 1, h => absurd h (by omega)
  | n + 1, m + 1, hm => fun st wf => by
    have A : AllOk M T fa ca fds pss N k (ev T m) := all_n m
    have IH := (A X sc E C).1
    have IHT := (A X sc E C).2
    have IHS := all_s ft po C n m (by omega)
    cases st with
    | ret e p => exact s_ret C IH wf
    | retN p => exact s_retN
    | asg t x p => exact s_asg ft C wf
    | aug i pi o e p => unfold wfS at wf; cases wf
    | iff t a b p => exact s_iff IHT IHS wf
    | whl t b p => exact s_whl po (fun m' hm' => (all_n m' X sc E C).2) (fun m' hm' => all_s ft po C n m' (by omega)) wf
    | for_ t it b p => exact s_for ft po C IH IHS wf
    | exp e p => exact s_exp IH wf
    | rai e p => exact s_never fun env h => rfl
    | brk p => exact s_brk
    | cnt p => exact s_cnt
    | pas p => exact s_pas
end
end Ev
/-! Soundness of the small interpreter, 32: defs. -/
namespace Ev
open PySem PySem.Spec PyProof.Rows L2
/-- a def of the text is the interpreter's -/
structure DefF (K : PySem.W.Frag) (M : Nm) (T : Tab) (fa : Nat → Addr) (fds : Nat → FuncData) (pss : Nat → List Str) (f : Nat) : Prop where
  ex : ∃ (name qual : Str) (params : Arguments) (scope : Scope) (dV kV doc pm cdv ct oc : Value) (an od : Option Addr) (osl : Array (Option Value)) (N : List Str) (fn : Fn),
    K.lookup (fa f) = some ⟨oc, od, .func (PySem.W.fnOf name qual params (decSs M N fn.body) scope dV kV doc pm an cdv ct), osl⟩ ∧ PySem.W.codeIn K cdv qual = true ∧ FnScope N (pss f) scope ∧
    fds f = PySem.W.fnOf name qual params (decSs M N fn.body) scope dV kV doc pm an cdv ct ∧ T.fns.get f = some fn ∧ wfSs M N scope fn.body = true ∧ N.length = fn.nslots
section
variable {K : PySem.W.Frag} {M : Nm} {ca : Nat → Addr} {w : Wd} {h : Hs} {ds : List D} {vs : List V}
theorem vs_get : ∀ (ds : List D) (m i : Nat), getS (Ev.vs ds ++ us m) i = match ds[i]? with | some d => .v d | none => .u
  | [], m, i => by
    have : ∀ (m i : Nat), getS (us m) i = .u := fun m => by
      induction m with
      | zero => intro i; rfl
      | succ m ih => intro i; cases i with
        | zero => rfl
        | succ i => exact ih i
    show getS (us m) i = _
    rw [this]
    rfl
  | d :: ds, m, 0 => rfl
  | d :: ds, m, i + 1 => by
    show getS (Ev.vs ds ++ us m) i = _
    rw [vs_get ds m i]
    rfl
theorem vs_len : ∀ (ds : List D), (Ev.vs ds).length = ds.length
  | [] => rfl
  | d :: ds => by show (Ev.vs ds).length + 1 = _; rw [vs_len ds]; rfl
theorem us_len : ∀ m : Nat, (us m).length = m
  | 0 => rfl
  | m + 1 => by show (us m).length + 1 = _; rw [us_len m]
/-- the slots at a def's entry -/
theorem entry_si (x : WdOk K M ca w h) (r : Reps K w ds vs) {N : List Str} {m : Nat} (hm : N.length = ds.length + m) : SI K M ca (Ev.vs ds ++ us m) (L2.start N vs) h w ∧ ∀ a, ¬ Own (Ev.vs ds ++ us m) (L2.start N vs) a := by
  have hl := r.length
  have t1 : ∀ i, tag (getS (Ev.vs ds ++ us m) i) < 2 := fun i => by
    rw [vs_get]
    cases ds[i]? with
    | none => show 0 < 2; decide
    | some d => show 1 < 2; decide
  refine ⟨⟨x, ?_, fun i => ?_, fun i j a hi => absurd hi (by have := t1 i; omega)⟩, fun a ⟨i, hi, _⟩ => by have := t1 i; rw [isL_tag] at hi; omega⟩
  · rw [List.length_append, vs_len, us_len]
    unfold L2.start
    rw [List.length_append, List.length_map, List.length_replicate]
    omega
  · rw [vs_get]
    cases e : ds[i]? with
    | none => trivial
    | some d =>
      obtain ⟨v, e1, rv⟩ := r.get e
      refine ⟨v, ?_, rv⟩
      unfold L2.start
      have hi := (List.getElem?_eq_some_iff.mp e1).1
      rw [List.getElem?_append_left (by rw [List.length_map]; exact hi), List.getElem?_map, e1]
      rfl
end
section
variable {P : Program} {W : World} {K : PySem.W.Frag} {mg : Str → Option Value} {base : Heap} {M : Nm} {T : Tab} {fa ca : Nat → Addr} {fds : Nat → FuncData} {pss : Nat → List Str} {k : Nat}
/-- a def, where the callees' promises stand -/
theorem fnG_of (hP : P = M.prog) (hW : W = M.wld) (tf : TF K mg M T fa ca fds pss) (nn : ∀ k f ds, T.nat k f ds = none)
    (fs : ∀ k' m f, k = k' + 1 → T.kind f ≠ .no → FnG P W K mg base (2 * k' + 2) (fa f) (fds f) (pss f) (spF K M ca (pss f) fun ds h => (ev T m).run k' f ds h))
    {f : Nat} (D : DefF K M T fa fds pss f) (m : Nat) : FnG P W K mg base (2 * k + 2) (fa f) (fds f) (pss f) (spF K M ca (pss f) fun ds h => (ev T m).run k f ds h) := by
  obtain ⟨name, qual, params, scope, dV, kV, doc, pm, cdv, ct, oc, an, od, osl, N, fn, lk, hcd, S, efd, hfn, hwf, hN⟩ := D.ex
  refine ⟨fun vs H Q E z => z.1, fun A outer s H args us0 vs Q E hg hr e0 hb r hsp => ?_⟩
  obtain ⟨hl, w, ds, h, rfl, ok, rs, g⟩ := hsp
  rw [efd] at hb
  have KX : K.In s.heap := e0.mod.kin.keeps fun b o e => (e0.bs b o e).1
  have lim : s.heap.NoLimit := e0.mod.nolimit.keeps fun b o e => (e0.bs b o e).1
  have hkind : ∀ y ∈ (pss f).zip us0, scope.names.lookup y.1 = some .local ∨ (scope.names.lookup y.1 = some .cell ∧ ((cellsFrom (s.heap.objs.size + 1) scope.names []).lookup y.1).isSome = true) := fun ⟨n, v⟩ hy => by
    rcases S.par n (List.of_mem_zip hy).1 with q | q
    · exact .inl q
    · exact .inr ⟨q, PySem.W.cellsFrom_some _ _ _ (.inl q)⟩
  refine codeAny_call_function hr.depth (KX _ _ lk) rfl S.co S.gen rfl (PySem.W.codeRec_of KX hcd) (hb _ _ _ _ ?_)
  refine wpAny_newFunctionEnv_cells S.kind hkind fun env he s1 x => ?_
  subst he
  refine ⟨lim.keeps x.toInCall.keep, codeAny_func ?_⟩
  have I : Inv (cxOf (L2.CX P W) P W K mg base N qual scope (fa f) cdv A outer s w.H E) [] (L2.start N vs) w.H s1 := inv_start S hr.hd e0 hl r x
  have tk := takes_of (X := cxOf (L2.CX P W) P W K mg base N qual scope (fa f) cdv A outer s w.H E) (E := E) rfl rfl rfl rfl
  have C : XC (cxOf (L2.CX P W) P W K mg base N qual scope (fa f) cdv A outer s w.H E) M T fa ca fds pss N scope k E :=
    ⟨tf, rfl, hP, hW, S.nd, rfl, rfl, hg, hr.deeper _, passes_call tk (fun _ _ _ _ z => z), fs⟩
  have po : PassesOwn (model P W) (cxOf (L2.CX P W) P W K mg base N qual scope (fa f) cdv A outer s w.H E).A (cxOf (L2.CX P W) P W K mg base N qual scope (fa f) cdv A outer s w.H E).env (cxOf (L2.CX P W) P W K mg base N qual scope (fa f) cdv A outer s w.H E).xe :=
    passes_of (X := cxOf (L2.CX P W) P W K mg base N qual scope (fa f) cdv A outer s w.H E) rfl
  have body : ∃ t, PSs (cxOf (L2.CX P W) P W K mg base N qual scope (fa f) cdv A outer s w.H E) (decSs M N fn.body) t ∧ t { nx := fun _ H' => Q .non H', rt := Q } (L2.start N vs) w.H := by
    cases m with
    | zero => exact (show False from g).elim
    | succ m =>
      refine ⟨_, ss_ok (all_s (fun _ => rfl) po C m m (Nat.le_refl m)) fn.body hwf, ?_⟩
      have g : spR K M ca w Q E (match T.fns.get f with
    | some fn => match Nat.beq ds.length fn.nargs with
      | true => (match T.nat k f ds with
        | some d => CR.ok d false h
        | none => (match ss (ev T m) k (Ev.vs ds ++ us (fn.nslots - fn.nargs)) h fn.body with
          | .rt d fr h1 => .ok d fr h1
          | .nx _ h1 => .ok .non false h1
          | .ex c d h1 => .ex c d h1
          | _ => .no))
      | false => .no
    | none => .no) := g
      rw [hfn] at g
      cases hna : Nat.beq ds.length fn.nargs with
      | false => simp only [hna] at g; exact g.elim
      | true =>
        simp only [hna, nn] at g
        have ena := Nat.eq_of_beq_eq_true hna
        have hpl : (pss f).length ≤ N.length := by have := congrArg List.length S.pre; rw [List.length_take] at this; omega
        obtain ⟨y, no⟩ := entry_si (m := fn.nslots - fn.nargs) (N := N) ok rs (by have := rs.length; omega)
        refine ⟨w, _, h, rfl, y, ?_⟩
        show pSt K M ca _ E w _ (L2.start N vs) (ss (ev T m) k (Ev.vs ds ++ us (fn.nslots - fn.nargs)) h fn.body)
        cases e : ss (ev T m) k (Ev.vs ds ++ us (fn.nslots - fn.nargs)) h fn.body with
        | nx env' h' =>
          simp only [e] at g
          exact fun w' σ' st y' => g w' .non (st.st.none no) y'.ok (show Rep K w' .non .non by unfold Rep; rfl)
        | rt d fr h' =>
          simp only [e] at g
          intro w' v st ok' rv
          refine g w' v (st.none no) ok' ?_
          cases fr with
          | false => exact rv
          | true =>
            obtain ⟨p, us, ds, e1, e2, sp, ep, rp, z⟩ := rv
            exact ⟨p, us, ds, e1, e2, sp, ep, rp, z.elim id fun z => (no p z).elim⟩
        | ex c d h' =>
          simp only [e] at g
          exact fun w' dx v st ok' ed rv => g w' dx v (st.none no) ok' ed rv
        | bk env' h' => simp only [e] at g; exact g.elim
        | ct env' h' => simp only [e] at g; exact g.elim
        | no => simp only [e] at g; exact g.elim
  obtain ⟨t, ht, hq⟩ := body
  refine wpAny_mono (ht.run [] s1 (L2.start N vs) w.H _ I hq) (fun fl s' hs => ?_) fun e s' hs => hs
  have fin : ∀ {σ' : L2.St} {H' : Hp} {v : V} {u : Value}, Inv (cxOf (L2.CX P W) P W K mg base N qual scope (fa f) cdv A outer s w.H E) [] σ' H' s' → L2.RelV v u → Q v H' → CE outer P W w.H s Q u s' :=
    fun {σ' H' v u} J rv q => ⟨v, H', J.os, J.bare, J.base, J.hok, rv, q⟩
  cases fl with
  | ret u =>
    obtain ⟨v, σ', H', J, rv, q⟩ := hs
    exact fin J rv q
  | next =>
    obtain ⟨σ', H', J, q⟩ := hs
    exact fin (v := V.non) (u := Value.none) J rfl q
  | brk =>
    obtain ⟨_, _, _, q⟩ := hs
    exact False.elim q
  | cont =>
    obtain ⟨_, _, _, q⟩ := hs
    exact False.elim q
/-- every def, at every depth of calls -/
theorem all_f (hP : P = M.prog) (hW : W = M.wld) (tf : TF K mg M T fa ca fds pss) (nn : ∀ k f ds, T.nat k f ds = none) (D : ∀ f, T.kind f ≠ .no → DefF K M T fa fds pss f) :
    ∀ (k m f : Nat), T.kind f ≠ .no → FnG P W K mg base (2 * k + 2) (fa f) (fds f) (pss f) (spF K M ca (pss f) fun ds h => (ev T m).run k f ds h)
  | 0, m, f, hf => fnG_of hP hW tf nn (fun k' m f h => by cases h) (D f hf) m
  | k + 1, m, f, hf => fnG_of hP hW tf nn (fun k' m f h => by cases h; exact all_f hP hW tf nn D k m f) (D f hf) m
end
end Ev
/-! The small interpreter, 33: the law's call, for promises under a known list of guards. -/
namespace Ev
open PySem PySem.Spec PyProof.Rows L2
section
variable {P : Program} {W : World} {K : PySem.W.Frag} {mg mb : Str → Option Value} {k : Nat} {f a : Addr} {fd : FuncData} {x : Str} {sp : Sp} {st : Shared} {us : List Value} {ns : List Int}
/-- what a law's call has to come to -/
def Right (st : Shared) (r : Result) (s' : Shared) : Prop := r = .ok (.ret (.bool true)) ∧ OldK st.heap s'.heap ∧ s'.os = st.os ∧ AllBare s'.gens
/-- the abstract heap tracks the script's object alone, if anything -/
structure Alone (K : PySem.W.Frag) (P : Program) (W : World) (H : Hp) (a : Addr) (st : Shared) : Prop where
  only : Only H
  hok : HOk P W H st.heap
  at_ : ∀ b, H b ≠ none → b = a
  out : H a ≠ none → K.lookup a = none
theorem Alone.env (X : Alone K P W H a st) (KX : K.In st.heap) (g : st.heap.Ns mainGlobals mg) (b : st.heap.Ns builtinsNs mb) (bb : ∀ y : Str, y ≠ "__name__" → mb y = bootBuiltins y)
    (nl : st.heap.NoLimit) (e : st.gens = #[]) (ha : st.heap.get? a = some { cls := .type "list", data := .seq us.toArray }) : Env0 P W K mg (hidT st.heap H) callerA [] st H := by
  have far : ∀ c : Addr, c ≠ a → H c = none := fun c n => Classical.byContradiction fun z => n (X.at_ c z)
  have up : ∀ {c : Addr} {m : Str → Option Value}, st.heap.Ns c m → (hidT st.heap H).Ns c m := fun {c m} ⟨o, es, ep, e1, e2, e3⟩ => by
    refine ⟨o, es, ep, hidT_get e1 (far c fun z => ?_), e2, e3⟩
    subst z
    rw [e1] at ha
    injection ha with ha
    rw [ha] at e2
    cases e2
  refine { frames := rfl, mod := ?_, bs := fun c o z => of_hidT z, bsz := Nat.le_of_eq (hidT_size _ _), funs := trivial, frf := fun c hc => (nomatch hc), hok := X.hok, bare := .of_eq e }
  obtain ⟨mc, l1, l2⟩ := nl
  refine ⟨fun c o z => hidT_get (KX c o z) ?_, up g, ⟨mb, up b, bb⟩, mc, up l1, l2⟩
  by_cases hc : c = a
  · subst hc
    exact Classical.byContradiction fun n => by rw [X.out n] at z; cases z
  · exact far c hc
theorem Alone.call (X : Alone K P W H a st) (KX : K.In st.heap) (g : st.heap.Ns mainGlobals mg) (b : st.heap.Ns builtinsNs mb) (bb : ∀ y : Str, y ≠ "__name__" → mb y = bootBuiltins y)
    (nl : st.heap.NoLimit) (e : st.gens = #[]) (ha : st.heap.get? a = some { cls := .type "list", data := .seq us.toArray }) (room : Room k callerA)
    (F : ∀ base : Heap, K.In base → base.Ns mainGlobals mg → FnG P W K mg base k f fd [x] sp) (bd : ∀ (s : Shared) (u : Value), BindsTo s fd ⟨[u], []⟩ [(x, u)])
    (q : sp [.ref a] H (fun v _ => v = .bl true) fun _ _ _ => False) : codeAny (model P W) callerA (.call (.ref f) ⟨[.ref a], []⟩) (Right st) st := by
  have E0 := X.env (mg := mg) KX g b bb nl e ha
  refine codeAny_mono ((F _ E0.mod.kin E0.mod.glob).run callerA [] st H ⟨[.ref a], []⟩ [.ref a] [.ref a] _ _ rfl room E0 (bd st _) (.cons rfl .nil) q) fun r s' z => ?_
  match r, z with
  | .error _, z =>
    obtain ⟨_, _, _, _, _, _, _, _, _, _, _, _, bad⟩ := z
    exact bad.elim
  | .ok (.ret u), z =>
    obtain ⟨v, H', z1, z2, z3, z4, z5, z6⟩ := z
    subst z6
    have hu : u = Value.bool true := z5
    subst hu
    refine ⟨rfl, OldK.of_keep fun c o hc => ?_, z1, z2⟩
    rcases X.only c with n | ⟨o1, xs, n⟩
    · exact z3.keep c o hc n (fun z => nomatch z) (fun z => nomatch z)
    · have p1 := (X.hok c _ n).1
      have p2 := (z4 c _ (z3.frzs c o1 _ n)).1
      rw [hc] at p1
      injection p1 with p1
      rw [p1]
      exact p2
/-- no list stands in the written part -/
def noLstK (K : PySem.W.Frag) : Bool := K.all fun q => match q.2.cls with | .type c => !(decide (c = "list")) | _ => true
theorem lookup_mem' {a : Addr} {o : Obj} : ∀ {l : List (Addr × Obj)}, l.lookup a = some o → (a, o) ∈ l
  | [], h => by cases h
  | (b, u) :: r, h => by
    rw [List.lookup_cons] at h
    split at h
    · rename_i q
      cases h
      rw [beq_iff_eq.mp q]
      exact List.mem_cons_self
    · exact List.mem_cons_of_mem _ (lookup_mem' h)
theorem noLstK_ok {a : Addr} {o : Obj} (n : noLstK K = true) (h : K.lookup a = some o) (hc : o.cls = .type "list") : False := by
  have := List.all_eq_true.mp n _ (lookup_mem' h)
  rw [hc] at this
  simp at this
/-- the law's call, from the promise of its def -/
theorem call_lawG (nlk : noLstK K = true) (KX : K.In st.heap) (g : st.heap.Ns mainGlobals mg) (b : st.heap.Ns builtinsNs mb) (bb : ∀ y : Str, y ≠ "__name__" → mb y = bootBuiltins y)
    (nl : st.heap.NoLimit) (e : st.gens = #[]) (ha : st.heap.get? a = some { cls := .type "list", data := .seq us.toArray }) (hi : IntsAre us ns) (hl : ns.length ≤ sizeLine) (room : Room k callerA)
    (F : ∀ base : Heap, K.In base → base.Ns mainGlobals mg → FnG P W K mg base k f fd [x] sp) (bd : ∀ (s : Shared) (u : Value), BindsTo s fd ⟨[u], []⟩ [(x, u)])
    (q : ∀ H : Hp, Only H → Rd H a (.lst (ns.map V.int)) → sp [.ref a] H (fun v _ => v = .bl true) fun _ _ _ => False) : codeAny (model P W) callerA (.call (.ref f) ⟨[.ref a], []⟩) (Right st) st := by
  have vv := vals_ints hi
  have hlen := hi.length
  cases hk : K.lookup a with
  | some o =>
    have eo := KX a o hk
    rw [ha] at eo
    injection eo with eo
    subst eo
    exact (noLstK_ok nlk hk rfl).elim
  | none =>
    let o : HO := .frz { cls := .type "list", data := .seq us.toArray } (.lst (ns.map V.int))
    have at_a : (fun c => if c = a then some o else none) a = some o := if_pos rfl
    have X : Alone K P W (fun c => if c = a then some o else none) a st := by
      refine ⟨fun c => ?_, fun c u z => ?_, fun c z => ?_, fun _ => hk⟩
      · by_cases n : c = a
        · exact .inr ⟨_, _, if_pos n⟩
        · exact .inl (if_neg n)
      · by_cases n : c = a
        · subst n
          have z1 : some o = some u := at_a.symm.trans z
          injection z1 with z1
          subst z1
          exact ⟨ha, by rw [List.length_map]; exact hl, us, _, vv, ha⟩
        · have z1 : (none : Option HO) = some u := (if_neg n).symm.trans z
          cases z1
      · exact Classical.byContradiction fun n => z (if_neg n)
    exact X.call KX g b bb nl e ha room F bd (q _ X.only (.inr ⟨{ cls := .type "list", data := .seq us.toArray }, at_a⟩))
end
/-- the law's walk from the promise of its def; the script's numbers are of at most 2^20 bits -/
theorem walkG {l : PySem.W.OpenLaw} {n k : Nat} {q : Program} {loose : List Str} {XP : (Str → Option Value) → Heap → Prop} {YP : World → Heap → Prop} {d : DefRec} {x : Str}
    (e1 : l.most = some n) (e2 : n ≤ sizeLine) (e3 : d.params.defaults = []) (room : Room k callerA)
    (F : ∀ (w : World) (mg : Str → Option Value) (fa : Addr) (h : Heap), YP w h → h.Ns mainGlobals mg → mg d.name = some (.ref fa) → ∃ (K : PySem.W.Frag) (fd : FuncData) (sp : Sp),
      K.In h ∧ noLstK K = true ∧ (∀ (s : Shared) (u : Value), BindsTo s fd ⟨[u], []⟩ [(x, u)]) ∧
      (∀ (H : Hp) (a : Addr) (ns : List Int), ns.length ≤ n → (∀ z ∈ ns, Builtin.Int.intBits z ≤ 1048576) → Only H → Rd H a (.lst (ns.map V.int)) → sp [.ref a] H (fun v _ => v = .bl true) fun _ _ _ => False) ∧
      ∀ base : Heap, K.In base → base.Ns mainGlobals mg → FnG l.prog w K mg base k fa fd [x] sp) :
    PySem.W.WalkO q loose XP YP l.row.toRowW d [] (fun f vs => PySem.call f vs) := by
  refine Att.attach_callB e1 e3 fun w s0 st mg mb fa o pm cd doc a us ns G Y ho hd hcd hmg ha hi hl hbits hg => ?_
  obtain ⟨K, fd, sp, KX, nlk, bd, hsp, hF⟩ := F w mg fa _ Y G.T.g hmg
  exact call_lawG nlk KX G.T.g G.T.b G.T.builtins G.T.nolimit hg ha hi (Nat.le_trans hl e2) room hF bd fun H hO hS => hsp H a ns hl hbits hO hS
/-- the script handed to a def of the text: what the def's run gives -/
theorem law_spF {K : PySem.W.Frag} {M : Nm} {ca : Nat → Addr} {x : Str} {H : Hp} {a : Addr} {ns : List Int} {run : List D → Hs → CR} {fr : Bool} {h' : Hs} (hr : Rd H a (.lst (ns.map V.int))) (e : run [.lst (ns.map D.int)] [] = .ok (.bl true) fr h') :
    spF K M ca [x] run [.ref a] H (fun v _ => v = .bl true) fun _ _ _ => False := by
  refine ⟨rfl, ⟨[], fun _ => False, H⟩, [.lst (ns.map D.int)], [], rfl, ⟨fun _ z => z.elim, rfl, List.nodup_nil, fun i o z => by cases z⟩, ?_, ?_⟩
  · have rs : ∀ ns : List Int, Reps K ⟨[], fun _ => False, H⟩ (ns.map D.int) (ns.map V.int) := fun ns => by
      induction ns with
      | nil => exact Reps.nil
      | cons n ns ih => exact Reps.cons (by unfold Rep; rfl) ih
    refine Reps.one ?_
    unfold Rep
    exact ⟨a, _, rfl, fun z => z, hr, rs ns⟩
  · show spR K M ca _ _ _ (run [.lst (ns.map D.int)] [])
    rw [e]
    intro w' v st ok rv
    have := Vw.of_rv rv
    unfold Vw Rep at this
    exact this
end Ev
/-! The small interpreter, 34: the checks once more, by recursion on a number (the kernel reckons them). -/
namespace Ev
open PySem PySem.Spec PyProof.Rows L2
def cL (p : Ex → Bool) : List Ex → Bool
  | [] => true
  | e :: r => p e && cL p r
def cO (p : Ex → Bool) : Option Ex → Bool
  | none => true
  | some e => p e
section
variable (M : Nm) (N : List Str)
/-- what is walked, by a check of its parts -/
def cW (sc : Scope) (p : Ex → Bool) : Ex → Bool
  | .blt 4 [y] _ _ => isGlK (sc.names.lookup (bN 4)) && noStar [y] && p y
  | .blt 6 [y] _ _ => isGlK (sc.names.lookup (bN 6)) && noStar [y] && p y
  | .blt 6 [y, z] _ _ => isGlK (sc.names.lookup (bN 6)) && noStar [y, z] && p y && p z
  | x => p x
def cE : Nat → Scope → Ex → Bool
  | 0, _, _ => false
  | n + 1, sc, x => match x with
    | .lc elt t it ifs sc2 own _ => blkC N sc sc2 own && cW sc (cE n sc) it && tgOk t it && decide (ifs.length < 2) && ((tv t).all fun i => decide (i ∈ own.map (·.2))) && wfT N (relS sc2 sc) (fun x => sc2.names.lookup x == some .cell) 4 t && cL (cE n (relS sc2 sc)) ifs && cE n (relS sc2 sc) elt
    | .lc2 elt t it ifs t2 i2 ifs2 sc2 own vs1 _ => blkC N sc sc2 own && cW sc (cE n sc) it && tgOk t it && decide (ifs.length < 2) && ((tv t).all fun i => decide (i ∈ own.map (·.2))) && wfT N (relS sc2 sc) (fun x => sc2.names.lookup x == some .cell) 4 t && cL (cE n (relS sc2 sc)) ifs &&
      (vs1.all fun i => decide (i ∈ own.map (·.2))) && cW (relS sc2 sc) (cE n (relS sc2 sc)) i2 && tgOk t2 i2 && decide (ifs2.length < 2) && ((tv t2).all fun i => decide (i ∈ vs1)) && wfT N (relS sc2 sc) (fun x => sc2.names.lookup x == some .cell) 4 t2 && cL (cE n (relS sc2 sc)) ifs2 && cE n (relS sc2 sc) elt
    | .dic ks vs _ _ => dicOk ks vs && cL (cE n sc) ks && cL (cE n sc) vs
    | .var i p => decide (i < N.length) && isVisK (sc.names.lookup (N.getD i "")) && okName (N.getD i "")
    | .num _ _ _ => true
    | .str _ _ _ => true
    | .cb _ _ _ => true
    | .cn _ _ => true
    | .glob g _ => isGlK (sc.names.lookup (M.g g)) && okName (M.g g)
    | .ty t _ => isGlK (sc.names.lookup (tN t))
    | .tup es _ _ => cL (cE n sc) es
    | .lst es _ => cL (cE n sc) es
    | .star e _ => cE n sc e
    | .bin _ a b _ => cE n sc a && cE n sc b
    | .neg a _ => cE n sc a
    | .cmp _ a b _ => cE n sc a && cE n sc b
    | .chn _ _ a b c _ => cE n sc a && cE n sc b && cE n sc c
    | .and es _ => cL (cE n sc) es
    | .or es _ => cL (cE n sc) es
    | .not a _ => cE n sc a
    | .ife t a b _ => cE n sc t && cE n sc a && cE n sc b
    | .idx a i _ => cE n sc a && cE n sc i
    | .slc a lo hi _ _ => cE n sc a && cO (cE n sc) lo && cO (cE n sc) hi
    | .att a _ _ => cE n sc a && wfA a
    | .call f es _ _ => isGlK (sc.names.lookup (M.f f)) && okName (M.f f) && noStar es && cL (cE n sc) es
    | .calh f es _ _ => isGlK (sc.names.lookup (M.f f)) && okName (M.f f) && noStar es && cL (cE n sc) es
    | .new c es _ _ => isGlK (sc.names.lookup (M.c c)) && okName (M.c c) && noStar es && cL (cE n sc) es
    | .mth _ o es pa p => mOk es pa p && cE n sc o && wfA o && noStar es && cL (cE n sc) es
    | .blt b es _ _ => bK b es && b12 b es && isGlK (sc.names.lookup (bN b)) && noStar es && cL (cE n sc) es
    | .lm _ o es pa p => mOk es pa p && cE n sc o && wfA o && noStar es && cL (cE n sc) es
end
section
variable {M : Nm} {N : List Str}
theorem cL_ok {sc : Scope} {p : Ex → Bool} (h : ∀ e, p e = true → wfE M N sc e = true) : ∀ es : List Ex, cL p es = true → wfEs M N sc es = true
  | [], _ => by unfold wfEs; rfl
  | e :: r, q => by
    obtain ⟨q1, q2⟩ := ba q
    unfold wfEs
    rw [h e q1, cL_ok h r q2]
    rfl
theorem cO_ok {sc : Scope} {p : Ex → Bool} (h : ∀ e, p e = true → wfE M N sc e = true) (o : Option Ex) (q : cO p o = true) : wfO M N sc o = true := by
  cases o with
  | none => unfold wfO; rfl
  | some e => unfold wfO; exact h e q
theorem cW_ok {sc : Scope} {p : Ex → Bool} (h : ∀ e, p e = true → wfE M N sc e = true) (x : Ex) (q : cW sc p x = true) : wfW M N sc x = true := by
  unfold cW at q
  split at q
  · obtain ⟨q1, q2⟩ := ba q
    unfold wfW
    show (isGlK (sc.names.lookup (bN 4)) && noStar [_] && wfE M N sc _) = true
    rw [q1, h _ q2]
    rfl
  · obtain ⟨q1, q2⟩ := ba q
    unfold wfW
    show (isGlK (sc.names.lookup (bN 6)) && noStar [_] && wfE M N sc _) = true
    rw [q1, h _ q2]
    rfl
  · obtain ⟨q1, q2⟩ := ba q
    obtain ⟨q3, q4⟩ := ba q1
    unfold wfW
    show (isGlK (sc.names.lookup (bN 6)) && noStar [_, _] && wfE M N sc _ && wfE M N sc _) = true
    rw [q3, h _ q4, h _ q2]
    rfl
  · rename_i n1 n2 n3
    unfold wfW
    split
    · exact (n1 _ _ _ rfl).elim
    · exact (n2 _ _ _ rfl).elim
    · exact (n3 _ _ _ _ rfl).elim
    · exact h _ q
theorem cE_ok : ∀ (n : Nat) (sc : Scope) (x : Ex), cE M N n sc x = true → wfE M N sc x = true
  | 0, _, _, q => by cases q
  | n + 1, sc, x, q => by
    have i1 : ∀ sc e, cE M N n sc e = true → wfE M N sc e = true := cE_ok n
    have i2 : ∀ sc es, cL (cE M N n sc) es = true → wfEs M N sc es = true := fun sc => cL_ok (i1 sc)
    have i3 : ∀ sc es, cO (cE M N n sc) es = true → wfO M N sc es = true := fun sc => cO_ok (i1 sc)
    have i4 : ∀ sc es, cW sc (cE M N n sc) es = true → wfW M N sc es = true := fun sc => cW_ok (i1 sc)
    cases x <;> (unfold cE at q; unfold wfE; simp only [Bool.and_eq_true] at q ⊢)
    all_goals first | trivial | exact q | exact i1 _ _ q | exact i2 _ _ q | grind
end
section
variable (M : Nm) (N : List Str)
def cAsg (n : Nat) (sc : Scope) (t x : Ex) (p : Pos) : Bool := match t with
  | .var i pv => wfT N sc (fun _ => true) 4 (.var i pv) && (match x with
    | .lc _ _ _ _ sc2 _ pe => lcTop sc (N.getD i "") pv p sc2 pe
    | .lc2 _ _ _ _ _ _ _ _ _ _ _ => false
    | _ => true) && cE M N n sc x
  | .tup ts k pt => wfT N sc (fun _ => true) 4 (.tup ts k pt) && cE M N n sc x && (match ts, x with
    | [.var i pi, .var j pj], .tup [x1, x2] _ _ => (match isNum x1 && isNum x2 with
      | true => true
      | false => decide (i ≠ j) && decide (sc.names.lookup (N.getD i "") = some .local) && decide (sc.names.lookup (N.getD j "") = some .local) && (match sc.kind with | .function => true | _ => false) && (pi.line == pj.line) && !(N.getD i "" == N.getD j "") &&
          !([dec M N x1, dec M N x2].all (foldedForSure 8)) && !([dec M N x1, dec M N x2].all (constantsAlone 8)) && noStar [x1, x2])
    | _, x => !(isTupD x) && noComp x)
  | .idx o y _ => noComp x && cE M N n sc x && cE M N n sc o && cE M N n sc y
  | .att o _ _ => noComp x && cE M N n sc x && cE M N n sc o
  | _ => false
def cLs (p : St → Bool) : List St → Bool
  | [] => true
  | e :: r => p e && cLs p r
def cS : Nat → Scope → St → Bool
  | 0, _, _ => false
  | n + 1, sc, st => match st with
    | .ret e _ => cE M N n sc e
    | .retN _ => true
    | .asg t x p => cAsg M N n sc t x p
    | .aug _ _ _ _ _ => false
    | .iff t a b _ => cE M N n sc t && cLs (cS n sc) a && cLs (cS n sc) b
    | .whl t b _ => cE M N n sc t && cLs (cS n sc) b
    | .for_ t it b _ => cW sc (cE M N n sc) it && tgOk t it && wfT N sc (fun _ => true) 4 t && cLs (cS n sc) b
    | .exp e _ => cE M N n sc e && noComp e
    | .rai _ _ => true
    | .brk _ => true
    | .cnt _ => true
    | .pas _ => true
end
section
variable {M : Nm} {N : List Str}
theorem cAsg_ok {n : Nat} {sc : Scope} {t x : Ex} {p : Pos} (q : cAsg M N n sc t x p = true) : wfAsg M N sc t x p = true := by
  have i1 : ∀ e, cE M N n sc e = true → wfE M N sc e = true := cE_ok n sc
  cases t with
  | var i pv =>
    obtain ⟨q1, q2⟩ := ba q
    exact Bool.and_eq_true_iff.mpr ⟨q1, i1 _ q2⟩
  | tup ts k pt =>
    obtain ⟨q1, q2⟩ := ba q
    obtain ⟨q3, q4⟩ := ba q1
    exact Bool.and_eq_true_iff.mpr ⟨Bool.and_eq_true_iff.mpr ⟨q3, i1 _ q4⟩, q2⟩
  | idx o y _ =>
    obtain ⟨q1, q2⟩ := ba q
    obtain ⟨q3, q4⟩ := ba q1
    obtain ⟨q5, q6⟩ := ba q3
    exact Bool.and_eq_true_iff.mpr ⟨Bool.and_eq_true_iff.mpr ⟨Bool.and_eq_true_iff.mpr ⟨q5, i1 _ q6⟩, i1 _ q4⟩, i1 _ q2⟩
  | att o _ _ =>
    obtain ⟨q1, q2⟩ := ba q
    obtain ⟨q3, q4⟩ := ba q1
    exact Bool.and_eq_true_iff.mpr ⟨Bool.and_eq_true_iff.mpr ⟨q3, i1 _ q4⟩, i1 _ q2⟩
  | _ => cases q
theorem cLs_ok {sc : Scope} {p : St → Bool} (h : ∀ e, p e = true → wfS M N sc e = true) : ∀ es : List St, cLs p es = true → wfSs M N sc es = true
  | [], _ => by unfold wfSs; rfl
  | e :: r, q => by
    obtain ⟨q1, q2⟩ := ba q
    unfold wfSs
    rw [h e q1, cLs_ok h r q2]
    rfl
theorem cS_ok : ∀ (n : Nat) (sc : Scope) (x : St), cS M N n sc x = true → wfS M N sc x = true
  | 0, _, _, q => by cases q
  | n + 1, sc, x, q => by
    have i1 : ∀ sc e, cE M N n sc e = true → wfE M N sc e = true := cE_ok n
    have i2 : ∀ sc es, cLs (cS M N n sc) es = true → wfSs M N sc es = true := fun sc => cLs_ok (cS_ok n sc)
    have i4 : ∀ sc es, cW sc (cE M N n sc) es = true → wfW M N sc es = true := fun sc => cW_ok (i1 sc)
    cases x with
    | asg t x p => unfold wfS; exact cAsg_ok q
    | _ =>
      unfold cS at q; unfold wfS; simp only [Bool.and_eq_true] at q ⊢
      all_goals first | trivial | exact q | exact i1 _ _ q | exact i2 _ _ q | grind
end
end Ev
/-! The step of the interpreter, case by case (printed by geneq.py out of Ev.lean). -/
namespace Ew
open Ev
open PySem (Pos Operator CmpOp Scope Str Expr Stmt)
section
variable {T : Tab} {r : Self} {k : Nat} {env : Env} {h : Hs}
theorem Fe_var {i : Nat} {u1_ : Pos} : (F T r).e k env h (.var i u1_) = (match getS env i with
      | .v d => .ok d false env h
      | .l ds => .ok (.lst ds) false (setS (.v (.lst ds)) env i) h
      | _ => .no) := rfl
theorem Fe_num {n : Int} {u1_ : Nat} {u2_ : Pos} : (F T r).e k env h (.num n u1_ u2_) = (.ok (.int n) false env h) := rfl
theorem Fe_str {s : List Nat} {u1_ : Nat} {u2_ : Pos} : (F T r).e k env h (.str s u1_ u2_) = (.ok (.str s) false env h) := rfl
theorem Fe_cb {b : Bool} {u1_ : Nat} {u2_ : Pos} : (F T r).e k env h (.cb b u1_ u2_) = (.ok (.bl b) false env h) := rfl
theorem Fe_cn {u0_ : Nat} {u1_ : Pos} : (F T r).e k env h (.cn u0_ u1_) = (.ok .non false env h) := rfl
theorem Fe_glob {g : Nat} {u1_ : Pos} : (F T r).e k env h (.glob g u1_) = (match atC T.consts g with | some d => .ok d false env h | none => .no) := rfl
theorem Fe_tup {xs : List Ex} {u1_ : Nat} {u2_ : Pos} : (F T r).e k env h (.tup xs u1_ u2_) = (match es r k env h xs with | .ok ds env1 h1 => (match lenOk ds with | true => .ok (.tup ds) false env1 h1 | false => .no) | .ex c d h => .ex c d h | .no => .no) := rfl
theorem Fe_lst {xs : List Ex} {u1_ : Pos} : (F T r).e k env h (.lst xs u1_) = (match es r k env h xs with | .ok ds env1 h1 => (match lenOk ds with | true => .ok (.lst ds) true env1 h1 | false => .no) | .ex c d h => .ex c d h | .no => .no) := rfl
theorem Fe_star {u0_ : Ex} {u1_ : Pos} : (F T r).e k env h (.star u0_ u1_) = (.no) := rfl
theorem Fe_ty {u0_ : Nat} {u1_ : Pos} : (F T r).e k env h (.ty u0_ u1_) = (.no) := rfl
theorem Fe_bin {o : Operator} {a : Ex} {b : Ex} {u3_ : Pos} : (F T r).e k env h (.bin o a b u3_) = (two r k env h a b fun u v env2 h2 => match opV o u v with | some (d, fr) => .ok d fr env2 h2 | none => .no) := rfl
theorem Fe_neg {a : Ex} {u1_ : Pos} : (F T r).e k env h (.neg a u1_) = (match r.e k env h a with
      | .ok (.int i) _ env1 h1 => .ok (.int (-i)) false env1 h1
      | .ex c d h => .ex c d h
      | _ => .no) := rfl
theorem Fe_cmp {o : CmpOp} {a : Ex} {b : Ex} {u3_ : Pos} : (F T r).e k env h (.cmp o a b u3_) = (two r k env h a b fun u v env2 h2 => match v with
        | .ref i => (match getH h2 i with
          | some (.dK kvs) => (match keyOk false u, o with
            | true, .In => .ok (.bl (dGet u kvs).isSome) false env2 h2
            | true, .NotIn => .ok (.bl (notB (dGet u kvs).isSome)) false env2 h2
            | _, _ => .no)
          | some (.dT kvs) => (match keyOk true u, o with
            | true, .In => .ok (.bl (dGet u kvs).isSome) false env2 h2
            | true, .NotIn => .ok (.bl (notB (dGet u kvs).isSome)) false env2 h2
            | _, _ => .no)
          | _ => .no)
        | v => match cmpV o u v with | some c => .ok (.bl c) false env2 h2 | none => .no) := rfl
theorem Fe_chn {o : CmpOp} {o2 : CmpOp} {a : Ex} {b : Ex} {c : Ex} {u5_ : Pos} : (F T r).e k env h (.chn o o2 a b c u5_) = (match r.e k env h a with
      | .ok (.int u) _ env1 h1 => (match r.e k env1 h1 b with
        | .ok (.int v) _ env2 h2 => (match cmpV o (.int u) (.int v) with
          | some true => (match r.e k env2 h2 c with
            | .ok (.int w) _ env3 h3 => (match cmpV o2 (.int v) (.int w) with | some q => .ok (.bl q) false env3 h3 | none => .no)
            | .ex c d h => .ex c d h
            | _ => .no)
          | some false => .ok (.bl false) false env2 h2
          | none => .no)
        | .ex c d h => .ex c d h
        | _ => .no)
      | .ex c d h => .ex c d h
      | _ => .no) := rfl
theorem Fe_and {xs : List Ex} {u1_ : Pos} : (F T r).e k env h (.and xs u1_) = (andV r k env h xs) := rfl
theorem Fe_or {xs : List Ex} {u1_ : Pos} : (F T r).e k env h (.or xs u1_) = (orV r k env h xs) := rfl
theorem Fe_not {a : Ex} {u1_ : Pos} : (F T r).e k env h (.not a u1_) = (match eB r k env h a with
      | .ok d _ env1 h1 => (match truth d with | some c => .ok (.bl (notB c)) false env1 h1 | none => .no)
      | .ex c d h => .ex c d h
      | .no => .no) := rfl
theorem Fe_ife {t : Ex} {a : Ex} {b : Ex} {u3_ : Pos} : (F T r).e k env h (.ife t a b u3_) = (match eB r k env h t with
      | .ok d _ env1 h1 => (match truth d with
        | some true => r.e k env1 h1 a
        | some false => r.e k env1 h1 b
        | none => .no)
      | .ex c d h => .ex c d h
      | .no => .no) := rfl
theorem Fe_idx {a : Ex} {i : Ex} {u2_ : Pos} : (F T r).e k env h (.idx a i u2_) = (two r k env h a i fun u v env2 h2 => match u, v with
          | .tup ds, .int j => (match atI ds j with | some d => .ok d false env2 h2 | none => .no)
          | .lst ds, .int j => (match atI ds j with | some d => .ok d false env2 h2 | none => .no)
          | .ref o, key => (match getH h2 o with
            | some (.dK kvs) => (match keyOk false key, dGet key kvs with | true, some d => .ok d false env2 h2 | _, _ => .no)
            | some (.dT kvs) => (match keyOk true key, dGet key kvs with | true, some d => .ok d false env2 h2 | _, _ => .no)
            | _ => .no)
          | _, _ => .no) := rfl
theorem Fe_slc {a : Ex} {lo : Option Ex} {hi : Option Ex} {u3_ : Pos} {u4_ : Pos} : (F T r).e k env h (.slc a lo hi u3_ u4_) = (match eB r k env h a with
      | .ok u _ env1 h1 => (match part r k env1 h1 lo with
        | some (l, h2) => (match part r k env1 h2 hi with
          | some (m, h3) => (match u with
            | .tup ds => .ok (.tup (cut ds l m)) false env1 h3
            | .lst ds => .ok (.lst (cut ds l m)) true env1 h3
            | _ => .no)
          | none => .no)
        | none => .no)
      | .ex c d h => .ex c d h
      | .no => .no) := rfl
theorem Fe_att {a : Ex} {f : Nat} {u2_ : Pos} : (F T r).e k env h (.att a f u2_) = (match r.e k env h a with
      | .ok (.ref i) _ env1 h1 => (match getH h1 i with
        | some (.ins c fs) => (match T.att c f, fGet f fs with | true, some d => .ok d false env1 h1 | _, _ => .no)
        | _ => .no)
      | .ex c d h => .ex c d h
      | _ => .no) := rfl
theorem Fe_call {f : Nat} {xs : List Ex} {u2_ : Pos} {u3_ : Pos} : (F T r).e k env h (.call f xs u2_ u3_) = (match T.kind f, k with
      | .fn, k' + 1 => (match as r (k' + 1) env h xs with
        | .ok ds env1 h1 => (match pures ds, r.run k' f ds [] with
          | true, .ok d fr _ => (match Ev.pure d with
            | true => (match noLst d with
              | true => .ok d false env1 h1
              | false => (match froze env1 xs with | some env2 => .ok d fr env2 h1 | none => .no))
            | false => .no)
          | true, .ex c d _ => (match Ev.pure d, noLst d with | true, true => .ex c d h1 | _, _ => .no)
          | _, _ => .no)
        | .ex c d h => .ex c d h
        | .no => .no)
      | _, _ => .no) := rfl
theorem Fe_calh {f : Nat} {xs : List Ex} {u2_ : Pos} {u3_ : Pos} : (F T r).e k env h (.calh f xs u2_ u3_) = (match T.kind f, k with
      | .fn, k' + 1 => (match es r (k' + 1) env h xs with
        | .ok ds env1 h1 => (match r.run k' f ds h1 with
          | .ok d fr h2 => .ok d fr env1 h2
          | .ex c d h => .ex c d h
          | .no => .no)
        | .ex c d h => .ex c d h
        | .no => .no)
      | _, _ => .no) := rfl
theorem Fe_new {c : Nat} {xs : List Ex} {u2_ : Pos} {u3_ : Pos} : (F T r).e k env h (.new c xs u2_ u3_) = (match T.ini c, k with
      | some f, k' + 1 => (match es r (k' + 1) env h xs with
        | .ok ds env1 h1 => (match r.run k' f (.ref h1.length :: ds) (h1 ++ [.ins c []]) with
          | .ok .non _ h2 => .ok (.ref h1.length) false env1 h2
          | .ex c d h => .ex c d h
          | _ => .no)
        | .ex c d h => .ex c d h
        | .no => .no)
      | _, _ => .no) := rfl
theorem Fe_mth {f : Nat} {o : Ex} {xs : List Ex} {u3_ : Pos} {u4_ : Pos} : (F T r).e k env h (.mth f o xs u3_ u4_) = (match T.kind f, k with
      | .mt c', k' + 1 => (match r.e (k' + 1) env h o with
        | .ok (.ref i) _ env1 h1 => (match getH h1 i with
          | some (.ins c _) => (match Nat.beq c c' with
            | true => (match es r (k' + 1) env1 h1 xs with
              | .ok ds env2 h2 => (match r.run k' f (.ref i :: ds) h2 with
                | .ok d fr h3 => .ok d fr env2 h3
                | .ex c d h => .ex c d h
                | .no => .no)
              | .ex c d h => .ex c d h
              | .no => .no)
            | false => .no)
          | _ => .no)
        | .ex c d h => .ex c d h
        | _ => .no)
      | _, _ => .no) := rfl
theorem Fe_blt {b : Nat} {xs : List Ex} {u2_ : Pos} {u3_ : Pos} : (F T r).e k env h (.blt b xs u2_ u3_) = (match xs with
      | [x] => (match eB r k env h x with
        | .ok d _ env1 h1 => biC b d env1 h1
        | .ex c d h => .ex c d h
        | .no => .no)
      | [x, .ty t _] => (match b with     -- isinstance(x, T)
        | 12 => (match eB r k env h x with
          | .ok d _ env1 h1 => (match isi d t with | some c => .ok (.bl c) false env1 h1 | none => .no)
          | .ex c d h => .ex c d h
          | .no => .no)
        | _ => .no)
      | [x, y] => (match b with
        | 14 => two r k env h x y fun u v env2 h2 => (match u, v with     -- max
          | .int i, .int j => .ok (.int (match iLt i j with | true => j | false => i)) false env2 h2
          | _, _ => .no)
        | 15 => two r k env h x y fun u v env2 h2 => (match u, v with     -- min
          | .int i, .int j => .ok (.int (match iLt j i with | true => j | false => i)) false env2 h2
          | _, _ => .no)
        | _ => .no)
      | _ => .no) := rfl
theorem Fe_lm {m : Nat} {o : Ex} {xs : List Ex} {u3_ : Pos} {u4_ : Pos} : (F T r).e k env h (.lm m o xs u3_ u4_) = (match o with
      | .var i _ => (match getS env i with
       | .l _ => (match m, xs with
        | 0, [x] => (match r.e k env h x with     -- append
          | .ok d _ env1 h1 => (match getS env1 i with | .l ds => (match lenOk ds with | true => .ok .non false (setS (.l (ds ++ [d])) env1 i) h1 | false => .no) | _ => .no)
          | .ex c d h => .ex c d h
          | .no => .no)
        | 1, [x] => (match eB r k env h x with     -- extend
          | .ok (.lst qs) _ env1 h1 => (match getS env1 i with | .l ds => (match lenOk ds, lenOk qs with | true, true => .ok .non false (setS (.l (ds ++ qs)) env1 i) h1 | _, _ => .no) | _ => .no)
          | .ex c d h => .ex c d h
          | _ => .no)
        | 2, [x, y] => (match r.e k env h x with     -- insert
          | .ok (.int (.ofNat n)) _ env1 h1 => (match r.e k env1 h1 y with
            | .ok d _ env2 h2 => (match getS env2 i with | .l ds => (match lenOk ds, Nat.ble n 1000000 with | true, true => .ok .non false (setS (.l (insertAt d n ds)) env2 i) h2 | _, _ => .no) | _ => .no)
            | .ex c d h => .ex c d h
            | .no => .no)
          | .ex c d h => .ex c d h
          | _ => .no)
        | 3, [] => (match getS env i with     -- pop()
          | .l ds => (match ixOf ds.length (-1) with
            | some n => (match atL ds n with | some d => .ok d false (setS (.l (dropAt n ds)) env i) h | none => .no)
            | none => .no)
          | _ => .no)
        | 3, [x] => (match r.e k env h x with     -- pop(n)
          | .ok (.int j) _ env1 h1 => (match getS env1 i with
            | .l ds => (match lenOk ds, ixOf ds.length j with
              | true, some n => (match atL ds n with | some d => .ok d false (setS (.l (dropAt n ds)) env1 i) h1 | none => .no)
              | _, _ => .no)
            | _ => .no)
          | .ex c d h => .ex c d h
          | _ => .no)
        | _, _ => .no)
       | _ => .no)
      | _ => .no) := rfl
theorem Fe_lc {elt : Ex} {t : Ex} {it : Ex} {ifs : List Ex} {u4_ : Scope} {own : List (Str × Nat)} {u6_ : Pos} : (F T r).e k env h (.lc elt t it ifs u4_ own u6_) = (match walk r k env h it with
      | .ok items env1 h1 => (match turns r k (wipe (lock env1) (own.map (·.2))) elt t ifs h1 items with
        | some (ds, h2) => (match lenOk ds with | true => .ok (.lst ds) true env1 h2 | false => .no)
        | none => .no)
      | .ex c d h => .ex c d h
      | .no => .no) := rfl
theorem Fe_lc2 {elt : Ex} {t : Ex} {it : Ex} {ifs : List Ex} {t2 : Ex} {i2 : Ex} {ifs2 : List Ex} {u7_ : Scope} {own : List (Str × Nat)} {vs1 : List Nat} {u10_ : Pos} : (F T r).e k env h (.lc2 elt t it ifs t2 i2 ifs2 u7_ own vs1 u10_) = (match walk r k env h it with
      | .ok items env1 h1 => (match turns2 r k (wipe (lock env1) (own.map (·.2))) elt t ifs t2 i2 ifs2 vs1 h1 items with
        | some (ds, h2) => (match lenOk ds with | true => .ok (.lst ds) true env1 h2 | false => .no)
        | none => .no)
      | .ex c d h => .ex c d h
      | .no => .no) := rfl
theorem Fe_dic {xs : List Ex} {ys : List Ex} {t : Bool} {u3_ : Pos} : (F T r).e k env h (.dic xs ys t u3_) = (match xs, ys, t with
      | [], [], true => .ok (.ref h.length) false env (h ++ [.dT []])
      | [], [], false => .ok (.ref h.length) false env (h ++ [.dK []])
      | [x], [y], false => (match r.e k (lock env) h x with
        | .ok q _ _ h1 => (match key1 q, r.e k (lock env) h1 y with
          | true, .ok v _ _ h2 => .ok (.ref h2.length) false env (h2 ++ [.dK [(q, v)]])
          | _, _ => .no)
        | _ => .no)
      | x1 :: x2 :: xs, ys, false => (match dicS r k env h (x1 :: x2 :: xs) ys with | some (kvs, h1) => .ok (.ref h1.length) false env (h1 ++ [.dK kvs]) | none => .no)
      | _, _, _ => .no) := rfl
theorem Fs_ret {x : Ex} {u1_ : Pos} : (F T r).s k env h (.ret x u1_) = (match x with
      | .var i _ => (match getS env i with
        | .v d => .rt d false h
        | .l ds => .rt (.lst ds) true h
        | _ => .no)
      | x => match r.e k env h x with
        | .ok d fr _ h1 => .rt d fr h1
        | .ex c d h => .ex c d h
        | .no => .no) := rfl
theorem Fs_retN {u0_ : Pos} : (F T r).s k env h (.retN u0_) = (.rt .non false h) := rfl
theorem Fs_asg {t : Ex} {x : Ex} {u2_ : Pos} : (F T r).s k env h (.asg t x u2_) = (match t with
      | .var i _ => (match r.e k env h x with
        | .ok d fr env1 h1 => .nx (put env1 i d fr) h1
        | .ex c d h => .ex c d h
        | .no => .no)
      | .tup ts _ _ => (match ts, x with
        | [.var i _, .var j _], .tup [x1, x2] _ _ => (match isNum x1 && isNum x2 with
         | true => (match r.e k env h x with
          | .ok d _ env1 h1 => (match tg 4 t d env1 with | some env2 => .nx env2 h1 | none => .no)
          | .ex c d h => .ex c d h
          | .no => .no)
         | false => (match r.e k env h x1 with
          | .ok d1 fr1 env1 h1 => (match r.e k env1 h1 x2 with
            | .ok d2 fr2 env2 h2 => .nx (put (put env2 i d1 fr1) j d2 fr2) h2
            | .ex c d h => .ex c d h
            | .no => .no)
          | .ex c d h => .ex c d h
          | .no => .no))
        | _, _ => (match r.e k env h x with
          | .ok d _ env1 h1 => (match tg 4 t d env1 with | some env2 => .nx env2 h1 | none => .no)
          | .ex c d h => .ex c d h
          | .no => .no))
      | .idx (.var i _) y _ => (match r.e k env h x with
        | .ok d _ env1 h1 => (match getS env1 i with
          | .l _ => (match r.e k env1 h1 y with
            | .ok (.int j) _ env2 h2 => (match getS env2 i with
              | .l ds => (match ixOf ds.length j with | some n => .nx (setS (.l (setAt d n ds)) env2 i) h2 | none => .no)
              | _ => .no)
            | .ex c d h => .ex c d h
            | _ => .no)
          | .v (.ref o) => (match r.e k env1 h1 y with
            | .ok q _ env2 h2 => (match getH h2 o with
              | some (.dK kvs) => (match keyOk false q, Nat.ble kvs.length 100000 with | true, true => .nx env2 (setH (.dK (dPut q d kvs)) h2 o) | _, _ => .no)
              | some (.dT kvs) => (match keyOk true q, Nat.ble kvs.length 100000 with | true, true => .nx env2 (setH (.dT (dPut q d kvs)) h2 o) | _, _ => .no)
              | _ => .no)
            | .ex c d h => .ex c d h
            | .no => .no)
          | _ => .no)
        | .ex c d h => .ex c d h
        | .no => .no)
      | .idx (.att y f pa) z _ => (match r.e k env h x with
        | .ok d _ env1 h1 => (match r.e k env1 h1 (.att y f pa) with
          | .ok (.ref o) _ env2 h2 => (match r.e k env2 h2 z with
            | .ok q _ env3 h3 => (match getH h3 o with
              | some (.dK kvs) => (match keyOk false q, Nat.ble kvs.length 100000 with | true, true => .nx env3 (setH (.dK (dPut q d kvs)) h3 o) | _, _ => .no)
              | some (.dT kvs) => (match keyOk true q, Nat.ble kvs.length 100000 with | true, true => .nx env3 (setH (.dT (dPut q d kvs)) h3 o) | _, _ => .no)
              | _ => .no)
            | .ex c d h => .ex c d h
            | .no => .no)
          | .ex c d h => .ex c d h
          | _ => .no)
        | .ex c d h => .ex c d h
        | .no => .no)
      | .att y f _ => (match r.e k env h x with
        | .ok d _ env1 h1 => (match r.e k env1 h1 y with
          | .ok (.ref o) _ env2 h2 => (match getH h2 o with
            | some (.ins c fs) => (match T.att c f, Nat.blt fs.length 900 with | true, true => .nx env2 (setH (.ins c (fPut f d fs)) h2 o) | _, _ => .no)
            | _ => .no)
          | .ex c d h => .ex c d h
          | _ => .no)
        | .ex c d h => .ex c d h
        | .no => .no)
      | _ => .no) := rfl
theorem Fs_aug {i : Nat} {u1_ : Pos} {o : Operator} {x : Ex} {u4_ : Pos} : (F T r).s k env h (.aug i u1_ o x u4_) = (match look env i with
      | some u => (match r.e k env h x with
        | .ok v _ env1 h1 => (match u, v with
          | .int a, .int b => (match iOp o a b with | some z => .nx (setS (.v (.int z)) env1 i) h1 | none => .no)
          | _, _ => .no)
        | .ex c d h => .ex c d h
        | .no => .no)
      | none => .no) := rfl
theorem Fs_iff {t : Ex} {a : List St} {b : List St} {u3_ : Pos} : (F T r).s k env h (.iff t a b u3_) = (match eB r k env h t with
      | .ok d _ env1 h1 => (match truth d with
        | some true => ss r k env1 h1 a
        | some false => ss r k env1 h1 b
        | none => .no)
      | .ex c d h => .ex c d h
      | .no => .no) := rfl
theorem Fs_whl {t : Ex} {b : List St} {p : Pos} : (F T r).s k env h (.whl t b p) = (match eB r k env h t with
      | .ok d _ env1 h1 => (match truth d with
        | some true => (match ss r k env1 h1 b with
          | .nx env2 h2 => r.s k env2 h2 (.whl t b p)
          | .ct env2 h2 => r.s k env2 h2 (.whl t b p)
          | .bk env2 h2 => .nx env2 h2
          | q => q)
        | some false => .nx env1 h1
        | none => .no)
      | .ex c d h => .ex c d h
      | .no => .no) := rfl
theorem Fs_for_ {t : Ex} {it : Ex} {b : List St} {u3_ : Pos} : (F T r).s k env h (.for_ t it b u3_) = (match walk r k env h it with
      | .ok items env1 h1 => (match froze env1 (lent it) with | some env2 => forL k t (fun env h => ss r k env h b) env2 h1 items | none => .no)
      | .ex c d h => .ex c d h
      | .no => .no) := rfl
theorem Fs_exp {x : Ex} {u1_ : Pos} : (F T r).s k env h (.exp x u1_) = (match r.e k env h x with
      | .ok _ _ env1 h1 => .nx env1 h1
      | .ex c d h => .ex c d h
      | .no => .no) := rfl
theorem Fs_rai {u0_ : Ex} {u1_ : Pos} : (F T r).s k env h (.rai u0_ u1_) = (.no) := rfl
theorem Fs_brk {u0_ : Pos} : (F T r).s k env h (.brk u0_) = (.bk env h) := rfl
theorem Fs_cnt {u0_ : Pos} : (F T r).s k env h (.cnt u0_) = (.ct env h) := rfl
theorem Fs_pas {u0_ : Pos} : (F T r).s k env h (.pas u0_) = (.nx env h) := rfl
end
end Ew
/-! The small interpreter without a bound on its levels: what is reckoned at some level is reckoned at all later ones; the limit is a fixed point. -/
namespace Ew
open Ev
open PySem (Pos Operator CmpOp Scope Str Expr Stmt)
def Cv {α : Type} (b a : α) (f : Nat → α) : Prop := a = b ∨ ∃ n, ∀ m, n ≤ m → f m = a
theorem Cv.got {α : Type} {b a : α} {f : Nat → α} (h : Cv b a f) (hn : a ≠ b) : ∃ n, ∀ m, n ≤ m → f m = a := h.elim (fun e => absurd e hn) id
theorem Cv.rfl' {α : Type} {b a : α} : Cv b a fun _ => a := .inr ⟨0, fun _ _ => rfl⟩
structure Conv (r : Nat → Self) (W : Self) : Prop where
  e : ∀ k env h x, Cv .no (W.e k env h x) fun m => (r m).e k env h x
  s : ∀ k env h x, Cv .no (W.s k env h x) fun m => (r m).s k env h x
  run : ∀ k f ds h, Cv .no (W.run k f ds h) fun m => (r m).run k f ds h
section
variable {T : Tab} {r : Nat → Self} {W : Self}
def isV : Ex → Bool
  | .var _ _ => true
  | _ => false
theorem isV_var {a : Ex} (h : isV a = true) : ∃ i p, a = .var i p := by cases a <;> first | exact ⟨_, _, rfl⟩ | cases h
theorem eB_cv (C : Conv r W) (k : Nat) (env : Env) (h : Hs) (x : Ex) : Cv .no (eB W k env h x) fun m => eB (r m) k env h x := by
  cases x <;> first | exact C.e k env h _ | exact Cv.rfl'
theorem two_nv {s : Self} {k : Nat} {env : Env} {h : Hs} {a b : Ex} {c : D → D → Env → Hs → Res} (ha : isV a = false) : two s k env h a b c = (match s.e k env h a with
    | .ok u _ env1 h1 => (match eB s k env1 h1 b with
      | .ok v _ env2 h2 => c u v env2 h2
      | .ex c d h => .ex c d h
      | .no => .no)
    | .ex c d h => .ex c d h
    | .no => .no) := by
  cases a <;> first | rfl | cases ha
theorem two_cv (C : Conv r W) (k : Nat) (env : Env) (h : Hs) (a b : Ex) (c : D → D → Env → Hs → Res) : Cv .no (two W k env h a b c) fun m => two (r m) k env h a b c := by
  cases hv : isV a with
  | true =>
    obtain ⟨i, p, rfl⟩ := isV_var hv
    cases e0 : look env i with
    | none => exact .inl (by simp only [two, e0])
    | some d0 =>
      cases e : eB W k env h b with
      | no => exact .inl (by simp only [two, e0, e])
      | ex c2 d h' =>
        obtain ⟨n, g⟩ := (eB_cv C k env h b).got (by rw [e]; exact fun z => by cases z)
        exact .inr ⟨n, fun m hm => by simp only [two, e0, g m hm, e]⟩
      | ok d fr env1 h1 =>
        obtain ⟨n, g⟩ := (eB_cv C k env h b).got (by rw [e]; exact fun z => by cases z)
        exact .inr ⟨n, fun m hm => by simp only [two, e0, g m hm, e]⟩
  | false =>
    simp only [two_nv hv]
    cases e : W.e k env h a with
    | no => exact .inl (by simp only)
    | ex c2 d h' =>
      obtain ⟨n, g⟩ := (C.e k env h a).got (by rw [e]; exact fun z => by cases z)
      exact .inr ⟨n, fun m hm => by simp only [g m hm, e]⟩
    | ok d fr env1 h1 =>
      obtain ⟨n, g⟩ := (C.e k env h a).got (by rw [e]; exact fun z => by cases z)
      cases e2 : eB W k env1 h1 b with
      | no => exact .inl (by simp only [e2])
      | ex c2 d h' =>
        obtain ⟨n2, g2⟩ := (eB_cv C k env1 h1 b).got (by rw [e2]; exact fun z => by cases z)
        exact .inr ⟨max n n2, fun m hm => by simp only [g m (by omega), e, g2 m (by omega), e2]⟩
      | ok d fr env2 h2 =>
        obtain ⟨n2, g2⟩ := (eB_cv C k env1 h1 b).got (by rw [e2]; exact fun z => by cases z)
        exact .inr ⟨max n n2, fun m hm => by simp only [g m (by omega), e, g2 m (by omega), e2]⟩
def isStar : Ex → Bool
  | .star _ _ => true
  | _ => false
theorem isStar_eq {a : Ex} (h : isStar a = true) : ∃ y p, a = .star y p := by cases a <;> first | exact ⟨_, _, rfl⟩ | cases h
theorem es_ns {s : Self} {k : Nat} {env : Env} {h : Hs} {x : Ex} {xs : List Ex} (hx : isStar x = false) : es s k env h (x :: xs) = (match s.e k env h x with
      | .ok d _ env1 h1 => (match es s k env1 h1 xs with | .ok qs env2 h2 => .ok (d :: qs) env2 h2 | .ex c d h => .ex c d h | .no => .no)
      | .ex c d h => .ex c d h
      | .no => .no) := by
  cases x <;> first | rfl | cases hx
theorem as_nv {s : Self} {k : Nat} {env : Env} {h : Hs} {x : Ex} {xs : List Ex} (hx : isV x = false) : as s k env h (x :: xs) = (match s.e k env h x with
      | .ok d _ env1 h1 => (match as s k env1 h1 xs with | .ok qs env2 h2 => .ok (d :: qs) env2 h2 | .ex c d h => .ex c d h | .no => .no)
      | .ex c d h => .ex c d h
      | .no => .no) := by
  cases x <;> first | rfl | cases hx
theorem es_cv (C : Conv r W) (k : Nat) : ∀ (xs : List Ex) (env : Env) (h : Hs), Cv .no (es W k env h xs) fun m => es (r m) k env h xs
  | [], env, h => Cv.rfl'
  | x :: xs, env, h => by
    cases hs : isStar x with
    | true =>
      obtain ⟨y, p, rfl⟩ := isStar_eq hs
      cases e : eB W k env h y with
      | no => exact .inl (by simp only [es, e])
      | ex c2 d h' =>
        obtain ⟨n, g⟩ := (eB_cv C k env h y).got (by rw [e]; exact fun z => by cases z)
        exact .inr ⟨n, fun m hm => by simp only [es, g m hm, e]⟩
      | ok d fr env1 h1 =>
        obtain ⟨n, g⟩ := (eB_cv C k env h y).got (by rw [e]; exact fun z => by cases z)
        have ih := es_cv C k xs env1 h1
        cases e2 : es W k env1 h1 xs with
        | no => cases d <;> exact .inl (by simp only [es, e, e2])
        | ex c2 d2 h' =>
          obtain ⟨n2, g2⟩ := ih.got (by rw [e2]; exact fun z => by cases z)
          exact .inr ⟨max n n2, fun m hm => by cases d <;> simp only [es, g m (by omega), e, g2 m (by omega), e2]⟩
        | ok qs env2 h2 =>
          obtain ⟨n2, g2⟩ := ih.got (by rw [e2]; exact fun z => by cases z)
          exact .inr ⟨max n n2, fun m hm => by cases d <;> simp only [es, g m (by omega), e, g2 m (by omega), e2]⟩
    | false =>
      simp only [es_ns hs]
      cases e : W.e k env h x with
      | no => exact .inl (by simp only)
      | ex c2 d h' =>
        obtain ⟨n, g⟩ := (C.e k env h x).got (by rw [e]; exact fun z => by cases z)
        exact .inr ⟨n, fun m hm => by simp only [g m hm, e]⟩
      | ok d fr env1 h1 =>
        obtain ⟨n, g⟩ := (C.e k env h x).got (by rw [e]; exact fun z => by cases z)
        have ih := es_cv C k xs env1 h1
        cases e2 : es W k env1 h1 xs with
        | no => exact .inl (by simp only [e2])
        | ex c2 d2 h' =>
          obtain ⟨n2, g2⟩ := ih.got (by rw [e2]; exact fun z => by cases z)
          exact .inr ⟨max n n2, fun m hm => by simp only [g m (by omega), e, g2 m (by omega), e2]⟩
        | ok qs env2 h2 =>
          obtain ⟨n2, g2⟩ := ih.got (by rw [e2]; exact fun z => by cases z)
          exact .inr ⟨max n n2, fun m hm => by simp only [g m (by omega), e, g2 m (by omega), e2]⟩
theorem as_cv (C : Conv r W) (k : Nat) : ∀ (xs : List Ex) (env : Env) (h : Hs), Cv .no (as W k env h xs) fun m => as (r m) k env h xs
  | [], env, h => Cv.rfl'
  | x :: xs, env, h => by
    cases hs : isV x with
    | true =>
      obtain ⟨i, p, rfl⟩ := isV_var hs
      cases e0 : look env i with
      | none => exact .inl (by simp only [as, e0])
      | some d0 =>
        have ih := as_cv C k xs env h
        cases e2 : as W k env h xs with
        | no => exact .inl (by simp only [as, e0, e2])
        | ex c2 d2 h' =>
          obtain ⟨n2, g2⟩ := ih.got (by rw [e2]; exact fun z => by cases z)
          exact .inr ⟨n2, fun m hm => by simp only [as, e0, g2 m hm, e2]⟩
        | ok qs env2 h2 =>
          obtain ⟨n2, g2⟩ := ih.got (by rw [e2]; exact fun z => by cases z)
          exact .inr ⟨n2, fun m hm => by simp only [as, e0, g2 m hm, e2]⟩
    | false =>
      simp only [as_nv hs]
      cases e : W.e k env h x with
      | no => exact .inl (by simp only)
      | ex c2 d h' =>
        obtain ⟨n, g⟩ := (C.e k env h x).got (by rw [e]; exact fun z => by cases z)
        exact .inr ⟨n, fun m hm => by simp only [g m hm, e]⟩
      | ok d fr env1 h1 =>
        obtain ⟨n, g⟩ := (C.e k env h x).got (by rw [e]; exact fun z => by cases z)
        have ih := as_cv C k xs env1 h1
        cases e2 : as W k env1 h1 xs with
        | no => exact .inl (by simp only [e2])
        | ex c2 d2 h' =>
          obtain ⟨n2, g2⟩ := ih.got (by rw [e2]; exact fun z => by cases z)
          exact .inr ⟨max n n2, fun m hm => by simp only [g m (by omega), e, g2 m (by omega), e2]⟩
        | ok qs env2 h2 =>
          obtain ⟨n2, g2⟩ := ih.got (by rw [e2]; exact fun z => by cases z)
          exact .inr ⟨max n n2, fun m hm => by simp only [g m (by omega), e, g2 m (by omega), e2]⟩
theorem tests_cv (C : Conv r W) (k : Nat) (env : Env) : ∀ (xs : List Ex) (h : Hs), Cv none (tests W k env h xs) fun m => tests (r m) k env h xs
  | [], h => Cv.rfl'
  | x :: xs, h => by
    cases e : W.e k env h x with
    | no => exact .inl (by simp only [tests, e])
    | ex c2 d h' => exact .inl (by simp only [tests, e])
    | ok d fr env1 h1 =>
      obtain ⟨n, g⟩ := (C.e k env h x).got (by rw [e]; exact fun z => by cases z)
      cases et : truth d with
      | none => exact .inl (by simp only [tests, e, et])
      | some b =>
        cases b with
        | false => exact .inr ⟨n, fun m hm => by simp only [tests, g m hm, e, et]⟩
        | true =>
          rcases tests_cv C k env xs h1 with e2 | ⟨n2, g2⟩
          · exact .inl (by simp only [tests, e, et, e2])
          · exact .inr ⟨max n n2, fun m hm => by simp only [tests, g m (by omega), e, et, g2 m (by omega)]⟩
theorem dicS_cv (C : Conv r W) (k : Nat) (env : Env) : ∀ (xs ys : List Ex) (h : Hs), Cv none (dicS W k env h xs ys) fun m => dicS (r m) k env h xs ys
  | [], [], h => Cv.rfl'
  | [], _ :: _, h => Cv.rfl'
  | _ :: _, [], h => Cv.rfl'
  | x :: xs, y :: ys, h => by
    cases x with
    | str s q p =>
      cases e : W.e k (lock env) h y with
      | no => exact .inl (by simp only [dicS, e])
      | ex c2 d h' => exact .inl (by simp only [dicS, e])
      | ok d fr env1 h1 =>
        obtain ⟨n, g⟩ := (C.e k (lock env) h y).got (by rw [e]; exact fun z => by cases z)
        rcases dicS_cv C k env xs ys h1 with e2 | ⟨n2, g2⟩
        · exact .inl (by simp only [dicS, e, e2])
        · exact .inr ⟨max n n2, fun m hm => by simp only [dicS, g m (by omega), e, g2 m (by omega)]⟩
    | _ => exact .inl rfl
/-- the last step of a case: nothing, or what stands -/
theorem walk_pl {s : Self} {k : Nat} {env : Env} {h : Hs} {x : Ex} (h4 : ∀ b xs p1 p, x = .blt b xs p1 p → b ≠ 4 ∧ b ≠ 5 ∧ b ≠ 6) : walk s k env h x = (match eB s k env h x with
    | .ok (.tup ds) _ env1 h1 => .ok ds env1 h1
    | .ok (.lst ds) _ env1 h1 => .ok ds env1 h1
    | .ex c d h => .ex c d h
    | _ => .no) := by
  cases x <;> first | rfl | skip
  rename_i b xs p1 p
  obtain ⟨n4, n5, n6⟩ := h4 b xs p1 p rfl
  unfold walk
  split <;> first | (rename_i e; injection e with e1; contradiction) | rfl
theorem eBw_cv (C : Conv r W) (k : Nat) (env : Env) (h : Hs) (y : Ex) (f : List D → List D) : Cv Rs.no (match eB W k env h y with
    | .ok (.tup ds) _ env1 h1 => .ok (f ds) env1 h1
    | .ok (.lst ds) _ env1 h1 => .ok (f ds) env1 h1
    | .ex c d h => .ex c d h
    | _ => .no) fun m => (match eB (r m) k env h y with
    | .ok (.tup ds) _ env1 h1 => .ok (f ds) env1 h1
    | .ok (.lst ds) _ env1 h1 => .ok (f ds) env1 h1
    | .ex c d h => .ex c d h
    | _ => .no) := by
  cases e : eB W k env h y with
  | no => exact .inl (by simp only)
  | ex c2 d h' =>
    obtain ⟨n, g⟩ := (eB_cv C k env h y).got (by rw [e]; exact fun z => by cases z)
    exact .inr ⟨n, fun m hm => by simp only [g m hm, e]⟩
  | ok d fr env1 h1 =>
    obtain ⟨n, g⟩ := (eB_cv C k env h y).got (by rw [e]; exact fun z => by cases z)
    exact .inr ⟨n, fun m hm => by simp only [g m hm, e]⟩
end
end Ew
/-! The limit, 2: what is walked, turns, every expression and statement. -/
namespace Ew
open Ev
open PySem (Pos Operator CmpOp Scope Str Expr Stmt)
section
variable {T : Tab} {r : Nat → Self} {W : Self}
theorem walk_cv (C : Conv r W) (k : Nat) (env : Env) (h : Hs) (it : Ex) : Cv .no (walk W k env h it) fun m => walk (r m) k env h it := by
  by_cases h4 : ∃ y p1 p, it = .blt 4 [y] p1 p
  · obtain ⟨y, p1, p, rfl⟩ := h4
    exact eBw_cv C k env h y (enumL 0)
  by_cases h5 : ∃ y z p1 p, it = .blt 5 [y, z] p1 p
  · obtain ⟨y, z, p1, p, rfl⟩ := h5
    have t := two_cv C k env h y z fun u v env2 h2 => .ok (.tup [u, v]) false env2 h2
    cases e : two W k env h y z fun u v env2 h2 => .ok (.tup [u, v]) false env2 h2 with
    | no => exact .inl (by simp only [walk, e])
    | ex c2 d h' =>
      obtain ⟨n, g⟩ := t.got (by rw [e]; exact fun z => by cases z)
      exact .inr ⟨n, fun m hm => by simp only [walk, g m hm, e]⟩
    | ok d fr env1 h1 =>
      obtain ⟨n, g⟩ := t.got (by rw [e]; exact fun z => by cases z)
      exact .inr ⟨n, fun m hm => by simp only [walk, g m hm, e]⟩
  by_cases h6 : ∃ y p1 p, it = .blt 6 [y] p1 p
  · obtain ⟨y, p1, p, rfl⟩ := h6
    cases e : W.e k env h y with
    | no => exact .inl (by simp only [walk, e])
    | ex c2 d h' =>
      obtain ⟨n, g⟩ := (C.e k env h y).got (by rw [e]; exact fun z => by cases z)
      exact .inr ⟨n, fun m hm => by simp only [walk, g m hm, e]⟩
    | ok d fr env1 h1 =>
      obtain ⟨n, g⟩ := (C.e k env h y).got (by rw [e]; exact fun z => by cases z)
      exact .inr ⟨n, fun m hm => by simp only [walk, g m hm, e]⟩
  by_cases h7 : ∃ y z p1 p, it = .blt 6 [y, z] p1 p
  · obtain ⟨y, z, p1, p, rfl⟩ := h7
    cases e : W.e k env h y with
    | no => exact .inl (by simp only [walk, e])
    | ex c2 d h' =>
      obtain ⟨n, g⟩ := (C.e k env h y).got (by rw [e]; exact fun z => by cases z)
      exact .inr ⟨n, fun m hm => by simp only [walk, g m hm, e]⟩
    | ok d fr env1 h1 =>
      obtain ⟨n, g⟩ := (C.e k env h y).got (by rw [e]; exact fun z => by cases z)
      cases d with
      | int i =>
        cases e2 : W.e k env1 h1 z with
        | no => exact .inl (by simp only [walk, e, e2])
        | ex c2 d h' =>
          obtain ⟨n2, g2⟩ := (C.e k env1 h1 z).got (by rw [e2]; exact fun z => by cases z)
          exact .inr ⟨max n n2, fun m hm => by simp only [walk, g m (by omega), e, g2 m (by omega), e2]⟩
        | ok d2 fr2 env2 h2 =>
          obtain ⟨n2, g2⟩ := (C.e k env1 h1 z).got (by rw [e2]; exact fun z => by cases z)
          exact .inr ⟨max n n2, fun m hm => by simp only [walk, g m (by omega), e, g2 m (by omega), e2]⟩
      | _ => exact .inl (by simp only [walk, e])
  have q : ∀ s : Self, walk s k env h it = (match eB s k env h it with
    | .ok (.tup ds) _ env1 h1 => .ok ds env1 h1
    | .ok (.lst ds) _ env1 h1 => .ok ds env1 h1
    | .ex c d h => .ex c d h
    | _ => .no) := fun s => by
    unfold walk
    split
    · exact absurd ⟨_, _, _, rfl⟩ h4
    · exact absurd ⟨_, _, _, _, rfl⟩ h5
    · exact absurd ⟨_, _, _, rfl⟩ h6
    · exact absurd ⟨_, _, _, _, rfl⟩ h7
    · rfl
  simp only [q]
  exact eBw_cv C k env h it fun ds => ds
theorem turns_cv (C : Conv r W) (k : Nat) (env : Env) (elt t : Ex) (ifs : List Ex) : ∀ (ds : List D) (h : Hs), Cv none (turns W k env elt t ifs h ds) fun m => turns (r m) k env elt t ifs h ds
  | [], h => Cv.rfl'
  | d :: ds, h => by
    cases et : tg 4 t d env with
    | none => exact .inl (by simp only [turns, et])
    | some env1 =>
      rcases tests_cv C k env1 ifs h with e | ⟨n, g⟩
      · exact .inl (by simp only [turns, et, e])
      cases e : tests W k env1 h ifs with
      | none => exact .inl (by simp only [turns, et, e])
      | some o =>
        obtain ⟨b, h1⟩ := o
        cases b with
        | false =>
          rcases turns_cv C k env elt t ifs ds h1 with e2 | ⟨n2, g2⟩
          · exact .inl (by simp only [turns, et, e, e2])
          · exact .inr ⟨max n n2, fun m hm => by simp only [turns, et, g m (by omega), e, g2 m (by omega)]⟩
        | true =>
          cases e3 : W.e k env1 h1 elt with
          | no => exact .inl (by simp only [turns, et, e, e3])
          | ex c2 d2 h' => exact .inl (by simp only [turns, et, e, e3])
          | ok q fr env2 h2 =>
            obtain ⟨n3, g3⟩ := (C.e k env1 h1 elt).got (by rw [e3]; exact fun z => by cases z)
            rcases turns_cv C k env elt t ifs ds h2 with e2 | ⟨n2, g2⟩
            · exact .inl (by simp only [turns, et, e, e3, e2])
            · exact .inr ⟨max n (max n2 n3), fun m hm => by simp only [turns, et, g m (by omega), e, g3 m (by omega), e3, g2 m (by omega)]⟩
theorem turns2_cv (C : Conv r W) (k : Nat) (env : Env) (elt t : Ex) (ifs : List Ex) (t2 i2 : Ex) (ifs2 : List Ex) (vs1 : List Nat) : ∀ (ds : List D) (h : Hs), Cv none (turns2 W k env elt t ifs t2 i2 ifs2 vs1 h ds) fun m => turns2 (r m) k env elt t ifs t2 i2 ifs2 vs1 h ds
  | [], h => Cv.rfl'
  | d :: ds, h => by
    cases et : tg 4 t d env with
    | none => exact .inl (by simp only [turns2, et])
    | some env1 =>
      rcases tests_cv C k env1 ifs h with e | ⟨n, g⟩
      · exact .inl (by simp only [turns2, et, e])
      cases e : tests W k env1 h ifs with
      | none => exact .inl (by simp only [turns2, et, e])
      | some o =>
        obtain ⟨b, h1⟩ := o
        cases b with
        | false =>
          rcases turns2_cv C k env elt t ifs t2 i2 ifs2 vs1 ds h1 with e2 | ⟨n2, g2⟩
          · exact .inl (by simp only [turns2, et, e, e2])
          · exact .inr ⟨max n n2, fun m hm => by simp only [turns2, et, g m (by omega), e, g2 m (by omega)]⟩
        | true =>
          cases e3 : walk W k env1 h1 i2 with
          | no => exact .inl (by simp only [turns2, et, e, e3])
          | ex c2 d2 h' => exact .inl (by simp only [turns2, et, e, e3])
          | ok items env2 h2 =>
            obtain ⟨n3, g3⟩ := (walk_cv C k env1 h1 i2).got (by rw [e3]; exact fun z => by cases z)
            rcases turns_cv C k (wipe env1 vs1) elt t2 ifs2 items h2 with e4 | ⟨n4, g4⟩
            · exact .inl (by simp only [turns2, et, e, e3, e4])
            cases e4 : turns W k (wipe env1 vs1) elt t2 ifs2 h2 items with
            | none => exact .inl (by simp only [turns2, et, e, e3, e4])
            | some o =>
              rcases turns2_cv C k env elt t ifs t2 i2 ifs2 vs1 ds o.2 with e2 | ⟨n2, g2⟩
              · exact .inl (by simp only [turns2, et, e, e3, e4, e2])
              · exact .inr ⟨max n (max n2 (max n3 n4)), fun m hm => by simp only [turns2, et, g m (by omega), e, g3 m (by omega), e3, g4 m (by omega), e4, g2 m (by omega)]⟩
theorem forL_cv {k : Nat} {t : Ex} {b : Env → Hs → SR} {bm : Nat → Env → Hs → SR} (hb : ∀ env h, Cv .no (b env h) fun m => bm m env h) : ∀ (ds : List D) (env : Env) (h : Hs), Cv .no (forL k t b env h ds) fun m => forL k t (bm m) env h ds
  | [], env, h => Cv.rfl'
  | d :: ds, env, h => by
    cases et : tg 4 t d env with
    | none => exact .inl (by simp only [forL, et])
    | some env1 =>
      cases e : b env1 h with
      | no => exact .inl (by simp only [forL, et, e])
      | nx env2 h2 =>
        obtain ⟨n, g⟩ := (hb env1 h).got (by rw [e]; exact fun z => by cases z)
        rcases forL_cv (k := k) (t := t) hb ds env2 h2 with e2 | ⟨n2, g2⟩
        · exact .inl (by simp only [forL, et, e, e2])
        · exact .inr ⟨max n n2, fun m hm => by simp only [forL, et, g m (by omega), e, g2 m (by omega)]⟩
      | ct env2 h2 =>
        obtain ⟨n, g⟩ := (hb env1 h).got (by rw [e]; exact fun z => by cases z)
        rcases forL_cv (k := k) (t := t) hb ds env2 h2 with e2 | ⟨n2, g2⟩
        · exact .inl (by simp only [forL, et, e, e2])
        · exact .inr ⟨max n n2, fun m hm => by simp only [forL, et, g m (by omega), e, g2 m (by omega)]⟩
      | _ =>
        obtain ⟨n, g⟩ := (hb env1 h).got (by rw [e]; exact fun z => by cases z)
        exact .inr ⟨n, fun m hm => by simp only [forL, et, g m hm, e]⟩
theorem ss_cv (C : Conv r W) (k : Nat) : ∀ (xs : List St) (env : Env) (h : Hs), Cv .no (ss W k env h xs) fun m => ss (r m) k env h xs
  | [], env, h => Cv.rfl'
  | x :: xs, env, h => by
    cases e : W.s k env h x with
    | no => exact .inl (by simp only [ss, e])
    | nx env2 h2 =>
      obtain ⟨n, g⟩ := (C.s k env h x).got (by rw [e]; exact fun z => by cases z)
      rcases ss_cv C k xs env2 h2 with e2 | ⟨n2, g2⟩
      · exact .inl (by simp only [ss, e, e2])
      · exact .inr ⟨max n n2, fun m hm => by simp only [ss, g m (by omega), e, g2 m (by omega)]⟩
    | _ =>
      obtain ⟨n, g⟩ := (C.s k env h x).got (by rw [e]; exact fun z => by cases z)
      exact .inr ⟨n, fun m hm => by simp only [ss, g m hm, e]⟩
theorem andV_cv (C : Conv r W) (k : Nat) : ∀ (xs : List Ex) (env : Env) (h : Hs), Cv .no (andV W k env h xs) fun m => andV (r m) k env h xs
  | [], env, h => Cv.rfl'
  | [x], env, h => C.e k env h x
  | x :: y :: xs, env, h => by
    cases e : W.e k env h x with
    | no => exact .inl (by simp only [andV, e])
    | ex c2 d h' =>
      obtain ⟨n, g⟩ := (C.e k env h x).got (by rw [e]; exact fun z => by cases z)
      exact .inr ⟨n, fun m hm => by simp only [andV, g m hm, e]⟩
    | ok d fr env1 h1 =>
      obtain ⟨n, g⟩ := (C.e k env h x).got (by rw [e]; exact fun z => by cases z)
      cases d with
      | bl b => cases b with
        | false => exact .inr ⟨n, fun m hm => by simp only [andV, g m hm, e]⟩
        | true =>
          rcases andV_cv C k (y :: xs) env1 h1 with e2 | ⟨n2, g2⟩
          · exact .inl (by simp only [andV, e, e2])
          · exact .inr ⟨max n n2, fun m hm => by simp only [andV, g m (by omega), e, g2 m (by omega)]⟩
      | _ => exact .inl (by simp only [andV, e])
theorem orV_cv (C : Conv r W) (k : Nat) : ∀ (xs : List Ex) (env : Env) (h : Hs), Cv .no (orV W k env h xs) fun m => orV (r m) k env h xs
  | [], env, h => Cv.rfl'
  | [x], env, h => C.e k env h x
  | x :: y :: xs, env, h => by
    cases e : W.e k env h x with
    | no => exact .inl (by simp only [orV, e])
    | ex c2 d h' =>
      obtain ⟨n, g⟩ := (C.e k env h x).got (by rw [e]; exact fun z => by cases z)
      exact .inr ⟨n, fun m hm => by simp only [orV, g m hm, e]⟩
    | ok d fr env1 h1 =>
      obtain ⟨n, g⟩ := (C.e k env h x).got (by rw [e]; exact fun z => by cases z)
      cases d with
      | bl b => cases b with
        | true => exact .inr ⟨n, fun m hm => by simp only [orV, g m hm, e]⟩
        | false =>
          rcases orV_cv C k (y :: xs) env1 h1 with e2 | ⟨n2, g2⟩
          · exact .inl (by simp only [orV, e, e2])
          · exact .inr ⟨max n n2, fun m hm => by simp only [orV, g m (by omega), e, g2 m (by omega)]⟩
      | _ => exact .inl (by simp only [orV, e])
theorem part_cv (C : Conv r W) (k : Nat) (env : Env) (h : Hs) : ∀ o : Option Ex, Cv none (part W k env h o) fun m => part (r m) k env h o
  | none => Cv.rfl'
  | some x => by
    cases e : W.e k (lock env) h x with
    | no => exact .inl (by simp only [part, e])
    | ex c2 d h' => exact .inl (by simp only [part, e])
    | ok d fr env1 h1 =>
      obtain ⟨n, g⟩ := (C.e k (lock env) h x).got (by rw [e]; exact fun z => by cases z)
      exact .inr ⟨n, fun m hm => by simp only [part, g m hm, e]⟩
end
end Ew
/-! The limit, 3: the step of the interpreter. -/
namespace Ew
open Ev
open PySem (Pos Operator CmpOp Scope Str Expr Stmt)
section
variable {T : Tab} {r : Nat → Self} {W : Self}
/-- an expression that reads one list of items -/
theorem res_es {q : Rs} {qm : Nat → Rs} (hq : Cv .no q qm) (f : List D → Env → Hs → Res) : Cv Res.no (match (generalizing := false) q with | .ok ds env1 h1 => f ds env1 h1 | .ex c d h => .ex c d h | .no => .no) fun m => (match (generalizing := false) qm m with | .ok ds env1 h1 => f ds env1 h1 | .ex c d h => .ex c d h | .no => .no) := by
  rcases hq with e | ⟨n, g⟩
  · exact .inl (by simp only [e])
  · exact .inr ⟨n, fun m hm => by simp only [g m hm]⟩
theorem blt2 {s : Self} {k : Nat} {env : Env} {h : Hs} {b : Nat} {x y : Ex} {p1 p : Pos} (ht : ¬ ∃ t pt, y = .ty t pt) : (F T s).e k env h (.blt b [x, y] p1 p) = (match b with
              | 14 => two s k env h x y fun u v env2 h2 => (match u, v with
                | .int i, .int j => .ok (.int (match iLt i j with | true => j | false => i)) false env2 h2
                | _, _ => .no)
              | 15 => two s k env h x y fun u v env2 h2 => (match u, v with
                | .int i, .int j => .ok (.int (match iLt j i with | true => j | false => i)) false env2 h2
                | _, _ => .no)
              | _ => .no) := by
  cases y <;> first | exact absurd ⟨_, _, rfl⟩ ht | rfl
theorem F_e (C : Conv r W) (k : Nat) (env : Env) (h : Hs) (x : Ex) : Cv .no ((F T W).e k env h x) fun m => (F T (r m)).e k env h x := by
  cases x with
  | var i p => exact Cv.rfl'
  | num n q p => exact Cv.rfl'
  | str s q p => exact Cv.rfl'
  | cb b q p => exact Cv.rfl'
  | cn q p => exact Cv.rfl'
  | glob g p => exact Cv.rfl'
  | ty t p => exact Cv.rfl'
  | star e p => exact Cv.rfl'
  | tup xs q p =>
    rcases es_cv C k xs env h with e | ⟨n, g⟩
    · exact .inl (by simp only [Fe_tup, e])
    · exact .inr ⟨n, fun m hm => by simp only [Fe_tup, g m hm]⟩
  | lst xs p =>
    rcases es_cv C k xs env h with e | ⟨n, g⟩
    · exact .inl (by simp only [Fe_lst, e])
    · exact .inr ⟨n, fun m hm => by simp only [Fe_lst, g m hm]⟩
  | bin o a b p => exact two_cv C k env h a b _
  | cmp o a b p => exact two_cv C k env h a b _
  | idx a i p => exact two_cv C k env h a i _
  | neg a p =>
    rcases C.e k env h a with e | ⟨n, g⟩
    · exact .inl (by simp only [Fe_neg, e])
    · exact .inr ⟨n, fun m hm => by simp only [Fe_neg, g m hm]⟩
  | chn o o2 a b c p =>
    cases e : W.e k env h a with
    | no => exact .inl (by simp only [Fe_chn, e])
    | ex c2 d h' =>
      obtain ⟨n, g⟩ := (C.e k env h a).got (by rw [e]; exact fun z => by cases z)
      exact .inr ⟨n, fun m hm => by simp only [Fe_chn, g m hm, e]⟩
    | ok u fr env1 h1 =>
      obtain ⟨n, g⟩ := (C.e k env h a).got (by rw [e]; exact fun z => by cases z)
      cases u with
      | int u =>
        cases e2 : W.e k env1 h1 b with
        | no => exact .inl (by simp only [Fe_chn, e, e2])
        | ex c2 d h' =>
          obtain ⟨n2, g2⟩ := (C.e k env1 h1 b).got (by rw [e2]; exact fun z => by cases z)
          exact .inr ⟨max n n2, fun m hm => by simp only [Fe_chn, g m (by omega), e, g2 m (by omega), e2]⟩
        | ok v fr2 env2 h2 =>
          obtain ⟨n2, g2⟩ := (C.e k env1 h1 b).got (by rw [e2]; exact fun z => by cases z)
          cases v with
          | int v =>
            cases e3 : cmpV o (.int u) (.int v) with
            | none => exact .inl (by simp only [Fe_chn, e, e2, e3])
            | some q => cases q with
              | false => exact .inr ⟨max n n2, fun m hm => by simp only [Fe_chn, g m (by omega), e, g2 m (by omega), e2, e3]⟩
              | true =>
                rcases C.e k env2 h2 c with e4 | ⟨n4, g4⟩
                · exact .inl (by simp only [Fe_chn, e, e2, e3, e4])
                · exact .inr ⟨max n (max n2 n4), fun m hm => by simp only [Fe_chn, g m (by omega), e, g2 m (by omega), e2, e3, g4 m (by omega)]⟩
          | _ => exact .inl (by simp only [Fe_chn, e, e2])
      | _ => exact .inl (by simp only [Fe_chn, e])
  | and xs p => exact andV_cv C k xs env h
  | or xs p => exact orV_cv C k xs env h
  | not a p =>
    rcases eB_cv C k env h a with e | ⟨n, g⟩
    · exact .inl (by simp only [Fe_not, e])
    · exact .inr ⟨n, fun m hm => by simp only [Fe_not, g m hm]⟩
  | ife t a b p =>
    cases e : eB W k env h t with
    | no => exact .inl (by simp only [Fe_ife, e])
    | ex c2 d h' =>
      obtain ⟨n, g⟩ := (eB_cv C k env h t).got (by rw [e]; exact fun z => by cases z)
      exact .inr ⟨n, fun m hm => by simp only [Fe_ife, g m hm, e]⟩
    | ok d fr env1 h1 =>
      obtain ⟨n, g⟩ := (eB_cv C k env h t).got (by rw [e]; exact fun z => by cases z)
      cases e2 : truth d with
      | none => exact .inl (by simp only [Fe_ife, e, e2])
      | some q => cases q with
        | true =>
          rcases C.e k env1 h1 a with e4 | ⟨n4, g4⟩
          · exact .inl (by simp only [Fe_ife, e, e2, e4])
          · exact .inr ⟨max n n4, fun m hm => by simp only [Fe_ife, g m (by omega), e, e2, g4 m (by omega)]⟩
        | false =>
          rcases C.e k env1 h1 b with e4 | ⟨n4, g4⟩
          · exact .inl (by simp only [Fe_ife, e, e2, e4])
          · exact .inr ⟨max n n4, fun m hm => by simp only [Fe_ife, g m (by omega), e, e2, g4 m (by omega)]⟩
  | slc a lo hi p2 p =>
    cases e : eB W k env h a with
    | no => exact .inl (by simp only [Fe_slc, e])
    | ex c2 d h' =>
      obtain ⟨n, g⟩ := (eB_cv C k env h a).got (by rw [e]; exact fun z => by cases z)
      exact .inr ⟨n, fun m hm => by simp only [Fe_slc, g m hm, e]⟩
    | ok u fr env1 h1 =>
      obtain ⟨n, g⟩ := (eB_cv C k env h a).got (by rw [e]; exact fun z => by cases z)
      rcases part_cv C k env1 h1 lo with e2 | ⟨n2, g2⟩
      · exact .inl (by simp only [Fe_slc, e, e2])
      cases e2 : part W k env1 h1 lo with
      | none => exact .inl (by simp only [Fe_slc, e, e2])
      | some o =>
        obtain ⟨l, h2⟩ := o
        rcases part_cv C k env1 h2 hi with e3 | ⟨n3, g3⟩
        · exact .inl (by simp only [Fe_slc, e, e2, e3])
        · exact .inr ⟨max n (max n2 n3), fun m hm => by simp only [Fe_slc, g m (by omega), e, g2 m (by omega), e2, g3 m (by omega)]⟩
  | att a f p =>
    rcases C.e k env h a with e | ⟨n, g⟩
    · exact .inl (by simp only [Fe_att, e])
    · exact .inr ⟨n, fun m hm => by simp only [Fe_att, g m hm]⟩
  | call f xs p1 p =>
    cases hk : T.kind f with
    | mt c => exact .inl (by simp only [Fe_call, hk])
    | no => exact .inl (by simp only [Fe_call, hk])
    | fn => cases k with
      | zero => exact .inl (by simp only [Fe_call, hk])
      | succ k' =>
        cases e : as W (k' + 1) env h xs with
        | no => exact .inl (by simp only [Fe_call, hk, e])
        | ex c2 d h' =>
          obtain ⟨n, g⟩ := (as_cv C (k' + 1) xs env h).got (by rw [e]; exact fun z => by cases z)
          exact .inr ⟨n, fun m hm => by simp only [Fe_call, hk, g m hm, e]⟩
        | ok ds env1 h1 =>
          obtain ⟨n, g⟩ := (as_cv C (k' + 1) xs env h).got (by rw [e]; exact fun z => by cases z)
          rcases C.run k' f ds [] with e4 | ⟨n4, g4⟩
          · exact .inl (by cases e5 : pures ds <;> simp only [Fe_call, hk, e, e4, e5])
          · exact .inr ⟨max n n4, fun m hm => by simp only [Fe_call, hk, g m (by omega), e, g4 m (by omega)]⟩
  | calh f xs p1 p =>
    cases hk : T.kind f with
    | mt c => exact .inl (by simp only [Fe_calh, hk])
    | no => exact .inl (by simp only [Fe_calh, hk])
    | fn => cases k with
      | zero => exact .inl (by simp only [Fe_calh, hk])
      | succ k' =>
        cases e : es W (k' + 1) env h xs with
        | no => exact .inl (by simp only [Fe_calh, hk, e])
        | ex c2 d h' =>
          obtain ⟨n, g⟩ := (es_cv C (k' + 1) xs env h).got (by rw [e]; exact fun z => by cases z)
          exact .inr ⟨n, fun m hm => by simp only [Fe_calh, hk, g m hm, e]⟩
        | ok ds env1 h1 =>
          obtain ⟨n, g⟩ := (es_cv C (k' + 1) xs env h).got (by rw [e]; exact fun z => by cases z)
          rcases C.run k' f ds h1 with e4 | ⟨n4, g4⟩
          · exact .inl (by simp only [Fe_calh, hk, e, e4])
          · exact .inr ⟨max n n4, fun m hm => by simp only [Fe_calh, hk, g m (by omega), e, g4 m (by omega)]⟩
  | new c xs p1 p =>
    cases hk : T.ini c with
    | none => exact .inl (by simp only [Fe_new, hk])
    | some f => cases k with
      | zero => exact .inl (by simp only [Fe_new, hk])
      | succ k' =>
        cases e : es W (k' + 1) env h xs with
        | no => exact .inl (by simp only [Fe_new, hk, e])
        | ex c2 d h' =>
          obtain ⟨n, g⟩ := (es_cv C (k' + 1) xs env h).got (by rw [e]; exact fun z => by cases z)
          exact .inr ⟨n, fun m hm => by simp only [Fe_new, hk, g m hm, e]⟩
        | ok ds env1 h1 =>
          obtain ⟨n, g⟩ := (es_cv C (k' + 1) xs env h).got (by rw [e]; exact fun z => by cases z)
          rcases C.run k' f (.ref h1.length :: ds) (h1 ++ [.ins c []]) with e4 | ⟨n4, g4⟩
          · exact .inl (by simp only [Fe_new, hk, e, e4])
          · exact .inr ⟨max n n4, fun m hm => by simp only [Fe_new, hk, g m (by omega), e, g4 m (by omega)]⟩
  | mth f o xs pa p =>
    cases hk : T.kind f with
    | fn => exact .inl (by simp only [Fe_mth, hk])
    | no => exact .inl (by simp only [Fe_mth, hk])
    | mt c => cases k with
      | zero => exact .inl (by simp only [Fe_mth, hk])
      | succ k' =>
        cases e0 : W.e (k' + 1) env h o with
        | no => exact .inl (by simp only [Fe_mth, hk, e0])
        | ex c2 d h' =>
          obtain ⟨n, g⟩ := (C.e (k' + 1) env h o).got (by rw [e0]; exact fun z => by cases z)
          exact .inr ⟨n, fun m hm => by simp only [Fe_mth, hk, g m hm, e0]⟩
        | ok d fr env1 h1 =>
          obtain ⟨n0, g0⟩ := (C.e (k' + 1) env h o).got (by rw [e0]; exact fun z => by cases z)
          cases d with
          | ref i =>
            cases eo : getH h1 i with
            | none => exact .inl (by simp only [Fe_mth, hk, e0, eo])
            | some ob => cases ob with
              | ins c2 fs =>
                cases eb : Nat.beq c2 c with
                | false => exact .inl (by simp only [Fe_mth, hk, e0, eo, eb])
                | true =>
                  cases e : es W (k' + 1) env1 h1 xs with
                  | no => exact .inl (by simp only [Fe_mth, hk, e0, eo, eb, e])
                  | ex c2 d h' =>
                    obtain ⟨n, g⟩ := (es_cv C (k' + 1) xs env1 h1).got (by rw [e]; exact fun z => by cases z)
                    exact .inr ⟨max n0 n, fun m hm => by simp only [Fe_mth, hk, g0 m (by omega), e0, eo, eb, g m (by omega), e]⟩
                  | ok ds env2 h2 =>
                    obtain ⟨n, g⟩ := (es_cv C (k' + 1) xs env1 h1).got (by rw [e]; exact fun z => by cases z)
                    rcases C.run k' f (.ref i :: ds) h2 with e4 | ⟨n4, g4⟩
                    · exact .inl (by simp only [Fe_mth, hk, e0, eo, eb, e, e4])
                    · exact .inr ⟨max n0 (max n n4), fun m hm => by simp only [Fe_mth, hk, g0 m (by omega), e0, eo, eb, g m (by omega), e, g4 m (by omega)]⟩
              | _ => exact .inl (by simp only [Fe_mth, hk, e0, eo])
          | _ => exact .inl (by simp only [Fe_mth, hk, e0])
  | blt b xs p1 p =>
    match xs with
    | [] => exact Cv.rfl'
    | [x] =>
      rcases eB_cv C k env h x with e | ⟨n, g⟩
      · exact .inl (by simp only [Fe_blt, e])
      · exact .inr ⟨n, fun m hm => by simp only [Fe_blt, g m hm]⟩
    | x :: y :: z :: q => cases y <;> exact Cv.rfl'
    | [x, y] =>
      by_cases ht : ∃ t pt, y = .ty t pt
      · obtain ⟨t, pt, rfl⟩ := ht
        by_cases h12 : b = 12
        · subst h12
          rcases eB_cv C k env h x with e | ⟨n, g⟩
          · exact .inl (by simp only [Fe_blt, e])
          · exact .inr ⟨n, fun m hm => by simp only [Fe_blt, g m hm]⟩
        · refine .inl ?_
          show (match b with
            | 12 => (match eB W k env h x with
              | .ok d _ env1 h1 => (match isi d t with | some c => Res.ok (.bl c) false env1 h1 | none => .no)
              | .ex c d h => .ex c d h
              | .no => .no)
            | _ => .no) = .no
          split
          · exact absurd rfl h12
          · rfl
      · by_cases h14 : b = 14
        · subst h14
          cases y <;> first | exact absurd ⟨_, _, rfl⟩ ht | exact two_cv C k env h x _ _
        · by_cases h15 : b = 15
          · subst h15
            cases y <;> first | exact absurd ⟨_, _, rfl⟩ ht | exact two_cv C k env h x _ _
          · refine .inl ?_
            rw [blt2 ht]
            split
            · exact absurd rfl h14
            · exact absurd rfl h15
            · rfl
  | lm m o xs pa p =>
    cases o with
    | var i pi =>
      cases hs : getS env i with
      | l ds0 =>
        match m, xs with
        | 0, [x] =>
          rcases C.e k env h x with e | ⟨n, g⟩
          · exact .inl (by simp only [Fe_lm, hs, e])
          · exact .inr ⟨n, fun m hm => by simp only [Fe_lm, hs, g m hm]⟩
        | 1, [x] =>
          rcases eB_cv C k env h x with e | ⟨n, g⟩
          · exact .inl (by simp only [Fe_lm, hs, e])
          · exact .inr ⟨n, fun m hm => by simp only [Fe_lm, hs, g m hm]⟩
        | 2, [x, y] =>
          cases e : W.e k env h x with
          | no => exact .inl (by simp only [Fe_lm, hs, e])
          | ex c2 d h' =>
            obtain ⟨n, g⟩ := (C.e k env h x).got (by rw [e]; exact fun z => by cases z)
            exact .inr ⟨n, fun m hm => by simp only [Fe_lm, hs, g m hm, e]⟩
          | ok d fr env1 h1 =>
            obtain ⟨n, g⟩ := (C.e k env h x).got (by rw [e]; exact fun z => by cases z)
            cases d with
            | int j => cases j with
              | ofNat j =>
                rcases C.e k env1 h1 y with e4 | ⟨n4, g4⟩
                · exact .inl (by simp only [Fe_lm, hs, e, e4])
                · exact .inr ⟨max n n4, fun m hm => by simp only [Fe_lm, hs, g m (by omega), e, g4 m (by omega)]⟩
              | negSucc j => exact .inl (by simp only [Fe_lm, hs, e])
            | _ => exact .inl (by simp only [Fe_lm, hs, e])
        | 3, [] => exact .inr ⟨0, fun m hm => by simp only [Fe_lm, hs]⟩
        | 3, [x] =>
          rcases C.e k env h x with e | ⟨n, g⟩
          · exact .inl (by simp only [Fe_lm, hs, e])
          · exact .inr ⟨n, fun m hm => by simp only [Fe_lm, hs, g m hm]⟩
        | 0, [] => exact .inl (by simp only [Fe_lm, hs])
        | 0, _ :: _ :: _ => exact .inl (by simp only [Fe_lm, hs])
        | 1, [] => exact .inl (by simp only [Fe_lm, hs])
        | 1, _ :: _ :: _ => exact .inl (by simp only [Fe_lm, hs])
        | 2, [] => exact .inl (by simp only [Fe_lm, hs])
        | 2, [_] => exact .inl (by simp only [Fe_lm, hs])
        | 2, _ :: _ :: _ :: _ => exact .inl (by simp only [Fe_lm, hs])
        | 3, _ :: _ :: _ => exact .inl (by simp only [Fe_lm, hs])
        | m + 4, [] => exact .inl (by simp only [Fe_lm, hs])
        | m + 4, [_] => exact .inl (by simp only [Fe_lm, hs])
        | m + 4, [_, _] => exact .inl (by simp only [Fe_lm, hs])
        | m + 4, _ :: _ :: _ :: _ => exact .inl (by simp only [Fe_lm, hs])
      | _ => exact .inl (by simp only [Fe_lm, hs])
    | _ => exact Cv.rfl'
  | lc elt t it ifs sc own p =>
    cases e : walk W k env h it with
    | no => exact .inl (by simp only [Fe_lc, e])
    | ex c2 d h' =>
      obtain ⟨n, g⟩ := (walk_cv C k env h it).got (by rw [e]; exact fun z => by cases z)
      exact .inr ⟨n, fun m hm => by simp only [Fe_lc, g m hm, e]⟩
    | ok items env1 h1 =>
      obtain ⟨n, g⟩ := (walk_cv C k env h it).got (by rw [e]; exact fun z => by cases z)
      rcases turns_cv C k (wipe (lock env1) (own.map (·.2))) elt t ifs items h1 with e4 | ⟨n4, g4⟩
      · exact .inl (by simp only [Fe_lc, e, e4])
      · exact .inr ⟨max n n4, fun m hm => by simp only [Fe_lc, g m (by omega), e, g4 m (by omega)]⟩
  | lc2 elt t it ifs t2 i2 ifs2 sc own vs1 p =>
    cases e : walk W k env h it with
    | no => exact .inl (by simp only [Fe_lc2, e])
    | ex c2 d h' =>
      obtain ⟨n, g⟩ := (walk_cv C k env h it).got (by rw [e]; exact fun z => by cases z)
      exact .inr ⟨n, fun m hm => by simp only [Fe_lc2, g m hm, e]⟩
    | ok items env1 h1 =>
      obtain ⟨n, g⟩ := (walk_cv C k env h it).got (by rw [e]; exact fun z => by cases z)
      rcases turns2_cv C k (wipe (lock env1) (own.map (·.2))) elt t ifs t2 i2 ifs2 vs1 items h1 with e4 | ⟨n4, g4⟩
      · exact .inl (by simp only [Fe_lc2, e, e4])
      · exact .inr ⟨max n n4, fun m hm => by simp only [Fe_lc2, g m (by omega), e, g4 m (by omega)]⟩
  | dic xs ys t p =>
    match xs, ys, t with
    | [], [], true => exact Cv.rfl'
    | [], [], false => exact Cv.rfl'
    | [], _ :: _, _ => exact Cv.rfl'
    | [_], [], _ => exact Cv.rfl'
    | [_], [_], true => exact Cv.rfl'
    | [_], _ :: _ :: _, _ => exact Cv.rfl'
    | _ :: _ :: _, _, true => exact Cv.rfl'
    | [x], [y], false =>
      cases e : W.e k (lock env) h x with
      | no => exact .inl (by simp only [Fe_dic, e])
      | ex c2 d h' => exact .inl (by simp only [Fe_dic, e])
      | ok d fr env1 h1 =>
        obtain ⟨n, g⟩ := (C.e k (lock env) h x).got (by rw [e]; exact fun z => by cases z)
        rcases C.e k (lock env) h1 y with e4 | ⟨n4, g4⟩
        · exact .inl (by cases e5 : key1 d <;> simp only [Fe_dic, e, e4, e5])
        · exact .inr ⟨max n n4, fun m hm => by simp only [Fe_dic, g m (by omega), e, g4 m (by omega)]⟩
    | x1 :: x2 :: xs, ys, false =>
      rcases dicS_cv C k env (x1 :: x2 :: xs) ys h with e | ⟨n, g⟩
      · exact .inl (by simp only [Fe_dic, e])
      · exact .inr ⟨n, fun m hm => by simp only [Fe_dic, g m hm]⟩
end
end Ew
/-! The limit, 4: statements, runs, the limit itself. -/
namespace Ew
open Ev
open PySem (Pos Operator CmpOp Scope Str Expr Stmt)
section
variable {T : Tab} {r : Nat → Self} {W : Self}
theorem ret_nv {s : Self} {k : Nat} {env : Env} {h : Hs} {x : Ex} {p : Pos} (hx : isV x = false) : (F T s).s k env h (.ret x p) = (match s.e k env h x with
        | .ok d fr _ h1 => .rt d fr h1
        | .ex c d h => .ex c d h
        | .no => .no) := by cases x <;> first | rfl | cases hx
/-- a tuple of targets: the general form -/
theorem asgT_gen {s : Self} {k : Nat} {env : Env} {h : Hs} {ts : List Ex} {kt : Nat} {pt : Pos} {x : Ex} {p : Pos} (hp : ¬ ∃ i pi j pj x1 x2 k2 p2, ts = [.var i pi, .var j pj] ∧ x = .tup [x1, x2] k2 p2) :
    (F T s).s k env h (.asg (.tup ts kt pt) x p) = (match s.e k env h x with
          | .ok d _ env1 h1 => (match tg 4 (.tup ts kt pt) d env1 with | some env2 => .nx env2 h1 | none => .no)
          | .ex c d h => .ex c d h
          | .no => .no) := by
  simp only [F]
  split
  · exact absurd ⟨_, _, _, _, _, _, _, _, rfl, rfl⟩ hp
  · rfl
theorem asgI_var {s : Self} {k : Nat} {env : Env} {h : Hs} {i : Nat} {pi : Pos} {y : Ex} {pt : Pos} {x : Ex} {p : Pos} : (F T s).s k env h (.asg (.idx (.var i pi) y pt) x p) = (match s.e k env h x with
        | .ok d _ env1 h1 => (match getS env1 i with
          | .l _ => (match s.e k env1 h1 y with
            | .ok (.int j) _ env2 h2 => (match getS env2 i with
              | .l ds => (match ixOf ds.length j with | some n => .nx (setS (.l (setAt d n ds)) env2 i) h2 | none => .no)
              | _ => .no)
            | .ex c d h => .ex c d h
            | _ => .no)
          | .v (.ref o) => (match s.e k env1 h1 y with
            | .ok q _ env2 h2 => (match getH h2 o with
              | some (.dK kvs) => (match keyOk false q, Nat.ble kvs.length 100000 with | true, true => .nx env2 (setH (.dK (dPut q d kvs)) h2 o) | _, _ => .no)
              | some (.dT kvs) => (match keyOk true q, Nat.ble kvs.length 100000 with | true, true => .nx env2 (setH (.dT (dPut q d kvs)) h2 o) | _, _ => .no)
              | _ => .no)
            | .ex c d h => .ex c d h
            | .no => .no)
          | _ => .no)
        | .ex c d h => .ex c d h
        | .no => .no) := rfl
theorem asgI_att {s : Self} {k : Nat} {env : Env} {h : Hs} {y : Ex} {f : Nat} {pa : Pos} {z : Ex} {pt : Pos} {x : Ex} {p : Pos} : (F T s).s k env h (.asg (.idx (.att y f pa) z pt) x p) = (match s.e k env h x with
        | .ok d _ env1 h1 => (match s.e k env1 h1 (.att y f pa) with
          | .ok (.ref o) _ env2 h2 => (match s.e k env2 h2 z with
            | .ok q _ env3 h3 => (match getH h3 o with
              | some (.dK kvs) => (match keyOk false q, Nat.ble kvs.length 100000 with | true, true => .nx env3 (setH (.dK (dPut q d kvs)) h3 o) | _, _ => .no)
              | some (.dT kvs) => (match keyOk true q, Nat.ble kvs.length 100000 with | true, true => .nx env3 (setH (.dT (dPut q d kvs)) h3 o) | _, _ => .no)
              | _ => .no)
            | .ex c d h => .ex c d h
            | .no => .no)
          | .ex c d h => .ex c d h
          | _ => .no)
        | .ex c d h => .ex c d h
        | .no => .no) := rfl
theorem asg_att {s : Self} {k : Nat} {env : Env} {h : Hs} {y : Ex} {f : Nat} {pt : Pos} {x : Ex} {p : Pos} : (F T s).s k env h (.asg (.att y f pt) x p) = (match s.e k env h x with
        | .ok d _ env1 h1 => (match s.e k env1 h1 y with
          | .ok (.ref o) _ env2 h2 => (match getH h2 o with
            | some (.ins c fs) => (match T.att c f, Nat.blt fs.length 900 with | true, true => .nx env2 (setH (.ins c (fPut f d fs)) h2 o) | _, _ => .no)
            | _ => .no)
          | .ex c d h => .ex c d h
          | _ => .no)
        | .ex c d h => .ex c d h
        | .no => .no) := rfl
theorem asg_var {s : Self} {k : Nat} {env : Env} {h : Hs} {i : Nat} {pi : Pos} {x : Ex} {p : Pos} : (F T s).s k env h (.asg (.var i pi) x p) = (match s.e k env h x with
        | .ok d fr env1 h1 => .nx (put env1 i d fr) h1
        | .ex c d h => .ex c d h
        | .no => .no) := rfl
theorem asg_pair {s : Self} {k : Nat} {env : Env} {h : Hs} {i j kt k2 : Nat} {pi pj pt p2 p : Pos} {x1 x2 : Ex} (hn : (isNum x1 && isNum x2) = false) : (F T s).s k env h (.asg (.tup [.var i pi, .var j pj] kt pt) (.tup [x1, x2] k2 p2) p) = (match s.e k env h x1 with
          | .ok d1 fr1 env1 h1 => (match s.e k env1 h1 x2 with
            | .ok d2 fr2 env2 h2 => .nx (put (put env2 i d1 fr1) j d2 fr2) h2
            | .ex c d h => .ex c d h
            | .no => .no)
          | .ex c d h => .ex c d h
          | .no => .no) := by
  simp only [F, hn] <;> rfl
theorem asg_nums {s : Self} {k : Nat} {env : Env} {h : Hs} {i j kt k2 : Nat} {pi pj pt p2 p : Pos} {x1 x2 : Ex} (hn : (isNum x1 && isNum x2) = true) : (F T s).s k env h (.asg (.tup [.var i pi, .var j pj] kt pt) (.tup [x1, x2] k2 p2) p) = (match s.e k env h (.tup [x1, x2] k2 p2) with
          | .ok d _ env1 h1 => (match tg 4 (.tup [.var i pi, .var j pj] kt pt) d env1 with | some env2 => .nx env2 h1 | none => .no)
          | .ex c d h => .ex c d h
          | .no => .no) := by
  simp only [F, hn] <;> rfl
theorem F_asg (C : Conv r W) (k : Nat) (env : Env) (h : Hs) (t x : Ex) (p : Pos) : Cv .no ((F T W).s k env h (.asg t x p)) fun m => (F T (r m)).s k env h (.asg t x p) := by
  cases t with
  | var i pv =>
    simp only [asg_var]
    rcases C.e k env h x with e | ⟨n, g⟩
    · exact .inl (by simp only [e])
    · exact .inr ⟨n, fun m hm => by simp only [g m hm]⟩
  | tup ts kt pt =>
    by_cases hp : ∃ i pi j pj x1 x2 k2 p2, ts = [.var i pi, .var j pj] ∧ x = .tup [x1, x2] k2 p2
    · obtain ⟨i, pi, j, pj, x1, x2, k2, p2, rfl, rfl⟩ := hp
      cases hn : isNum x1 && isNum x2 with
      | true =>
        simp only [asg_nums hn]
        rcases C.e k env h (.tup [x1, x2] k2 p2) with e | ⟨n, g⟩
        · exact .inl (by simp only [e])
        · exact .inr ⟨n, fun m hm => by simp only [g m hm]⟩
      | false =>
        simp only [asg_pair hn]
        cases e : W.e k env h x1 with
        | no => exact .inl (by simp only)
        | ex c2 d h' =>
          obtain ⟨n, g⟩ := (C.e k env h x1).got (by rw [e]; exact fun z => by cases z)
          exact .inr ⟨n, fun m hm => by simp only [g m hm, e]⟩
        | ok d fr env1 h1 =>
          obtain ⟨n, g⟩ := (C.e k env h x1).got (by rw [e]; exact fun z => by cases z)
          rcases C.e k env1 h1 x2 with e4 | ⟨n4, g4⟩
          · exact .inl (by simp only [e4])
          · exact .inr ⟨max n n4, fun m hm => by simp only [g m (by omega), e, g4 m (by omega)]⟩
    · simp only [asgT_gen hp]
      rcases C.e k env h x with e | ⟨n, g⟩
      · exact .inl (by simp only [e])
      · exact .inr ⟨n, fun m hm => by simp only [g m hm]⟩
  | att y f pt =>
    simp only [asg_att]
    cases e : W.e k env h x with
    | no => exact .inl (by simp only)
    | ex c2 d h' =>
      obtain ⟨n, g⟩ := (C.e k env h x).got (by rw [e]; exact fun z => by cases z)
      exact .inr ⟨n, fun m hm => by simp only [g m hm, e]⟩
    | ok d fr env1 h1 =>
      obtain ⟨n, g⟩ := (C.e k env h x).got (by rw [e]; exact fun z => by cases z)
      rcases C.e k env1 h1 y with e4 | ⟨n4, g4⟩
      · exact .inl (by simp only [e4])
      · exact .inr ⟨max n n4, fun m hm => by simp only [g m (by omega), e, g4 m (by omega)]⟩
  | idx o z pt =>
    cases o with
    | var i pi =>
      simp only [asgI_var]
      cases e : W.e k env h x with
      | no => exact .inl (by simp only)
      | ex c2 d h' =>
        obtain ⟨n, g⟩ := (C.e k env h x).got (by rw [e]; exact fun z => by cases z)
        exact .inr ⟨n, fun m hm => by simp only [g m hm, e]⟩
      | ok d fr env1 h1 =>
        obtain ⟨n, g⟩ := (C.e k env h x).got (by rw [e]; exact fun z => by cases z)
        rcases C.e k env1 h1 z with e4 | ⟨n4, g4⟩
        · refine .inl ?_
          cases hs : getS env1 i with
          | v d2 => cases d2 <;> simp only [hs, e4]
          | _ => simp only [hs, e4]
        · exact .inr ⟨max n n4, fun m hm => by simp only [g m (by omega), e, g4 m (by omega)]⟩
    | att y f pa =>
      simp only [asgI_att]
      cases e : W.e k env h x with
      | no => exact .inl (by simp only)
      | ex c2 d h' =>
        obtain ⟨n, g⟩ := (C.e k env h x).got (by rw [e]; exact fun z => by cases z)
        exact .inr ⟨n, fun m hm => by simp only [g m hm, e]⟩
      | ok d fr env1 h1 =>
        obtain ⟨n, g⟩ := (C.e k env h x).got (by rw [e]; exact fun z => by cases z)
        cases e2 : W.e k env1 h1 (.att y f pa) with
        | no => exact .inl (by simp only [e2])
        | ex c2 d2 h' =>
          obtain ⟨n2, g2⟩ := (C.e k env1 h1 (.att y f pa)).got (by rw [e2]; exact fun z => by cases z)
          exact .inr ⟨max n n2, fun m hm => by simp only [g m (by omega), e, g2 m (by omega), e2]⟩
        | ok d2 fr2 env2 h2 =>
          obtain ⟨n2, g2⟩ := (C.e k env1 h1 (.att y f pa)).got (by rw [e2]; exact fun z => by cases z)
          rcases C.e k env2 h2 z with e4 | ⟨n4, g4⟩
          · exact .inl (by cases d2 <;> simp only [e2, e4])
          · exact .inr ⟨max n (max n2 n4), fun m hm => by
              have g5 : (r m).e k env2 h2 z = W.e k env2 h2 z := g4 m (by omega)
              cases d2 <;> simp only [g m (by omega), e, g2 m (by omega), e2, g5]⟩
    | _ => exact Cv.rfl'
  | _ => exact Cv.rfl'
theorem F_s (C : Conv r W) (k : Nat) (env : Env) (h : Hs) (x : St) : Cv .no ((F T W).s k env h x) fun m => (F T (r m)).s k env h x := by
  cases x with
  | ret x p =>
    cases hv : isV x with
    | true =>
      obtain ⟨i, pi, rfl⟩ := isV_var hv
      exact Cv.rfl'
    | false =>
      simp only [ret_nv hv]
      rcases C.e k env h x with e | ⟨n, g⟩
      · exact .inl (by simp only [e])
      · exact .inr ⟨n, fun m hm => by simp only [g m hm]⟩
  | retN p => exact Cv.rfl'
  | asg t x p => exact F_asg C k env h t x p
  | aug i pi o x p =>
    cases hl : look env i with
    | none => exact .inl (by simp only [Fs_aug, hl])
    | some u =>
      rcases C.e k env h x with e | ⟨n, g⟩
      · exact .inl (by simp only [Fs_aug, hl, e])
      · exact .inr ⟨n, fun m hm => by simp only [Fs_aug, hl, g m hm]⟩
  | iff t a b p =>
    cases e : eB W k env h t with
    | no => exact .inl (by simp only [Fs_iff, e])
    | ex c2 d h' =>
      obtain ⟨n, g⟩ := (eB_cv C k env h t).got (by rw [e]; exact fun z => by cases z)
      exact .inr ⟨n, fun m hm => by simp only [Fs_iff, g m hm, e]⟩
    | ok d fr env1 h1 =>
      obtain ⟨n, g⟩ := (eB_cv C k env h t).got (by rw [e]; exact fun z => by cases z)
      cases e2 : truth d with
      | none => exact .inl (by simp only [Fs_iff, e, e2])
      | some q => cases q with
        | true =>
          rcases ss_cv C k a env1 h1 with e4 | ⟨n4, g4⟩
          · exact .inl (by simp only [Fs_iff, e, e2, e4])
          · exact .inr ⟨max n n4, fun m hm => by simp only [Fs_iff, g m (by omega), e, e2, g4 m (by omega)]⟩
        | false =>
          rcases ss_cv C k b env1 h1 with e4 | ⟨n4, g4⟩
          · exact .inl (by simp only [Fs_iff, e, e2, e4])
          · exact .inr ⟨max n n4, fun m hm => by simp only [Fs_iff, g m (by omega), e, e2, g4 m (by omega)]⟩
  | whl t b p =>
    cases e : eB W k env h t with
    | no => exact .inl (by simp only [Fs_whl, e])
    | ex c2 d h' =>
      obtain ⟨n, g⟩ := (eB_cv C k env h t).got (by rw [e]; exact fun z => by cases z)
      exact .inr ⟨n, fun m hm => by simp only [Fs_whl, g m hm, e]⟩
    | ok d fr env1 h1 =>
      obtain ⟨n, g⟩ := (eB_cv C k env h t).got (by rw [e]; exact fun z => by cases z)
      cases e2 : truth d with
      | none => exact .inl (by simp only [Fs_whl, e, e2])
      | some q => cases q with
        | false => exact .inr ⟨n, fun m hm => by simp only [Fs_whl, g m hm, e, e2]⟩
        | true =>
          cases e4 : ss W k env1 h1 b with
          | no => exact .inl (by simp only [Fs_whl, e, e2, e4])
          | nx env2 h2 =>
            obtain ⟨n4, g4⟩ := (ss_cv C k b env1 h1).got (by rw [e4]; exact fun z => by cases z)
            rcases C.s k env2 h2 (.whl t b p) with e5 | ⟨n5, g5⟩
            · exact .inl (by simp only [Fs_whl, e, e2, e4, e5])
            · exact .inr ⟨max n (max n4 n5), fun m hm => by simp only [Fs_whl, g m (by omega), e, e2, g4 m (by omega), e4, g5 m (by omega)]⟩
          | ct env2 h2 =>
            obtain ⟨n4, g4⟩ := (ss_cv C k b env1 h1).got (by rw [e4]; exact fun z => by cases z)
            rcases C.s k env2 h2 (.whl t b p) with e5 | ⟨n5, g5⟩
            · exact .inl (by simp only [Fs_whl, e, e2, e4, e5])
            · exact .inr ⟨max n (max n4 n5), fun m hm => by simp only [Fs_whl, g m (by omega), e, e2, g4 m (by omega), e4, g5 m (by omega)]⟩
          | _ =>
            obtain ⟨n4, g4⟩ := (ss_cv C k b env1 h1).got (by rw [e4]; exact fun z => by cases z)
            exact .inr ⟨max n n4, fun m hm => by simp only [Fs_whl, g m (by omega), e, e2, g4 m (by omega), e4]⟩
  | for_ t it b p =>
    cases e : walk W k env h it with
    | no => exact .inl (by simp only [Fs_for_, e])
    | ex c2 d h' =>
      obtain ⟨n, g⟩ := (walk_cv C k env h it).got (by rw [e]; exact fun z => by cases z)
      exact .inr ⟨n, fun m hm => by simp only [Fs_for_, g m hm, e]⟩
    | ok items env1 h1 =>
      obtain ⟨n, g⟩ := (walk_cv C k env h it).got (by rw [e]; exact fun z => by cases z)
      cases e1 : froze env1 (lent it) with
      | none => exact .inl (by simp only [Fs_for_, e, e1])
      | some env2 =>
        rcases forL_cv (k := k) (t := t) (b := fun env h => ss W k env h b) (bm := fun m env h => ss (r m) k env h b) (fun env h => ss_cv C k b env h) items env2 h1 with e4 | ⟨n4, g4⟩
        · exact .inl (by simp only [Fs_for_, e, e1, e4])
        · exact .inr ⟨max n n4, fun m hm => by simp only [Fs_for_, g m (by omega), e, e1, g4 m (by omega)]⟩
  | exp x p =>
    rcases C.e k env h x with e | ⟨n, g⟩
    · exact .inl (by simp only [Fs_exp, e])
    · exact .inr ⟨n, fun m hm => by simp only [Fs_exp, g m hm]⟩
  | rai x p => exact Cv.rfl'
  | brk p => exact Cv.rfl'
  | cnt p => exact Cv.rfl'
  | pas p => exact Cv.rfl'
theorem Fr {s : Self} (k f : Nat) (ds : List D) (h : Hs) : (F T s).run k f ds h = (match T.fns.get f with
    | some fn => match Nat.beq ds.length fn.nargs with
      | true => (match T.nat k f ds with
        | some d => .ok d false h
        | none => (match ss s k (vs ds ++ us (fn.nslots - fn.nargs)) h fn.body with
          | .rt d fr h1 => .ok d fr h1
          | .nx _ h1 => .ok .non false h1
          | .ex c d h1 => .ex c d h1
          | _ => .no))
      | false => .no
    | none => .no) := rfl
theorem F_cv (C : Conv r W) : Conv (fun m => F T (r m)) (F T W) where
  e := F_e C
  s := F_s C
  run := fun k f ds h => by
    cases e : T.fns.get f with
    | none => exact .inl (by simp only [Fr, e])
    | some fn =>
      cases e1 : Nat.beq ds.length fn.nargs with
      | false => exact .inl (by simp only [Fr, e, e1])
      | true =>
        cases e2 : T.nat k f ds with
        | some d => exact .inr ⟨0, fun m _ => by simp only [Fr, e, e1, e2]⟩
        | none =>
          rcases ss_cv C k fn.body (vs ds ++ us (fn.nslots - fn.nargs)) h with e4 | ⟨n4, g4⟩
          · exact .inl (by simp only [Fr, e, e1, e2, e4])
          · exact .inr ⟨n4, fun m hm => by simp only [Fr, e, e1, e2, g4 m hm]⟩
end
/-! ### levels, and their limit -/
variable (T : Tab)
/-- one step more tells the same, or more -/
theorem ev_step : ∀ n, Conv (fun _ => ev T (n + 1)) (ev T n)
  | 0 => ⟨fun _ _ _ _ => .inl rfl, fun _ _ _ _ => .inl rfl, fun _ _ _ _ => .inl rfl⟩
  | n + 1 => F_cv (T := T) (ev_step n)
theorem cv_const {α : Type} {b a a' : α} (h : Cv b a fun _ => a') : a = b ∨ a' = a := h.elim .inl fun ⟨n, g⟩ => .inr (g n (Nat.le_refl n))
theorem ev_e {n m : Nat} (hm : n ≤ m) {k env h x q} (e : (ev T n).e k env h x = q) (hq : q ≠ .no) : (ev T m).e k env h x = q := by
  induction hm with
  | refl => exact e
  | @step m hm ih => rcases cv_const ((ev_step T m).e k env h x) with z | z
                     · rw [ih] at z; exact absurd z hq
                     · exact z.trans ih
theorem ev_s {n m : Nat} (hm : n ≤ m) {k env h x q} (e : (ev T n).s k env h x = q) (hq : q ≠ .no) : (ev T m).s k env h x = q := by
  induction hm with
  | refl => exact e
  | @step m hm ih => rcases cv_const ((ev_step T m).s k env h x) with z | z
                     · rw [ih] at z; exact absurd z hq
                     · exact z.trans ih
theorem ev_run {n m : Nat} (hm : n ≤ m) {k f ds h q} (e : (ev T n).run k f ds h = q) (hq : q ≠ .no) : (ev T m).run k f ds h = q := by
  induction hm with
  | refl => exact e
  | @step m hm ih => rcases cv_const ((ev_step T m).run k f ds h) with z | z
                     · rw [ih] at z; exact absurd z hq
                     · exact z.trans ih
open Classical in
/-- the interpreter at some level, where one tells something -/
noncomputable def W0 : Self where
  e := fun k env h x => if z : ∃ n, (ev T n).e k env h x ≠ .no then (ev T (choose z)).e k env h x else .no
  s := fun k env h x => if z : ∃ n, (ev T n).s k env h x ≠ .no then (ev T (choose z)).s k env h x else .no
  run := fun k f ds h => if z : ∃ n, (ev T n).run k f ds h ≠ .no then (ev T (choose z)).run k f ds h else .no
open Classical in
theorem W0_cv : Conv (fun n => ev T n) (W0 T) where
  e := fun k env h x => by
    by_cases z : ∃ n, (ev T n).e k env h x ≠ .no
    · have e : (W0 T).e k env h x = (ev T (choose z)).e k env h x := dif_pos z
      exact .inr ⟨choose z, fun m hm => by rw [e]; exact ev_e T hm rfl (choose_spec z)⟩
    · exact .inl (dif_neg z)
  s := fun k env h x => by
    by_cases z : ∃ n, (ev T n).s k env h x ≠ .no
    · have e : (W0 T).s k env h x = (ev T (choose z)).s k env h x := dif_pos z
      exact .inr ⟨choose z, fun m hm => by rw [e]; exact ev_s T hm rfl (choose_spec z)⟩
    · exact .inl (dif_neg z)
  run := fun k f ds h => by
    by_cases z : ∃ n, (ev T n).run k f ds h ≠ .no
    · have e : (W0 T).run k f ds h = (ev T (choose z)).run k f ds h := dif_pos z
      exact .inr ⟨choose z, fun m hm => by rw [e]; exact ev_run T hm rfl (choose_spec z)⟩
    · exact .inl (dif_neg z)
variable {T}
/-- what a level tells, the limit tells -/
theorem W0_e {n k env h x q} (e : (ev T n).e k env h x = q) (hq : q ≠ .no) : (W0 T).e k env h x = q := by
  rcases (W0_cv T).e k env h x with z | ⟨n2, g⟩
  · have z2 : ∃ n, (ev T n).e k env h x ≠ .no := ⟨n, by rw [e]; exact hq⟩
    have e2 : (W0 T).e k env h x = (ev T (Classical.choose z2)).e k env h x := dif_pos z2
    exact absurd (e2.symm.trans z) (Classical.choose_spec z2)
  · rw [← g (max n n2) (by omega)]; exact ev_e T (by omega) e hq
theorem W0_s {n k env h x q} (e : (ev T n).s k env h x = q) (hq : q ≠ .no) : (W0 T).s k env h x = q := by
  rcases (W0_cv T).s k env h x with z | ⟨n2, g⟩
  · have z2 : ∃ n, (ev T n).s k env h x ≠ .no := ⟨n, by rw [e]; exact hq⟩
    have e2 : (W0 T).s k env h x = (ev T (Classical.choose z2)).s k env h x := dif_pos z2
    exact absurd (e2.symm.trans z) (Classical.choose_spec z2)
  · rw [← g (max n n2) (by omega)]; exact ev_s T (by omega) e hq
theorem W0_run {n k f ds h q} (e : (ev T n).run k f ds h = q) (hq : q ≠ .no) : (W0 T).run k f ds h = q := by
  rcases (W0_cv T).run k f ds h with z | ⟨n2, g⟩
  · have z2 : ∃ n, (ev T n).run k f ds h ≠ .no := ⟨n, by rw [e]; exact hq⟩
    have e2 : (W0 T).run k f ds h = (ev T (Classical.choose z2)).run k f ds h := dif_pos z2
    exact absurd (e2.symm.trans z) (Classical.choose_spec z2)
  · rw [← g (max n n2) (by omega)]; exact ev_run T (by omega) e hq
/-- the same, never unfolded -/
@[irreducible] noncomputable def W (T : Tab) : Self := W0 T
theorem W_eq : W T = W0 T := by unfold W; rfl
theorem W_cv (T : Tab) : Conv (fun n => ev T n) (W T) := by rw [W_eq]; exact W0_cv T
theorem W_e {n k env h x q} (e : (ev T n).e k env h x = q) (hq : q ≠ .no) : (W T).e k env h x = q := by rw [W_eq]; exact W0_e e hq
theorem W_s {n k env h x q} (e : (ev T n).s k env h x = q) (hq : q ≠ .no) : (W T).s k env h x = q := by rw [W_eq]; exact W0_s e hq
theorem W_run {n k f ds h q} (e : (ev T n).run k f ds h = q) (hq : q ≠ .no) : (W T).run k f ds h = q := by rw [W_eq]; exact W0_run e hq
/-- what the limit tells, a level tells -/
theorem W_at {k f ds h q} (e : (W T).run k f ds h = q) (hq : q ≠ .no) : ∃ n, (ev T n).run k f ds h = q := by
  obtain ⟨n, g⟩ := ((W_cv T).run k f ds h).got (by rw [e]; exact hq)
  exact ⟨n, (g n (Nat.le_refl n)).trans e⟩
/-- the limit is a fixed point -/
theorem W_fix : W T = F T (W T) := by
  have C := F_cv (T := T) (W_cv T)
  have he : ∀ k env h x, (W T).e k env h x = (F T (W T)).e k env h x := fun k env h x => by
    rcases C.e k env h x with z | ⟨n, g⟩
    · rw [z]
      rcases (W_cv T).e k env h x with y | ⟨n, g⟩
      · exact y
      · by_cases y : (W T).e k env h x = .no
        · exact y
        · -- a level tells it; so does the step of the limit
          have e1 : (ev T (n + 1)).e k env h x = (W T).e k env h x := g (n + 1) (by omega)
          have M : Conv (fun _ => W T) (ev T n) := ⟨fun k env h x => by
              by_cases q : (ev T n).e k env h x = .no
              · exact .inl q
              · exact .inr ⟨0, fun _ _ => W_e rfl q⟩, fun k env h x => by
              by_cases q : (ev T n).s k env h x = .no
              · exact .inl q
              · exact .inr ⟨0, fun _ _ => W_s rfl q⟩, fun k f ds h => by
              by_cases q : (ev T n).run k f ds h = .no
              · exact .inl q
              · exact .inr ⟨0, fun _ _ => W_run rfl q⟩⟩
          rcases cv_const ((F_cv (T := T) M).e k env h x) with q | q
          · exact absurd (e1.symm.trans q) y
          · have q : (F T (W T)).e k env h x = (ev T (n + 1)).e k env h x := q
            rw [z] at q
            exact absurd (e1.symm.trans q.symm) y
    · by_cases y : (F T (W T)).e k env h x = .no
      · rw [y]
        by_cases y2 : (W T).e k env h x = .no
        · exact y2
        · obtain ⟨n2, g2⟩ := ((W_cv T).e k env h x).got y2
          have e1 : (ev T (max n n2 + 1)).e k env h x = (W T).e k env h x := g2 _ (by omega)
          have e2 : (ev T (max n n2 + 1)).e k env h x = (F T (W T)).e k env h x := g (max n n2) (by omega)
          rw [← e1, e2, y]
      · exact W_e (n := n + 1) (g n (Nat.le_refl n)) y
  have hs : ∀ k env h x, (W T).s k env h x = (F T (W T)).s k env h x := fun k env h x => by
    by_cases y : (F T (W T)).s k env h x = .no
    · rw [y]
      by_cases y2 : (W T).s k env h x = .no
      · exact y2
      · obtain ⟨n, g⟩ := ((W_cv T).s k env h x).got y2
        have e1 : (ev T (n + 1)).s k env h x = (W T).s k env h x := g (n + 1) (by omega)
        have M : Conv (fun _ => W T) (ev T n) := ⟨fun k env h x => by
              by_cases q : (ev T n).e k env h x = .no
              · exact .inl q
              · exact .inr ⟨0, fun _ _ => W_e rfl q⟩, fun k env h x => by
              by_cases q : (ev T n).s k env h x = .no
              · exact .inl q
              · exact .inr ⟨0, fun _ _ => W_s rfl q⟩, fun k f ds h => by
              by_cases q : (ev T n).run k f ds h = .no
              · exact .inl q
              · exact .inr ⟨0, fun _ _ => W_run rfl q⟩⟩
        rcases cv_const ((F_cv (T := T) M).s k env h x) with q | q
        · exact absurd (e1.symm.trans q) y2
        · have q : (F T (W T)).s k env h x = (ev T (n + 1)).s k env h x := q
          rw [y] at q
          exact absurd (e1.symm.trans q.symm) y2
    · obtain ⟨n, g⟩ := (C.s k env h x).got y
      exact W_s (n := n + 1) (g n (Nat.le_refl n)) y
  have hr : ∀ k f ds h, (W T).run k f ds h = (F T (W T)).run k f ds h := fun k f ds h => by
    by_cases y : (F T (W T)).run k f ds h = .no
    · rw [y]
      by_cases y2 : (W T).run k f ds h = .no
      · exact y2
      · obtain ⟨n, g⟩ := ((W_cv T).run k f ds h).got y2
        have e1 : (ev T (n + 1)).run k f ds h = (W T).run k f ds h := g (n + 1) (by omega)
        have M : Conv (fun _ => W T) (ev T n) := ⟨fun k env h x => by
              by_cases q : (ev T n).e k env h x = .no
              · exact .inl q
              · exact .inr ⟨0, fun _ _ => W_e rfl q⟩, fun k env h x => by
              by_cases q : (ev T n).s k env h x = .no
              · exact .inl q
              · exact .inr ⟨0, fun _ _ => W_s rfl q⟩, fun k f ds h => by
              by_cases q : (ev T n).run k f ds h = .no
              · exact .inl q
              · exact .inr ⟨0, fun _ _ => W_run rfl q⟩⟩
        rcases cv_const ((F_cv (T := T) M).run k f ds h) with q | q
        · exact absurd (e1.symm.trans q) y2
        · have q : (F T (W T)).run k f ds h = (ev T (n + 1)).run k f ds h := q
          rw [y] at q
          exact absurd (e1.symm.trans q.symm) y2
    · obtain ⟨n, g⟩ := (C.run k f ds h).got y
      exact W_run (n := n + 1) (g n (Nat.le_refl n)) y
  have ext : ∀ a b : Self, a.e = b.e → a.s = b.s → a.run = b.run → a = b := fun a b h1 h2 h3 => by
    cases a; cases b
    cases h1; cases h2; cases h3
    rfl
  exact ext _ _ (funext fun k => funext fun env => funext fun h => funext fun x => he k env h x) (funext fun k => funext fun env => funext fun h => funext fun x => hs k env h x) (funext fun k => funext fun f => funext fun ds => funext fun h => hr k f ds h)
end Ew
/-! The limit, case by case (printed by geneq.py out of Ev.lean). -/
namespace Ew
open Ev
open PySem (Pos Operator CmpOp Scope Str Expr Stmt)
section
variable {T : Tab} {k : Nat} {env : Env} {h : Hs}
theorem We_var {i : Nat} {u1_ : Pos} : (W T).e k env h (.var i u1_) = (match getS env i with
      | .v d => .ok d false env h
      | .l ds => .ok (.lst ds) false (setS (.v (.lst ds)) env i) h
      | _ => .no) := by
  have q := Fe_var (T := T) (r := W T) (k := k) (env := env) (h := h) (i := i) (u1_ := u1_)
  rw [← W_fix] at q
  exact q
theorem We_num {n : Int} {u1_ : Nat} {u2_ : Pos} : (W T).e k env h (.num n u1_ u2_) = (.ok (.int n) false env h) := by
  have q := Fe_num (T := T) (r := W T) (k := k) (env := env) (h := h) (n := n) (u1_ := u1_) (u2_ := u2_)
  rw [← W_fix] at q
  exact q
theorem We_str {s : List Nat} {u1_ : Nat} {u2_ : Pos} : (W T).e k env h (.str s u1_ u2_) = (.ok (.str s) false env h) := by
  have q := Fe_str (T := T) (r := W T) (k := k) (env := env) (h := h) (s := s) (u1_ := u1_) (u2_ := u2_)
  rw [← W_fix] at q
  exact q
theorem We_cb {b : Bool} {u1_ : Nat} {u2_ : Pos} : (W T).e k env h (.cb b u1_ u2_) = (.ok (.bl b) false env h) := by
  have q := Fe_cb (T := T) (r := W T) (k := k) (env := env) (h := h) (b := b) (u1_ := u1_) (u2_ := u2_)
  rw [← W_fix] at q
  exact q
theorem We_cn {u0_ : Nat} {u1_ : Pos} : (W T).e k env h (.cn u0_ u1_) = (.ok .non false env h) := by
  have q := Fe_cn (T := T) (r := W T) (k := k) (env := env) (h := h) (u0_ := u0_) (u1_ := u1_)
  rw [← W_fix] at q
  exact q
theorem We_glob {g : Nat} {u1_ : Pos} : (W T).e k env h (.glob g u1_) = (match atC T.consts g with | some d => .ok d false env h | none => .no) := by
  have q := Fe_glob (T := T) (r := W T) (k := k) (env := env) (h := h) (g := g) (u1_ := u1_)
  rw [← W_fix] at q
  exact q
theorem We_tup {xs : List Ex} {u1_ : Nat} {u2_ : Pos} : (W T).e k env h (.tup xs u1_ u2_) = (match es (W T) k env h xs with | .ok ds env1 h1 => (match lenOk ds with | true => .ok (.tup ds) false env1 h1 | false => .no) | .ex c d h => .ex c d h | .no => .no) := by
  have q := Fe_tup (T := T) (r := W T) (k := k) (env := env) (h := h) (xs := xs) (u1_ := u1_) (u2_ := u2_)
  rw [← W_fix] at q
  exact q
theorem We_lst {xs : List Ex} {u1_ : Pos} : (W T).e k env h (.lst xs u1_) = (match es (W T) k env h xs with | .ok ds env1 h1 => (match lenOk ds with | true => .ok (.lst ds) true env1 h1 | false => .no) | .ex c d h => .ex c d h | .no => .no) := by
  have q := Fe_lst (T := T) (r := W T) (k := k) (env := env) (h := h) (xs := xs) (u1_ := u1_)
  rw [← W_fix] at q
  exact q
theorem We_star {u0_ : Ex} {u1_ : Pos} : (W T).e k env h (.star u0_ u1_) = (.no) := by
  have q := Fe_star (T := T) (r := W T) (k := k) (env := env) (h := h) (u0_ := u0_) (u1_ := u1_)
  rw [← W_fix] at q
  exact q
theorem We_ty {u0_ : Nat} {u1_ : Pos} : (W T).e k env h (.ty u0_ u1_) = (.no) := by
  have q := Fe_ty (T := T) (r := W T) (k := k) (env := env) (h := h) (u0_ := u0_) (u1_ := u1_)
  rw [← W_fix] at q
  exact q
theorem We_bin {o : Operator} {a : Ex} {b : Ex} {u3_ : Pos} : (W T).e k env h (.bin o a b u3_) = (two (W T) k env h a b fun u v env2 h2 => match opV o u v with | some (d, fr) => .ok d fr env2 h2 | none => .no) := by
  have q := Fe_bin (T := T) (r := W T) (k := k) (env := env) (h := h) (o := o) (a := a) (b := b) (u3_ := u3_)
  rw [← W_fix] at q
  exact q
theorem We_neg {a : Ex} {u1_ : Pos} : (W T).e k env h (.neg a u1_) = (match (W T).e k env h a with
      | .ok (.int i) _ env1 h1 => .ok (.int (-i)) false env1 h1
      | .ex c d h => .ex c d h
      | _ => .no) := by
  have q := Fe_neg (T := T) (r := W T) (k := k) (env := env) (h := h) (a := a) (u1_ := u1_)
  rw [← W_fix] at q
  exact q
theorem We_cmp {o : CmpOp} {a : Ex} {b : Ex} {u3_ : Pos} : (W T).e k env h (.cmp o a b u3_) = (two (W T) k env h a b fun u v env2 h2 => match v with
        | .ref i => (match getH h2 i with
          | some (.dK kvs) => (match keyOk false u, o with
            | true, .In => .ok (.bl (dGet u kvs).isSome) false env2 h2
            | true, .NotIn => .ok (.bl (notB (dGet u kvs).isSome)) false env2 h2
            | _, _ => .no)
          | some (.dT kvs) => (match keyOk true u, o with
            | true, .In => .ok (.bl (dGet u kvs).isSome) false env2 h2
            | true, .NotIn => .ok (.bl (notB (dGet u kvs).isSome)) false env2 h2
            | _, _ => .no)
          | _ => .no)
        | v => match cmpV o u v with | some c => .ok (.bl c) false env2 h2 | none => .no) := by
  have q := Fe_cmp (T := T) (r := W T) (k := k) (env := env) (h := h) (o := o) (a := a) (b := b) (u3_ := u3_)
  rw [← W_fix] at q
  exact q
theorem We_chn {o : CmpOp} {o2 : CmpOp} {a : Ex} {b : Ex} {c : Ex} {u5_ : Pos} : (W T).e k env h (.chn o o2 a b c u5_) = (match (W T).e k env h a with
      | .ok (.int u) _ env1 h1 => (match (W T).e k env1 h1 b with
        | .ok (.int v) _ env2 h2 => (match cmpV o (.int u) (.int v) with
          | some true => (match (W T).e k env2 h2 c with
            | .ok (.int w) _ env3 h3 => (match cmpV o2 (.int v) (.int w) with | some q => .ok (.bl q) false env3 h3 | none => .no)
            | .ex c d h => .ex c d h
            | _ => .no)
          | some false => .ok (.bl false) false env2 h2
          | none => .no)
        | .ex c d h => .ex c d h
        | _ => .no)
      | .ex c d h => .ex c d h
      | _ => .no) := by
  have q := Fe_chn (T := T) (r := W T) (k := k) (env := env) (h := h) (o := o) (o2 := o2) (a := a) (b := b) (c := c) (u5_ := u5_)
  rw [← W_fix] at q
  exact q
theorem We_and {xs : List Ex} {u1_ : Pos} : (W T).e k env h (.and xs u1_) = (andV (W T) k env h xs) := by
  have q := Fe_and (T := T) (r := W T) (k := k) (env := env) (h := h) (xs := xs) (u1_ := u1_)
  rw [← W_fix] at q
  exact q
theorem We_or {xs : List Ex} {u1_ : Pos} : (W T).e k env h (.or xs u1_) = (orV (W T) k env h xs) := by
  have q := Fe_or (T := T) (r := W T) (k := k) (env := env) (h := h) (xs := xs) (u1_ := u1_)
  rw [← W_fix] at q
  exact q
theorem We_not {a : Ex} {u1_ : Pos} : (W T).e k env h (.not a u1_) = (match eB (W T) k env h a with
      | .ok d _ env1 h1 => (match truth d with | some c => .ok (.bl (notB c)) false env1 h1 | none => .no)
      | .ex c d h => .ex c d h
      | .no => .no) := by
  have q := Fe_not (T := T) (r := W T) (k := k) (env := env) (h := h) (a := a) (u1_ := u1_)
  rw [← W_fix] at q
  exact q
theorem We_ife {t : Ex} {a : Ex} {b : Ex} {u3_ : Pos} : (W T).e k env h (.ife t a b u3_) = (match eB (W T) k env h t with
      | .ok d _ env1 h1 => (match truth d with
        | some true => (W T).e k env1 h1 a
        | some false => (W T).e k env1 h1 b
        | none => .no)
      | .ex c d h => .ex c d h
      | .no => .no) := by
  have q := Fe_ife (T := T) (r := W T) (k := k) (env := env) (h := h) (t := t) (a := a) (b := b) (u3_ := u3_)
  rw [← W_fix] at q
  exact q
theorem We_idx {a : Ex} {i : Ex} {u2_ : Pos} : (W T).e k env h (.idx a i u2_) = (two (W T) k env h a i fun u v env2 h2 => match u, v with
          | .tup ds, .int j => (match atI ds j with | some d => .ok d false env2 h2 | none => .no)
          | .lst ds, .int j => (match atI ds j with | some d => .ok d false env2 h2 | none => .no)
          | .ref o, key => (match getH h2 o with
            | some (.dK kvs) => (match keyOk false key, dGet key kvs with | true, some d => .ok d false env2 h2 | _, _ => .no)
            | some (.dT kvs) => (match keyOk true key, dGet key kvs with | true, some d => .ok d false env2 h2 | _, _ => .no)
            | _ => .no)
          | _, _ => .no) := by
  have q := Fe_idx (T := T) (r := W T) (k := k) (env := env) (h := h) (a := a) (i := i) (u2_ := u2_)
  rw [← W_fix] at q
  exact q
theorem We_slc {a : Ex} {lo : Option Ex} {hi : Option Ex} {u3_ : Pos} {u4_ : Pos} : (W T).e k env h (.slc a lo hi u3_ u4_) = (match eB (W T) k env h a with
      | .ok u _ env1 h1 => (match part (W T) k env1 h1 lo with
        | some (l, h2) => (match part (W T) k env1 h2 hi with
          | some (m, h3) => (match u with
            | .tup ds => .ok (.tup (cut ds l m)) false env1 h3
            | .lst ds => .ok (.lst (cut ds l m)) true env1 h3
            | _ => .no)
          | none => .no)
        | none => .no)
      | .ex c d h => .ex c d h
      | .no => .no) := by
  have q := Fe_slc (T := T) (r := W T) (k := k) (env := env) (h := h) (a := a) (lo := lo) (hi := hi) (u3_ := u3_) (u4_ := u4_)
  rw [← W_fix] at q
  exact q
theorem We_att {a : Ex} {f : Nat} {u2_ : Pos} : (W T).e k env h (.att a f u2_) = (match (W T).e k env h a with
      | .ok (.ref i) _ env1 h1 => (match getH h1 i with
        | some (.ins c fs) => (match T.att c f, fGet f fs with | true, some d => .ok d false env1 h1 | _, _ => .no)
        | _ => .no)
      | .ex c d h => .ex c d h
      | _ => .no) := by
  have q := Fe_att (T := T) (r := W T) (k := k) (env := env) (h := h) (a := a) (f := f) (u2_ := u2_)
  rw [← W_fix] at q
  exact q
theorem We_call {f : Nat} {xs : List Ex} {u2_ : Pos} {u3_ : Pos} : (W T).e k env h (.call f xs u2_ u3_) = (match T.kind f, k with
      | .fn, k' + 1 => (match as (W T) (k' + 1) env h xs with
        | .ok ds env1 h1 => (match pures ds, (W T).run k' f ds [] with
          | true, .ok d fr _ => (match Ev.pure d with
            | true => (match noLst d with
              | true => .ok d false env1 h1
              | false => (match froze env1 xs with | some env2 => .ok d fr env2 h1 | none => .no))
            | false => .no)
          | true, .ex c d _ => (match Ev.pure d, noLst d with | true, true => .ex c d h1 | _, _ => .no)
          | _, _ => .no)
        | .ex c d h => .ex c d h
        | .no => .no)
      | _, _ => .no) := by
  have q := Fe_call (T := T) (r := W T) (k := k) (env := env) (h := h) (f := f) (xs := xs) (u2_ := u2_) (u3_ := u3_)
  rw [← W_fix] at q
  exact q
theorem We_calh {f : Nat} {xs : List Ex} {u2_ : Pos} {u3_ : Pos} : (W T).e k env h (.calh f xs u2_ u3_) = (match T.kind f, k with
      | .fn, k' + 1 => (match es (W T) (k' + 1) env h xs with
        | .ok ds env1 h1 => (match (W T).run k' f ds h1 with
          | .ok d fr h2 => .ok d fr env1 h2
          | .ex c d h => .ex c d h
          | .no => .no)
        | .ex c d h => .ex c d h
        | .no => .no)
      | _, _ => .no) := by
  have q := Fe_calh (T := T) (r := W T) (k := k) (env := env) (h := h) (f := f) (xs := xs) (u2_ := u2_) (u3_ := u3_)
  rw [← W_fix] at q
  exact q
theorem We_new {c : Nat} {xs : List Ex} {u2_ : Pos} {u3_ : Pos} : (W T).e k env h (.new c xs u2_ u3_) = (match T.ini c, k with
      | some f, k' + 1 => (match es (W T) (k' + 1) env h xs with
        | .ok ds env1 h1 => (match (W T).run k' f (.ref h1.length :: ds) (h1 ++ [.ins c []]) with
          | .ok .non _ h2 => .ok (.ref h1.length) false env1 h2
          | .ex c d h => .ex c d h
          | _ => .no)
        | .ex c d h => .ex c d h
        | .no => .no)
      | _, _ => .no) := by
  have q := Fe_new (T := T) (r := W T) (k := k) (env := env) (h := h) (c := c) (xs := xs) (u2_ := u2_) (u3_ := u3_)
  rw [← W_fix] at q
  exact q
theorem We_mth {f : Nat} {o : Ex} {xs : List Ex} {u3_ : Pos} {u4_ : Pos} : (W T).e k env h (.mth f o xs u3_ u4_) = (match T.kind f, k with
      | .mt c', k' + 1 => (match (W T).e (k' + 1) env h o with
        | .ok (.ref i) _ env1 h1 => (match getH h1 i with
          | some (.ins c _) => (match Nat.beq c c' with
            | true => (match es (W T) (k' + 1) env1 h1 xs with
              | .ok ds env2 h2 => (match (W T).run k' f (.ref i :: ds) h2 with
                | .ok d fr h3 => .ok d fr env2 h3
                | .ex c d h => .ex c d h
                | .no => .no)
              | .ex c d h => .ex c d h
              | .no => .no)
            | false => .no)
          | _ => .no)
        | .ex c d h => .ex c d h
        | _ => .no)
      | _, _ => .no) := by
  have q := Fe_mth (T := T) (r := W T) (k := k) (env := env) (h := h) (f := f) (o := o) (xs := xs) (u3_ := u3_) (u4_ := u4_)
  rw [← W_fix] at q
  exact q
theorem We_blt {b : Nat} {xs : List Ex} {u2_ : Pos} {u3_ : Pos} : (W T).e k env h (.blt b xs u2_ u3_) = (match xs with
      | [x] => (match eB (W T) k env h x with
        | .ok d _ env1 h1 => biC b d env1 h1
        | .ex c d h => .ex c d h
        | .no => .no)
      | [x, .ty t _] => (match b with     -- isinstance(x, T)
        | 12 => (match eB (W T) k env h x with
          | .ok d _ env1 h1 => (match isi d t with | some c => .ok (.bl c) false env1 h1 | none => .no)
          | .ex c d h => .ex c d h
          | .no => .no)
        | _ => .no)
      | [x, y] => (match b with
        | 14 => two (W T) k env h x y fun u v env2 h2 => (match u, v with     -- max
          | .int i, .int j => .ok (.int (match iLt i j with | true => j | false => i)) false env2 h2
          | _, _ => .no)
        | 15 => two (W T) k env h x y fun u v env2 h2 => (match u, v with     -- min
          | .int i, .int j => .ok (.int (match iLt j i with | true => j | false => i)) false env2 h2
          | _, _ => .no)
        | _ => .no)
      | _ => .no) := by
  have q := Fe_blt (T := T) (r := W T) (k := k) (env := env) (h := h) (b := b) (xs := xs) (u2_ := u2_) (u3_ := u3_)
  rw [← W_fix] at q
  exact q
theorem We_lm {m : Nat} {o : Ex} {xs : List Ex} {u3_ : Pos} {u4_ : Pos} : (W T).e k env h (.lm m o xs u3_ u4_) = (match o with
      | .var i _ => (match getS env i with
       | .l _ => (match m, xs with
        | 0, [x] => (match (W T).e k env h x with     -- append
          | .ok d _ env1 h1 => (match getS env1 i with | .l ds => (match lenOk ds with | true => .ok .non false (setS (.l (ds ++ [d])) env1 i) h1 | false => .no) | _ => .no)
          | .ex c d h => .ex c d h
          | .no => .no)
        | 1, [x] => (match eB (W T) k env h x with     -- extend
          | .ok (.lst qs) _ env1 h1 => (match getS env1 i with | .l ds => (match lenOk ds, lenOk qs with | true, true => .ok .non false (setS (.l (ds ++ qs)) env1 i) h1 | _, _ => .no) | _ => .no)
          | .ex c d h => .ex c d h
          | _ => .no)
        | 2, [x, y] => (match (W T).e k env h x with     -- insert
          | .ok (.int (.ofNat n)) _ env1 h1 => (match (W T).e k env1 h1 y with
            | .ok d _ env2 h2 => (match getS env2 i with | .l ds => (match lenOk ds, Nat.ble n 1000000 with | true, true => .ok .non false (setS (.l (insertAt d n ds)) env2 i) h2 | _, _ => .no) | _ => .no)
            | .ex c d h => .ex c d h
            | .no => .no)
          | .ex c d h => .ex c d h
          | _ => .no)
        | 3, [] => (match getS env i with     -- pop()
          | .l ds => (match ixOf ds.length (-1) with
            | some n => (match atL ds n with | some d => .ok d false (setS (.l (dropAt n ds)) env i) h | none => .no)
            | none => .no)
          | _ => .no)
        | 3, [x] => (match (W T).e k env h x with     -- pop(n)
          | .ok (.int j) _ env1 h1 => (match getS env1 i with
            | .l ds => (match lenOk ds, ixOf ds.length j with
              | true, some n => (match atL ds n with | some d => .ok d false (setS (.l (dropAt n ds)) env1 i) h1 | none => .no)
              | _, _ => .no)
            | _ => .no)
          | .ex c d h => .ex c d h
          | _ => .no)
        | _, _ => .no)
       | _ => .no)
      | _ => .no) := by
  have q := Fe_lm (T := T) (r := W T) (k := k) (env := env) (h := h) (m := m) (o := o) (xs := xs) (u3_ := u3_) (u4_ := u4_)
  rw [← W_fix] at q
  exact q
theorem We_lc {elt : Ex} {t : Ex} {it : Ex} {ifs : List Ex} {u4_ : Scope} {own : List (Str × Nat)} {u6_ : Pos} : (W T).e k env h (.lc elt t it ifs u4_ own u6_) = (match walk (W T) k env h it with
      | .ok items env1 h1 => (match turns (W T) k (wipe (lock env1) (own.map (·.2))) elt t ifs h1 items with
        | some (ds, h2) => (match lenOk ds with | true => .ok (.lst ds) true env1 h2 | false => .no)
        | none => .no)
      | .ex c d h => .ex c d h
      | .no => .no) := by
  have q := Fe_lc (T := T) (r := W T) (k := k) (env := env) (h := h) (elt := elt) (t := t) (it := it) (ifs := ifs) (u4_ := u4_) (own := own) (u6_ := u6_)
  rw [← W_fix] at q
  exact q
theorem We_lc2 {elt : Ex} {t : Ex} {it : Ex} {ifs : List Ex} {t2 : Ex} {i2 : Ex} {ifs2 : List Ex} {u7_ : Scope} {own : List (Str × Nat)} {vs1 : List Nat} {u10_ : Pos} : (W T).e k env h (.lc2 elt t it ifs t2 i2 ifs2 u7_ own vs1 u10_) = (match walk (W T) k env h it with
      | .ok items env1 h1 => (match turns2 (W T) k (wipe (lock env1) (own.map (·.2))) elt t ifs t2 i2 ifs2 vs1 h1 items with
        | some (ds, h2) => (match lenOk ds with | true => .ok (.lst ds) true env1 h2 | false => .no)
        | none => .no)
      | .ex c d h => .ex c d h
      | .no => .no) := by
  have q := Fe_lc2 (T := T) (r := W T) (k := k) (env := env) (h := h) (elt := elt) (t := t) (it := it) (ifs := ifs) (t2 := t2) (i2 := i2) (ifs2 := ifs2) (u7_ := u7_) (own := own) (vs1 := vs1) (u10_ := u10_)
  rw [← W_fix] at q
  exact q
theorem We_dic {xs : List Ex} {ys : List Ex} {t : Bool} {u3_ : Pos} : (W T).e k env h (.dic xs ys t u3_) = (match xs, ys, t with
      | [], [], true => .ok (.ref h.length) false env (h ++ [.dT []])
      | [], [], false => .ok (.ref h.length) false env (h ++ [.dK []])
      | [x], [y], false => (match (W T).e k (lock env) h x with
        | .ok q _ _ h1 => (match key1 q, (W T).e k (lock env) h1 y with
          | true, .ok v _ _ h2 => .ok (.ref h2.length) false env (h2 ++ [.dK [(q, v)]])
          | _, _ => .no)
        | _ => .no)
      | x1 :: x2 :: xs, ys, false => (match dicS (W T) k env h (x1 :: x2 :: xs) ys with | some (kvs, h1) => .ok (.ref h1.length) false env (h1 ++ [.dK kvs]) | none => .no)
      | _, _, _ => .no) := by
  have q := Fe_dic (T := T) (r := W T) (k := k) (env := env) (h := h) (xs := xs) (ys := ys) (t := t) (u3_ := u3_)
  rw [← W_fix] at q
  exact q
theorem Ws_ret {x : Ex} {u1_ : Pos} : (W T).s k env h (.ret x u1_) = (match x with
      | .var i _ => (match getS env i with
        | .v d => .rt d false h
        | .l ds => .rt (.lst ds) true h
        | _ => .no)
      | x => match (W T).e k env h x with
        | .ok d fr _ h1 => .rt d fr h1
        | .ex c d h => .ex c d h
        | .no => .no) := by
  have q := Fs_ret (T := T) (r := W T) (k := k) (env := env) (h := h) (x := x) (u1_ := u1_)
  rw [← W_fix] at q
  exact q
theorem Ws_retN {u0_ : Pos} : (W T).s k env h (.retN u0_) = (.rt .non false h) := by
  have q := Fs_retN (T := T) (r := W T) (k := k) (env := env) (h := h) (u0_ := u0_)
  rw [← W_fix] at q
  exact q
theorem Ws_asg {t : Ex} {x : Ex} {u2_ : Pos} : (W T).s k env h (.asg t x u2_) = (match t with
      | .var i _ => (match (W T).e k env h x with
        | .ok d fr env1 h1 => .nx (put env1 i d fr) h1
        | .ex c d h => .ex c d h
        | .no => .no)
      | .tup ts _ _ => (match ts, x with
        | [.var i _, .var j _], .tup [x1, x2] _ _ => (match isNum x1 && isNum x2 with
         | true => (match (W T).e k env h x with
          | .ok d _ env1 h1 => (match tg 4 t d env1 with | some env2 => .nx env2 h1 | none => .no)
          | .ex c d h => .ex c d h
          | .no => .no)
         | false => (match (W T).e k env h x1 with
          | .ok d1 fr1 env1 h1 => (match (W T).e k env1 h1 x2 with
            | .ok d2 fr2 env2 h2 => .nx (put (put env2 i d1 fr1) j d2 fr2) h2
            | .ex c d h => .ex c d h
            | .no => .no)
          | .ex c d h => .ex c d h
          | .no => .no))
        | _, _ => (match (W T).e k env h x with
          | .ok d _ env1 h1 => (match tg 4 t d env1 with | some env2 => .nx env2 h1 | none => .no)
          | .ex c d h => .ex c d h
          | .no => .no))
      | .idx (.var i _) y _ => (match (W T).e k env h x with
        | .ok d _ env1 h1 => (match getS env1 i with
          | .l _ => (match (W T).e k env1 h1 y with
            | .ok (.int j) _ env2 h2 => (match getS env2 i with
              | .l ds => (match ixOf ds.length j with | some n => .nx (setS (.l (setAt d n ds)) env2 i) h2 | none => .no)
              | _ => .no)
            | .ex c d h => .ex c d h
            | _ => .no)
          | .v (.ref o) => (match (W T).e k env1 h1 y with
            | .ok q _ env2 h2 => (match getH h2 o with
              | some (.dK kvs) => (match keyOk false q, Nat.ble kvs.length 100000 with | true, true => .nx env2 (setH (.dK (dPut q d kvs)) h2 o) | _, _ => .no)
              | some (.dT kvs) => (match keyOk true q, Nat.ble kvs.length 100000 with | true, true => .nx env2 (setH (.dT (dPut q d kvs)) h2 o) | _, _ => .no)
              | _ => .no)
            | .ex c d h => .ex c d h
            | .no => .no)
          | _ => .no)
        | .ex c d h => .ex c d h
        | .no => .no)
      | .idx (.att y f pa) z _ => (match (W T).e k env h x with
        | .ok d _ env1 h1 => (match (W T).e k env1 h1 (.att y f pa) with
          | .ok (.ref o) _ env2 h2 => (match (W T).e k env2 h2 z with
            | .ok q _ env3 h3 => (match getH h3 o with
              | some (.dK kvs) => (match keyOk false q, Nat.ble kvs.length 100000 with | true, true => .nx env3 (setH (.dK (dPut q d kvs)) h3 o) | _, _ => .no)
              | some (.dT kvs) => (match keyOk true q, Nat.ble kvs.length 100000 with | true, true => .nx env3 (setH (.dT (dPut q d kvs)) h3 o) | _, _ => .no)
              | _ => .no)
            | .ex c d h => .ex c d h
            | .no => .no)
          | .ex c d h => .ex c d h
          | _ => .no)
        | .ex c d h => .ex c d h
        | .no => .no)
      | .att y f _ => (match (W T).e k env h x with
        | .ok d _ env1 h1 => (match (W T).e k env1 h1 y with
          | .ok (.ref o) _ env2 h2 => (match getH h2 o with
            | some (.ins c fs) => (match T.att c f, Nat.blt fs.length 900 with | true, true => .nx env2 (setH (.ins c (fPut f d fs)) h2 o) | _, _ => .no)
            | _ => .no)
          | .ex c d h => .ex c d h
          | _ => .no)
        | .ex c d h => .ex c d h
        | .no => .no)
      | _ => .no) := by
  have q := Fs_asg (T := T) (r := W T) (k := k) (env := env) (h := h) (t := t) (x := x) (u2_ := u2_)
  rw [← W_fix] at q
  exact q
theorem Ws_aug {i : Nat} {u1_ : Pos} {o : Operator} {x : Ex} {u4_ : Pos} : (W T).s k env h (.aug i u1_ o x u4_) = (match look env i with
      | some u => (match (W T).e k env h x with
        | .ok v _ env1 h1 => (match u, v with
          | .int a, .int b => (match iOp o a b with | some z => .nx (setS (.v (.int z)) env1 i) h1 | none => .no)
          | _, _ => .no)
        | .ex c d h => .ex c d h
        | .no => .no)
      | none => .no) := by
  have q := Fs_aug (T := T) (r := W T) (k := k) (env := env) (h := h) (i := i) (u1_ := u1_) (o := o) (x := x) (u4_ := u4_)
  rw [← W_fix] at q
  exact q
theorem Ws_iff {t : Ex} {a : List St} {b : List St} {u3_ : Pos} : (W T).s k env h (.iff t a b u3_) = (match eB (W T) k env h t with
      | .ok d _ env1 h1 => (match truth d with
        | some true => ss (W T) k env1 h1 a
        | some false => ss (W T) k env1 h1 b
        | none => .no)
      | .ex c d h => .ex c d h
      | .no => .no) := by
  have q := Fs_iff (T := T) (r := W T) (k := k) (env := env) (h := h) (t := t) (a := a) (b := b) (u3_ := u3_)
  rw [← W_fix] at q
  exact q
theorem Ws_whl {t : Ex} {b : List St} {p : Pos} : (W T).s k env h (.whl t b p) = (match eB (W T) k env h t with
      | .ok d _ env1 h1 => (match truth d with
        | some true => (match ss (W T) k env1 h1 b with
          | .nx env2 h2 => (W T).s k env2 h2 (.whl t b p)
          | .ct env2 h2 => (W T).s k env2 h2 (.whl t b p)
          | .bk env2 h2 => .nx env2 h2
          | q => q)
        | some false => .nx env1 h1
        | none => .no)
      | .ex c d h => .ex c d h
      | .no => .no) := by
  have q := Fs_whl (T := T) (r := W T) (k := k) (env := env) (h := h) (t := t) (b := b) (p := p)
  rw [← W_fix] at q
  exact q
theorem Ws_for_ {t : Ex} {it : Ex} {b : List St} {u3_ : Pos} : (W T).s k env h (.for_ t it b u3_) = (match walk (W T) k env h it with
      | .ok items env1 h1 => (match froze env1 (lent it) with | some env2 => forL k t (fun env h => ss (W T) k env h b) env2 h1 items | none => .no)
      | .ex c d h => .ex c d h
      | .no => .no) := by
  have q := Fs_for_ (T := T) (r := W T) (k := k) (env := env) (h := h) (t := t) (it := it) (b := b) (u3_ := u3_)
  rw [← W_fix] at q
  exact q
theorem Ws_exp {x : Ex} {u1_ : Pos} : (W T).s k env h (.exp x u1_) = (match (W T).e k env h x with
      | .ok _ _ env1 h1 => .nx env1 h1
      | .ex c d h => .ex c d h
      | .no => .no) := by
  have q := Fs_exp (T := T) (r := W T) (k := k) (env := env) (h := h) (x := x) (u1_ := u1_)
  rw [← W_fix] at q
  exact q
theorem Ws_rai {u0_ : Ex} {u1_ : Pos} : (W T).s k env h (.rai u0_ u1_) = (.no) := by
  have q := Fs_rai (T := T) (r := W T) (k := k) (env := env) (h := h) (u0_ := u0_) (u1_ := u1_)
  rw [← W_fix] at q
  exact q
theorem Ws_brk {u0_ : Pos} : (W T).s k env h (.brk u0_) = (.bk env h) := by
  have q := Fs_brk (T := T) (r := W T) (k := k) (env := env) (h := h) (u0_ := u0_)
  rw [← W_fix] at q
  exact q
theorem Ws_cnt {u0_ : Pos} : (W T).s k env h (.cnt u0_) = (.ct env h) := by
  have q := Fs_cnt (T := T) (r := W T) (k := k) (env := env) (h := h) (u0_ := u0_)
  rw [← W_fix] at q
  exact q
theorem Ws_pas {u0_ : Pos} : (W T).s k env h (.pas u0_) = (.nx env h) := by
  have q := Fs_pas (T := T) (r := W T) (k := k) (env := env) (h := h) (u0_ := u0_)
  rw [← W_fix] at q
  exact q
end
end Ew
/-! Reckoning with letters. -/
namespace Ew
open Ev
open PySem (Pos Operator CmpOp Scope Str Expr Stmt)
section
variable {T : Tab} {k : Nat} {env : Env} {h : Hs}
theorem Wr {f : Nat} {ds : List D} {fn : Fn} (hf : T.fns.get f = some fn) (hn : ∀ k f ds, T.nat k f ds = none) (ha : ds.length = fn.nargs) : (W T).run k f ds h = (match ss (W T) k (vs ds ++ us (fn.nslots - fn.nargs)) h fn.body with
          | .rt d fr h1 => .ok d fr h1
          | .nx _ h1 => .ok .non false h1
          | .ex c d h1 => .ex c d h1
          | _ => .no) := by
  have q := Fr (T := T) (s := W T) k f ds h
  rw [← W_fix, hf] at q
  have e : Nat.beq ds.length fn.nargs = true := by rw [ha]; exact Nat.beq_refl _
  simp only [e, hn] at q
  exact q
theorem nblt (m n : Nat) : Nat.blt m n = decide (m < n) := by
  cases h : decide (m < n) with
  | true => exact Nat.blt_eq.mpr (of_decide_eq_true h)
  | false => cases q : Nat.blt m n with
    | false => rfl
    | true => exact absurd (Nat.blt_eq.mp q) (of_decide_eq_false h)
theorem nble (m n : Nat) : Nat.ble m n = decide (m ≤ n) := by
  cases h : decide (m ≤ n) with
  | true => exact Nat.ble_eq.mpr (of_decide_eq_true h)
  | false => cases q : Nat.ble m n with
    | false => rfl
    | true => exact absurd (Nat.ble_eq.mp q) (of_decide_eq_false h)
theorem nbeq' (m n : Nat) : Nat.beq m n = decide (m = n) := by
  cases h : decide (m = n) with
  | true => rw [of_decide_eq_true h]; exact Nat.beq_refl n
  | false => cases q : Nat.beq m n with
    | false => rfl
    | true => exact absurd (Nat.eq_of_beq_eq_true q) (of_decide_eq_false h)
theorem iLt_d (i j : Int) : iLt i j = decide (i < j) := by
  cases i <;> cases j <;> simp only [iLt, nblt, Int.ofNat_eq_natCast, Int.negSucc_eq] <;> first | (rw [decide_eq_decide]; omega) | (exact (decide_eq_false (by omega)).symm) | (exact (decide_eq_true (by omega)).symm)
theorem iLe_d (i j : Int) : iLe i j = decide (i ≤ j) := by
  unfold iLe
  rw [iLt_d]
  by_cases h : j < i
  · rw [decide_eq_true h]; exact (decide_eq_false (by omega)).symm
  · rw [decide_eq_false h]; exact (decide_eq_true (by omega)).symm
theorem iEq_d (i j : Int) : iEq i j = decide (i = j) := by
  cases i <;> cases j <;> simp only [iEq, nbeq', Int.ofNat_eq_natCast, Int.negSucc_eq] <;> first | (rw [decide_eq_decide]; omega) | (exact (decide_eq_false (by omega)).symm)
theorem mul_ok {i j : Int} (h : i.natAbs.log2 + j.natAbs.log2 < 100000000) : mulOk i j = true := by unfold mulOk; exact Nat.blt_eq.mpr h
theorem pow_ok {i : Int} {n : Nat} (h1 : n ≤ 1000) (h : (i.natAbs.log2 + 1) * n < 100000000) : powOk i n = true := by
  unfold powOk
  rw [Nat.ble_eq.mpr h1]
  exact Nat.blt_eq.mpr h
end
end Ew
/-! Rules: what an expression, a statement comes to. -/
namespace Ew
open Ev
open PySem (Pos Operator CmpOp Scope Str Expr Stmt)
section
variable {T : Tab} {k : Nat} {env env1 env2 env3 : Env} {h h1 h2 h3 : Hs} {a b c t x y : Ex} {xs ys : List Ex} {p p1 p2 pa : Pos} {d u v w : D} {fr fr1 fr2 fr3 : Bool} {ds : List D} {i j n f : Nat} {o o2 : Operator}
/-- an operand -/
abbrev O (T : Tab) (k : Nat) (env : Env) (h : Hs) (x : Ex) (d : D) (env1 : Env) (h1 : Hs) : Prop := ∃ fr, eB (W T) k env h x = .ok d fr env1 h1
theorem o_var (e : look env i = some d) : O T k env h (.var i p) d env h := ⟨false, by simp only [eB, e]⟩
theorem eB_nv {r : Self} (hx : isV x = false) : eB r k env h x = r.e k env h x := by cases x <;> first | rfl | cases hx
theorem o_nv (hx : isV x = false) (e : (W T).e k env h x = .ok d fr env1 h1) : O T k env h x d env1 h1 := ⟨fr, by rw [eB_nv hx, e]⟩
/-- two operands -/
def Two (T : Tab) (k : Nat) (env : Env) (h : Hs) (a b : Ex) (u v : D) (env2 : Env) (h2 : Hs) : Prop := ∀ c, two (W T) k env h a b c = c u v env2 h2
theorem two_v (e0 : look env i = some w) (e : O T k env h b v env1 h1) (e1 : look env1 i = some u) : Two T k env h (.var i p) b u v env1 h1 := fun c => by
  obtain ⟨fr, e⟩ := e
  simp only [two, e0, e, e1]
theorem two_n (ha : isV a = false) (e : (W T).e k env h a = .ok u fr env1 h1) (e2 : O T k env1 h1 b v env2 h2) : Two T k env h a b u v env2 h2 := fun c => by
  obtain ⟨fr, e2⟩ := e2
  rw [two_nv ha]
  simp only [e, e2]
theorem x_num {m : Int} {q : Nat} : (W T).e k env h (.num m q p) = .ok (.int m) false env h := We_num
theorem x_str {s : List Nat} {q : Nat} : (W T).e k env h (.str s q p) = .ok (.str s) false env h := We_str
theorem x_cb {s : Bool} {q : Nat} : (W T).e k env h (.cb s q p) = .ok (.bl s) false env h := We_cb
theorem x_cn {q : Nat} : (W T).e k env h (.cn q p) = .ok .non false env h := We_cn
theorem x_glob (e : atC T.consts n = some d) : (W T).e k env h (.glob n p) = .ok d false env h := by rw [We_glob, e]
theorem x_varv (e : getS env i = .v d) : (W T).e k env h (.var i p) = .ok d false env h := by rw [We_var, e]
theorem x_varl (e : getS env i = .l ds) (e2 : setS (.v (.lst ds)) env i = env1) : (W T).e k env h (.var i p) = .ok (.lst ds) false env1 h := by rw [We_var, e, ← e2]
theorem x_bin (e : Two T k env h a b u v env2 h2) (e2 : opV o u v = some (d, fr)) : (W T).e k env h (.bin o a b p) = .ok d fr env2 h2 := by rw [We_bin, e, e2]
theorem x_neg (e : (W T).e k env h a = .ok (.int m) fr env1 h1) : (W T).e k env h (.neg a p) = .ok (.int (-m)) false env1 h1 := by rw [We_neg, e]
/-- neither a dict -/
def nRef : D → Bool
  | .ref _ => false
  | _ => true
theorem x_cmp {o : CmpOp} {q : Bool} (e : Two T k env h a b u v env2 h2) (hv : nRef v = true) (e2 : cmpV o u v = some q) : (W T).e k env h (.cmp o a b p) = .ok (.bl q) false env2 h2 := by
  rw [We_cmp, e]
  cases v <;> first | (cases hv; done) | simp only [e2]
theorem x_inK {kvs : List (D × D)} {q : Bool} (e : Two T k env h a b u (.ref i) env2 h2) (e1 : getH h2 i = some (.dK kvs)) (hk : keyOk false u = true) (e2 : (dGet u kvs).isSome = q) : (W T).e k env h (.cmp .In a b p) = .ok (.bl q) false env2 h2 := by
  rw [We_cmp, e]
  simp only [e1, hk, e2]
theorem x_ninK {kvs : List (D × D)} {q : Bool} (e : Two T k env h a b u (.ref i) env2 h2) (e1 : getH h2 i = some (.dK kvs)) (hk : keyOk false u = true) (e2 : notB (dGet u kvs).isSome = q) : (W T).e k env h (.cmp .NotIn a b p) = .ok (.bl q) false env2 h2 := by
  rw [We_cmp, e]
  simp only [e1, hk, e2]
theorem x_chnT {o o2 : CmpOp} {m1 m2 m3 : Int} {q : Bool} (e : (W T).e k env h a = .ok (.int m1) fr1 env1 h1) (e2 : (W T).e k env1 h1 b = .ok (.int m2) fr2 env2 h2) (e3 : cmpV o (.int m1) (.int m2) = some true) (e4 : (W T).e k env2 h2 c = .ok (.int m3) fr3 env3 h3)
    (e5 : cmpV o2 (.int m2) (.int m3) = some q) : (W T).e k env h (.chn o o2 a b c p) = .ok (.bl q) false env3 h3 := by
  rw [We_chn]
  simp only [e, e2, e3, e4, e5]
theorem x_chnF {o o2 : CmpOp} {m1 m2 : Int} (e : (W T).e k env h a = .ok (.int m1) fr1 env1 h1) (e2 : (W T).e k env1 h1 b = .ok (.int m2) fr2 env2 h2) (e3 : cmpV o (.int m1) (.int m2) = some false) : (W T).e k env h (.chn o o2 a b c p) = .ok (.bl false) false env2 h2 := by
  rw [We_chn]
  simp only [e, e2, e3]
theorem x_not {q : Bool} (e : O T k env h a d env1 h1) (e2 : truth d = some q) : (W T).e k env h (.not a p) = .ok (.bl (notB q)) false env1 h1 := by
  obtain ⟨fr, e⟩ := e
  rw [We_not]
  simp only [e, e2]
theorem x_ifeT (e : O T k env h t d env1 h1) (e2 : truth d = some true) (e3 : (W T).e k env1 h1 a = .ok u fr env2 h2) : (W T).e k env h (.ife t a b p) = .ok u fr env2 h2 := by
  obtain ⟨fr, e⟩ := e
  rw [We_ife]
  simp only [e, e2, e3]
theorem x_ifeF (e : O T k env h t d env1 h1) (e2 : truth d = some false) (e3 : (W T).e k env1 h1 b = .ok u fr env2 h2) : (W T).e k env h (.ife t a b p) = .ok u fr env2 h2 := by
  obtain ⟨fr, e⟩ := e
  rw [We_ife]
  simp only [e, e2, e3]
theorem x_idxT {m : Int} (e : Two T k env h a b (.tup ds) (.int m) env2 h2) (e2 : atI ds m = some d) : (W T).e k env h (.idx a b p) = .ok d false env2 h2 := by rw [We_idx, e]; simp only [e2]
theorem x_idxL {m : Int} (e : Two T k env h a b (.lst ds) (.int m) env2 h2) (e2 : atI ds m = some d) : (W T).e k env h (.idx a b p) = .ok d false env2 h2 := by rw [We_idx, e]; simp only [e2]
theorem x_idxK {kvs : List (D × D)} (e : Two T k env h a b (.ref i) u env2 h2) (e1 : getH h2 i = some (.dK kvs)) (hk : keyOk false u = true) (e2 : dGet u kvs = some d) : (W T).e k env h (.idx a b p) = .ok d false env2 h2 := by
  rw [We_idx, e]
  simp only [e1, hk, e2]
theorem x_att {c : Nat} {fs : List (Nat × D)} (e : (W T).e k env h a = .ok (.ref i) fr env1 h1) (e1 : getH h1 i = some (.ins c fs)) (ha : T.att c f = true) (e2 : fGet f fs = some d) : (W T).e k env h (.att a f p) = .ok d false env1 h1 := by
  rw [We_att]
  simp only [e, e1, ha, e2]
/-- items of a display, arguments -/
def Es (T : Tab) (k : Nat) (env : Env) (h : Hs) (xs : List Ex) (ds : List D) (env1 : Env) (h1 : Hs) : Prop := es (W T) k env h xs = .ok ds env1 h1
theorem es_0 : Es T k env h [] [] env h := rfl
theorem es_1 (hx : isStar x = false) (e : (W T).e k env h x = .ok d fr env1 h1) (e2 : Es T k env1 h1 xs ds env2 h2) : Es T k env h (x :: xs) (d :: ds) env2 h2 := by
  unfold Es at e2 ⊢
  rw [es_ns hx]
  simp only [e, e2]
theorem es_sL {qs : List D} (e : O T k env h y (.lst ds) env1 h1) (e2 : Es T k env1 h1 xs qs env2 h2) : Es T k env h (.star y p :: xs) (ds ++ qs) env2 h2 := by
  obtain ⟨fr, e⟩ := e
  unfold Es at e2 ⊢
  simp only [es, e, e2]
theorem es_sT {qs : List D} (e : O T k env h y (.tup ds) env1 h1) (e2 : Es T k env1 h1 xs qs env2 h2) : Es T k env h (.star y p :: xs) (ds ++ qs) env2 h2 := by
  obtain ⟨fr, e⟩ := e
  unfold Es at e2 ⊢
  simp only [es, e, e2]
def As (T : Tab) (k : Nat) (env : Env) (h : Hs) (xs : List Ex) (ds : List D) (env1 : Env) (h1 : Hs) : Prop := as (W T) k env h xs = .ok ds env1 h1
theorem as_0 : As T k env h [] [] env h := rfl
theorem as_v (e0 : look env i = some w) (e : As T k env h xs ds env1 h1) (e1 : look env1 i = some d) : As T k env h (.var i p :: xs) (d :: ds) env1 h1 := by
  unfold As at e ⊢
  simp only [as, e0, e, e1]
theorem as_1 (hx : isV x = false) (e : (W T).e k env h x = .ok d fr env1 h1) (e2 : As T k env1 h1 xs ds env2 h2) : As T k env h (x :: xs) (d :: ds) env2 h2 := by
  unfold As at e2 ⊢
  rw [as_nv hx]
  simp only [e, e2]
theorem x_tup {q : Nat} (e : Es T k env h xs ds env1 h1) (hl : lenOk ds = true) : (W T).e k env h (.tup xs q p) = .ok (.tup ds) false env1 h1 := by
  unfold Es at e
  rw [We_tup]
  simp only [e, hl]
theorem x_lst (e : Es T k env h xs ds env1 h1) (hl : lenOk ds = true) : (W T).e k env h (.lst xs p) = .ok (.lst ds) true env1 h1 := by
  unfold Es at e
  rw [We_lst]
  simp only [e, hl]
theorem x_call (hk : T.kind f = .fn) (e : As T (k + 1) env h xs ds env1 h1) (hp : pures ds = true) (e2 : (W T).run k f ds [] = .ok d fr h2) (hd : Ev.pure d = true) (hn : noLst d = true) : (W T).e (k + 1) env h (.call f xs p1 p) = .ok d false env1 h1 := by
  unfold As at e
  rw [We_call]
  simp only [hk, e, hp, e2, hd, hn]
theorem x_callL (hk : T.kind f = .fn) (e : As T (k + 1) env h xs ds env1 h1) (hp : pures ds = true) (e2 : (W T).run k f ds [] = .ok d fr h2) (hd : Ev.pure d = true) (hn : noLst d = false) (hf : froze env1 xs = some env2) : (W T).e (k + 1) env h (.call f xs p1 p) = .ok d fr env2 h1 := by
  unfold As at e
  rw [We_call]
  simp only [hk, e, hp, e2, hd, hn, hf]
theorem x_calh (hk : T.kind f = .fn) (e : Es T (k + 1) env h xs ds env1 h1) (e2 : (W T).run k f ds h1 = .ok d fr h2) : (W T).e (k + 1) env h (.calh f xs p1 p) = .ok d fr env1 h2 := by
  unfold Es at e
  rw [We_calh]
  simp only [hk, e, e2]
theorem x_new {c : Nat} (hk : T.ini c = some f) (e : Es T (k + 1) env h xs ds env1 h1) (e2 : (W T).run k f (.ref h1.length :: ds) (h1 ++ [.ins c []]) = .ok .non fr h2) : (W T).e (k + 1) env h (.new c xs p1 p) = .ok (.ref h1.length) false env1 h2 := by
  unfold Es at e
  rw [We_new]
  simp only [hk, e, e2]
theorem x_mth {c c2 : Nat} {fs : List (Nat × D)} (hk : T.kind f = .mt c) (e0 : (W T).e (k + 1) env h a = .ok (.ref i) fr1 env1 h1) (e1 : getH h1 i = some (.ins c2 fs)) (hc : Nat.beq c2 c = true) (e : Es T (k + 1) env1 h1 xs ds env2 h2)
    (e2 : (W T).run k f (.ref i :: ds) h2 = .ok d fr h3) : (W T).e (k + 1) env h (.mth f a xs pa p) = .ok d fr env2 h3 := by
  unfold Es at e
  rw [We_mth]
  simp only [hk, e0, e1, hc, e, e2]
theorem x_b1 (e : O T k env h x d env1 h1) (hd : nRef d = true) (e2 : bi n d = some (u, fr)) : (W T).e k env h (.blt n [x] p1 p) = .ok u fr env1 h1 := by
  obtain ⟨fr, e⟩ := e
  rw [We_blt]
  simp only [e]
  cases d <;> first | (cases hd; done) | simp only [biC, e2]
theorem x_isi {q : Bool} (e : O T k env h x d env1 h1) (e2 : isi d n = some q) : (W T).e k env h (.blt 12 [x, .ty n p2] p1 p) = .ok (.bl q) false env1 h1 := by
  obtain ⟨fr, e⟩ := e
  rw [We_blt]
  simp only [e, e2]
theorem blt_14 (hy : (match y with | .ty _ _ => false | _ => true) = true) : (W T).e k env h (.blt 14 [x, y] p1 p) = two (W T) k env h x y fun u v env2 h2 => (match u, v with
          | .int i, .int j => .ok (.int (match iLt i j with | true => j | false => i)) false env2 h2
          | _, _ => .no) := by rw [We_blt]; cases y <;> first | rfl | cases hy
theorem blt_15 (hy : (match y with | .ty _ _ => false | _ => true) = true) : (W T).e k env h (.blt 15 [x, y] p1 p) = two (W T) k env h x y fun u v env2 h2 => (match u, v with
          | .int i, .int j => .ok (.int (match iLt j i with | true => j | false => i)) false env2 h2
          | _, _ => .no) := by rw [We_blt]; cases y <;> first | rfl | cases hy
theorem x_max {i j : Int} (hy : (match y with | .ty _ _ => false | _ => true) = true) (e : Two T k env h x y (.int i) (.int j) env2 h2) : (W T).e k env h (.blt 14 [x, y] p1 p) = .ok (.int (max i j)) false env2 h2 := by
  rw [blt_14 hy, e]
  simp only [iLt_d]
  by_cases z : i < j
  · rw [decide_eq_true z]; simp only; congr 2; omega
  · rw [decide_eq_false z]; simp only; congr 2; omega
theorem x_min {i j : Int} (hy : (match y with | .ty _ _ => false | _ => true) = true) (e : Two T k env h x y (.int i) (.int j) env2 h2) : (W T).e k env h (.blt 15 [x, y] p1 p) = .ok (.int (min i j)) false env2 h2 := by
  rw [blt_15 hy, e]
  simp only [iLt_d]
  by_cases z : j < i
  · rw [decide_eq_true z]; simp only; congr 2; omega
  · rw [decide_eq_false z]; simp only; congr 2; omega
/-! ### and, or -/
theorem x_and1 (e : (W T).e k env h x = .ok d fr env1 h1) : (W T).e k env h (.and [x] p) = .ok d fr env1 h1 := by rw [We_and]; exact e
theorem x_andT (e : (W T).e k env h x = .ok (.bl true) fr1 env1 h1) (e2 : (W T).e k env1 h1 (.and (y :: xs) p) = .ok d fr env2 h2) : (W T).e k env h (.and (x :: y :: xs) p) = .ok d fr env2 h2 := by
  rw [We_and] at e2 ⊢
  simp only [andV, e]
  exact e2
theorem x_andF (e : (W T).e k env h x = .ok (.bl false) fr1 env1 h1) : (W T).e k env h (.and (x :: y :: xs) p) = .ok (.bl false) false env1 h1 := by
  rw [We_and]
  simp only [andV, e]
theorem x_or1 (e : (W T).e k env h x = .ok d fr env1 h1) : (W T).e k env h (.or [x] p) = .ok d fr env1 h1 := by rw [We_or]; exact e
theorem x_orF (e : (W T).e k env h x = .ok (.bl false) fr1 env1 h1) (e2 : (W T).e k env1 h1 (.or (y :: xs) p) = .ok d fr env2 h2) : (W T).e k env h (.or (x :: y :: xs) p) = .ok d fr env2 h2 := by
  rw [We_or] at e2 ⊢
  simp only [orV, e]
  exact e2
theorem x_orT (e : (W T).e k env h x = .ok (.bl true) fr1 env1 h1) : (W T).e k env h (.or (x :: y :: xs) p) = .ok (.bl true) false env1 h1 := by
  rw [We_or]
  simp only [orV, e]
/-! ### operators -/
theorem op_add {i j : Int} : opV .Add (.int i) (.int j) = some (.int (i + j), false) := rfl
theorem op_sub {i j : Int} : opV .Sub (.int i) (.int j) = some (.int (i - j), false) := rfl
theorem op_mul {i j : Int} (hh : i.natAbs.log2 + j.natAbs.log2 < 100000000) : opV .Mult (.int i) (.int j) = some (.int (i * j), false) := by simp only [opV, iOp, mul_ok hh]
theorem op_pow {i : Int} {n : Nat} (h1 : n ≤ 1000) (hh : (i.natAbs.log2 + 1) * n < 100000000) : opV .Pow (.int i) (.int (.ofNat n)) = some (.int (i ^ n), false) := by simp only [opV, iOp, pow_ok h1 hh]
theorem op_mod {i j : Int} (hh : 0 < j) : opV .Mod (.int i) (.int j) = some (.int (i % j), false) := by simp only [opV, iOp, iLt_d, decide_eq_true hh]
theorem op_div {i j : Int} (hh : 0 < j) (hs : small j = true) : opV .FloorDiv (.int i) (.int j) = some (.int (i / j), false) := by simp only [opV, iOp, iLt_d, decide_eq_true hh, hs]
theorem c_lt {i j : Int} : cmpV .Lt (.int i) (.int j) = some (decide (i < j)) := by simp only [cmpV, iLt_d]
theorem c_le {i j : Int} : cmpV .LtE (.int i) (.int j) = some (decide (i ≤ j)) := by simp only [cmpV, iLe_d]
theorem c_gt {i j : Int} : cmpV .Gt (.int i) (.int j) = some (decide (j < i)) := by simp only [cmpV, iLt_d]
theorem c_ge {i j : Int} : cmpV .GtE (.int i) (.int j) = some (decide (j ≤ i)) := by simp only [cmpV, iLe_d]
theorem c_eq {i j : Int} : cmpV .Eq (.int i) (.int j) = some (decide (i = j)) := by simp only [cmpV, eqQ, iEq_d]
theorem c_ne {i j : Int} : cmpV .NotEq (.int i) (.int j) = some (notB (decide (i = j))) := by simp only [cmpV, eqQ, iEq_d]
/-! ### statements -/
def Ss (T : Tab) (k : Nat) (env : Env) (h : Hs) (xs : List St) (q : SR) : Prop := ss (W T) k env h xs = q
theorem ss_0 : Ss T k env h [] (.nx env h) := rfl
theorem ss_nx {s : St} {r : List St} {q : SR} (e : (W T).s k env h s = .nx env1 h1) (e2 : Ss T k env1 h1 r q) : Ss T k env h (s :: r) q := by
  unfold Ss at e2 ⊢
  simp only [ss, e, e2]
theorem ss_rt {s : St} {r : List St} (e : (W T).s k env h s = .rt d fr h1) : Ss T k env h (s :: r) (.rt d fr h1) := by
  unfold Ss
  simp only [ss, e]
theorem ss_ct {s : St} {r : List St} (e : (W T).s k env h s = .ct env1 h1) : Ss T k env h (s :: r) (.ct env1 h1) := by
  unfold Ss
  simp only [ss, e]
theorem ss_bk {s : St} {r : List St} (e : (W T).s k env h s = .bk env1 h1) : Ss T k env h (s :: r) (.bk env1 h1) := by
  unfold Ss
  simp only [ss, e]
theorem s_ret (hx : isV x = false) (e : (W T).e k env h x = .ok d fr env1 h1) : (W T).s k env h (.ret x p) = .rt d fr h1 := by
  have q := ret_nv (T := T) (s := W T) (k := k) (env := env) (h := h) (p := p) hx
  rw [← W_fix] at q
  rw [q, e]
theorem s_retv (e : getS env i = .v d) : (W T).s k env h (.ret (.var i p1) p) = .rt d false h := by
  rw [Ws_ret]
  simp only [e]
theorem s_retl (e : getS env i = .l ds) : (W T).s k env h (.ret (.var i p1) p) = .rt (.lst ds) true h := by
  rw [Ws_ret]
  simp only [e]
theorem s_asg (e : (W T).e k env h x = .ok d fr env1 h1) (e2 : put env1 i d fr = env2) : (W T).s k env h (.asg (.var i p1) x p) = .nx env2 h1 := by
  rw [Ws_asg]
  simp only [e, e2]
theorem s_iff {q : Bool} {r1 r2 : List St} {s : SR} (e : O T k env h t d env1 h1) (e2 : truth d = some q) (e3 : Ss T k env1 h1 (match q with | true => r1 | false => r2) s) : (W T).s k env h (.iff t r1 r2 p) = s := by
  obtain ⟨fr, e⟩ := e
  unfold Ss at e3
  rw [Ws_iff]
  simp only [e, e2]
  cases q <;> exact e3
theorem s_exp (e : (W T).e k env h x = .ok d fr env1 h1) : (W T).s k env h (.exp x p) = .nx env1 h1 := by
  rw [Ws_exp]
  simp only [e]
theorem s_setK {kvs : List (D × D)} (e : (W T).e k env h x = .ok d fr env1 h1) (e0 : getS env1 i = .v (.ref j)) (e1 : (W T).e k env1 h1 y = .ok u fr1 env2 h2) (e2 : getH h2 j = some (.dK kvs)) (hk : keyOk false u = true) (hl : Nat.ble kvs.length 100000 = true) (e3 : setH (.dK (dPut u d kvs)) h2 j = h3) :
    (W T).s k env h (.asg (.idx (.var i p1) y p2) x p) = .nx env2 h3 := by
  have q := asgI_var (T := T) (s := W T) (k := k) (env := env) (h := h) (i := i) (pi := p1) (y := y) (pt := p2) (x := x) (p := p)
  rw [← W_fix] at q
  rw [q]
  simp only [e, e0, e1, e2, hk, hl, e3]
theorem s_for {r : List St} {items : List D} {s : SR} {it : Ex} (e : walk (W T) k env h it = .ok items env1 h1) (e1 : froze env1 (lent it) = some env2) (e2 : forL k t (fun env h => ss (W T) k env h r) env2 h1 items = s) : (W T).s k env h (.for_ t it r p) = s := by
  rw [Ws_for_]
  simp only [e, e1, e2]
theorem run_rt {fn : Fn} (hf : T.fns.get f = some fn) (hn : ∀ k f ds, T.nat k f ds = none) (ha : ds.length = fn.nargs) (e : Ss T k (vs ds ++ us (fn.nslots - fn.nargs)) h fn.body (.rt d fr h1)) : (W T).run k f ds h = .ok d fr h1 := by
  unfold Ss at e
  rw [Wr hf hn ha, e]
theorem run_nx {fn : Fn} (hf : T.fns.get f = some fn) (hn : ∀ k f ds, T.nat k f ds = none) (ha : ds.length = fn.nargs) (e : Ss T k (vs ds ++ us (fn.nslots - fn.nargs)) h fn.body (.nx env1 h1)) : (W T).run k f ds h = .ok .non false h1 := by
  unfold Ss at e
  rw [Wr hf hn ha, e]
/-! ### choices -/
def sel {α : Type} (q : Bool) (a b : α) : α := match q with | true => a | false => b
theorem sel_t {α : Type} {q : Bool} {a b : α} (h : q = true) : sel q a b = a := by rw [h]; rfl
theorem sel_f {α : Type} {q : Bool} {a b : α} (h : q = false) : sel q a b = b := by rw [h]; rfl
theorem notB_t {q : Bool} (h : q = false) : notB q = true := by rw [h]; rfl
theorem notB_f {q : Bool} (h : q = true) : notB q = false := by rw [h]; rfl
theorem ss_app {r1 r : List St} : ∀ {env : Env} {h : Hs}, ss (W T) k env h (r1 ++ r) = (match ss (W T) k env h r1 with | .nx env1 h1 => ss (W T) k env1 h1 r | q => q) := by
  induction r1 with
  | nil => intro env h; rfl
  | cons s q ih =>
    intro env h
    show (match (W T).s k env h s with | .nx env1 h1 => ss (W T) k env1 h1 (q ++ r) | q => q) = (match (match (W T).s k env h s with | .nx env1 h1 => ss (W T) k env1 h1 q | q => q) with | .nx env1 h1 => ss (W T) k env1 h1 r | q => q)
    cases (W T).s k env h s <;> first | exact ih | rfl
theorem ss_iff {q : Bool} {r1 r2 r : List St} {s : SR} (e : O T k env h t d env1 h1) (e2 : truth d = some q) (e3 : Ss T k env1 h1 (sel q (r1 ++ r) (r2 ++ r)) s) : Ss T k env h (.iff t r1 r2 p :: r) s := by
  obtain ⟨fr, e⟩ := e
  unfold Ss at e3 ⊢
  simp only [ss, Ws_iff, e, e2]
  cases q with
  | true =>
    rw [sel_t rfl, ss_app] at e3
    exact e3
  | false =>
    rw [sel_f rfl, ss_app] at e3
    exact e3
theorem ss_t {q : Bool} {a b : List St} {s : SR} (hq : q = true) (e : Ss T k env h a s) : Ss T k env h (sel q a b) s := by rw [sel_t hq]; exact e
theorem ss_f {q : Bool} {a b : List St} {s : SR} (hq : q = false) (e : Ss T k env h b s) : Ss T k env h (sel q a b) s := by rw [sel_f hq]; exact e
theorem x_ife {q : Bool} {r : Res} (e : O T k env h t d env1 h1) (e2 : truth d = some q) (e3 : (W T).e k env1 h1 (sel q a b) = r) : (W T).e k env h (.ife t a b p) = r := by
  obtain ⟨fr, e⟩ := e
  rw [We_ife]
  simp only [e, e2]
  cases q <;> exact e3
theorem x_t {q : Bool} {a b : Ex} {r : Res} (hq : q = true) (e : (W T).e k env h a = r) : (W T).e k env h (sel q a b) = r := by rw [sel_t hq]; exact e
theorem x_f {q : Bool} {a b : Ex} {r : Res} (hq : q = false) (e : (W T).e k env h b = r) : (W T).e k env h (sel q a b) = r := by rw [sel_f hq]; exact e
theorem x_and {q : Bool} {r : Res} (e : (W T).e k env h x = .ok (.bl q) fr1 env1 h1) (e2 : sel q ((W T).e k env1 h1 (.and (y :: xs) p)) (.ok (.bl false) false env1 h1) = r) : (W T).e k env h (.and (x :: y :: xs) p) = r := by
  cases q with
  | true =>
    rw [sel_t rfl, We_and] at e2
    rw [We_and]
    simp only [andV, e]
    exact e2
  | false =>
    rw [sel_f rfl] at e2
    rw [← e2]
    exact x_andF e
theorem x_or {q : Bool} {r : Res} (e : (W T).e k env h x = .ok (.bl q) fr1 env1 h1) (e2 : sel q (.ok (.bl true) false env1 h1) ((W T).e k env1 h1 (.or (y :: xs) p)) = r) : (W T).e k env h (.or (x :: y :: xs) p) = r := by
  cases q with
  | false =>
    rw [sel_f rfl, We_or] at e2
    rw [We_or]
    simp only [orV, e]
    exact e2
  | true =>
    rw [sel_t rfl] at e2
    rw [← e2]
    exact x_orT e
theorem r_t {q : Bool} {a b r : Res} (hq : q = true) (e : a = r) : sel q a b = r := by rw [sel_t hq]; exact e
theorem r_f {q : Bool} {a b r : Res} (hq : q = false) (e : b = r) : sel q a b = r := by rw [sel_f hq]; exact e
/-! ### sizes of numbers -/
def Bn (n : Nat) (i : Int) : Prop := i.natAbs < 2 ^ n
theorem Bn.mono {n m : Nat} {i : Int} (h : Bn n i) (hm : n ≤ m) : Bn m i := Nat.lt_of_lt_of_le h (Nat.pow_le_pow_right (by decide) hm)
theorem Bn.mul {n m : Nat} {i j : Int} (h : Bn n i) (g : Bn m j) : Bn (n + m) (i * j) := by
  unfold Bn at *
  rw [Int.natAbs_mul, Nat.pow_add]
  exact Nat.mul_lt_mul'' h g
theorem Bn.add {n m : Nat} {i j : Int} (h : Bn n i) (g : Bn m j) : Bn (n + m + 1) (i + j) := by
  have h1 := h.mono (m := n + m) (by omega)
  have g1 := g.mono (m := n + m) (by omega)
  unfold Bn at *
  have := Int.natAbs_add_le i j
  rw [Nat.pow_succ]
  omega
theorem Bn.neg {n : Nat} {i : Int} (h : Bn n i) : Bn n (-i) := by
  unfold Bn at *
  rwa [Int.natAbs_neg]
theorem Bn.sub {n m : Nat} {i j : Int} (h : Bn n i) (g : Bn m j) : Bn (n + m + 1) (i - j) := by
  rw [Int.sub_eq_add_neg]
  exact h.add g.neg
theorem Bn.log {n : Nat} {i : Int} (h : Bn n i) : i.natAbs.log2 ≤ n := by
  unfold Bn at h
  by_cases z : i.natAbs = 0
  · rw [z]; exact Nat.zero_le _
  · exact Nat.le_of_lt ((Nat.log2_lt z).mpr h)
theorem Bn.pow {n : Nat} {i : Int} (h : Bn n i) : ∀ m : Nat, Bn (n * m + 1) (i ^ m)
  | 0 => by unfold Bn; rw [Int.pow_zero, Nat.mul_zero]; decide
  | m + 1 => by
    rw [Int.pow_succ]
    exact ((Bn.pow h m).mul h).mono (by rw [Nat.mul_succ]; omega)
theorem op_mulB {i j : Int} {m : Nat} (h1 : Bn n i) (h2 : Bn m j) (hh : n + m < 100000000) : opV .Mult (.int i) (.int j) = some (.int (i * j), false) := op_mul (by have := h1.log; have := h2.log; omega)
theorem op_powB {i : Int} {m : Nat} (h1 : Bn n i) (h2 : m ≤ 1000) (hh : (n + 1) * m < 100000000) : opV .Pow (.int i) (.int (.ofNat m)) = some (.int (i ^ m), false) := op_pow h2 (by
  have := Nat.mul_le_mul_right m (show i.natAbs.log2 + 1 ≤ n + 1 by have := h1.log; omega)
  omega)
theorem Bn.ofLt {i : Int} (h0 : 0 ≤ i) {m : Int} (h : i < m) (hm : m.natAbs ≤ 2 ^ n) : Bn n i := by unfold Bn; omega
theorem small_of {j : Int} (h : Bn 200 j) : small j = true := by
  unfold small
  refine Nat.blt_eq.mpr (Nat.lt_of_lt_of_le h ?_)
  unfold BIG
  exact Nat.pow_le_pow_right (by decide) (by decide)
theorem op_divB {i j : Int} (hh : 0 < j) (h : Bn 200 j) : opV .FloorDiv (.int i) (.int j) = some (.int (i / j), false) := op_div hh (small_of h)
theorem Bn.lit {i : Int} (n : Nat) (h : decide (i.natAbs < 2 ^ n) = true) : Bn n i := show i.natAbs < 2 ^ n from of_decide_eq_true h
theorem ss_retE {r : List St} (hx : isV x = false) (e : (W T).e k env h x = .ok d fr env1 h1) : Ss T k env h (.ret x p :: r) (.rt d fr h1) := ss_rt (s_ret hx e)
theorem ss_retV {r : List St} (e : getS env i = .v d) : Ss T k env h (.ret (.var i p1) p :: r) (.rt d false h) := ss_rt (s_retv e)
theorem ss_retL {r : List St} (e : getS env i = .l ds) : Ss T k env h (.ret (.var i p1) p :: r) (.rt (.lst ds) true h) := ss_rt (s_retl e)
theorem ss_asgV {r : List St} {q : SR} (e : (W T).e k env h x = .ok d fr env1 h1) (e2 : put env1 i d fr = env2) (e3 : Ss T k env2 h1 r q) : Ss T k env h (.asg (.var i p1) x p :: r) q := ss_nx (s_asg e e2) e3
theorem ss_expE {r : List St} {q : SR} (e : (W T).e k env h x = .ok d fr env1 h1) (e3 : Ss T k env1 h1 r q) : Ss T k env h (.exp x p :: r) q := ss_nx (s_exp e) e3
theorem ss_setKE {kvs : List (D × D)} {r : List St} {q : SR} (e : (W T).e k env h x = .ok d fr env1 h1) (e0 : getS env1 i = .v (.ref j)) (e1 : (W T).e k env1 h1 y = .ok u fr1 env2 h2) (e2 : getH h2 j = some (.dK kvs)) (hk : keyOk false u = true) (hl : Nat.ble kvs.length 100000 = true) (e3 : setH (.dK (dPut u d kvs)) h2 j = h3) (e4 : Ss T k env2 h3 r q) :
    Ss T k env h (.asg (.idx (.var i p1) y p2) x p :: r) q := ss_nx (s_setK e e0 e1 e2 hk hl e3) e4
theorem ss_forE {r b : List St} {items : List D} {s : SR} {it : Ex} (e : walk (W T) k env h it = .ok items env1 h1) (e1 : froze env1 (lent it) = some env2) (e2 : forL k t (fun env h => ss (W T) k env h b) env2 h1 items = .nx env3 h3) (e3 : Ss T k env3 h3 r s) : Ss T k env h (.for_ t it b p :: r) s := ss_nx (s_for e e1 e2) e3
/-- what is walked -/
theorem w_seqL {it : Ex} (h4 : (match it with | .blt _ _ _ _ => false | _ => true) = true) (e : O T k env h it (.lst ds) env1 h1) : walk (W T) k env h it = .ok ds env1 h1 := by
  obtain ⟨fr, e⟩ := e
  rw [walk_pl (fun b xs p1 p z => by subst z; cases h4)]
  simp only [e]
theorem w_seqT {it : Ex} (h4 : (match it with | .blt _ _ _ _ => false | _ => true) = true) (e : O T k env h it (.tup ds) env1 h1) : walk (W T) k env h it = .ok ds env1 h1 := by
  obtain ⟨fr, e⟩ := e
  rw [walk_pl (fun b xs p1 p z => by subst z; cases h4)]
  simp only [e]
theorem w_rng {m : Int} (e : (W T).e k env h x = .ok (.int m) fr env1 h1) (hm : rngOk m = true) : walk (W T) k env h (.blt 6 [x] p1 p) = .ok (rangeL 0 m.toNat) env1 h1 := by simp only [walk, e, hm]
theorem rng_ok {m : Int} (h1 : -1000000 ≤ m) (h2 : m ≤ 1000000) : rngOk m = true := by unfold rngOk; exact Nat.blt_eq.mpr (by omega)
theorem pr {a : Prop} (h : a) : a := h
theorem Bn.mod {i m : Int} (h0 : 0 < m) (hm : Bn n m) : Bn n (i % m) := by
  unfold Bn at *
  have h1 := Int.emod_nonneg i (show m ≠ 0 by omega)
  have h2 := Int.emod_lt_of_pos i h0
  omega
theorem Bn.div {i m : Int} (h0 : 0 < m) (hm : Bn n i) : Bn n (i / m) := by
  unfold Bn at *
  have h1 : (i / m).natAbs ≤ i.natAbs := Int.natAbs_ediv_le_natAbs i m
  omega
theorem getH_set {o o2 : VO} : ∀ {h : Hs} {j : Nat}, getH h j = some o2 → getH (setH o h j) j = some o
  | [], _, e => by cases e
  | _ :: _, 0, _ => rfl
  | _ :: r, j + 1, e => getH_set (h := r) (j := j) e
theorem getH_ne {o : VO} : ∀ {h : Hs} {i j : Nat}, i ≠ j → getH (setH o h j) i = getH h i
  | [], _, _, _ => rfl
  | _ :: _, 0, 0, n => absurd rfl n
  | _ :: _, 0, j + 1, _ => rfl
  | _ :: _, i + 1, 0, _ => rfl
  | _ :: r, i + 1, j + 1, n => getH_ne (h := r) (i := i) (j := j) fun z => n (by rw [z])
theorem setH_len (o : VO) : ∀ (h : Hs) (j : Nat), (setH o h j).length = h.length
  | [], _ => rfl
  | _ :: _, 0 => rfl
  | _ :: r, j + 1 => by show (setH o r j).length + 1 = _; rw [setH_len o r j]; rfl
theorem setH_set {o o2 : VO} : ∀ (h : Hs) (j : Nat), setH o (setH o2 h j) j = setH o h j
  | [], _ => rfl
  | _ :: _, 0 => rfl
  | x :: r, j + 1 => by show x :: setH o (setH o2 r j) j = _; rw [setH_set r j]; rfl
theorem getH_app {o : VO} : ∀ {h : Hs}, getH (h ++ [o]) h.length = some o
  | [] => rfl
  | _ :: r => getH_app (h := r)
theorem getH_appl {o : List VO} : ∀ {h : Hs} {i : Nat}, i < h.length → getH (h ++ o) i = getH h i
  | [], _, hi => by cases hi
  | _ :: _, 0, _ => rfl
  | _ :: r, i + 1, hi => getH_appl (h := r) (i := i) (Nat.lt_of_succ_lt_succ hi)
end
section
variable {T : Tab} {k : Nat} {env env1 env2 env3 : Env} {h h1 h2 h3 : Hs} {x x1 x2 y : Ex} {xs ys : List Ex} {p : Pos} {d : D} {fr : Bool} {kvs : List (D × D)}
theorem dic_0 : dicS (W T) k env h [] [] = some ([], h) := rfl
theorem dic_1 {s : List Nat} {q : Nat} (e : (W T).e k (lock env) h y = .ok d fr env1 h1) (e2 : dicS (W T) k env h1 xs ys = some (kvs, h2)) : dicS (W T) k env h (.str s q p :: xs) (y :: ys) = some ((.str s, d) :: kvs, h2) := by simp only [dicS, e, e2]
theorem x_dicS (e : dicS (W T) k env h (x1 :: x2 :: xs) ys = some (kvs, h1)) : (W T).e k env h (.dic (x1 :: x2 :: xs) ys false p) = .ok (.ref h1.length) false env (h1 ++ [.dK kvs]) := by
  rw [We_dic]
  simp only [e]
end
section
variable {T : Tab}
/-- a level tells less than the limit -/
theorem ev_W (n : Nat) : Conv (fun _ => W T) (ev T n) := ⟨fun k env h x => by
    by_cases q : (ev T n).e k env h x = .no
    · exact .inl q
    · exact .inr ⟨0, fun _ _ => W_e rfl q⟩, fun k env h x => by
    by_cases q : (ev T n).s k env h x = .no
    · exact .inl q
    · exact .inr ⟨0, fun _ _ => W_s rfl q⟩, fun k f ds h => by
    by_cases q : (ev T n).run k f ds h = .no
    · exact .inl q
    · exact .inr ⟨0, fun _ _ => W_run rfl q⟩⟩
theorem ss_W {n k : Nat} {env : Env} {h : Hs} {xs : List St} {q : SR} (e : ss (ev T n) k env h xs = q) (hq : q ≠ .no) : ss (W T) k env h xs = q := by
  rcases cv_const (ss_cv (ev_W (T := T) n) k xs env h) with z | z
  · rw [e] at z; exact absurd z hq
  · exact z.trans e
theorem Ss_app {k : Nat} {env env1 : Env} {h h1 : Hs} {xs ys : List St} {q : SR} (e : Ss T k env h xs (.nx env1 h1)) (e2 : Ss T k env1 h1 ys q) : Ss T k env h (xs ++ ys) q := by
  unfold Ss at *
  rw [ss_app, e]
  exact e2
end
end Ew
/-! The small interpreter, 35: promises by the limit; a law's end. -/
namespace Ev
open PySem PySem.Spec PyProof.Rows L2
theorem fnG_W {P : Program} {w : World} {K : PySem.W.Frag} {mg : Str → Option Value} {base : Heap} {n k f : Nat} {a : Addr} {fd : FuncData} {ps : List Str} {M : Nm} {ca : Nat → Addr} {T : Tab}
    (F : ∀ m, FnG P w K mg base n a fd ps (spF K M ca ps fun ds h => (ev T m).run k f ds h)) : FnG P w K mg base n a fd ps (spF K M ca ps fun ds h => (Ew.W T).run k f ds h) := by
  refine ⟨fun vs H Q E z => z.1, fun A outer s H args us vs Q E hg hr e0 hb r hsp => ?_⟩
  obtain ⟨hl, w0, ds, h, e, ok, rs, g⟩ := hsp
  have ne : (Ew.W T).run k f ds h ≠ .no := fun z => by
    have g : spR K M ca w0 Q E ((Ew.W T).run k f ds h) := g
    rw [z] at g
    exact g
  obtain ⟨m, em⟩ := Ew.W_at (T := T) rfl ne
  exact (F m).run A outer s H args us vs Q E hg hr e0 hb r ⟨hl, w0, ds, h, e, ok, rs, by
    show spR K M ca w0 Q E ((ev T m).run k f ds h)
    rw [em]
    exact g⟩
theorem bits_bn {z : Int} (h : Builtin.Int.intBits z ≤ 1048576) : Ew.Bn 1048577 z := by
  unfold Builtin.Int.intBits at h
  unfold Ew.Bn
  split at h
  · rename_i e
    have e : z = 0 := beq_iff_eq.mp e
    subst e
    exact Nat.pow_pos (by decide)
  · rename_i e
    have hz : z.natAbs ≠ 0 := fun q => e (beq_iff_eq.mpr (by omega))
    exact (Nat.log2_lt hz).mp (by omega)
end Ev
namespace K79
open PySem Ev
/-- BadMix.__init__ self value -/
def f0 : Ev.Fn := ⟨2, 2, [
  (.asg (.att (.var 0 ⟨7, 8, 7, 12⟩) 0 ⟨7, 8, 7, 18⟩) (.var 1 ⟨7, 21, 7, 26⟩) ⟨7, 8, 7, 26⟩)]⟩
/-- BadPlace.__init__ self value -/
def f1 : Ev.Fn := ⟨2, 2, [
  (.asg (.att (.var 0 ⟨11, 8, 11, 12⟩) 0 ⟨11, 8, 11, 18⟩) (.var 1 ⟨11, 21, 11, 26⟩) ⟨11, 8, 11, 26⟩)]⟩
/-- BadHabit.__init__ self value -/
def f2 : Ev.Fn := ⟨2, 2, [
  (.asg (.att (.var 0 ⟨15, 8, 15, 12⟩) 0 ⟨15, 8, 15, 18⟩) (.var 1 ⟨15, 21, 15, 26⟩) ⟨15, 8, 15, 26⟩)]⟩
/-- BadValue.__init__ self value -/
def f3 : Ev.Fn := ⟨2, 2, [
  (.asg (.att (.var 0 ⟨19, 8, 19, 12⟩) 0 ⟨19, 8, 19, 18⟩) (.var 1 ⟨19, 21, 19, 26⟩) ⟨19, 8, 19, 26⟩)]⟩
/-- BadFirst.__init__ self value -/
def f4 : Ev.Fn := ⟨2, 2, [
  (.asg (.att (.var 0 ⟨23, 8, 23, 12⟩) 0 ⟨23, 8, 23, 18⟩) (.var 1 ⟨23, 21, 23, 26⟩) ⟨23, 8, 23, 26⟩)]⟩
/-- TooMany.__init__ self value -/
def f5 : Ev.Fn := ⟨2, 2, [
  (.asg (.att (.var 0 ⟨27, 8, 27, 12⟩) 0 ⟨27, 8, 27, 18⟩) (.var 1 ⟨27, 21, 27, 26⟩) ⟨27, 8, 27, 26⟩)]⟩
/-- is_integer value -/
def f6 : Ev.Fn := ⟨1, 1, [
  (.ret (.and [(.blt 12 [(.var 0 ⟨32, 22, 32, 27⟩), (.ty 0 ⟨32, 29, 32, 32⟩)] ⟨32, 11, 32, 21⟩ ⟨32, 11, 32, 33⟩), (.not (.blt 12 [(.var 0 ⟨32, 54, 32, 59⟩), (.ty 1 ⟨32, 61, 32, 65⟩)] ⟨32, 43, 32, 53⟩ ⟨32, 43, 32, 66⟩) ⟨32, 39, 32, 66⟩)] ⟨32, 11, 32, 67⟩) ⟨32, 4, 32, 67⟩)]⟩
/-- divisor_of one other -/
def f7 : Ev.Fn := ⟨2, 2, [
  (.asg (.tup [(.var 0 ⟨34, 4, 34, 7⟩), (.var 1 ⟨34, 9, 34, 14⟩)] 0 ⟨34, 4, 34, 14⟩) (.tup [(.blt 3 [(.var 0 ⟨34, 22, 34, 25⟩)] ⟨34, 18, 34, 21⟩ ⟨34, 18, 34, 26⟩), (.blt 3 [(.var 1 ⟨34, 32, 34, 37⟩)] ⟨34, 28, 34, 31⟩ ⟨34, 28, 34, 38⟩)] 0 ⟨34, 17, 34, 39⟩) ⟨34, 4, 34, 39⟩), 
  (.whl (.cmp .NotEq (.var 1 ⟨35, 10, 35, 15⟩) (.num 0 0 ⟨35, 19, 35, 20⟩) ⟨35, 10, 35, 20⟩) [(.asg (.tup [(.var 0 ⟨36, 8, 36, 11⟩), (.var 1 ⟨36, 13, 36, 18⟩)] 0 ⟨36, 8, 36, 18⟩) (.tup [(.var 1 ⟨36, 22, 36, 27⟩), (.bin .Mod (.var 0 ⟨36, 29, 36, 32⟩) (.var 1 ⟨36, 35, 36, 40⟩) ⟨36, 29, 36, 40⟩)] 0 ⟨36, 21, 36, 41⟩) ⟨36, 8, 36, 41⟩)] ⟨35, 4, 36, 41⟩), 
  (.ret (.var 0 ⟨37, 11, 37, 14⟩) ⟨37, 4, 37, 14⟩)]⟩
/-- is_fraction value -/
def f8 : Ev.Fn := ⟨1, 1, [
  (.iff (.or [(.not (.blt 12 [(.var 0 ⟨39, 22, 39, 27⟩), (.ty 2 ⟨39, 29, 39, 34⟩)] ⟨39, 11, 39, 21⟩ ⟨39, 11, 39, 35⟩) ⟨39, 7, 39, 35⟩), (.cmp .NotEq (.blt 0 [(.var 0 ⟨39, 43, 39, 48⟩)] ⟨39, 39, 39, 42⟩ ⟨39, 39, 39, 49⟩) (.num 2 0 ⟨39, 53, 39, 54⟩) ⟨39, 39, 39, 54⟩), (.not (.call 6 [(.idx (.var 0 ⟨39, 74, 39, 79⟩) (.num 0 0 ⟨39, 80, 39, 81⟩) ⟨39, 74, 39, 82⟩)] ⟨39, 63, 39, 73⟩ ⟨39, 63, 39, 83⟩) ⟨39, 59, 39, 83⟩), (.not (.call 6 [(.idx (.var 0 ⟨39, 104, 39, 109⟩) (.num 1 0 ⟨39, 110, 39, 111⟩) ⟨39, 104, 39, 112⟩)] ⟨39, 93, 39, 103⟩ ⟨39, 93, 39, 113⟩) ⟨39, 89, 39, 113⟩)] ⟨39, 7, 39, 114⟩) [(.ret (.cb false 0 ⟨40, 15, 40, 20⟩) ⟨40, 8, 40, 20⟩)] [] ⟨39, 4, 40, 20⟩), 
  (.ret (.and [(.cmp .Gt (.idx (.var 0 ⟨41, 11, 41, 16⟩) (.num 1 0 ⟨41, 17, 41, 18⟩) ⟨41, 11, 41, 19⟩) (.num 0 0 ⟨41, 22, 41, 23⟩) ⟨41, 11, 41, 23⟩), (.cmp .Eq (.call 7 [(.idx (.var 0 ⟨41, 39, 41, 44⟩) (.num 0 0 ⟨41, 45, 41, 46⟩) ⟨41, 39, 41, 47⟩), (.idx (.var 0 ⟨41, 49, 41, 54⟩) (.num 1 0 ⟨41, 55, 41, 56⟩) ⟨41, 49, 41, 57⟩)] ⟨41, 28, 41, 38⟩ ⟨41, 28, 41, 58⟩) (.num 1 0 ⟨41, 62, 41, 63⟩) ⟨41, 28, 41, 63⟩)] ⟨41, 11, 41, 63⟩) ⟨41, 4, 41, 63⟩)]⟩
/-- lowest top bottom shared -/
def f9 : Ev.Fn := ⟨2, 3, [
  (.asg (.var 2 ⟨43, 4, 43, 10⟩) (.call 7 [(.var 0 ⟨43, 24, 43, 27⟩), (.var 1 ⟨43, 29, 43, 35⟩)] ⟨43, 13, 43, 23⟩ ⟨43, 13, 43, 36⟩) ⟨43, 4, 43, 36⟩), 
  (.iff (.cmp .Lt (.var 1 ⟨44, 7, 44, 13⟩) (.num 0 0 ⟨44, 16, 44, 17⟩) ⟨44, 7, 44, 17⟩) [(.asg (.var 2 ⟨45, 8, 45, 14⟩) (.bin .Sub (.num 0 0 ⟨45, 17, 45, 18⟩) (.var 2 ⟨45, 21, 45, 27⟩) ⟨45, 17, 45, 27⟩) ⟨45, 8, 45, 27⟩)] [] ⟨44, 4, 45, 27⟩), 
  (.ret (.tup [(.bin .FloorDiv (.var 0 ⟨46, 12, 46, 15⟩) (.var 2 ⟨46, 19, 46, 25⟩) ⟨46, 12, 46, 25⟩), (.bin .FloorDiv (.var 1 ⟨46, 27, 46, 33⟩) (.var 2 ⟨46, 37, 46, 43⟩) ⟨46, 27, 46, 43⟩)] 0 ⟨46, 11, 46, 44⟩) ⟨46, 4, 46, 44⟩)]⟩
/-- add one other -/
def f10 : Ev.Fn := ⟨2, 2, [
  (.ret (.call 9 [(.bin .Add (.bin .Mult (.idx (.var 0 ⟨48, 18, 48, 21⟩) (.num 0 0 ⟨48, 22, 48, 23⟩) ⟨48, 18, 48, 24⟩) (.idx (.var 1 ⟨48, 27, 48, 32⟩) (.num 1 0 ⟨48, 33, 48, 34⟩) ⟨48, 27, 48, 35⟩) ⟨48, 18, 48, 35⟩) (.bin .Mult (.idx (.var 1 ⟨48, 38, 48, 43⟩) (.num 0 0 ⟨48, 44, 48, 45⟩) ⟨48, 38, 48, 46⟩) (.idx (.var 0 ⟨48, 49, 48, 52⟩) (.num 1 0 ⟨48, 53, 48, 54⟩) ⟨48, 49, 48, 55⟩) ⟨48, 38, 48, 55⟩) ⟨48, 18, 48, 55⟩), (.bin .Mult (.idx (.var 0 ⟨48, 57, 48, 60⟩) (.num 1 0 ⟨48, 61, 48, 62⟩) ⟨48, 57, 48, 63⟩) (.idx (.var 1 ⟨48, 66, 48, 71⟩) (.num 1 0 ⟨48, 72, 48, 73⟩) ⟨48, 66, 48, 74⟩) ⟨48, 57, 48, 74⟩)] ⟨48, 11, 48, 17⟩ ⟨48, 11, 48, 75⟩) ⟨48, 4, 48, 75⟩)]⟩
/-- less one other -/
def f11 : Ev.Fn := ⟨2, 2, [
  (.ret (.call 9 [(.bin .Sub (.bin .Mult (.idx (.var 0 ⟨50, 18, 50, 21⟩) (.num 0 0 ⟨50, 22, 50, 23⟩) ⟨50, 18, 50, 24⟩) (.idx (.var 1 ⟨50, 27, 50, 32⟩) (.num 1 0 ⟨50, 33, 50, 34⟩) ⟨50, 27, 50, 35⟩) ⟨50, 18, 50, 35⟩) (.bin .Mult (.idx (.var 1 ⟨50, 38, 50, 43⟩) (.num 0 0 ⟨50, 44, 50, 45⟩) ⟨50, 38, 50, 46⟩) (.idx (.var 0 ⟨50, 49, 50, 52⟩) (.num 1 0 ⟨50, 53, 50, 54⟩) ⟨50, 49, 50, 55⟩) ⟨50, 38, 50, 55⟩) ⟨50, 18, 50, 55⟩), (.bin .Mult (.idx (.var 0 ⟨50, 57, 50, 60⟩) (.num 1 0 ⟨50, 61, 50, 62⟩) ⟨50, 57, 50, 63⟩) (.idx (.var 1 ⟨50, 66, 50, 71⟩) (.num 1 0 ⟨50, 72, 50, 73⟩) ⟨50, 66, 50, 74⟩) ⟨50, 57, 50, 74⟩)] ⟨50, 11, 50, 17⟩ ⟨50, 11, 50, 75⟩) ⟨50, 4, 50, 75⟩)]⟩
/-- mul one other -/
def f12 : Ev.Fn := ⟨2, 2, [
  (.ret (.call 9 [(.bin .Mult (.idx (.var 0 ⟨52, 18, 52, 21⟩) (.num 0 0 ⟨52, 22, 52, 23⟩) ⟨52, 18, 52, 24⟩) (.idx (.var 1 ⟨52, 27, 52, 32⟩) (.num 0 0 ⟨52, 33, 52, 34⟩) ⟨52, 27, 52, 35⟩) ⟨52, 18, 52, 35⟩), (.bin .Mult (.idx (.var 0 ⟨52, 37, 52, 40⟩) (.num 1 0 ⟨52, 41, 52, 42⟩) ⟨52, 37, 52, 43⟩) (.idx (.var 1 ⟨52, 46, 52, 51⟩) (.num 1 0 ⟨52, 52, 52, 53⟩) ⟨52, 46, 52, 54⟩) ⟨52, 37, 52, 54⟩)] ⟨52, 11, 52, 17⟩ ⟨52, 11, 52, 55⟩) ⟨52, 4, 52, 55⟩)]⟩
/-- div one other -/
def f13 : Ev.Fn := ⟨2, 2, [
  (.ret (.call 9 [(.bin .Mult (.idx (.var 0 ⟨54, 18, 54, 21⟩) (.num 0 0 ⟨54, 22, 54, 23⟩) ⟨54, 18, 54, 24⟩) (.idx (.var 1 ⟨54, 27, 54, 32⟩) (.num 1 0 ⟨54, 33, 54, 34⟩) ⟨54, 27, 54, 35⟩) ⟨54, 18, 54, 35⟩), (.bin .Mult (.idx (.var 0 ⟨54, 37, 54, 40⟩) (.num 1 0 ⟨54, 41, 54, 42⟩) ⟨54, 37, 54, 43⟩) (.idx (.var 1 ⟨54, 46, 54, 51⟩) (.num 0 0 ⟨54, 52, 54, 53⟩) ⟨54, 46, 54, 54⟩) ⟨54, 37, 54, 54⟩)] ⟨54, 11, 54, 17⟩ ⟨54, 11, 54, 55⟩) ⟨54, 4, 54, 55⟩)]⟩
/-- order_of one other gap -/
def f14 : Ev.Fn := ⟨2, 3, [
  (.asg (.var 2 ⟨56, 4, 56, 7⟩) (.bin .Sub (.bin .Mult (.idx (.var 0 ⟨56, 10, 56, 13⟩) (.num 0 0 ⟨56, 14, 56, 15⟩) ⟨56, 10, 56, 16⟩) (.idx (.var 1 ⟨56, 19, 56, 24⟩) (.num 1 0 ⟨56, 25, 56, 26⟩) ⟨56, 19, 56, 27⟩) ⟨56, 10, 56, 27⟩) (.bin .Mult (.idx (.var 1 ⟨56, 30, 56, 35⟩) (.num 0 0 ⟨56, 36, 56, 37⟩) ⟨56, 30, 56, 38⟩) (.idx (.var 0 ⟨56, 41, 56, 44⟩) (.num 1 0 ⟨56, 45, 56, 46⟩) ⟨56, 41, 56, 47⟩) ⟨56, 30, 56, 47⟩) ⟨56, 10, 56, 47⟩) ⟨56, 4, 56, 47⟩), 
  (.ret (.bin .Sub (.blt 7 [(.cmp .Gt (.var 2 ⟨57, 15, 57, 18⟩) (.num 0 0 ⟨57, 21, 57, 22⟩) ⟨57, 15, 57, 22⟩)] ⟨57, 11, 57, 14⟩ ⟨57, 11, 57, 23⟩) (.blt 7 [(.cmp .Lt (.var 2 ⟨57, 30, 57, 33⟩) (.num 0 0 ⟨57, 36, 57, 37⟩) ⟨57, 30, 57, 37⟩)] ⟨57, 26, 57, 29⟩ ⟨57, 26, 57, 38⟩) ⟨57, 11, 57, 38⟩) ⟨57, 4, 57, 38⟩)]⟩
/-- counts_together values steps parts value counts -/
def f15 : Ev.Fn := ⟨1, 5, [
  (.asg (.tup [(.var 1 ⟨66, 4, 66, 9⟩), (.var 2 ⟨66, 11, 66, 16⟩)] 0 ⟨66, 4, 66, 16⟩) (.tup [(.num 0 0 ⟨66, 20, 66, 21⟩), (.num 0 0 ⟨66, 23, 66, 24⟩)] 0 ⟨66, 19, 66, 25⟩) ⟨66, 4, 66, 25⟩), 
  (.for_ (.var 3 ⟨67, 8, 67, 13⟩) (.var 0 ⟨67, 17, 67, 23⟩) [(.asg (.var 4 ⟨68, 8, 68, 14⟩) (.call 17 [(.var 3 ⟨68, 27, 68, 32⟩)] ⟨68, 17, 68, 26⟩ ⟨68, 17, 68, 33⟩) ⟨68, 8, 68, 33⟩), (.iff (.cmp .Is (.var 4 ⟨69, 11, 69, 17⟩) (.cn 0 ⟨69, 21, 69, 25⟩) ⟨69, 11, 69, 25⟩) [(.ret (.cn 0 ⟨70, 19, 70, 23⟩) ⟨70, 12, 70, 23⟩)] [] ⟨69, 8, 70, 23⟩), (.asg (.tup [(.var 1 ⟨71, 8, 71, 13⟩), (.var 2 ⟨71, 15, 71, 20⟩)] 0 ⟨71, 8, 71, 20⟩) (.tup [(.bin .Add (.var 1 ⟨71, 24, 71, 29⟩) (.idx (.var 4 ⟨71, 32, 71, 38⟩) (.num 0 0 ⟨71, 39, 71, 40⟩) ⟨71, 32, 71, 41⟩) ⟨71, 24, 71, 41⟩), (.bin .Add (.var 2 ⟨71, 43, 71, 48⟩) (.idx (.var 4 ⟨71, 51, 71, 57⟩) (.num 1 0 ⟨71, 58, 71, 59⟩) ⟨71, 51, 71, 60⟩) ⟨71, 43, 71, 60⟩)] 0 ⟨71, 23, 71, 61⟩) ⟨71, 8, 71, 61⟩)] ⟨67, 4, 71, 61⟩), 
  (.ret (.tup [(.var 1 ⟨72, 12, 72, 17⟩), (.var 2 ⟨72, 19, 72, 24⟩)] 0 ⟨72, 11, 72, 25⟩) ⟨72, 4, 72, 25⟩)]⟩
/-- is_outcome value -/
def f16 : Ev.Fn := ⟨1, 1, [
  (.iff (.or [(.not (.blt 12 [(.var 0 ⟨74, 22, 74, 27⟩), (.ty 2 ⟨74, 29, 74, 34⟩)] ⟨74, 11, 74, 21⟩ ⟨74, 11, 74, 35⟩) ⟨74, 7, 74, 35⟩), (.cmp .NotEq (.blt 0 [(.var 0 ⟨74, 43, 74, 48⟩)] ⟨74, 39, 74, 42⟩ ⟨74, 39, 74, 49⟩) (.num 2 0 ⟨74, 53, 74, 54⟩) ⟨74, 39, 74, 54⟩), (.not (.call 8 [(.idx (.var 0 ⟨74, 75, 74, 80⟩) (.num 0 0 ⟨74, 81, 74, 82⟩) ⟨74, 75, 74, 83⟩)] ⟨74, 63, 74, 74⟩ ⟨74, 63, 74, 84⟩) ⟨74, 59, 74, 84⟩)] ⟨74, 7, 74, 85⟩) [(.ret (.cb false 0 ⟨75, 15, 75, 20⟩) ⟨75, 8, 75, 20⟩)] [] ⟨74, 4, 75, 20⟩), 
  (.ret (.cmp .Gt (.call 14 [(.idx (.var 0 ⟨76, 20, 76, 25⟩) (.num 0 0 ⟨76, 26, 76, 27⟩) ⟨76, 20, 76, 28⟩), (.glob 0 ⟨76, 30, 76, 36⟩)] ⟨76, 11, 76, 19⟩ ⟨76, 11, 76, 37⟩) (.num 0 0 ⟨76, 40, 76, 41⟩) ⟨76, 11, 76, 41⟩) ⟨76, 4, 76, 41⟩)]⟩
/-- counts_of value counts .0 one -/
def f17 : Ev.Fn := ⟨1, 4, [
  (.iff (.or [(.not (.blt 12 [(.var 0 ⟨78, 22, 78, 27⟩), (.ty 2 ⟨78, 29, 78, 34⟩)] ⟨78, 11, 78, 21⟩ ⟨78, 11, 78, 35⟩) ⟨78, 7, 78, 35⟩), (.cmp .Eq (.var 0 ⟨78, 39, 78, 44⟩) (.tup [] 0 ⟨78, 48, 78, 50⟩) ⟨78, 39, 78, 50⟩), (.not (.blt 12 [(.idx (.var 0 ⟨78, 70, 78, 75⟩) (.num 0 0 ⟨78, 76, 78, 77⟩) ⟨78, 70, 78, 78⟩), (.ty 3 ⟨78, 80, 78, 83⟩)] ⟨78, 59, 78, 69⟩ ⟨78, 59, 78, 84⟩) ⟨78, 55, 78, 84⟩)] ⟨78, 7, 78, 85⟩) [(.ret (.cn 0 ⟨79, 15, 79, 19⟩) ⟨79, 8, 79, 19⟩)] [] ⟨78, 4, 79, 19⟩), 
  (.iff (.cmp .Eq (.idx (.var 0 ⟨80, 7, 80, 12⟩) (.num 0 0 ⟨80, 13, 80, 14⟩) ⟨80, 7, 80, 15⟩) (.str [101, 110, 100] 0 ⟨80, 19, 80, 24⟩) ⟨80, 7, 80, 24⟩) [(.ret (.ife (.cmp .Eq (.blt 0 [(.var 0 ⟨81, 29, 81, 34⟩)] ⟨81, 25, 81, 28⟩ ⟨81, 25, 81, 35⟩) (.num 1 0 ⟨81, 39, 81, 40⟩) ⟨81, 25, 81, 40⟩) (.tup [(.num 0 0 ⟨81, 16, 81, 17⟩), (.num 1 0 ⟨81, 19, 81, 20⟩)] 0 ⟨81, 15, 81, 21⟩) (.cn 0 ⟨81, 46, 81, 50⟩) ⟨81, 15, 81, 50⟩) ⟨81, 8, 81, 50⟩)] [] ⟨80, 4, 81, 50⟩), 
  (.iff (.and [(.cmp .Eq (.idx (.var 0 ⟨82, 7, 82, 12⟩) (.num 0 0 ⟨82, 13, 82, 14⟩) ⟨82, 7, 82, 15⟩) (.str [115, 116, 101, 112] 0 ⟨82, 19, 82, 25⟩) ⟨82, 7, 82, 25⟩), (.cmp .Eq (.blt 0 [(.var 0 ⟨82, 34, 82, 39⟩)] ⟨82, 30, 82, 33⟩ ⟨82, 30, 82, 40⟩) (.num 3 0 ⟨82, 44, 82, 45⟩) ⟨82, 30, 82, 45⟩), (.call 8 [(.idx (.var 0 ⟨82, 62, 82, 67⟩) (.num 1 0 ⟨82, 68, 82, 69⟩) ⟨82, 62, 82, 70⟩)] ⟨82, 50, 82, 61⟩ ⟨82, 50, 82, 71⟩), (.blt 12 [(.idx (.var 0 ⟨82, 87, 82, 92⟩) (.num 2 0 ⟨82, 93, 82, 94⟩) ⟨82, 87, 82, 95⟩), (.ty 2 ⟨82, 97, 82, 102⟩)] ⟨82, 76, 82, 86⟩ ⟨82, 76, 82, 103⟩)] ⟨82, 7, 82, 103⟩) [(.iff (.or [(.cmp .Gt (.blt 0 [(.idx (.var 0 ⟨83, 15, 83, 20⟩) (.num 2 0 ⟨83, 21, 83, 22⟩) ⟨83, 15, 83, 23⟩)] ⟨83, 11, 83, 14⟩ ⟨83, 11, 83, 24⟩) (.glob 2 ⟨83, 27, 83, 40⟩) ⟨83, 11, 83, 40⟩), (.not (.blt 1 [(.lc (.call 16 [(.var 3 ⟨83, 64, 83, 67⟩)] ⟨83, 53, 83, 63⟩ ⟨83, 53, 83, 68⟩) (.var 3 ⟨83, 73, 83, 76⟩) (.idx (.var 0 ⟨83, 80, 83, 85⟩) (.num 2 0 ⟨83, 86, 83, 87⟩) ⟨83, 80, 83, 88⟩) [] { kind := PySem.ScopeKind.function, names := [(PySem.Str.ofString ".0", PySem.NameKind.local), (PySem.Str.ofString "one", PySem.NameKind.local), (PySem.Str.ofString "is_outcome", PySem.NameKind.globalImplicit)], isGenerator := false, isCoroutine := false, more := [] } [(PySem.Str.ofString ".0", 2), (PySem.Str.ofString "one", 3)] ⟨83, 52, 83, 89⟩)] ⟨83, 48, 83, 51⟩ ⟨83, 48, 83, 90⟩) ⟨83, 44, 83, 90⟩)] ⟨83, 11, 83, 90⟩) [(.ret (.cn 0 ⟨84, 19, 84, 23⟩) ⟨84, 12, 84, 23⟩)] [] ⟨83, 8, 84, 23⟩), (.asg (.var 1 ⟨85, 8, 85, 14⟩) (.call 15 [(.lc (.idx (.var 3 ⟨85, 34, 85, 37⟩) (.num 1 0 ⟨85, 38, 85, 39⟩) ⟨85, 34, 85, 40⟩) (.var 3 ⟨85, 45, 85, 48⟩) (.idx (.var 0 ⟨85, 52, 85, 57⟩) (.num 2 0 ⟨85, 58, 85, 59⟩) ⟨85, 52, 85, 60⟩) [] { kind := PySem.ScopeKind.function, names := [(PySem.Str.ofString ".0", PySem.NameKind.local), (PySem.Str.ofString "one", PySem.NameKind.local)], isGenerator := false, isCoroutine := false, more := [] } [(PySem.Str.ofString ".0", 2), (PySem.Str.ofString "one", 3)] ⟨85, 33, 85, 61⟩)] ⟨85, 17, 85, 32⟩ ⟨85, 17, 85, 62⟩) ⟨85, 8, 85, 62⟩), (.ret (.ife (.cmp .IsNot (.var 1 ⟨86, 49, 86, 55⟩) (.cn 0 ⟨86, 63, 86, 67⟩) ⟨86, 49, 86, 67⟩) (.tup [(.bin .Add (.idx (.var 1 ⟨86, 16, 86, 22⟩) (.num 0 0 ⟨86, 23, 86, 24⟩) ⟨86, 16, 86, 25⟩) (.num 1 0 ⟨86, 28, 86, 29⟩) ⟨86, 16, 86, 29⟩), (.bin .Add (.idx (.var 1 ⟨86, 31, 86, 37⟩) (.num 1 0 ⟨86, 38, 86, 39⟩) ⟨86, 31, 86, 40⟩) (.num 1 0 ⟨86, 43, 86, 44⟩) ⟨86, 31, 86, 44⟩)] 0 ⟨86, 15, 86, 45⟩) (.cn 0 ⟨86, 73, 86, 77⟩) ⟨86, 15, 86, 77⟩) ⟨86, 8, 86, 77⟩)] [] ⟨82, 4, 86, 77⟩), 
  (.iff (.and [(.cmp .Eq (.idx (.var 0 ⟨87, 7, 87, 12⟩) (.num 0 0 ⟨87, 13, 87, 14⟩) ⟨87, 7, 87, 15⟩) (.str [97, 108, 108] 0 ⟨87, 19, 87, 24⟩) ⟨87, 7, 87, 24⟩), (.cmp .Eq (.blt 0 [(.var 0 ⟨87, 33, 87, 38⟩)] ⟨87, 29, 87, 32⟩ ⟨87, 29, 87, 39⟩) (.num 2 0 ⟨87, 43, 87, 44⟩) ⟨87, 29, 87, 44⟩), (.blt 12 [(.idx (.var 0 ⟨87, 60, 87, 65⟩) (.num 1 0 ⟨87, 66, 87, 67⟩) ⟨87, 60, 87, 68⟩), (.ty 2 ⟨87, 70, 87, 75⟩)] ⟨87, 49, 87, 59⟩ ⟨87, 49, 87, 76⟩), (.chn .LtE .LtE (.num 2 0 ⟨87, 82, 87, 83⟩) (.blt 0 [(.idx (.var 0 ⟨87, 91, 87, 96⟩) (.num 1 0 ⟨87, 97, 87, 98⟩) ⟨87, 91, 87, 99⟩)] ⟨87, 87, 87, 90⟩ ⟨87, 87, 87, 100⟩) (.glob 3 ⟨87, 104, 87, 116⟩) ⟨87, 82, 87, 116⟩)] ⟨87, 7, 87, 117⟩) [(.asg (.var 1 ⟨88, 8, 88, 14⟩) (.call 15 [(.idx (.var 0 ⟨88, 33, 88, 38⟩) (.num 1 0 ⟨88, 39, 88, 40⟩) ⟨88, 33, 88, 41⟩)] ⟨88, 17, 88, 32⟩ ⟨88, 17, 88, 42⟩) ⟨88, 8, 88, 42⟩), (.ret (.ife (.cmp .IsNot (.var 1 ⟨89, 45, 89, 51⟩) (.cn 0 ⟨89, 59, 89, 63⟩) ⟨89, 45, 89, 63⟩) (.tup [(.idx (.var 1 ⟨89, 16, 89, 22⟩) (.num 0 0 ⟨89, 23, 89, 24⟩) ⟨89, 16, 89, 25⟩), (.bin .Add (.idx (.var 1 ⟨89, 27, 89, 33⟩) (.num 1 0 ⟨89, 34, 89, 35⟩) ⟨89, 27, 89, 36⟩) (.num 1 0 ⟨89, 39, 89, 40⟩) ⟨89, 27, 89, 40⟩)] 0 ⟨89, 15, 89, 41⟩) (.cn 0 ⟨89, 69, 89, 73⟩) ⟨89, 15, 89, 73⟩) ⟨89, 8, 89, 73⟩)] [] ⟨87, 4, 89, 73⟩), 
  (.ret (.cn 0 ⟨90, 11, 90, 15⟩) ⟨90, 4, 90, 15⟩)]⟩
/-- is_term value counts -/
def f18 : Ev.Fn := ⟨1, 2, [
  (.asg (.var 1 ⟨92, 4, 92, 10⟩) (.call 17 [(.var 0 ⟨92, 23, 92, 28⟩)] ⟨92, 13, 92, 22⟩ ⟨92, 13, 92, 29⟩) ⟨92, 4, 92, 29⟩), 
  (.ret (.and [(.cmp .IsNot (.var 1 ⟨93, 11, 93, 17⟩) (.cn 0 ⟨93, 25, 93, 29⟩) ⟨93, 11, 93, 29⟩), (.cmp .LtE (.idx (.var 1 ⟨93, 34, 93, 40⟩) (.num 0 0 ⟨93, 41, 93, 42⟩) ⟨93, 34, 93, 43⟩) (.glob 4 ⟨93, 47, 93, 57⟩) ⟨93, 34, 93, 57⟩), (.cmp .LtE (.idx (.var 1 ⟨93, 63, 93, 69⟩) (.num 1 0 ⟨93, 70, 93, 71⟩) ⟨93, 63, 93, 72⟩) (.glob 5 ⟨93, 76, 93, 86⟩) ⟨93, 63, 93, 86⟩)] ⟨93, 11, 93, 87⟩) ⟨93, 4, 93, 87⟩)]⟩
/-- is_mix value counts .0 one -/
def f19 : Ev.Fn := ⟨1, 4, [
  (.iff (.or [(.not (.blt 12 [(.var 0 ⟨95, 22, 95, 27⟩), (.ty 2 ⟨95, 29, 95, 34⟩)] ⟨95, 11, 95, 21⟩ ⟨95, 11, 95, 35⟩) ⟨95, 7, 95, 35⟩), (.not (.chn .LtE .LtE (.num 1 0 ⟨95, 43, 95, 44⟩) (.blt 0 [(.var 0 ⟨95, 52, 95, 57⟩)] ⟨95, 48, 95, 51⟩ ⟨95, 48, 95, 58⟩) (.glob 6 ⟨95, 62, 95, 72⟩) ⟨95, 43, 95, 72⟩) ⟨95, 39, 95, 72⟩), (.not (.blt 1 [(.lc (.call 18 [(.var 3 ⟨95, 94, 95, 97⟩)] ⟨95, 86, 95, 93⟩ ⟨95, 86, 95, 98⟩) (.var 3 ⟨95, 103, 95, 106⟩) (.var 0 ⟨95, 110, 95, 115⟩) [] { kind := PySem.ScopeKind.function, names := [(PySem.Str.ofString ".0", PySem.NameKind.local), (PySem.Str.ofString "one", PySem.NameKind.local), (PySem.Str.ofString "is_term", PySem.NameKind.globalImplicit)], isGenerator := false, isCoroutine := false, more := [] } [(PySem.Str.ofString ".0", 2), (PySem.Str.ofString "one", 3)] ⟨95, 85, 95, 116⟩)] ⟨95, 81, 95, 84⟩ ⟨95, 81, 95, 117⟩) ⟨95, 77, 95, 117⟩)] ⟨95, 7, 95, 118⟩) [(.ret (.cb false 0 ⟨96, 15, 96, 20⟩) ⟨96, 8, 96, 20⟩)] [] ⟨95, 4, 96, 20⟩), 
  (.asg (.var 1 ⟨97, 4, 97, 10⟩) (.call 15 [(.var 0 ⟨97, 29, 97, 34⟩)] ⟨97, 13, 97, 28⟩ ⟨97, 13, 97, 35⟩) ⟨97, 4, 97, 35⟩), 
  (.ret (.and [(.cmp .LtE (.idx (.var 1 ⟨98, 11, 98, 17⟩) (.num 0 0 ⟨98, 18, 98, 19⟩) ⟨98, 11, 98, 20⟩) (.glob 4 ⟨98, 24, 98, 34⟩) ⟨98, 11, 98, 34⟩), (.cmp .LtE (.idx (.var 1 ⟨98, 39, 98, 45⟩) (.num 1 0 ⟨98, 46, 98, 47⟩) ⟨98, 39, 98, 48⟩) (.glob 7 ⟨98, 52, 98, 66⟩) ⟨98, 39, 98, 66⟩)] ⟨98, 11, 98, 66⟩) ⟨98, 4, 98, 66⟩)]⟩
/-- within term .0 one -/
def f20 : Ev.Fn := ⟨1, 3, [
  (.iff (.cmp .Eq (.idx (.var 0 ⟨100, 7, 100, 11⟩) (.num 0 0 ⟨100, 12, 100, 13⟩) ⟨100, 7, 100, 14⟩) (.str [115, 116, 101, 112] 0 ⟨100, 18, 100, 24⟩) ⟨100, 7, 100, 24⟩) [(.ret (.lc (.idx (.var 2 ⟨101, 16, 101, 19⟩) (.num 1 0 ⟨101, 20, 101, 21⟩) ⟨101, 16, 101, 22⟩) (.var 2 ⟨101, 27, 101, 30⟩) (.idx (.var 0 ⟨101, 34, 101, 38⟩) (.num 2 0 ⟨101, 39, 101, 40⟩) ⟨101, 34, 101, 41⟩) [] { kind := PySem.ScopeKind.function, names := [(PySem.Str.ofString ".0", PySem.NameKind.local), (PySem.Str.ofString "one", PySem.NameKind.local)], isGenerator := false, isCoroutine := false, more := [] } [(PySem.Str.ofString ".0", 1), (PySem.Str.ofString "one", 2)] ⟨101, 15, 101, 42⟩) ⟨101, 8, 101, 42⟩)] [] ⟨100, 4, 101, 42⟩), 
  (.ret (.ife (.cmp .Eq (.idx (.var 0 ⟨102, 28, 102, 32⟩) (.num 0 0 ⟨102, 33, 102, 34⟩) ⟨102, 28, 102, 35⟩) (.str [97, 108, 108] 0 ⟨102, 39, 102, 44⟩) ⟨102, 28, 102, 44⟩) (.blt 8 [(.idx (.var 0 ⟨102, 16, 102, 20⟩) (.num 1 0 ⟨102, 21, 102, 22⟩) ⟨102, 16, 102, 23⟩)] ⟨102, 11, 102, 15⟩ ⟨102, 11, 102, 24⟩) (.lst [] ⟨102, 50, 102, 52⟩) ⟨102, 11, 102, 52⟩) ⟨102, 4, 102, 52⟩)]⟩
/-- part_at term place number -/
def f21 : Ev.Fn := ⟨2, 3, [
  (.for_ (.var 2 ⟨105, 8, 105, 14⟩) (.var 1 ⟨105, 18, 105, 23⟩) [(.asg (.var 0 ⟨106, 8, 106, 12⟩) (.idx (.call 20 [(.var 0 ⟨106, 22, 106, 26⟩)] ⟨106, 15, 106, 21⟩ ⟨106, 15, 106, 27⟩) (.var 2 ⟨106, 28, 106, 34⟩) ⟨106, 15, 106, 35⟩) ⟨106, 8, 106, 35⟩)] ⟨105, 4, 106, 35⟩), 
  (.ret (.var 0 ⟨107, 11, 107, 15⟩) ⟨107, 4, 107, 15⟩)]⟩
/-- is_place term value number .0 -/
def f22 : Ev.Fn := ⟨2, 4, [
  (.iff (.or [(.not (.blt 12 [(.var 1 ⟨109, 22, 109, 27⟩), (.ty 2 ⟨109, 29, 109, 34⟩)] ⟨109, 11, 109, 21⟩ ⟨109, 11, 109, 35⟩) ⟨109, 7, 109, 35⟩), (.not (.blt 1 [(.lc (.call 6 [(.var 2 ⟨109, 59, 109, 65⟩)] ⟨109, 48, 109, 58⟩ ⟨109, 48, 109, 66⟩) (.var 2 ⟨109, 71, 109, 77⟩) (.var 1 ⟨109, 81, 109, 86⟩) [] { kind := PySem.ScopeKind.function, names := [(PySem.Str.ofString ".0", PySem.NameKind.local), (PySem.Str.ofString "number", PySem.NameKind.local), (PySem.Str.ofString "is_integer", PySem.NameKind.globalImplicit)], isGenerator := false, isCoroutine := false, more := [] } [(PySem.Str.ofString ".0", 3), (PySem.Str.ofString "number", 2)] ⟨109, 47, 109, 87⟩)] ⟨109, 43, 109, 46⟩ ⟨109, 43, 109, 88⟩) ⟨109, 39, 109, 88⟩)] ⟨109, 7, 109, 88⟩) [(.ret (.cb false 0 ⟨110, 15, 110, 20⟩) ⟨110, 8, 110, 20⟩)] [] ⟨109, 4, 110, 20⟩), 
  (.for_ (.var 2 ⟨111, 8, 111, 14⟩) (.var 1 ⟨111, 18, 111, 23⟩) [(.iff (.not (.chn .LtE .Lt (.num 0 0 ⟨112, 15, 112, 16⟩) (.var 2 ⟨112, 20, 112, 26⟩) (.blt 0 [(.call 20 [(.var 0 ⟨112, 40, 112, 44⟩)] ⟨112, 33, 112, 39⟩ ⟨112, 33, 112, 45⟩)] ⟨112, 29, 112, 32⟩ ⟨112, 29, 112, 46⟩) ⟨112, 15, 112, 46⟩) ⟨112, 11, 112, 46⟩) [(.ret (.cb false 0 ⟨113, 19, 113, 24⟩) ⟨113, 12, 113, 24⟩)] [] ⟨112, 8, 113, 24⟩), (.asg (.var 0 ⟨114, 8, 114, 12⟩) (.idx (.call 20 [(.var 0 ⟨114, 22, 114, 26⟩)] ⟨114, 15, 114, 21⟩ ⟨114, 15, 114, 27⟩) (.var 2 ⟨114, 28, 114, 34⟩) ⟨114, 15, 114, 35⟩) ⟨114, 8, 114, 35⟩)] ⟨111, 4, 114, 35⟩), 
  (.ret (.cb true 0 ⟨115, 11, 115, 15⟩) ⟨115, 4, 115, 15⟩)]⟩
/-- put term place other number rest inner .0 at one -/
def f23 : Ev.Fn := ⟨3, 9, [
  (.iff (.cmp .Eq (.var 1 ⟨117, 7, 117, 12⟩) (.tup [] 0 ⟨117, 16, 117, 18⟩) ⟨117, 7, 117, 18⟩) [(.ret (.var 2 ⟨118, 15, 118, 20⟩) ⟨118, 8, 118, 20⟩)] [] ⟨117, 4, 118, 20⟩), 
  (.asg (.tup [(.var 3 ⟨119, 4, 119, 10⟩), (.var 4 ⟨119, 12, 119, 16⟩)] 0 ⟨119, 4, 119, 16⟩) (.tup [(.idx (.var 1 ⟨119, 20, 119, 25⟩) (.num 0 0 ⟨119, 26, 119, 27⟩) ⟨119, 20, 119, 28⟩), (.slc (.var 1 ⟨119, 30, 119, 35⟩) (some (.num 1 0 ⟨119, 36, 119, 37⟩)) none ⟨119, 36, 119, 38⟩ ⟨119, 30, 119, 39⟩)] 0 ⟨119, 19, 119, 40⟩) ⟨119, 4, 119, 40⟩), 
  (.asg (.var 5 ⟨120, 4, 120, 9⟩) (.call 20 [(.var 0 ⟨120, 19, 120, 23⟩)] ⟨120, 12, 120, 18⟩ ⟨120, 12, 120, 24⟩) ⟨120, 4, 120, 24⟩), 
  (.asg (.idx (.var 5 ⟨121, 4, 121, 9⟩) (.var 3 ⟨121, 10, 121, 16⟩) ⟨121, 4, 121, 17⟩) (.call 23 [(.idx (.var 5 ⟨121, 24, 121, 29⟩) (.var 3 ⟨121, 30, 121, 36⟩) ⟨121, 24, 121, 37⟩), (.var 4 ⟨121, 39, 121, 43⟩), (.var 2 ⟨121, 45, 121, 50⟩)] ⟨121, 20, 121, 23⟩ ⟨121, 20, 121, 51⟩) ⟨121, 4, 121, 51⟩), 
  (.iff (.cmp .Eq (.idx (.var 0 ⟨122, 7, 122, 11⟩) (.num 0 0 ⟨122, 12, 122, 13⟩) ⟨122, 7, 122, 14⟩) (.str [97, 108, 108] 0 ⟨122, 18, 122, 23⟩) ⟨122, 7, 122, 23⟩) [(.ret (.tup [(.str [97, 108, 108] 0 ⟨123, 16, 123, 21⟩), (.blt 9 [(.var 5 ⟨123, 29, 123, 34⟩)] ⟨123, 23, 123, 28⟩ ⟨123, 23, 123, 35⟩)] 0 ⟨123, 15, 123, 36⟩) ⟨123, 8, 123, 36⟩)] [] ⟨122, 4, 123, 36⟩), 
  (.ret (.tup [(.str [115, 116, 101, 112] 0 ⟨124, 12, 124, 18⟩), (.idx (.var 0 ⟨124, 20, 124, 24⟩) (.num 1 0 ⟨124, 25, 124, 26⟩) ⟨124, 20, 124, 27⟩), (.blt 9 [(.lc (.tup [(.idx (.var 8 ⟨124, 37, 124, 40⟩) (.num 0 0 ⟨124, 41, 124, 42⟩) ⟨124, 37, 124, 43⟩), (.idx (.var 5 ⟨124, 45, 124, 50⟩) (.var 7 ⟨124, 51, 124, 53⟩) ⟨124, 45, 124, 54⟩)] 0 ⟨124, 36, 124, 55⟩) (.tup [(.var 7 ⟨124, 60, 124, 62⟩), (.var 8 ⟨124, 64, 124, 67⟩)] 0 ⟨124, 60, 124, 67⟩) (.blt 4 [(.idx (.var 0 ⟨124, 81, 124, 85⟩) (.num 2 0 ⟨124, 86, 124, 87⟩) ⟨124, 81, 124, 88⟩)] ⟨124, 71, 124, 80⟩ ⟨124, 71, 124, 89⟩) [] { kind := PySem.ScopeKind.function, names := [(PySem.Str.ofString ".0", PySem.NameKind.local), (PySem.Str.ofString "at", PySem.NameKind.local), (PySem.Str.ofString "one", PySem.NameKind.local), (PySem.Str.ofString "inner", PySem.NameKind.free)], isGenerator := false, isCoroutine := false, more := [] } [(PySem.Str.ofString ".0", 6), (PySem.Str.ofString "at", 7), (PySem.Str.ofString "one", 8)] ⟨124, 35, 124, 90⟩)] ⟨124, 29, 124, 34⟩ ⟨124, 29, 124, 91⟩)] 0 ⟨124, 11, 124, 92⟩) ⟨124, 4, 124, 92⟩)]⟩
/-- front_of term .0 number one place -/
def f24 : Ev.Fn := ⟨1, 5, [
  (.iff (.cmp .Eq (.idx (.var 0 ⟨126, 7, 126, 11⟩) (.num 0 0 ⟨126, 12, 126, 13⟩) ⟨126, 7, 126, 14⟩) (.str [115, 116, 101, 112] 0 ⟨126, 18, 126, 24⟩) ⟨126, 7, 126, 24⟩) [(.ret (.lst [(.tup [] 0 ⟨127, 16, 127, 18⟩)] ⟨127, 15, 127, 19⟩) ⟨127, 8, 127, 19⟩)] [] ⟨126, 4, 127, 19⟩), 
  (.iff (.cmp .Eq (.idx (.var 0 ⟨128, 7, 128, 11⟩) (.num 0 0 ⟨128, 12, 128, 13⟩) ⟨128, 7, 128, 14⟩) (.str [101, 110, 100] 0 ⟨128, 18, 128, 23⟩) ⟨128, 7, 128, 23⟩) [(.ret (.lst [] ⟨129, 15, 129, 17⟩) ⟨129, 8, 129, 17⟩)] [] ⟨128, 4, 129, 17⟩), 
  (.ret (.lc2 (.tup [(.var 2 ⟨130, 13, 130, 19⟩), (.star (.var 4 ⟨130, 22, 130, 27⟩) ⟨130, 21, 130, 27⟩)] 0 ⟨130, 12, 130, 28⟩) (.tup [(.var 2 ⟨130, 33, 130, 39⟩), (.var 3 ⟨130, 41, 130, 44⟩)] 0 ⟨130, 33, 130, 44⟩) (.blt 4 [(.idx (.var 0 ⟨130, 58, 130, 62⟩) (.num 1 0 ⟨130, 63, 130, 64⟩) ⟨130, 58, 130, 65⟩)] ⟨130, 48, 130, 57⟩ ⟨130, 48, 130, 66⟩) [] (.var 4 ⟨130, 71, 130, 76⟩) (.call 24 [(.var 3 ⟨130, 89, 130, 92⟩)] ⟨130, 80, 130, 88⟩ ⟨130, 80, 130, 93⟩) [] { kind := PySem.ScopeKind.function, names := [(PySem.Str.ofString ".0", PySem.NameKind.local), (PySem.Str.ofString "number", PySem.NameKind.local), (PySem.Str.ofString "one", PySem.NameKind.local), (PySem.Str.ofString "place", PySem.NameKind.local), (PySem.Str.ofString "front_of", PySem.NameKind.globalImplicit)], isGenerator := false, isCoroutine := false, more := [] } [(PySem.Str.ofString ".0", 1), (PySem.Str.ofString "number", 2), (PySem.Str.ofString "one", 3), (PySem.Str.ofString "place", 4)] [4] ⟨130, 11, 130, 94⟩) ⟨130, 4, 130, 94⟩)]⟩
/-- front_in mix .0 number term place -/
def f25 : Ev.Fn := ⟨1, 5, [
  (.ret (.lc2 (.tup [(.var 2 ⟨132, 13, 132, 19⟩), (.star (.var 4 ⟨132, 22, 132, 27⟩) ⟨132, 21, 132, 27⟩)] 0 ⟨132, 12, 132, 28⟩) (.tup [(.var 2 ⟨132, 33, 132, 39⟩), (.var 3 ⟨132, 41, 132, 45⟩)] 0 ⟨132, 33, 132, 45⟩) (.blt 4 [(.var 0 ⟨132, 59, 132, 62⟩)] ⟨132, 49, 132, 58⟩ ⟨132, 49, 132, 63⟩) [] (.var 4 ⟨132, 68, 132, 73⟩) (.call 24 [(.var 3 ⟨132, 86, 132, 90⟩)] ⟨132, 77, 132, 85⟩ ⟨132, 77, 132, 91⟩) [] { kind := PySem.ScopeKind.function, names := [(PySem.Str.ofString ".0", PySem.NameKind.local), (PySem.Str.ofString "number", PySem.NameKind.local), (PySem.Str.ofString "term", PySem.NameKind.local), (PySem.Str.ofString "place", PySem.NameKind.local), (PySem.Str.ofString "front_of", PySem.NameKind.globalImplicit)], isGenerator := false, isCoroutine := false, more := [] } [(PySem.Str.ofString ".0", 1), (PySem.Str.ofString "number", 2), (PySem.Str.ofString "term", 3), (PySem.Str.ofString "place", 4)] [4] ⟨132, 11, 132, 92⟩) ⟨132, 4, 132, 92⟩)]⟩
/-- behind mix place number rest step found weight one -/
def f26 : Ev.Fn := ⟨2, 8, [
  (.asg (.tup [(.var 2 ⟨134, 4, 134, 10⟩), (.var 3 ⟨134, 12, 134, 16⟩)] 0 ⟨134, 4, 134, 16⟩) (.tup [(.idx (.var 1 ⟨134, 20, 134, 25⟩) (.num 0 0 ⟨134, 26, 134, 27⟩) ⟨134, 20, 134, 28⟩), (.slc (.var 1 ⟨134, 30, 134, 35⟩) (some (.num 1 0 ⟨134, 36, 134, 37⟩)) none ⟨134, 36, 134, 38⟩ ⟨134, 30, 134, 39⟩)] 0 ⟨134, 19, 134, 40⟩) ⟨134, 4, 134, 40⟩), 
  (.asg (.tup [(.var 4 ⟨135, 4, 135, 8⟩), (.var 5 ⟨135, 10, 135, 15⟩)] 0 ⟨135, 4, 135, 15⟩) (.tup [(.call 21 [(.idx (.var 0 ⟨135, 27, 135, 30⟩) (.var 2 ⟨135, 31, 135, 37⟩) ⟨135, 27, 135, 38⟩), (.var 3 ⟨135, 40, 135, 44⟩)] ⟨135, 19, 135, 26⟩ ⟨135, 19, 135, 45⟩), (.lst [] ⟨135, 47, 135, 49⟩)] 0 ⟨135, 18, 135, 50⟩) ⟨135, 4, 135, 50⟩), 
  (.for_ (.tup [(.var 6 ⟨136, 8, 136, 14⟩), (.var 7 ⟨136, 16, 136, 19⟩)] 0 ⟨136, 8, 136, 19⟩) (.idx (.var 4 ⟨136, 23, 136, 27⟩) (.num 2 0 ⟨136, 28, 136, 29⟩) ⟨136, 23, 136, 30⟩) [(.exp (.lm 0 (.var 5 ⟨137, 8, 137, 13⟩) [(.tup [(.var 6 ⟨137, 22, 137, 28⟩), (.tup [(.star (.slc (.var 0 ⟨137, 32, 137, 35⟩) none (some (.var 2 ⟨137, 37, 137, 43⟩)) ⟨137, 36, 137, 43⟩ ⟨137, 32, 137, 44⟩) ⟨137, 31, 137, 44⟩), (.call 23 [(.idx (.var 0 ⟨137, 50, 137, 53⟩) (.var 2 ⟨137, 54, 137, 60⟩) ⟨137, 50, 137, 61⟩), (.var 3 ⟨137, 63, 137, 67⟩), (.var 7 ⟨137, 69, 137, 72⟩)] ⟨137, 46, 137, 49⟩ ⟨137, 46, 137, 73⟩), (.star (.slc (.var 0 ⟨137, 76, 137, 79⟩) (some (.bin .Add (.var 2 ⟨137, 80, 137, 86⟩) (.num 1 0 ⟨137, 89, 137, 90⟩) ⟨137, 80, 137, 90⟩)) none ⟨137, 80, 137, 91⟩ ⟨137, 76, 137, 92⟩) ⟨137, 75, 137, 92⟩)] 0 ⟨137, 30, 137, 93⟩)] 0 ⟨137, 21, 137, 94⟩)] ⟨137, 8, 137, 20⟩ ⟨137, 8, 137, 95⟩) ⟨137, 8, 137, 95⟩)] ⟨136, 4, 137, 95⟩), 
  (.ret (.var 5 ⟨138, 11, 138, 16⟩) ⟨138, 4, 138, 16⟩)]⟩
/-- need_mix value -/
def f27 : Ev.Fn := ⟨1, 1, [
  (.iff (.not (.call 19 [(.var 0 ⟨140, 18, 140, 23⟩)] ⟨140, 11, 140, 17⟩ ⟨140, 11, 140, 24⟩) ⟨140, 7, 140, 24⟩) [(.rai (.new 1 [(.var 0 ⟨141, 21, 141, 26⟩)] ⟨141, 14, 141, 20⟩ ⟨141, 14, 141, 27⟩) ⟨141, 8, 141, 27⟩)] [] ⟨140, 4, 141, 27⟩)]⟩
/-- flat  -/
def f28 : Ev.Fn := ⟨0, 0, [
  (.ret (.lst [(.tup [(.cn 0 ⟨145, 13, 145, 17⟩), (.glob 0 ⟨145, 19, 145, 25⟩), (.glob 0 ⟨145, 27, 145, 33⟩)] 0 ⟨145, 12, 145, 34⟩)] ⟨145, 11, 145, 35⟩) ⟨145, 4, 145, 35⟩)]⟩
/-- sorted_fractions values found value place .0 one -/
def f29 : Ev.Fn := ⟨1, 6, [
  (.asg (.var 1 ⟨147, 4, 147, 9⟩) (.lst [] ⟨147, 12, 147, 14⟩) ⟨147, 4, 147, 14⟩), 
  (.for_ (.var 2 ⟨148, 8, 148, 13⟩) (.var 0 ⟨148, 17, 148, 23⟩) [(.asg (.var 3 ⟨149, 8, 149, 13⟩) (.blt 0 [(.lc (.var 5 ⟨149, 21, 149, 24⟩) (.var 5 ⟨149, 29, 149, 32⟩) (.var 1 ⟨149, 36, 149, 41⟩) [(.cmp .Lt (.call 14 [(.var 5 ⟨149, 54, 149, 57⟩), (.var 2 ⟨149, 59, 149, 64⟩)] ⟨149, 45, 149, 53⟩ ⟨149, 45, 149, 65⟩) (.num 0 0 ⟨149, 68, 149, 69⟩) ⟨149, 45, 149, 69⟩)] { kind := PySem.ScopeKind.function, names := [(PySem.Str.ofString ".0", PySem.NameKind.local), (PySem.Str.ofString "one", PySem.NameKind.local), (PySem.Str.ofString "order_of", PySem.NameKind.globalImplicit), (PySem.Str.ofString "value", PySem.NameKind.free)], isGenerator := false, isCoroutine := false, more := [] } [(PySem.Str.ofString ".0", 4), (PySem.Str.ofString "one", 5)] ⟨149, 20, 149, 70⟩)] ⟨149, 16, 149, 19⟩ ⟨149, 16, 149, 71⟩) ⟨149, 8, 149, 71⟩), (.iff (.cmp .NotIn (.var 2 ⟨150, 11, 150, 16⟩) (.var 1 ⟨150, 24, 150, 29⟩) ⟨150, 11, 150, 29⟩) [(.exp (.lm 2 (.var 1 ⟨151, 12, 151, 17⟩) [(.var 3 ⟨151, 25, 151, 30⟩), (.var 2 ⟨151, 32, 151, 37⟩)] ⟨151, 12, 151, 24⟩ ⟨151, 12, 151, 38⟩) ⟨151, 12, 151, 38⟩)] [] ⟨150, 8, 151, 38⟩)] ⟨148, 4, 151, 38⟩), 
  (.ret (.var 1 ⟨152, 11, 152, 16⟩) ⟨152, 4, 152, 16⟩)]⟩
/-- greatest rows tops top slope found start -/
def f30 : Ev.Fn := ⟨1, 6, [
  (.asg (.var 1 ⟨154, 4, 154, 8⟩) (.dic [] [] true ⟨154, 11, 154, 13⟩) ⟨154, 4, 154, 13⟩), 
  (.for_ (.tup [(.var 2 ⟨155, 8, 155, 11⟩), (.var 3 ⟨155, 13, 155, 18⟩)] 0 ⟨155, 8, 155, 18⟩) (.var 0 ⟨155, 22, 155, 26⟩) [(.iff (.or [(.cmp .NotIn (.var 3 ⟨156, 11, 156, 16⟩) (.var 1 ⟨156, 24, 156, 28⟩) ⟨156, 11, 156, 28⟩), (.cmp .Gt (.call 14 [(.var 2 ⟨156, 41, 156, 44⟩), (.idx (.var 1 ⟨156, 46, 156, 50⟩) (.var 3 ⟨156, 51, 156, 56⟩) ⟨156, 46, 156, 57⟩)] ⟨156, 32, 156, 40⟩ ⟨156, 32, 156, 58⟩) (.num 0 0 ⟨156, 61, 156, 62⟩) ⟨156, 32, 156, 62⟩)] ⟨156, 11, 156, 62⟩) [(.asg (.idx (.var 1 ⟨157, 12, 157, 16⟩) (.var 3 ⟨157, 17, 157, 22⟩) ⟨157, 12, 157, 23⟩) (.var 2 ⟨157, 26, 157, 29⟩) ⟨157, 12, 157, 29⟩)] [] ⟨156, 8, 157, 29⟩)] ⟨155, 4, 157, 29⟩), 
  (.asg (.var 4 ⟨158, 4, 158, 9⟩) (.lst [] ⟨158, 12, 158, 14⟩) ⟨158, 4, 158, 14⟩), 
  (.for_ (.var 3 ⟨159, 8, 159, 13⟩) (.call 29 [(.blt 8 [(.var 1 ⟨159, 39, 159, 43⟩)] ⟨159, 34, 159, 38⟩ ⟨159, 34, 159, 44⟩)] ⟨159, 17, 159, 33⟩ ⟨159, 17, 159, 45⟩) [(.asg (.var 5 ⟨160, 8, 160, 13⟩) (.ife (.cmp .NotEq (.var 4 ⟨160, 58, 160, 63⟩) (.lst [] ⟨160, 67, 160, 69⟩) ⟨160, 58, 160, 69⟩) (.call 31 [(.idx (.var 4 ⟨160, 24, 160, 29⟩) (.neg (.num 1 0 ⟨160, 31, 160, 32⟩) ⟨160, 30, 160, 32⟩) ⟨160, 24, 160, 33⟩), (.idx (.var 1 ⟨160, 35, 160, 39⟩) (.var 3 ⟨160, 40, 160, 45⟩) ⟨160, 35, 160, 46⟩), (.var 3 ⟨160, 48, 160, 53⟩)] ⟨160, 16, 160, 23⟩ ⟨160, 16, 160, 54⟩) (.cn 0 ⟨160, 75, 160, 79⟩) ⟨160, 16, 160, 79⟩) ⟨160, 8, 160, 79⟩), (.whl (.and [(.cmp .NotEq (.var 4 ⟨161, 14, 161, 19⟩) (.lst [] ⟨161, 23, 161, 25⟩) ⟨161, 14, 161, 25⟩), (.cmp .IsNot (.idx (.idx (.var 4 ⟨161, 30, 161, 35⟩) (.neg (.num 1 0 ⟨161, 37, 161, 38⟩) ⟨161, 36, 161, 38⟩) ⟨161, 30, 161, 39⟩) (.num 0 0 ⟨161, 40, 161, 41⟩) ⟨161, 30, 161, 42⟩) (.cn 0 ⟨161, 50, 161, 54⟩) ⟨161, 30, 161, 54⟩), (.cmp .LtE (.call 14 [(.var 5 ⟨161, 69, 161, 74⟩), (.idx (.idx (.var 4 ⟨161, 76, 161, 81⟩) (.neg (.num 1 0 ⟨161, 83, 161, 84⟩) ⟨161, 82, 161, 84⟩) ⟨161, 76, 161, 85⟩) (.num 0 0 ⟨161, 86, 161, 87⟩) ⟨161, 76, 161, 88⟩)] ⟨161, 60, 161, 68⟩ ⟨161, 60, 161, 89⟩) (.num 0 0 ⟨161, 93, 161, 94⟩) ⟨161, 60, 161, 94⟩)] ⟨161, 14, 161, 95⟩) [(.exp (.lm 3 (.var 4 ⟨162, 12, 162, 17⟩) [] ⟨162, 12, 162, 21⟩ ⟨162, 12, 162, 23⟩) ⟨162, 12, 162, 23⟩), (.asg (.var 5 ⟨163, 12, 163, 17⟩) (.call 31 [(.idx (.var 4 ⟨163, 28, 163, 33⟩) (.neg (.num 1 0 ⟨163, 35, 163, 36⟩) ⟨163, 34, 163, 36⟩) ⟨163, 28, 163, 37⟩), (.idx (.var 1 ⟨163, 39, 163, 43⟩) (.var 3 ⟨163, 44, 163, 49⟩) ⟨163, 39, 163, 50⟩), (.var 3 ⟨163, 52, 163, 57⟩)] ⟨163, 20, 163, 27⟩ ⟨163, 20, 163, 58⟩) ⟨163, 12, 163, 58⟩)] ⟨161, 8, 163, 58⟩), (.exp (.lm 0 (.var 4 ⟨164, 8, 164, 13⟩) [(.tup [(.var 5 ⟨164, 22, 164, 27⟩), (.idx (.var 1 ⟨164, 29, 164, 33⟩) (.var 3 ⟨164, 34, 164, 39⟩) ⟨164, 29, 164, 40⟩), (.var 3 ⟨164, 42, 164, 47⟩)] 0 ⟨164, 21, 164, 48⟩)] ⟨164, 8, 164, 20⟩ ⟨164, 8, 164, 49⟩) ⟨164, 8, 164, 49⟩)] ⟨159, 4, 164, 49⟩), 
  (.ret (.var 4 ⟨165, 11, 165, 16⟩) ⟨165, 4, 165, 16⟩)]⟩
/-- meeting piece top slope -/
def f31 : Ev.Fn := ⟨3, 3, [
  (.ret (.call 13 [(.call 11 [(.idx (.var 0 ⟨167, 20, 167, 25⟩) (.num 1 0 ⟨167, 26, 167, 27⟩) ⟨167, 20, 167, 28⟩), (.var 1 ⟨167, 30, 167, 33⟩)] ⟨167, 15, 167, 19⟩ ⟨167, 15, 167, 34⟩), (.call 11 [(.var 2 ⟨167, 41, 167, 46⟩), (.idx (.var 0 ⟨167, 48, 167, 53⟩) (.num 2 0 ⟨167, 54, 167, 55⟩) ⟨167, 48, 167, 56⟩)] ⟨167, 36, 167, 40⟩ ⟨167, 36, 167, 57⟩)] ⟨167, 11, 167, 14⟩ ⟨167, 11, 167, 58⟩) ⟨167, 4, 167, 58⟩)]⟩
/-- piece_at pieces value found piece -/
def f32 : Ev.Fn := ⟨2, 4, [
  (.asg (.var 2 ⟨169, 4, 169, 9⟩) (.idx (.var 0 ⟨169, 12, 169, 18⟩) (.num 0 0 ⟨169, 19, 169, 20⟩) ⟨169, 12, 169, 21⟩) ⟨169, 4, 169, 21⟩), 
  (.for_ (.var 3 ⟨170, 8, 170, 13⟩) (.slc (.var 0 ⟨170, 17, 170, 23⟩) (some (.num 1 0 ⟨170, 24, 170, 25⟩)) none ⟨170, 24, 170, 26⟩ ⟨170, 17, 170, 27⟩) [(.iff (.cmp .LtE (.call 14 [(.idx (.var 3 ⟨171, 20, 171, 25⟩) (.num 0 0 ⟨171, 26, 171, 27⟩) ⟨171, 20, 171, 28⟩), (.var 1 ⟨171, 30, 171, 35⟩)] ⟨171, 11, 171, 19⟩ ⟨171, 11, 171, 36⟩) (.num 0 0 ⟨171, 40, 171, 41⟩) ⟨171, 11, 171, 41⟩) [(.asg (.var 2 ⟨172, 12, 172, 17⟩) (.var 3 ⟨172, 20, 172, 25⟩) ⟨172, 12, 172, 25⟩)] [] ⟨171, 8, 172, 25⟩)] ⟨170, 4, 172, 25⟩), 
  (.ret (.var 2 ⟨173, 11, 173, 16⟩) ⟨173, 4, 173, 16⟩)]⟩
/-- height pieces value piece -/
def f33 : Ev.Fn := ⟨2, 3, [
  (.asg (.var 2 ⟨175, 4, 175, 9⟩) (.call 32 [(.var 0 ⟨175, 21, 175, 27⟩), (.var 1 ⟨175, 29, 175, 34⟩)] ⟨175, 12, 175, 20⟩ ⟨175, 12, 175, 35⟩) ⟨175, 4, 175, 35⟩), 
  (.ret (.call 10 [(.idx (.var 2 ⟨176, 15, 176, 20⟩) (.num 1 0 ⟨176, 21, 176, 22⟩) ⟨176, 15, 176, 23⟩), (.call 12 [(.idx (.var 2 ⟨176, 29, 176, 34⟩) (.num 2 0 ⟨176, 35, 176, 36⟩) ⟨176, 29, 176, 37⟩), (.var 1 ⟨176, 39, 176, 44⟩)] ⟨176, 25, 176, 28⟩ ⟨176, 25, 176, 45⟩)] ⟨176, 11, 176, 14⟩ ⟨176, 11, 176, 46⟩) ⟨176, 4, 176, 46⟩)]⟩
/-- starts_of several .0 pieces piece -/
def f34 : Ev.Fn := ⟨1, 4, [
  (.ret (.call 29 [(.lc2 (.idx (.var 3 ⟨178, 29, 178, 34⟩) (.num 0 0 ⟨178, 35, 178, 36⟩) ⟨178, 29, 178, 37⟩) (.var 2 ⟨178, 42, 178, 48⟩) (.var 0 ⟨178, 52, 178, 59⟩) [] (.var 3 ⟨178, 64, 178, 69⟩) (.slc (.var 2 ⟨178, 73, 178, 79⟩) (some (.num 1 0 ⟨178, 80, 178, 81⟩)) none ⟨178, 80, 178, 82⟩ ⟨178, 73, 178, 83⟩) [] { kind := PySem.ScopeKind.function, names := [(PySem.Str.ofString ".0", PySem.NameKind.local), (PySem.Str.ofString "pieces", PySem.NameKind.local), (PySem.Str.ofString "piece", PySem.NameKind.local)], isGenerator := false, isCoroutine := false, more := [] } [(PySem.Str.ofString ".0", 1), (PySem.Str.ofString "pieces", 2), (PySem.Str.ofString "piece", 3)] [3] ⟨178, 28, 178, 84⟩)] ⟨178, 11, 178, 27⟩ ⟨178, 11, 178, 85⟩) ⟨178, 4, 178, 85⟩)]⟩
/-- added one other found start first second -/
def f35 : Ev.Fn := ⟨2, 6, [
  (.asg (.var 2 ⟨180, 4, 180, 9⟩) (.lst [(.tup [(.cn 0 ⟨180, 14, 180, 18⟩), (.call 10 [(.idx (.idx (.var 0 ⟨180, 24, 180, 27⟩) (.num 0 0 ⟨180, 28, 180, 29⟩) ⟨180, 24, 180, 30⟩) (.num 1 0 ⟨180, 31, 180, 32⟩) ⟨180, 24, 180, 33⟩), (.idx (.idx (.var 1 ⟨180, 35, 180, 40⟩) (.num 0 0 ⟨180, 41, 180, 42⟩) ⟨180, 35, 180, 43⟩) (.num 1 0 ⟨180, 44, 180, 45⟩) ⟨180, 35, 180, 46⟩)] ⟨180, 20, 180, 23⟩ ⟨180, 20, 180, 47⟩), (.call 10 [(.idx (.idx (.var 0 ⟨180, 53, 180, 56⟩) (.num 0 0 ⟨180, 57, 180, 58⟩) ⟨180, 53, 180, 59⟩) (.num 2 0 ⟨180, 60, 180, 61⟩) ⟨180, 53, 180, 62⟩), (.idx (.idx (.var 1 ⟨180, 64, 180, 69⟩) (.num 0 0 ⟨180, 70, 180, 71⟩) ⟨180, 64, 180, 72⟩) (.num 2 0 ⟨180, 73, 180, 74⟩) ⟨180, 64, 180, 75⟩)] ⟨180, 49, 180, 52⟩ ⟨180, 49, 180, 76⟩)] 0 ⟨180, 13, 180, 77⟩)] ⟨180, 12, 180, 78⟩) ⟨180, 4, 180, 78⟩), 
  (.for_ (.var 3 ⟨181, 8, 181, 13⟩) (.call 34 [(.lst [(.var 0 ⟨181, 28, 181, 31⟩), (.var 1 ⟨181, 33, 181, 38⟩)] ⟨181, 27, 181, 39⟩)] ⟨181, 17, 181, 26⟩ ⟨181, 17, 181, 40⟩) [(.asg (.tup [(.var 4 ⟨182, 8, 182, 13⟩), (.var 5 ⟨182, 15, 182, 21⟩)] 0 ⟨182, 8, 182, 21⟩) (.tup [(.call 32 [(.var 0 ⟨182, 34, 182, 37⟩), (.var 3 ⟨182, 39, 182, 44⟩)] ⟨182, 25, 182, 33⟩ ⟨182, 25, 182, 45⟩), (.call 32 [(.var 1 ⟨182, 56, 182, 61⟩), (.var 3 ⟨182, 63, 182, 68⟩)] ⟨182, 47, 182, 55⟩ ⟨182, 47, 182, 69⟩)] 0 ⟨182, 24, 182, 70⟩) ⟨182, 8, 182, 70⟩), (.exp (.lm 0 (.var 2 ⟨183, 8, 183, 13⟩) [(.tup [(.var 3 ⟨183, 22, 183, 27⟩), (.call 10 [(.idx (.var 4 ⟨183, 33, 183, 38⟩) (.num 1 0 ⟨183, 39, 183, 40⟩) ⟨183, 33, 183, 41⟩), (.idx (.var 5 ⟨183, 43, 183, 49⟩) (.num 1 0 ⟨183, 50, 183, 51⟩) ⟨183, 43, 183, 52⟩)] ⟨183, 29, 183, 32⟩ ⟨183, 29, 183, 53⟩), (.call 10 [(.idx (.var 4 ⟨183, 59, 183, 64⟩) (.num 2 0 ⟨183, 65, 183, 66⟩) ⟨183, 59, 183, 67⟩), (.idx (.var 5 ⟨183, 69, 183, 75⟩) (.num 2 0 ⟨183, 76, 183, 77⟩) ⟨183, 69, 183, 78⟩)] ⟨183, 55, 183, 58⟩ ⟨183, 55, 183, 79⟩)] 0 ⟨183, 21, 183, 80⟩)] ⟨183, 8, 183, 20⟩ ⟨183, 8, 183, 81⟩) ⟨183, 8, 183, 81⟩)] ⟨181, 4, 183, 81⟩), 
  (.ret (.var 2 ⟨184, 11, 184, 16⟩) ⟨184, 4, 184, 16⟩)]⟩
/-- stretched pieces weight .0 start top slope -/
def f36 : Ev.Fn := ⟨2, 6, [
  (.ret (.lc (.tup [(.var 3 ⟨186, 13, 186, 18⟩), (.call 12 [(.var 4 ⟨186, 24, 186, 27⟩), (.var 1 ⟨186, 29, 186, 35⟩)] ⟨186, 20, 186, 23⟩ ⟨186, 20, 186, 36⟩), (.call 12 [(.var 5 ⟨186, 42, 186, 47⟩), (.var 1 ⟨186, 49, 186, 55⟩)] ⟨186, 38, 186, 41⟩ ⟨186, 38, 186, 56⟩)] 0 ⟨186, 12, 186, 57⟩) (.tup [(.var 3 ⟨186, 62, 186, 67⟩), (.var 4 ⟨186, 69, 186, 72⟩), (.var 5 ⟨186, 74, 186, 79⟩)] 0 ⟨186, 62, 186, 79⟩) (.var 0 ⟨186, 83, 186, 89⟩) [] { kind := PySem.ScopeKind.function, names := [(PySem.Str.ofString ".0", PySem.NameKind.local), (PySem.Str.ofString "start", PySem.NameKind.local), (PySem.Str.ofString "top", PySem.NameKind.local), (PySem.Str.ofString "slope", PySem.NameKind.local), (PySem.Str.ofString "mul", PySem.NameKind.globalImplicit), (PySem.Str.ofString "weight", PySem.NameKind.free)], isGenerator := false, isCoroutine := false, more := [] } [(PySem.Str.ofString ".0", 2), (PySem.Str.ofString "start", 3), (PySem.Str.ofString "top", 4), (PySem.Str.ofString "slope", 5)] ⟨186, 11, 186, 90⟩) ⟨186, 4, 186, 90⟩)]⟩
/-- spot_behind spot place number rest -/
def f37 : Ev.Fn := ⟨3, 4, [
  (.iff (.or [(.cmp .Is (.var 0 ⟨188, 7, 188, 11⟩) (.cn 0 ⟨188, 15, 188, 19⟩) ⟨188, 7, 188, 19⟩), (.cmp .NotEq (.slc (.var 0 ⟨188, 23, 188, 27⟩) none (some (.blt 0 [(.var 1 ⟨188, 33, 188, 38⟩)] ⟨188, 29, 188, 32⟩ ⟨188, 29, 188, 39⟩)) ⟨188, 28, 188, 39⟩ ⟨188, 23, 188, 40⟩) (.var 1 ⟨188, 44, 188, 49⟩) ⟨188, 23, 188, 49⟩)] ⟨188, 7, 188, 49⟩) [(.ret (.var 0 ⟨189, 15, 189, 19⟩) ⟨189, 8, 189, 19⟩)] [] ⟨188, 4, 189, 19⟩), 
  (.asg (.var 3 ⟨190, 4, 190, 8⟩) (.slc (.var 0 ⟨190, 11, 190, 15⟩) (some (.blt 0 [(.var 1 ⟨190, 20, 190, 25⟩)] ⟨190, 16, 190, 19⟩ ⟨190, 16, 190, 26⟩)) none ⟨190, 16, 190, 27⟩ ⟨190, 11, 190, 28⟩) ⟨190, 4, 190, 28⟩), 
  (.ret (.ife (.and [(.cmp .NotEq (.var 3 ⟨191, 34, 191, 38⟩) (.tup [] 0 ⟨191, 42, 191, 44⟩) ⟨191, 34, 191, 44⟩), (.cmp .Eq (.idx (.var 3 ⟨191, 49, 191, 53⟩) (.num 0 0 ⟨191, 54, 191, 55⟩) ⟨191, 49, 191, 56⟩) (.var 2 ⟨191, 60, 191, 66⟩) ⟨191, 49, 191, 66⟩)] ⟨191, 34, 191, 66⟩) (.tup [(.star (.var 1 ⟨191, 13, 191, 18⟩) ⟨191, 12, 191, 18⟩), (.star (.slc (.var 3 ⟨191, 21, 191, 25⟩) (some (.num 1 0 ⟨191, 26, 191, 27⟩)) none ⟨191, 26, 191, 28⟩ ⟨191, 21, 191, 29⟩) ⟨191, 20, 191, 29⟩)] 0 ⟨191, 11, 191, 30⟩) (.cn 0 ⟨191, 72, 191, 76⟩) ⟨191, 11, 191, 76⟩) ⟨191, 4, 191, 76⟩)]⟩
/-- Worths.__init__ self habit -/
def f38 : Ev.Fn := ⟨2, 2, [
  (.asg (.att (.var 0 ⟨195, 8, 195, 12⟩) 1 ⟨195, 8, 195, 20⟩) (.cmp .Eq (.var 1 ⟨195, 23, 195, 28⟩) (.str [102, 114, 101, 101] 0 ⟨195, 32, 195, 38⟩) ⟨195, 23, 195, 38⟩) ⟨195, 8, 195, 38⟩), 
  (.asg (.att (.var 0 ⟨196, 8, 196, 12⟩) 2 ⟨196, 8, 196, 21⟩) (.dic [] [] false ⟨196, 24, 196, 26⟩) ⟨196, 8, 196, 26⟩)]⟩
/-- Worths.done_first self mix spot place step found number weight later -/
def f39 : Ev.Fn := ⟨4, 9, [
  (.iff (.cmp .Is (.var 3 ⟨199, 11, 199, 16⟩) (.cn 0 ⟨199, 20, 199, 24⟩) ⟨199, 11, 199, 24⟩) [(.ret (.call 28 [] ⟨200, 19, 200, 23⟩ ⟨200, 19, 200, 25⟩) ⟨200, 12, 200, 25⟩)] [] ⟨199, 8, 200, 25⟩), 
  (.asg (.var 4 ⟨201, 8, 201, 12⟩) (.call 21 [(.idx (.var 1 ⟨201, 23, 201, 26⟩) (.idx (.var 3 ⟨201, 27, 201, 32⟩) (.num 0 0 ⟨201, 33, 201, 34⟩) ⟨201, 27, 201, 35⟩) ⟨201, 23, 201, 36⟩), (.slc (.var 3 ⟨201, 38, 201, 43⟩) (some (.num 1 0 ⟨201, 44, 201, 45⟩)) none ⟨201, 44, 201, 46⟩ ⟨201, 38, 201, 47⟩)] ⟨201, 15, 201, 22⟩ ⟨201, 15, 201, 48⟩) ⟨201, 8, 201, 48⟩), 
  (.asg (.var 5 ⟨202, 8, 202, 13⟩) (.ife (.cmp .Eq (.var 3 ⟨202, 43, 202, 48⟩) (.var 2 ⟨202, 52, 202, 56⟩) ⟨202, 43, 202, 56⟩) (.lst [(.tup [(.cn 0 ⟨202, 18, 202, 22⟩), (.glob 0 ⟨202, 24, 202, 30⟩), (.glob 1 ⟨202, 32, 202, 37⟩)] 0 ⟨202, 17, 202, 38⟩)] ⟨202, 16, 202, 39⟩) (.lst [(.tup [(.cn 0 ⟨202, 64, 202, 68⟩), (.idx (.var 4 ⟨202, 70, 202, 74⟩) (.num 1 0 ⟨202, 75, 202, 76⟩) ⟨202, 70, 202, 77⟩), (.glob 0 ⟨202, 79, 202, 85⟩)] 0 ⟨202, 63, 202, 86⟩)] ⟨202, 62, 202, 87⟩) ⟨202, 16, 202, 87⟩) ⟨202, 8, 202, 87⟩), 
  (.for_ (.tup [(.var 6 ⟨203, 12, 203, 18⟩), (.tup [(.var 7 ⟨203, 21, 203, 27⟩), (.var 8 ⟨203, 29, 203, 34⟩)] 0 ⟨203, 20, 203, 35⟩)] 0 ⟨203, 12, 203, 35⟩) (.blt 4 [(.call 26 [(.var 1 ⟨203, 56, 203, 59⟩), (.var 3 ⟨203, 61, 203, 66⟩)] ⟨203, 49, 203, 55⟩ ⟨203, 49, 203, 67⟩)] ⟨203, 39, 203, 48⟩ ⟨203, 39, 203, 68⟩) [(.asg (.var 5 ⟨204, 12, 204, 17⟩) (.call 35 [(.var 5 ⟨204, 26, 204, 31⟩), (.call 36 [(.mth 41 (.var 0 ⟨204, 43, 204, 47⟩) [(.var 8 ⟨204, 61, 204, 66⟩), (.call 37 [(.var 2 ⟨204, 80, 204, 84⟩), (.var 3 ⟨204, 86, 204, 91⟩), (.var 6 ⟨204, 93, 204, 99⟩)] ⟨204, 68, 204, 79⟩ ⟨204, 68, 204, 100⟩)] ⟨204, 43, 204, 60⟩ ⟨204, 43, 204, 101⟩), (.var 7 ⟨204, 103, 204, 109⟩)] ⟨204, 33, 204, 42⟩ ⟨204, 33, 204, 110⟩)] ⟨204, 20, 204, 25⟩ ⟨204, 20, 204, 111⟩) ⟨204, 12, 204, 111⟩)] ⟨203, 8, 204, 111⟩), 
  (.ret (.var 5 ⟨205, 15, 205, 20⟩) ⟨205, 8, 205, 20⟩)]⟩
/-- Worths.first_deeds self mix -/
def f40 : Ev.Fn := ⟨2, 2, [
  (.ret (.ife (.att (.var 0 ⟨208, 41, 208, 45⟩) 1 ⟨208, 41, 208, 53⟩) (.lst [(.cn 0 ⟨208, 16, 208, 20⟩), (.star (.call 25 [(.var 1 ⟨208, 32, 208, 35⟩)] ⟨208, 23, 208, 31⟩ ⟨208, 23, 208, 36⟩) ⟨208, 22, 208, 36⟩)] ⟨208, 15, 208, 37⟩) (.call 25 [(.var 1 ⟨208, 68, 208, 71⟩)] ⟨208, 59, 208, 67⟩ ⟨208, 59, 208, 72⟩) ⟨208, 15, 208, 72⟩) ⟨208, 8, 208, 72⟩)]⟩
/-- Worths.worth_pieces self mix spot key rows place .0 start top slope -/
def f41 : Ev.Fn := ⟨3, 10, [
  (.asg (.var 3 ⟨211, 8, 211, 11⟩) (.blt 10 [(.tup [(.var 1 ⟨211, 20, 211, 23⟩), (.var 2 ⟨211, 25, 211, 29⟩)] 0 ⟨211, 19, 211, 30⟩)] ⟨211, 14, 211, 18⟩ ⟨211, 14, 211, 31⟩) ⟨211, 8, 211, 31⟩), 
  (.iff (.cmp .NotIn (.var 3 ⟨212, 11, 212, 14⟩) (.att (.var 0 ⟨212, 22, 212, 26⟩) 2 ⟨212, 22, 212, 35⟩) ⟨212, 11, 212, 35⟩) [(.asg (.var 4 ⟨213, 12, 213, 16⟩) (.lst [] ⟨213, 19, 213, 21⟩) ⟨213, 12, 213, 21⟩), (.for_ (.var 5 ⟨214, 16, 214, 21⟩) (.mth 40 (.var 0 ⟨214, 25, 214, 29⟩) [(.var 1 ⟨214, 42, 214, 45⟩)] ⟨214, 25, 214, 41⟩ ⟨214, 25, 214, 46⟩) [(.exp (.lm 1 (.var 4 ⟨215, 16, 215, 20⟩) [(.lc (.tup [(.var 8 ⟨215, 30, 215, 33⟩), (.var 9 ⟨215, 35, 215, 40⟩)] 0 ⟨215, 29, 215, 41⟩) (.tup [(.var 7 ⟨215, 46, 215, 51⟩), (.var 8 ⟨215, 53, 215, 56⟩), (.var 9 ⟨215, 58, 215, 63⟩)] 0 ⟨215, 46, 215, 63⟩) (.mth 39 (.var 0 ⟨215, 67, 215, 71⟩) [(.var 1 ⟨215, 83, 215, 86⟩), (.var 2 ⟨215, 88, 215, 92⟩), (.var 5 ⟨215, 94, 215, 99⟩)] ⟨215, 67, 215, 82⟩ ⟨215, 67, 215, 100⟩) [] { kind := PySem.ScopeKind.function, names := [(PySem.Str.ofString ".0", PySem.NameKind.local), (PySem.Str.ofString "start", PySem.NameKind.local), (PySem.Str.ofString "top", PySem.NameKind.local), (PySem.Str.ofString "slope", PySem.NameKind.local)], isGenerator := false, isCoroutine := false, more := [] } [(PySem.Str.ofString ".0", 6), (PySem.Str.ofString "start", 7), (PySem.Str.ofString "top", 8), (PySem.Str.ofString "slope", 9)] ⟨215, 28, 215, 101⟩)] ⟨215, 16, 215, 27⟩ ⟨215, 16, 215, 102⟩) ⟨215, 16, 215, 102⟩)] ⟨214, 12, 215, 102⟩), (.asg (.idx (.att (.var 0 ⟨216, 12, 216, 16⟩) 2 ⟨216, 12, 216, 25⟩) (.var 3 ⟨216, 26, 216, 29⟩) ⟨216, 12, 216, 30⟩) (.ife (.cmp .NotEq (.var 4 ⟨216, 51, 216, 55⟩) (.lst [] ⟨216, 59, 216, 61⟩) ⟨216, 51, 216, 61⟩) (.call 30 [(.var 4 ⟨216, 42, 216, 46⟩)] ⟨216, 33, 216, 41⟩ ⟨216, 33, 216, 47⟩) (.call 28 [] ⟨216, 67, 216, 71⟩ ⟨216, 67, 216, 73⟩) ⟨216, 33, 216, 73⟩) ⟨216, 12, 216, 73⟩)] [] ⟨212, 8, 216, 73⟩), 
  (.ret (.idx (.att (.var 0 ⟨217, 15, 217, 19⟩) 2 ⟨217, 15, 217, 28⟩) (.var 3 ⟨217, 29, 217, 32⟩) ⟨217, 15, 217, 33⟩) ⟨217, 8, 217, 33⟩)]⟩
/-- need_few mix met waiting one place weight later -/
def f42 : Ev.Fn := ⟨1, 7, [
  (.asg (.tup [(.var 1 ⟨219, 4, 219, 7⟩), (.var 2 ⟨219, 9, 219, 16⟩)] 0 ⟨219, 4, 219, 16⟩) (.tup [(.dic [(.blt 10 [(.var 0 ⟨219, 26, 219, 29⟩)] ⟨219, 21, 219, 25⟩ ⟨219, 21, 219, 30⟩)] [(.cb true 0 ⟨219, 32, 219, 36⟩)] false ⟨219, 20, 219, 37⟩), (.lst [(.var 0 ⟨219, 40, 219, 43⟩)] ⟨219, 39, 219, 44⟩)] 0 ⟨219, 19, 219, 45⟩) ⟨219, 4, 219, 45⟩), 
  (.whl (.cmp .NotEq (.var 2 ⟨220, 10, 220, 17⟩) (.lst [] ⟨220, 21, 220, 23⟩) ⟨220, 10, 220, 23⟩) [(.asg (.var 3 ⟨221, 8, 221, 11⟩) (.lm 3 (.var 2 ⟨221, 14, 221, 21⟩) [] ⟨221, 14, 221, 25⟩ ⟨221, 14, 221, 27⟩) ⟨221, 8, 221, 27⟩), (.for_ (.var 4 ⟨222, 12, 222, 17⟩) (.call 25 [(.var 3 ⟨222, 30, 222, 33⟩)] ⟨222, 21, 222, 29⟩ ⟨222, 21, 222, 34⟩) [(.for_ (.tup [(.var 5 ⟨223, 16, 223, 22⟩), (.var 6 ⟨223, 24, 223, 29⟩)] 0 ⟨223, 16, 223, 29⟩) (.call 26 [(.var 3 ⟨223, 40, 223, 43⟩), (.var 4 ⟨223, 45, 223, 50⟩)] ⟨223, 33, 223, 39⟩ ⟨223, 33, 223, 51⟩) [(.iff (.cmp .NotIn (.blt 10 [(.var 6 ⟨224, 24, 224, 29⟩)] ⟨224, 19, 224, 23⟩ ⟨224, 19, 224, 30⟩) (.var 1 ⟨224, 38, 224, 41⟩) ⟨224, 19, 224, 41⟩) [(.asg (.idx (.var 1 ⟨225, 20, 225, 23⟩) (.blt 10 [(.var 6 ⟨225, 29, 225, 34⟩)] ⟨225, 24, 225, 28⟩ ⟨225, 24, 225, 35⟩) ⟨225, 20, 225, 36⟩) (.cb true 0 ⟨225, 39, 225, 43⟩) ⟨225, 20, 225, 43⟩), (.exp (.lm 0 (.var 2 ⟨226, 20, 226, 27⟩) [(.var 6 ⟨226, 35, 226, 40⟩)] ⟨226, 20, 226, 34⟩ ⟨226, 20, 226, 41⟩) ⟨226, 20, 226, 41⟩)] [] ⟨224, 16, 226, 41⟩)] ⟨223, 12, 226, 41⟩)] ⟨222, 8, 226, 41⟩), (.iff (.cmp .Gt (.blt 0 [(.var 1 ⟨227, 15, 227, 18⟩)] ⟨227, 11, 227, 14⟩ ⟨227, 11, 227, 19⟩) (.glob 8 ⟨227, 22, 227, 32⟩) ⟨227, 11, 227, 32⟩) [(.rai (.new 6 [(.glob 8 ⟨228, 26, 228, 36⟩)] ⟨228, 18, 228, 25⟩ ⟨228, 18, 228, 37⟩) ⟨228, 12, 228, 37⟩)] [] ⟨227, 8, 228, 37⟩)] ⟨220, 4, 228, 37⟩)]⟩
/-- need_span mix spot habit -/
def f43 : Ev.Fn := ⟨3, 3, [
  (.exp (.call 27 [(.var 0 ⟨230, 13, 230, 16⟩)] ⟨230, 4, 230, 12⟩ ⟨230, 4, 230, 17⟩) ⟨230, 4, 230, 17⟩), 
  (.iff (.or [(.not (.call 22 [(.tup [(.str [97, 108, 108] 0 ⟨231, 21, 231, 26⟩), (.var 0 ⟨231, 28, 231, 31⟩)] 0 ⟨231, 20, 231, 32⟩), (.var 1 ⟨231, 34, 231, 38⟩)] ⟨231, 11, 231, 19⟩ ⟨231, 11, 231, 39⟩) ⟨231, 7, 231, 39⟩), (.cmp .Eq (.var 1 ⟨231, 43, 231, 47⟩) (.tup [] 0 ⟨231, 51, 231, 53⟩) ⟨231, 43, 231, 53⟩), (.cmp .NotEq (.idx (.call 21 [(.idx (.var 0 ⟨231, 65, 231, 68⟩) (.idx (.var 1 ⟨231, 69, 231, 73⟩) (.num 0 0 ⟨231, 74, 231, 75⟩) ⟨231, 69, 231, 76⟩) ⟨231, 65, 231, 77⟩), (.slc (.var 1 ⟨231, 79, 231, 83⟩) (some (.num 1 0 ⟨231, 84, 231, 85⟩)) none ⟨231, 84, 231, 86⟩ ⟨231, 79, 231, 87⟩)] ⟨231, 57, 231, 64⟩ ⟨231, 57, 231, 88⟩) (.num 0 0 ⟨231, 89, 231, 90⟩) ⟨231, 57, 231, 91⟩) (.str [115, 116, 101, 112] 0 ⟨231, 95, 231, 101⟩) ⟨231, 57, 231, 101⟩)] ⟨231, 7, 231, 101⟩) [(.rai (.new 2 [(.var 1 ⟨232, 23, 232, 27⟩)] ⟨232, 14, 232, 22⟩ ⟨232, 14, 232, 28⟩) ⟨232, 8, 232, 28⟩)] [] ⟨231, 4, 232, 28⟩), 
  (.iff (.or [(.not (.blt 12 [(.var 2 ⟨233, 22, 233, 27⟩), (.ty 3 ⟨233, 29, 233, 32⟩)] ⟨233, 11, 233, 21⟩ ⟨233, 11, 233, 33⟩) ⟨233, 7, 233, 33⟩), (.cmp .NotIn (.var 2 ⟨233, 37, 233, 42⟩) (.tup [(.str [100, 111, 110, 101] 0 ⟨233, 51, 233, 57⟩), (.str [102, 114, 101, 101] 0 ⟨233, 59, 233, 65⟩)] 0 ⟨233, 50, 233, 66⟩) ⟨233, 37, 233, 66⟩)] ⟨233, 7, 233, 66⟩) [(.rai (.new 3 [(.var 2 ⟨234, 23, 234, 28⟩)] ⟨234, 14, 234, 22⟩ ⟨234, 14, 234, 29⟩) ⟨234, 8, 234, 29⟩)] [] ⟨233, 4, 234, 29⟩)]⟩
/-- pieces mix spot habit -/
def f44 : Ev.Fn := ⟨3, 3, [
  (.exp (.call 43 [(.var 0 ⟨236, 14, 236, 17⟩), (.var 1 ⟨236, 19, 236, 23⟩), (.var 2 ⟨236, 25, 236, 30⟩)] ⟨236, 4, 236, 13⟩ ⟨236, 4, 236, 31⟩) ⟨236, 4, 236, 31⟩), 
  (.exp (.call 42 [(.var 0 ⟨237, 13, 237, 16⟩)] ⟨237, 4, 237, 12⟩ ⟨237, 4, 237, 17⟩) ⟨237, 4, 237, 17⟩), 
  (.ret (.blt 8 [(.mth 41 (.new 7 [(.var 2 ⟨238, 23, 238, 28⟩)] ⟨238, 16, 238, 22⟩ ⟨238, 16, 238, 29⟩) [(.var 0 ⟨238, 43, 238, 46⟩), (.var 1 ⟨238, 48, 238, 52⟩)] ⟨238, 16, 238, 42⟩ ⟨238, 16, 238, 53⟩)] ⟨238, 11, 238, 15⟩ ⟨238, 11, 238, 54⟩) ⟨238, 4, 238, 54⟩)]⟩
/-- turns mix spot habit .0 piece -/
def f45 : Ev.Fn := ⟨3, 5, [
  (.ret (.lc (.idx (.var 4 ⟨240, 12, 240, 17⟩) (.num 0 0 ⟨240, 18, 240, 19⟩) ⟨240, 12, 240, 20⟩) (.var 4 ⟨240, 25, 240, 30⟩) (.slc (.call 44 [(.var 0 ⟨240, 41, 240, 44⟩), (.var 1 ⟨240, 46, 240, 50⟩), (.var 2 ⟨240, 52, 240, 57⟩)] ⟨240, 34, 240, 40⟩ ⟨240, 34, 240, 58⟩) (some (.num 1 0 ⟨240, 59, 240, 60⟩)) none ⟨240, 59, 240, 61⟩ ⟨240, 34, 240, 62⟩) [] { kind := PySem.ScopeKind.function, names := [(PySem.Str.ofString ".0", PySem.NameKind.local), (PySem.Str.ofString "piece", PySem.NameKind.local)], isGenerator := false, isCoroutine := false, more := [] } [(PySem.Str.ofString ".0", 3), (PySem.Str.ofString "piece", 4)] ⟨240, 11, 240, 63⟩) ⟨240, 4, 240, 63⟩)]⟩
/-- need_value value -/
def f46 : Ev.Fn := ⟨1, 1, [
  (.iff (.not (.call 8 [(.var 0 ⟨242, 23, 242, 28⟩)] ⟨242, 11, 242, 22⟩ ⟨242, 11, 242, 29⟩) ⟨242, 7, 242, 29⟩) [(.rai (.new 4 [(.var 0 ⟨243, 23, 243, 28⟩)] ⟨243, 14, 243, 22⟩ ⟨243, 14, 243, 29⟩) ⟨243, 8, 243, 29⟩)] [] ⟨242, 4, 243, 29⟩)]⟩
/-- all_firsts mix spot habit worths rows .0 place -/
def f47 : Ev.Fn := ⟨3, 7, [
  (.asg (.var 3 ⟨245, 4, 245, 10⟩) (.new 7 [(.var 2 ⟨245, 20, 245, 25⟩)] ⟨245, 13, 245, 19⟩ ⟨245, 13, 245, 26⟩) ⟨245, 4, 245, 26⟩), 
  (.asg (.var 4 ⟨246, 4, 246, 8⟩) (.lc (.tup [(.var 6 ⟨246, 13, 246, 18⟩), (.mth 39 (.var 3 ⟨246, 20, 246, 26⟩) [(.var 0 ⟨246, 38, 246, 41⟩), (.var 1 ⟨246, 43, 246, 47⟩), (.var 6 ⟨246, 49, 246, 54⟩)] ⟨246, 20, 246, 37⟩ ⟨246, 20, 246, 55⟩)] 0 ⟨246, 12, 246, 56⟩) (.var 6 ⟨246, 61, 246, 66⟩) (.mth 40 (.var 3 ⟨246, 70, 246, 76⟩) [(.var 0 ⟨246, 89, 246, 92⟩)] ⟨246, 70, 246, 88⟩ ⟨246, 70, 246, 93⟩) [] { kind := PySem.ScopeKind.function, names := [(PySem.Str.ofString ".0", PySem.NameKind.local), (PySem.Str.ofString "place", PySem.NameKind.local), (PySem.Str.ofString "mix", PySem.NameKind.free), (PySem.Str.ofString "spot", PySem.NameKind.free), (PySem.Str.ofString "worths", PySem.NameKind.free)], isGenerator := false, isCoroutine := false, more := [] } [(PySem.Str.ofString ".0", 5), (PySem.Str.ofString "place", 6)] ⟨246, 11, 246, 94⟩) ⟨246, 4, 246, 94⟩), 
  (.ret (.tup [(.mth 41 (.var 3 ⟨247, 12, 247, 18⟩) [(.var 0 ⟨247, 32, 247, 35⟩), (.var 1 ⟨247, 37, 247, 41⟩)] ⟨247, 12, 247, 31⟩ ⟨247, 12, 247, 42⟩), (.var 4 ⟨247, 44, 247, 48⟩)] 0 ⟨247, 11, 247, 49⟩) ⟨247, 4, 247, 49⟩)]⟩
/-- best_at rows whole value .0 place some -/
def f48 : Ev.Fn := ⟨3, 6, [
  (.ret (.lc (.var 4 ⟨249, 12, 249, 17⟩) (.tup [(.var 4 ⟨249, 22, 249, 27⟩), (.var 5 ⟨249, 29, 249, 33⟩)] 0 ⟨249, 22, 249, 33⟩) (.var 0 ⟨249, 37, 249, 41⟩) [(.cmp .Eq (.call 33 [(.var 5 ⟨249, 52, 249, 56⟩), (.var 2 ⟨249, 58, 249, 63⟩)] ⟨249, 45, 249, 51⟩ ⟨249, 45, 249, 64⟩) (.call 33 [(.var 1 ⟨249, 75, 249, 80⟩), (.var 2 ⟨249, 82, 249, 87⟩)] ⟨249, 68, 249, 74⟩ ⟨249, 68, 249, 88⟩) ⟨249, 45, 249, 88⟩)] { kind := PySem.ScopeKind.function, names := [(PySem.Str.ofString ".0", PySem.NameKind.local), (PySem.Str.ofString "place", PySem.NameKind.local), (PySem.Str.ofString "some", PySem.NameKind.local), (PySem.Str.ofString "height", PySem.NameKind.globalImplicit), (PySem.Str.ofString "value", PySem.NameKind.free), (PySem.Str.ofString "whole", PySem.NameKind.free)], isGenerator := false, isCoroutine := false, more := [] } [(PySem.Str.ofString ".0", 3), (PySem.Str.ofString "place", 4), (PySem.Str.ofString "some", 5)] ⟨249, 11, 249, 89⟩) ⟨249, 4, 249, 89⟩)]⟩
/-- between starts number -/
def f49 : Ev.Fn := ⟨2, 2, [
  (.iff (.cmp .Eq (.var 0 ⟨251, 7, 251, 13⟩) (.lst [] ⟨251, 17, 251, 19⟩) ⟨251, 7, 251, 19⟩) [(.ret (.glob 0 ⟨252, 15, 252, 21⟩) ⟨252, 8, 252, 21⟩)] [] ⟨251, 4, 252, 21⟩), 
  (.iff (.cmp .Lt (.var 1 ⟨253, 7, 253, 13⟩) (.num 0 0 ⟨253, 16, 253, 17⟩) ⟨253, 7, 253, 17⟩) [(.ret (.call 11 [(.idx (.var 0 ⟨254, 20, 254, 26⟩) (.num 0 0 ⟨254, 27, 254, 28⟩) ⟨254, 20, 254, 29⟩), (.glob 1 ⟨254, 31, 254, 36⟩)] ⟨254, 15, 254, 19⟩ ⟨254, 15, 254, 37⟩) ⟨254, 8, 254, 37⟩)] [] ⟨253, 4, 254, 37⟩), 
  (.iff (.cmp .Eq (.bin .Add (.var 1 ⟨255, 7, 255, 13⟩) (.num 1 0 ⟨255, 16, 255, 17⟩) ⟨255, 7, 255, 17⟩) (.blt 0 [(.var 0 ⟨255, 25, 255, 31⟩)] ⟨255, 21, 255, 24⟩ ⟨255, 21, 255, 32⟩) ⟨255, 7, 255, 32⟩) [(.ret (.call 10 [(.idx (.var 0 ⟨256, 19, 256, 25⟩) (.var 1 ⟨256, 26, 256, 32⟩) ⟨256, 19, 256, 33⟩), (.glob 1 ⟨256, 35, 256, 40⟩)] ⟨256, 15, 256, 18⟩ ⟨256, 15, 256, 41⟩) ⟨256, 8, 256, 41⟩)] [] ⟨255, 4, 256, 41⟩), 
  (.ret (.call 13 [(.call 10 [(.idx (.var 0 ⟨257, 19, 257, 25⟩) (.var 1 ⟨257, 26, 257, 32⟩) ⟨257, 19, 257, 33⟩), (.idx (.var 0 ⟨257, 35, 257, 41⟩) (.bin .Add (.var 1 ⟨257, 42, 257, 48⟩) (.num 1 0 ⟨257, 51, 257, 52⟩) ⟨257, 42, 257, 52⟩) ⟨257, 35, 257, 53⟩)] ⟨257, 15, 257, 18⟩ ⟨257, 15, 257, 54⟩), (.tup [(.num 2 0 ⟨257, 57, 257, 58⟩), (.num 1 0 ⟨257, 60, 257, 61⟩)] 0 ⟨257, 56, 257, 62⟩)] ⟨257, 11, 257, 14⟩ ⟨257, 11, 257, 63⟩) ⟨257, 4, 257, 63⟩)]⟩
/-- firsts mix spot habit whole rows starts found number start here later .0 place some -/
def f50 : Ev.Fn := ⟨3, 14, [
  (.exp (.call 43 [(.var 0 ⟨259, 14, 259, 17⟩), (.var 1 ⟨259, 19, 259, 23⟩), (.var 2 ⟨259, 25, 259, 30⟩)] ⟨259, 4, 259, 13⟩ ⟨259, 4, 259, 31⟩) ⟨259, 4, 259, 31⟩), 
  (.exp (.call 42 [(.var 0 ⟨260, 13, 260, 16⟩)] ⟨260, 4, 260, 12⟩ ⟨260, 4, 260, 17⟩) ⟨260, 4, 260, 17⟩), 
  (.asg (.tup [(.var 3 ⟨261, 4, 261, 9⟩), (.var 4 ⟨261, 11, 261, 15⟩)] 0 ⟨261, 4, 261, 15⟩) (.call 47 [(.var 0 ⟨261, 29, 261, 32⟩), (.var 1 ⟨261, 34, 261, 38⟩), (.var 2 ⟨261, 40, 261, 45⟩)] ⟨261, 18, 261, 28⟩ ⟨261, 18, 261, 46⟩) ⟨261, 4, 261, 46⟩), 
  (.asg (.var 5 ⟨262, 4, 262, 10⟩) (.call 34 [(.lst [(.var 3 ⟨262, 24, 262, 29⟩), (.star (.lc (.var 13 ⟨262, 33, 262, 37⟩) (.tup [(.var 12 ⟨262, 42, 262, 47⟩), (.var 13 ⟨262, 49, 262, 53⟩)] 0 ⟨262, 42, 262, 53⟩) (.var 4 ⟨262, 57, 262, 61⟩) [] { kind := PySem.ScopeKind.function, names := [(PySem.Str.ofString ".0", PySem.NameKind.local), (PySem.Str.ofString "place", PySem.NameKind.local), (PySem.Str.ofString "some", PySem.NameKind.local)], isGenerator := false, isCoroutine := false, more := [] } [(PySem.Str.ofString ".0", 11), (PySem.Str.ofString "place", 12), (PySem.Str.ofString "some", 13)] ⟨262, 32, 262, 62⟩) ⟨262, 31, 262, 62⟩)] ⟨262, 23, 262, 63⟩)] ⟨262, 13, 262, 22⟩ ⟨262, 13, 262, 64⟩) ⟨262, 4, 262, 64⟩), 
  (.asg (.var 6 ⟨263, 4, 263, 9⟩) (.lst [(.tup [(.cn 0 ⟨263, 14, 263, 18⟩), (.cn 0 ⟨263, 20, 263, 24⟩), (.call 48 [(.var 4 ⟨263, 34, 263, 38⟩), (.var 3 ⟨263, 40, 263, 45⟩), (.call 49 [(.var 5 ⟨263, 55, 263, 61⟩), (.neg (.num 1 0 ⟨263, 64, 263, 65⟩) ⟨263, 63, 263, 65⟩)] ⟨263, 47, 263, 54⟩ ⟨263, 47, 263, 66⟩)] ⟨263, 26, 263, 33⟩ ⟨263, 26, 263, 67⟩)] 0 ⟨263, 13, 263, 68⟩)] ⟨263, 12, 263, 69⟩) ⟨263, 4, 263, 69⟩), 
  (.for_ (.tup [(.var 7 ⟨264, 8, 264, 14⟩), (.var 8 ⟨264, 16, 264, 21⟩)] 0 ⟨264, 8, 264, 21⟩) (.blt 4 [(.var 5 ⟨264, 35, 264, 41⟩)] ⟨264, 25, 264, 34⟩ ⟨264, 25, 264, 42⟩) [(.asg (.tup [(.var 9 ⟨265, 8, 265, 12⟩), (.var 10 ⟨265, 14, 265, 19⟩)] 0 ⟨265, 8, 265, 19⟩) (.tup [(.call 48 [(.var 4 ⟨265, 31, 265, 35⟩), (.var 3 ⟨265, 37, 265, 42⟩), (.var 8 ⟨265, 44, 265, 49⟩)] ⟨265, 23, 265, 30⟩ ⟨265, 23, 265, 50⟩), (.call 48 [(.var 4 ⟨265, 60, 265, 64⟩), (.var 3 ⟨265, 66, 265, 71⟩), (.call 49 [(.var 5 ⟨265, 81, 265, 87⟩), (.var 7 ⟨265, 89, 265, 95⟩)] ⟨265, 73, 265, 80⟩ ⟨265, 73, 265, 96⟩)] ⟨265, 52, 265, 59⟩ ⟨265, 52, 265, 97⟩)] 0 ⟨265, 22, 265, 98⟩) ⟨265, 8, 265, 98⟩), (.iff (.or [(.cmp .NotEq (.var 9 ⟨266, 11, 266, 15⟩) (.var 10 ⟨266, 19, 266, 24⟩) ⟨266, 11, 266, 24⟩), (.cmp .NotEq (.var 9 ⟨266, 28, 266, 32⟩) (.idx (.idx (.var 6 ⟨266, 36, 266, 41⟩) (.neg (.num 1 0 ⟨266, 43, 266, 44⟩) ⟨266, 42, 266, 44⟩) ⟨266, 36, 266, 45⟩) (.num 2 0 ⟨266, 46, 266, 47⟩) ⟨266, 36, 266, 48⟩) ⟨266, 28, 266, 48⟩)] ⟨266, 11, 266, 48⟩) [(.exp (.lm 0 (.var 6 ⟨267, 12, 267, 17⟩) [(.tup [(.var 8 ⟨267, 26, 267, 31⟩), (.var 9 ⟨267, 33, 267, 37⟩), (.var 10 ⟨267, 39, 267, 44⟩)] 0 ⟨267, 25, 267, 45⟩)] ⟨267, 12, 267, 24⟩ ⟨267, 12, 267, 46⟩) ⟨267, 12, 267, 46⟩)] [] ⟨266, 8, 267, 46⟩)] ⟨264, 4, 267, 46⟩), 
  (.ret (.var 6 ⟨268, 11, 268, 16⟩) ⟨268, 4, 268, 16⟩)]⟩
/-- need_range low high -/
def f51 : Ev.Fn := ⟨2, 2, [
  (.exp (.call 46 [(.var 0 ⟨270, 15, 270, 18⟩)] ⟨270, 4, 270, 14⟩ ⟨270, 4, 270, 19⟩) ⟨270, 4, 270, 19⟩), 
  (.exp (.call 46 [(.var 1 ⟨271, 15, 271, 19⟩)] ⟨271, 4, 271, 14⟩ ⟨271, 4, 271, 20⟩) ⟨271, 4, 271, 20⟩), 
  (.iff (.cmp .Lt (.call 14 [(.var 1 ⟨272, 16, 272, 20⟩), (.var 0 ⟨272, 22, 272, 25⟩)] ⟨272, 7, 272, 15⟩ ⟨272, 7, 272, 26⟩) (.num 0 0 ⟨272, 29, 272, 30⟩) ⟨272, 7, 272, 30⟩) [(.rai (.new 4 [(.var 1 ⟨273, 23, 273, 27⟩)] ⟨273, 14, 273, 22⟩ ⟨273, 14, 273, 28⟩) ⟨273, 8, 273, 28⟩)] [] ⟨272, 4, 273, 28⟩)]⟩
/-- regret_of whole some low high found value lack -/
def f52 : Ev.Fn := ⟨4, 7, [
  (.asg (.var 4 ⟨275, 4, 275, 9⟩) (.cn 0 ⟨275, 12, 275, 16⟩) ⟨275, 4, 275, 16⟩), 
  (.for_ (.var 5 ⟨276, 8, 276, 13⟩) (.lst [(.var 2 ⟨276, 18, 276, 21⟩), (.star (.call 34 [(.lst [(.var 0 ⟨276, 35, 276, 40⟩), (.var 1 ⟨276, 42, 276, 46⟩)] ⟨276, 34, 276, 47⟩)] ⟨276, 24, 276, 33⟩ ⟨276, 24, 276, 48⟩) ⟨276, 23, 276, 48⟩), (.var 3 ⟨276, 50, 276, 54⟩)] ⟨276, 17, 276, 55⟩) [(.iff (.and [(.cmp .LtE (.call 14 [(.var 2 ⟨277, 20, 277, 23⟩), (.var 5 ⟨277, 25, 277, 30⟩)] ⟨277, 11, 277, 19⟩ ⟨277, 11, 277, 31⟩) (.num 0 0 ⟨277, 35, 277, 36⟩) ⟨277, 11, 277, 36⟩), (.cmp .LtE (.call 14 [(.var 5 ⟨277, 50, 277, 55⟩), (.var 3 ⟨277, 57, 277, 61⟩)] ⟨277, 41, 277, 49⟩ ⟨277, 41, 277, 62⟩) (.num 0 0 ⟨277, 66, 277, 67⟩) ⟨277, 41, 277, 67⟩)] ⟨277, 11, 277, 67⟩) [(.asg (.var 6 ⟨278, 12, 278, 16⟩) (.call 11 [(.call 33 [(.var 0 ⟨278, 31, 278, 36⟩), (.var 5 ⟨278, 38, 278, 43⟩)] ⟨278, 24, 278, 30⟩ ⟨278, 24, 278, 44⟩), (.call 33 [(.var 1 ⟨278, 53, 278, 57⟩), (.var 5 ⟨278, 59, 278, 64⟩)] ⟨278, 46, 278, 52⟩ ⟨278, 46, 278, 65⟩)] ⟨278, 19, 278, 23⟩ ⟨278, 19, 278, 66⟩) ⟨278, 12, 278, 66⟩), (.iff (.or [(.cmp .Is (.var 4 ⟨279, 15, 279, 20⟩) (.cn 0 ⟨279, 24, 279, 28⟩) ⟨279, 15, 279, 28⟩), (.cmp .Gt (.call 14 [(.var 6 ⟨279, 41, 279, 45⟩), (.idx (.var 4 ⟨279, 47, 279, 52⟩) (.num 0 0 ⟨279, 53, 279, 54⟩) ⟨279, 47, 279, 55⟩)] ⟨279, 32, 279, 40⟩ ⟨279, 32, 279, 56⟩) (.num 0 0 ⟨279, 59, 279, 60⟩) ⟨279, 32, 279, 60⟩)] ⟨279, 15, 279, 60⟩) [(.asg (.var 4 ⟨280, 16, 280, 21⟩) (.tup [(.var 6 ⟨280, 25, 280, 29⟩), (.var 5 ⟨280, 31, 280, 36⟩)] 0 ⟨280, 24, 280, 37⟩) ⟨280, 16, 280, 37⟩)] [] ⟨279, 12, 280, 37⟩)] [] ⟨277, 8, 280, 37⟩)] ⟨276, 4, 280, 37⟩), 
  (.ret (.var 4 ⟨281, 11, 281, 16⟩) ⟨281, 4, 281, 16⟩)]⟩
/-- regret mix spot habit first low high whole rows found .0 place some -/
def f53 : Ev.Fn := ⟨6, 12, [
  (.exp (.call 43 [(.var 0 ⟨283, 14, 283, 17⟩), (.var 1 ⟨283, 19, 283, 23⟩), (.var 2 ⟨283, 25, 283, 30⟩)] ⟨283, 4, 283, 13⟩ ⟨283, 4, 283, 31⟩) ⟨283, 4, 283, 31⟩), 
  (.iff (.cmp .NotIn (.blt 10 [(.var 3 ⟨284, 12, 284, 17⟩)] ⟨284, 7, 284, 11⟩ ⟨284, 7, 284, 18⟩) (.lc (.blt 10 [(.var 10 ⟨284, 32, 284, 37⟩)] ⟨284, 27, 284, 31⟩ ⟨284, 27, 284, 38⟩) (.var 10 ⟨284, 43, 284, 48⟩) (.mth 40 (.new 7 [(.var 2 ⟨284, 59, 284, 64⟩)] ⟨284, 52, 284, 58⟩ ⟨284, 52, 284, 65⟩) [(.var 0 ⟨284, 78, 284, 81⟩)] ⟨284, 52, 284, 77⟩ ⟨284, 52, 284, 82⟩) [] { kind := PySem.ScopeKind.function, names := [(PySem.Str.ofString ".0", PySem.NameKind.local), (PySem.Str.ofString "place", PySem.NameKind.local), (PySem.Str.ofString "repr", PySem.NameKind.globalImplicit)], isGenerator := false, isCoroutine := false, more := [] } [(PySem.Str.ofString ".0", 9), (PySem.Str.ofString "place", 10)] ⟨284, 26, 284, 83⟩) ⟨284, 7, 284, 83⟩) [(.rai (.new 5 [(.var 3 ⟨285, 23, 285, 28⟩)] ⟨285, 14, 285, 22⟩ ⟨285, 14, 285, 29⟩) ⟨285, 8, 285, 29⟩)] [] ⟨284, 4, 285, 29⟩), 
  (.exp (.call 51 [(.var 4 ⟨286, 15, 286, 18⟩), (.var 5 ⟨286, 20, 286, 24⟩)] ⟨286, 4, 286, 14⟩ ⟨286, 4, 286, 25⟩) ⟨286, 4, 286, 25⟩), 
  (.exp (.call 42 [(.var 0 ⟨287, 13, 287, 16⟩)] ⟨287, 4, 287, 12⟩ ⟨287, 4, 287, 17⟩) ⟨287, 4, 287, 17⟩), 
  (.asg (.tup [(.var 6 ⟨288, 4, 288, 9⟩), (.var 7 ⟨288, 11, 288, 15⟩)] 0 ⟨288, 4, 288, 15⟩) (.call 47 [(.var 0 ⟨288, 29, 288, 32⟩), (.var 1 ⟨288, 34, 288, 38⟩), (.var 2 ⟨288, 40, 288, 45⟩)] ⟨288, 18, 288, 28⟩ ⟨288, 18, 288, 46⟩) ⟨288, 4, 288, 46⟩), 
  (.asg (.var 8 ⟨289, 4, 289, 9⟩) (.lc (.var 11 ⟨289, 13, 289, 17⟩) (.tup [(.var 10 ⟨289, 22, 289, 27⟩), (.var 11 ⟨289, 29, 289, 33⟩)] 0 ⟨289, 22, 289, 33⟩) (.var 7 ⟨289, 37, 289, 41⟩) [(.cmp .Eq (.var 10 ⟨289, 45, 289, 50⟩) (.var 3 ⟨289, 54, 289, 59⟩) ⟨289, 45, 289, 59⟩)] { kind := PySem.ScopeKind.function, names := [(PySem.Str.ofString ".0", PySem.NameKind.local), (PySem.Str.ofString "place", PySem.NameKind.local), (PySem.Str.ofString "some", PySem.NameKind.local), (PySem.Str.ofString "first", PySem.NameKind.free)], isGenerator := false, isCoroutine := false, more := [] } [(PySem.Str.ofString ".0", 9), (PySem.Str.ofString "place", 10), (PySem.Str.ofString "some", 11)] ⟨289, 12, 289, 60⟩) ⟨289, 4, 289, 60⟩), 
  (.ret (.call 52 [(.var 6 ⟨290, 21, 290, 26⟩), (.idx (.var 8 ⟨290, 28, 290, 33⟩) (.num 0 0 ⟨290, 34, 290, 35⟩) ⟨290, 28, 290, 36⟩), (.var 4 ⟨290, 38, 290, 41⟩), (.var 5 ⟨290, 43, 290, 47⟩)] ⟨290, 11, 290, 20⟩ ⟨290, 11, 290, 48⟩) ⟨290, 4, 290, 48⟩)]⟩
/-- guard mix spot habit low high whole rows best place some lack -/
def f54 : Ev.Fn := ⟨5, 11, [
  (.exp (.call 43 [(.var 0 ⟨292, 14, 292, 17⟩), (.var 1 ⟨292, 19, 292, 23⟩), (.var 2 ⟨292, 25, 292, 30⟩)] ⟨292, 4, 292, 13⟩ ⟨292, 4, 292, 31⟩) ⟨292, 4, 292, 31⟩), 
  (.exp (.call 51 [(.var 3 ⟨293, 15, 293, 18⟩), (.var 4 ⟨293, 20, 293, 24⟩)] ⟨293, 4, 293, 14⟩ ⟨293, 4, 293, 25⟩) ⟨293, 4, 293, 25⟩), 
  (.exp (.call 42 [(.var 0 ⟨294, 13, 294, 16⟩)] ⟨294, 4, 294, 12⟩ ⟨294, 4, 294, 17⟩) ⟨294, 4, 294, 17⟩), 
  (.asg (.tup [(.var 5 ⟨295, 4, 295, 9⟩), (.var 6 ⟨295, 11, 295, 15⟩)] 0 ⟨295, 4, 295, 15⟩) (.call 47 [(.var 0 ⟨295, 29, 295, 32⟩), (.var 1 ⟨295, 34, 295, 38⟩), (.var 2 ⟨295, 40, 295, 45⟩)] ⟨295, 18, 295, 28⟩ ⟨295, 18, 295, 46⟩) ⟨295, 4, 295, 46⟩), 
  (.asg (.var 7 ⟨296, 4, 296, 8⟩) (.cn 0 ⟨296, 11, 296, 15⟩) ⟨296, 4, 296, 15⟩), 
  (.for_ (.tup [(.var 8 ⟨297, 8, 297, 13⟩), (.var 9 ⟨297, 15, 297, 19⟩)] 0 ⟨297, 8, 297, 19⟩) (.var 6 ⟨297, 23, 297, 27⟩) [(.asg (.var 10 ⟨298, 8, 298, 12⟩) (.idx (.call 52 [(.var 5 ⟨298, 25, 298, 30⟩), (.var 9 ⟨298, 32, 298, 36⟩), (.var 3 ⟨298, 38, 298, 41⟩), (.var 4 ⟨298, 43, 298, 47⟩)] ⟨298, 15, 298, 24⟩ ⟨298, 15, 298, 48⟩) (.num 0 0 ⟨298, 49, 298, 50⟩) ⟨298, 15, 298, 51⟩) ⟨298, 8, 298, 51⟩), (.iff (.or [(.cmp .Is (.var 7 ⟨299, 11, 299, 15⟩) (.cn 0 ⟨299, 19, 299, 23⟩) ⟨299, 11, 299, 23⟩), (.cmp .Lt (.call 14 [(.var 10 ⟨299, 36, 299, 40⟩), (.idx (.var 7 ⟨299, 42, 299, 46⟩) (.num 0 0 ⟨299, 47, 299, 48⟩) ⟨299, 42, 299, 49⟩)] ⟨299, 27, 299, 35⟩ ⟨299, 27, 299, 50⟩) (.num 0 0 ⟨299, 53, 299, 54⟩) ⟨299, 27, 299, 54⟩)] ⟨299, 11, 299, 54⟩) [(.asg (.var 7 ⟨300, 12, 300, 16⟩) (.tup [(.var 10 ⟨300, 20, 300, 24⟩), (.var 8 ⟨300, 26, 300, 31⟩)] 0 ⟨300, 19, 300, 32⟩) ⟨300, 12, 300, 32⟩)] [] ⟨299, 8, 300, 32⟩)] ⟨297, 4, 300, 32⟩), 
  (.ret (.idx (.var 7 ⟨301, 11, 301, 15⟩) (.num 1 0 ⟨301, 16, 301, 17⟩) ⟨301, 11, 301, 18⟩) ⟨301, 4, 301, 18⟩)]⟩
/-- _law_tape _law_script _law_first _law_mixed _law_cell _law_digits -/
def f55 : Ev.Fn := ⟨2, 5, [
  (.asg (.var 2 ⟨304, 4, 304, 14⟩) (.bin .Add (.num 101 0 ⟨304, 17, 304, 20⟩) (.bin .Mult (.var 1 ⟨304, 23, 304, 33⟩) (.num 53 0 ⟨304, 36, 304, 38⟩) ⟨304, 23, 304, 38⟩) ⟨304, 17, 304, 38⟩) ⟨304, 4, 304, 38⟩), 
  (.for_ (.var 3 ⟨305, 8, 305, 17⟩) (.var 0 ⟨305, 21, 305, 32⟩) [(.asg (.var 2 ⟨306, 8, 306, 18⟩) (.bin .Add (.bin .Mod (.blt 7 [(.bin .Pow (.bin .Add (.bin .Add (.bin .Mult (.var 2 ⟨306, 26, 306, 36⟩) (.num 30029 0 ⟨306, 39, 306, 44⟩) ⟨306, 26, 306, 44⟩) (.bin .Mult (.var 3 ⟨306, 47, 306, 56⟩) (.var 3 ⟨306, 59, 306, 68⟩) ⟨306, 47, 306, 68⟩) ⟨306, 26, 306, 68⟩) (.num 13 0 ⟨306, 71, 306, 73⟩) ⟨306, 26, 306, 73⟩) (.num 2 0 ⟨306, 78, 306, 79⟩) ⟨306, 25, 306, 79⟩)] ⟨306, 21, 306, 24⟩ ⟨306, 21, 306, 80⟩) (.num 2147483563 0 ⟨306, 83, 306, 93⟩) ⟨306, 21, 306, 93⟩) (.num 2 0 ⟨306, 96, 306, 97⟩) ⟨306, 21, 306, 97⟩) ⟨306, 8, 306, 97⟩)] ⟨305, 4, 306, 97⟩), 
  (.asg (.var 4 ⟨307, 4, 307, 15⟩) (.ife (.and [(.cmp .Lt (.var 1 ⟨307, 56, 307, 66⟩) (.blt 0 [(.var 0 ⟨307, 73, 307, 84⟩)] ⟨307, 69, 307, 72⟩ ⟨307, 69, 307, 85⟩) ⟨307, 56, 307, 85⟩), (.cmp .GtE (.idx (.var 0 ⟨307, 90, 307, 101⟩) (.var 1 ⟨307, 102, 307, 112⟩) ⟨307, 90, 307, 113⟩) (.bin .Pow (.num 10 0 ⟨307, 117, 307, 119⟩) (.num 18 0 ⟨307, 123, 307, 125⟩) ⟨307, 117, 307, 125⟩) ⟨307, 90, 307, 125⟩)] ⟨307, 56, 307, 125⟩) (.bin .Sub (.idx (.var 0 ⟨307, 18, 307, 29⟩) (.var 1 ⟨307, 30, 307, 40⟩) ⟨307, 18, 307, 41⟩) (.bin .Pow (.num 10 0 ⟨307, 44, 307, 46⟩) (.num 18 0 ⟨307, 50, 307, 52⟩) ⟨307, 44, 307, 52⟩) ⟨307, 18, 307, 52⟩) (.num 0 0 ⟨307, 131, 307, 132⟩) ⟨307, 18, 307, 132⟩) ⟨307, 4, 307, 132⟩), 
  (.ret (.dic [(.str [100, 105, 103, 105, 116, 115] 0 ⟨308, 12, 308, 20⟩), (.str [109, 105, 120, 101, 100] 0 ⟨308, 35, 308, 42⟩)] [(.var 4 ⟨308, 22, 308, 33⟩), (.var 2 ⟨308, 44, 308, 54⟩)] false ⟨308, 11, 308, 55⟩) ⟨308, 4, 308, 55⟩)]⟩
/-- _law_pick _law_tape_here _law_many _law_found _law_once -/
def f56 : Ev.Fn := ⟨2, 4, [
  (.iff (.cmp .GtE (.idx (.var 0 ⟨310, 7, 310, 21⟩) (.str [100, 105, 103, 105, 116, 115] 0 ⟨310, 22, 310, 30⟩) ⟨310, 7, 310, 31⟩) (.var 1 ⟨310, 35, 310, 44⟩) ⟨310, 7, 310, 44⟩) [(.asg (.var 2 ⟨311, 8, 311, 18⟩) (.bin .Mod (.blt 7 [(.idx (.var 0 ⟨311, 25, 311, 39⟩) (.str [100, 105, 103, 105, 116, 115] 0 ⟨311, 40, 311, 48⟩) ⟨311, 25, 311, 49⟩)] ⟨311, 21, 311, 24⟩ ⟨311, 21, 311, 50⟩) (.var 1 ⟨311, 53, 311, 62⟩) ⟨311, 21, 311, 62⟩) ⟨311, 8, 311, 62⟩), (.asg (.idx (.var 0 ⟨312, 8, 312, 22⟩) (.str [100, 105, 103, 105, 116, 115] 0 ⟨312, 23, 312, 31⟩) ⟨312, 8, 312, 32⟩) (.bin .FloorDiv (.idx (.var 0 ⟨312, 35, 312, 49⟩) (.str [100, 105, 103, 105, 116, 115] 0 ⟨312, 50, 312, 58⟩) ⟨312, 35, 312, 59⟩) (.var 1 ⟨312, 63, 312, 72⟩) ⟨312, 35, 312, 72⟩) ⟨312, 8, 312, 72⟩), (.ret (.var 2 ⟨313, 15, 313, 25⟩) ⟨313, 8, 313, 25⟩)] [] ⟨310, 4, 313, 25⟩), 
  (.asg (.idx (.var 0 ⟨314, 4, 314, 18⟩) (.str [109, 105, 120, 101, 100] 0 ⟨314, 19, 314, 26⟩) ⟨314, 4, 314, 27⟩) (.bin .Mod (.blt 7 [(.bin .Add (.bin .Mult (.idx (.var 0 ⟨314, 34, 314, 48⟩) (.str [109, 105, 120, 101, 100] 0 ⟨314, 49, 314, 56⟩) ⟨314, 34, 314, 57⟩) (.num 40014 0 ⟨314, 60, 314, 65⟩) ⟨314, 34, 314, 65⟩) (.num 1031 0 ⟨314, 68, 314, 72⟩) ⟨314, 34, 314, 72⟩)] ⟨314, 30, 314, 33⟩ ⟨314, 30, 314, 73⟩) (.num 2147483563 0 ⟨314, 76, 314, 86⟩) ⟨314, 30, 314, 86⟩) ⟨314, 4, 314, 86⟩), 
  (.asg (.var 3 ⟨315, 4, 315, 13⟩) (.bin .Mod (.blt 7 [(.bin .Pow (.idx (.var 0 ⟨315, 20, 315, 34⟩) (.str [109, 105, 120, 101, 100] 0 ⟨315, 35, 315, 42⟩) ⟨315, 20, 315, 43⟩) (.num 2 0 ⟨315, 47, 315, 48⟩) ⟨315, 20, 315, 48⟩)] ⟨315, 16, 315, 19⟩ ⟨315, 16, 315, 49⟩) (.num 2147483399 0 ⟨315, 52, 315, 62⟩) ⟨315, 16, 315, 62⟩) ⟨315, 4, 315, 62⟩), 
  (.ret (.bin .Mod (.blt 7 [(.bin .FloorDiv (.bin .Mod (.blt 7 [(.bin .Pow (.var 3 ⟨316, 19, 316, 28⟩) (.num 3 0 ⟨316, 32, 316, 33⟩) ⟨316, 19, 316, 33⟩)] ⟨316, 15, 316, 18⟩ ⟨316, 15, 316, 34⟩) (.num 998244353 0 ⟨316, 37, 316, 46⟩) ⟨316, 15, 316, 46⟩) (.num 13 0 ⟨316, 50, 316, 52⟩) ⟨316, 15, 316, 52⟩)] ⟨316, 11, 316, 14⟩ ⟨316, 11, 316, 53⟩) (.var 1 ⟨316, 56, 316, 65⟩) ⟨316, 11, 316, 65⟩) ⟨316, 4, 316, 65⟩)]⟩
/-- _law_four_right _law_sure -/
def f57 : Ev.Fn := ⟨0, 1, [
  (.asg (.var 0 ⟨318, 4, 318, 13⟩) (.tup [(.str [115, 116, 101, 112] 0 ⟨318, 17, 318, 23⟩), (.tup [(.num 1 0 ⟨318, 26, 318, 27⟩), (.num 1 0 ⟨318, 29, 318, 30⟩)] 0 ⟨318, 25, 318, 31⟩), (.tup [(.tup [(.tup [(.num 1 0 ⟨318, 36, 318, 37⟩), (.num 1 0 ⟨318, 39, 318, 40⟩)] 0 ⟨318, 35, 318, 41⟩), (.tup [(.str [101, 110, 100] 0 ⟨318, 44, 318, 49⟩)] 0 ⟨318, 43, 318, 51⟩)] 0 ⟨318, 34, 318, 52⟩)] 0 ⟨318, 33, 318, 54⟩)] 0 ⟨318, 16, 318, 55⟩) ⟨318, 4, 318, 55⟩), 
  (.iff (.or [(.cmp .NotEq (.call 44 [(.bin .Mult (.tup [(.var 0 ⟨319, 15, 319, 24⟩)] 0 ⟨319, 14, 319, 26⟩) (.num 4 0 ⟨319, 29, 319, 30⟩) ⟨319, 14, 319, 30⟩), (.tup [(.num 3 0 ⟨319, 33, 319, 34⟩)] 0 ⟨319, 32, 319, 36⟩), (.str [100, 111, 110, 101] 0 ⟨319, 38, 319, 44⟩)] ⟨319, 7, 319, 13⟩ ⟨319, 7, 319, 45⟩) (.lst [(.tup [(.cn 0 ⟨319, 51, 319, 55⟩), (.tup [(.num 3 0 ⟨319, 58, 319, 59⟩), (.num 1 0 ⟨319, 61, 319, 62⟩)] 0 ⟨319, 57, 319, 63⟩), (.tup [(.num 1 0 ⟨319, 66, 319, 67⟩), (.num 1 0 ⟨319, 69, 319, 70⟩)] 0 ⟨319, 65, 319, 71⟩)] 0 ⟨319, 50, 319, 72⟩)] ⟨319, 49, 319, 73⟩) ⟨319, 7, 319, 73⟩), (.cmp .NotEq (.call 50 [(.bin .Mult (.tup [(.var 0 ⟨319, 85, 319, 94⟩)] 0 ⟨319, 84, 319, 96⟩) (.num 4 0 ⟨319, 99, 319, 100⟩) ⟨319, 84, 319, 100⟩), (.tup [(.num 3 0 ⟨319, 103, 319, 104⟩)] 0 ⟨319, 102, 319, 106⟩), (.str [100, 111, 110, 101] 0 ⟨319, 108, 319, 114⟩)] ⟨319, 77, 319, 83⟩ ⟨319, 77, 319, 115⟩) (.lst [(.tup [(.cn 0 ⟨319, 121, 319, 125⟩), (.cn 0 ⟨319, 127, 319, 131⟩), (.lst [(.tup [(.num 0 0 ⟨319, 135, 319, 136⟩)] 0 ⟨319, 134, 319, 138⟩), (.tup [(.num 1 0 ⟨319, 141, 319, 142⟩)] 0 ⟨319, 140, 319, 144⟩), (.tup [(.num 2 0 ⟨319, 147, 319, 148⟩)] 0 ⟨319, 146, 319, 150⟩), (.tup [(.num 3 0 ⟨319, 153, 319, 154⟩)] 0 ⟨319, 152, 319, 156⟩)] ⟨319, 133, 319, 157⟩)] 0 ⟨319, 120, 319, 158⟩)] ⟨319, 119, 319, 159⟩) ⟨319, 77, 319, 159⟩)] ⟨319, 7, 319, 159⟩) [(.ret (.cb false 0 ⟨320, 15, 320, 20⟩) ⟨320, 8, 320, 20⟩)] [] ⟨319, 4, 320, 20⟩), 
  (.ret (.cmp .Eq (.call 44 [(.bin .Mult (.tup [(.var 0 ⟨321, 19, 321, 28⟩)] 0 ⟨321, 18, 321, 30⟩) (.num 4 0 ⟨321, 33, 321, 34⟩) ⟨321, 18, 321, 34⟩), (.tup [(.num 2 0 ⟨321, 37, 321, 38⟩)] 0 ⟨321, 36, 321, 40⟩), (.str [102, 114, 101, 101] 0 ⟨321, 42, 321, 48⟩)] ⟨321, 11, 321, 17⟩ ⟨321, 11, 321, 49⟩) (.lst [(.tup [(.cn 0 ⟨321, 55, 321, 59⟩), (.tup [(.num 3 0 ⟨321, 62, 321, 63⟩), (.num 1 0 ⟨321, 65, 321, 66⟩)] 0 ⟨321, 61, 321, 67⟩), (.tup [(.num 0 0 ⟨321, 70, 321, 71⟩), (.num 1 0 ⟨321, 73, 321, 74⟩)] 0 ⟨321, 69, 321, 75⟩)] 0 ⟨321, 54, 321, 76⟩), (.tup [(.tup [(.num 0 0 ⟨321, 80, 321, 81⟩), (.num 1 0 ⟨321, 83, 321, 84⟩)] 0 ⟨321, 79, 321, 85⟩), (.tup [(.num 3 0 ⟨321, 88, 321, 89⟩), (.num 1 0 ⟨321, 91, 321, 92⟩)] 0 ⟨321, 87, 321, 93⟩), (.tup [(.num 1 0 ⟨321, 96, 321, 97⟩), (.num 1 0 ⟨321, 99, 321, 100⟩)] 0 ⟨321, 95, 321, 101⟩)] 0 ⟨321, 78, 321, 102⟩)] ⟨321, 53, 321, 103⟩) ⟨321, 11, 321, 103⟩) ⟨321, 4, 321, 103⟩)]⟩
/-- law _law_script _law_end _law_start _law_tape_here _law_many _law_lone _law_two _law_low _law_high _law_row -/
def f58 : Ev.Fn := ⟨1, 10, [
  (.asg (.var 1 ⟨323, 4, 323, 12⟩) (.tup [(.str [101, 110, 100] 0 ⟨323, 16, 323, 21⟩)] 0 ⟨323, 15, 323, 23⟩) ⟨323, 4, 323, 23⟩), 
  (.for_ (.var 2 ⟨324, 8, 324, 18⟩) (.blt 6 [(.blt 14 [(.num 1 0 ⟨324, 32, 324, 33⟩), (.blt 15 [(.num 3 0 ⟨324, 39, 324, 40⟩), (.blt 0 [(.var 0 ⟨324, 46, 324, 57⟩)] ⟨324, 42, 324, 45⟩ ⟨324, 42, 324, 58⟩)] ⟨324, 35, 324, 38⟩ ⟨324, 35, 324, 59⟩)] ⟨324, 28, 324, 31⟩ ⟨324, 28, 324, 60⟩)] ⟨324, 22, 324, 27⟩ ⟨324, 22, 324, 61⟩) [(.asg (.var 3 ⟨325, 8, 325, 22⟩) (.calh 55 [(.var 0 ⟨325, 35, 325, 46⟩), (.var 2 ⟨325, 48, 325, 58⟩)] ⟨325, 25, 325, 34⟩ ⟨325, 25, 325, 59⟩) ⟨325, 8, 325, 59⟩), (.asg (.var 4 ⟨326, 8, 326, 17⟩) (.bin .Add (.num 1 0 ⟨326, 20, 326, 21⟩) (.calh 56 [(.var 3 ⟨326, 34, 326, 48⟩), (.num 9 0 ⟨326, 50, 326, 51⟩)] ⟨326, 24, 326, 33⟩ ⟨326, 24, 326, 52⟩) ⟨326, 20, 326, 52⟩) ⟨326, 8, 326, 52⟩), (.asg (.var 5 ⟨327, 8, 327, 17⟩) (.tup [(.tup [(.str [115, 116, 101, 112] 0 ⟨327, 22, 327, 28⟩), (.tup [(.var 4 ⟨327, 31, 327, 40⟩), (.num 1 0 ⟨327, 42, 327, 43⟩)] 0 ⟨327, 30, 327, 44⟩), (.tup [] 0 ⟨327, 46, 327, 48⟩)] 0 ⟨327, 21, 327, 49⟩)] 0 ⟨327, 20, 327, 51⟩) ⟨327, 8, 327, 51⟩), (.iff (.or [(.cmp .NotEq (.call 44 [(.var 5 ⟨328, 18, 328, 27⟩), (.tup [(.num 0 0 ⟨328, 30, 328, 31⟩)] 0 ⟨328, 29, 328, 33⟩), (.str [100, 111, 110, 101] 0 ⟨328, 35, 328, 41⟩)] ⟨328, 11, 328, 17⟩ ⟨328, 11, 328, 42⟩) (.lst [(.tup [(.cn 0 ⟨328, 48, 328, 52⟩), (.tup [(.num 0 0 ⟨328, 55, 328, 56⟩), (.num 1 0 ⟨328, 58, 328, 59⟩)] 0 ⟨328, 54, 328, 60⟩), (.tup [(.num 1 0 ⟨328, 63, 328, 64⟩), (.num 1 0 ⟨328, 66, 328, 67⟩)] 0 ⟨328, 62, 328, 68⟩)] 0 ⟨328, 47, 328, 69⟩)] ⟨328, 46, 328, 70⟩) ⟨328, 11, 328, 70⟩), (.cmp .NotEq (.call 44 [(.var 5 ⟨328, 81, 328, 90⟩), (.tup [(.num 0 0 ⟨328, 93, 328, 94⟩)] 0 ⟨328, 92, 328, 96⟩), (.str [102, 114, 101, 101] 0 ⟨328, 98, 328, 104⟩)] ⟨328, 74, 328, 80⟩ ⟨328, 74, 328, 105⟩) (.lst [(.tup [(.cn 0 ⟨328, 111, 328, 115⟩), (.tup [(.num 0 0 ⟨328, 118, 328, 119⟩), (.num 1 0 ⟨328, 121, 328, 122⟩)] 0 ⟨328, 117, 328, 123⟩), (.tup [(.num 0 0 ⟨328, 126, 328, 127⟩), (.num 1 0 ⟨328, 129, 328, 130⟩)] 0 ⟨328, 125, 328, 131⟩)] 0 ⟨328, 110, 328, 132⟩), (.tup [(.tup [(.num 0 0 ⟨328, 136, 328, 137⟩), (.num 1 0 ⟨328, 139, 328, 140⟩)] 0 ⟨328, 135, 328, 141⟩), (.tup [(.num 0 0 ⟨328, 144, 328, 145⟩), (.num 1 0 ⟨328, 147, 328, 148⟩)] 0 ⟨328, 143, 328, 149⟩), (.tup [(.num 1 0 ⟨328, 152, 328, 153⟩), (.num 1 0 ⟨328, 155, 328, 156⟩)] 0 ⟨328, 151, 328, 157⟩)] 0 ⟨328, 134, 328, 158⟩)] ⟨328, 109, 328, 159⟩) ⟨328, 74, 328, 159⟩)] ⟨328, 11, 328, 159⟩) [(.ret (.cb false 0 ⟨329, 19, 329, 24⟩) ⟨329, 12, 329, 24⟩)] [] ⟨328, 8, 329, 24⟩), (.iff (.or [(.cmp .NotEq (.call 50 [(.var 5 ⟨330, 18, 330, 27⟩), (.tup [(.num 0 0 ⟨330, 30, 330, 31⟩)] 0 ⟨330, 29, 330, 33⟩), (.str [102, 114, 101, 101] 0 ⟨330, 35, 330, 41⟩)] ⟨330, 11, 330, 17⟩ ⟨330, 11, 330, 42⟩) (.lst [(.tup [(.cn 0 ⟨330, 48, 330, 52⟩), (.cn 0 ⟨330, 54, 330, 58⟩), (.lst [(.cn 0 ⟨330, 61, 330, 65⟩)] ⟨330, 60, 330, 66⟩)] 0 ⟨330, 47, 330, 67⟩), (.tup [(.tup [(.num 0 0 ⟨330, 71, 330, 72⟩), (.num 1 0 ⟨330, 74, 330, 75⟩)] 0 ⟨330, 70, 330, 76⟩), (.lst [(.cn 0 ⟨330, 79, 330, 83⟩), (.tup [(.num 0 0 ⟨330, 86, 330, 87⟩)] 0 ⟨330, 85, 330, 89⟩)] ⟨330, 78, 330, 90⟩), (.lst [(.tup [(.num 0 0 ⟨330, 94, 330, 95⟩)] 0 ⟨330, 93, 330, 97⟩)] ⟨330, 92, 330, 98⟩)] 0 ⟨330, 69, 330, 99⟩)] ⟨330, 46, 330, 100⟩) ⟨330, 11, 330, 100⟩), (.cmp .NotEq (.call 50 [(.var 5 ⟨330, 111, 330, 120⟩), (.tup [(.num 0 0 ⟨330, 123, 330, 124⟩)] 0 ⟨330, 122, 330, 126⟩), (.str [100, 111, 110, 101] 0 ⟨330, 128, 330, 134⟩)] ⟨330, 104, 330, 110⟩ ⟨330, 104, 330, 135⟩) (.lst [(.tup [(.cn 0 ⟨330, 141, 330, 145⟩), (.cn 0 ⟨330, 147, 330, 151⟩), (.lst [(.tup [(.num 0 0 ⟨330, 155, 330, 156⟩)] 0 ⟨330, 154, 330, 158⟩)] ⟨330, 153, 330, 159⟩)] 0 ⟨330, 140, 330, 160⟩)] ⟨330, 139, 330, 161⟩) ⟨330, 104, 330, 161⟩), (.cmp .NotEq (.call 45 [(.var 5 ⟨330, 171, 330, 180⟩), (.tup [(.num 0 0 ⟨330, 183, 330, 184⟩)] 0 ⟨330, 182, 330, 186⟩), (.str [100, 111, 110, 101] 0 ⟨330, 188, 330, 194⟩)] ⟨330, 165, 330, 170⟩ ⟨330, 165, 330, 195⟩) (.lst [] ⟨330, 199, 330, 201⟩) ⟨330, 165, 330, 201⟩)] ⟨330, 11, 330, 201⟩) [(.ret (.cb false 0 ⟨331, 19, 331, 24⟩) ⟨331, 12, 331, 24⟩)] [] ⟨330, 8, 331, 24⟩), (.asg (.var 6 ⟨332, 8, 332, 16⟩) (.tup [(.tup [(.str [115, 116, 101, 112] 0 ⟨332, 21, 332, 27⟩), (.tup [(.num 0 0 ⟨332, 30, 332, 31⟩), (.num 1 0 ⟨332, 33, 332, 34⟩)] 0 ⟨332, 29, 332, 35⟩), (.tup [(.tup [(.tup [(.num 1 0 ⟨332, 40, 332, 41⟩), (.num 2 0 ⟨332, 43, 332, 44⟩)] 0 ⟨332, 39, 332, 45⟩), (.var 1 ⟨332, 47, 332, 55⟩)] 0 ⟨332, 38, 332, 56⟩)] 0 ⟨332, 37, 332, 58⟩)] 0 ⟨332, 20, 332, 59⟩), (.tup [(.str [115, 116, 101, 112] 0 ⟨332, 62, 332, 68⟩), (.tup [(.bin .Mult (.num 2 0 ⟨332, 71, 332, 72⟩) (.var 4 ⟨332, 75, 332, 84⟩) ⟨332, 71, 332, 84⟩), (.num 1 0 ⟨332, 86, 332, 87⟩)] 0 ⟨332, 70, 332, 88⟩), (.tup [(.tup [(.tup [(.num 1 0 ⟨332, 93, 332, 94⟩), (.num 2 0 ⟨332, 96, 332, 97⟩)] 0 ⟨332, 92, 332, 98⟩), (.var 1 ⟨332, 100, 332, 108⟩)] 0 ⟨332, 91, 332, 109⟩)] 0 ⟨332, 90, 332, 111⟩)] 0 ⟨332, 61, 332, 112⟩)] 0 ⟨332, 19, 332, 113⟩) ⟨332, 8, 332, 113⟩), (.iff (.cmp .NotEq (.call 44 [(.var 6 ⟨333, 18, 333, 26⟩), (.tup [(.num 0 0 ⟨333, 29, 333, 30⟩)] 0 ⟨333, 28, 333, 32⟩), (.str [100, 111, 110, 101] 0 ⟨333, 34, 333, 40⟩)] ⟨333, 11, 333, 17⟩ ⟨333, 11, 333, 41⟩) (.lst [(.tup [(.cn 0 ⟨333, 47, 333, 51⟩), (.tup [(.bin .Mult (.num 2 0 ⟨333, 54, 333, 55⟩) (.var 4 ⟨333, 58, 333, 67⟩) ⟨333, 54, 333, 67⟩), (.num 1 0 ⟨333, 69, 333, 70⟩)] 0 ⟨333, 53, 333, 71⟩), (.tup [(.num 1 0 ⟨333, 74, 333, 75⟩), (.num 2 0 ⟨333, 77, 333, 78⟩)] 0 ⟨333, 73, 333, 79⟩)] 0 ⟨333, 46, 333, 80⟩), (.tup [(.tup [(.bin .Mult (.num 2 0 ⟨333, 84, 333, 85⟩) (.var 4 ⟨333, 88, 333, 97⟩) ⟨333, 84, 333, 97⟩), (.num 1 0 ⟨333, 99, 333, 100⟩)] 0 ⟨333, 83, 333, 101⟩), (.tup [(.var 4 ⟨333, 104, 333, 113⟩), (.num 1 0 ⟨333, 115, 333, 116⟩)] 0 ⟨333, 103, 333, 117⟩), (.tup [(.num 1 0 ⟨333, 120, 333, 121⟩), (.num 1 0 ⟨333, 123, 333, 124⟩)] 0 ⟨333, 119, 333, 125⟩)] 0 ⟨333, 82, 333, 126⟩)] ⟨333, 45, 333, 127⟩) ⟨333, 11, 333, 127⟩) [(.ret (.cb false 0 ⟨334, 19, 334, 24⟩) ⟨334, 12, 334, 24⟩)] [] ⟨333, 8, 334, 24⟩), (.iff (.cmp .NotEq (.call 50 [(.var 6 ⟨335, 18, 335, 26⟩), (.tup [(.num 0 0 ⟨335, 29, 335, 30⟩)] 0 ⟨335, 28, 335, 32⟩), (.str [100, 111, 110, 101] 0 ⟨335, 34, 335, 40⟩)] ⟨335, 11, 335, 17⟩ ⟨335, 11, 335, 41⟩) (.lst [(.tup [(.cn 0 ⟨335, 47, 335, 51⟩), (.cn 0 ⟨335, 53, 335, 57⟩), (.lst [(.tup [(.num 1 0 ⟨335, 61, 335, 62⟩)] 0 ⟨335, 60, 335, 64⟩)] ⟨335, 59, 335, 65⟩)] 0 ⟨335, 46, 335, 66⟩), (.tup [(.tup [(.bin .Mult (.num 2 0 ⟨335, 70, 335, 71⟩) (.var 4 ⟨335, 74, 335, 83⟩) ⟨335, 70, 335, 83⟩), (.num 1 0 ⟨335, 85, 335, 86⟩)] 0 ⟨335, 69, 335, 87⟩), (.lst [(.tup [(.num 0 0 ⟨335, 91, 335, 92⟩)] 0 ⟨335, 90, 335, 94⟩), (.tup [(.num 1 0 ⟨335, 97, 335, 98⟩)] 0 ⟨335, 96, 335, 100⟩)] ⟨335, 89, 335, 101⟩), (.lst [(.tup [(.num 0 0 ⟨335, 105, 335, 106⟩)] 0 ⟨335, 104, 335, 108⟩)] ⟨335, 103, 335, 109⟩)] 0 ⟨335, 68, 335, 110⟩)] ⟨335, 45, 335, 111⟩) ⟨335, 11, 335, 111⟩) [(.ret (.cb false 0 ⟨336, 19, 336, 24⟩) ⟨336, 12, 336, 24⟩)] [] ⟨335, 8, 336, 24⟩), (.asg (.tup [(.var 7 ⟨337, 8, 337, 16⟩), (.var 8 ⟨337, 18, 337, 27⟩)] 0 ⟨337, 8, 337, 27⟩) (.tup [(.tup [(.num 0 0 ⟨337, 32, 337, 33⟩), (.num 1 0 ⟨337, 35, 337, 36⟩)] 0 ⟨337, 31, 337, 37⟩), (.tup [(.bin .Mult (.num 4 0 ⟨337, 40, 337, 41⟩) (.var 4 ⟨337, 44, 337, 53⟩) ⟨337, 40, 337, 53⟩), (.num 1 0 ⟨337, 55, 337, 56⟩)] 0 ⟨337, 39, 337, 57⟩)] 0 ⟨337, 30, 337, 58⟩) ⟨337, 8, 337, 58⟩), (.iff (.or [(.cmp .NotEq (.call 53 [(.var 6 ⟨338, 18, 338, 26⟩), (.tup [(.num 0 0 ⟨338, 29, 338, 30⟩)] 0 ⟨338, 28, 338, 32⟩), (.str [100, 111, 110, 101] 0 ⟨338, 34, 338, 40⟩), (.tup [(.num 0 0 ⟨338, 43, 338, 44⟩)] 0 ⟨338, 42, 338, 46⟩), (.var 7 ⟨338, 48, 338, 56⟩), (.var 8 ⟨338, 58, 338, 67⟩)] ⟨338, 11, 338, 17⟩ ⟨338, 11, 338, 68⟩) (.tup [(.tup [(.var 4 ⟨338, 74, 338, 83⟩), (.num 1 0 ⟨338, 85, 338, 86⟩)] 0 ⟨338, 73, 338, 87⟩), (.var 7 ⟨338, 89, 338, 97⟩)] 0 ⟨338, 72, 338, 98⟩) ⟨338, 11, 338, 98⟩), (.cmp .NotEq (.call 53 [(.var 6 ⟨338, 109, 338, 117⟩), (.tup [(.num 0 0 ⟨338, 120, 338, 121⟩)] 0 ⟨338, 119, 338, 123⟩), (.str [100, 111, 110, 101] 0 ⟨338, 125, 338, 131⟩), (.tup [(.num 1 0 ⟨338, 134, 338, 135⟩)] 0 ⟨338, 133, 338, 137⟩), (.var 7 ⟨338, 139, 338, 147⟩), (.var 8 ⟨338, 149, 338, 158⟩)] ⟨338, 102, 338, 108⟩ ⟨338, 102, 338, 159⟩) (.tup [(.tup [(.var 4 ⟨338, 165, 338, 174⟩), (.num 1 0 ⟨338, 176, 338, 177⟩)] 0 ⟨338, 164, 338, 178⟩), (.var 8 ⟨338, 180, 338, 189⟩)] 0 ⟨338, 163, 338, 190⟩) ⟨338, 102, 338, 190⟩)] ⟨338, 11, 338, 190⟩) [(.ret (.cb false 0 ⟨339, 19, 339, 24⟩) ⟨339, 12, 339, 24⟩)] [] ⟨338, 8, 339, 24⟩), (.iff (.or [(.cmp .NotEq (.call 54 [(.var 6 ⟨340, 17, 340, 25⟩), (.tup [(.num 0 0 ⟨340, 28, 340, 29⟩)] 0 ⟨340, 27, 340, 31⟩), (.str [100, 111, 110, 101] 0 ⟨340, 33, 340, 39⟩), (.var 7 ⟨340, 41, 340, 49⟩), (.tup [(.bin .Mult (.num 3 0 ⟨340, 52, 340, 53⟩) (.var 4 ⟨340, 56, 340, 65⟩) ⟨340, 52, 340, 65⟩), (.num 1 0 ⟨340, 67, 340, 68⟩)] 0 ⟨340, 51, 340, 69⟩)] ⟨340, 11, 340, 16⟩ ⟨340, 11, 340, 70⟩) (.tup [(.num 1 0 ⟨340, 75, 340, 76⟩)] 0 ⟨340, 74, 340, 78⟩) ⟨340, 11, 340, 78⟩), (.cmp .NotEq (.call 54 [(.var 6 ⟨340, 88, 340, 96⟩), (.tup [(.num 0 0 ⟨340, 99, 340, 100⟩)] 0 ⟨340, 98, 340, 102⟩), (.str [100, 111, 110, 101] 0 ⟨340, 104, 340, 110⟩), (.tup [(.var 4 ⟨340, 113, 340, 122⟩), (.num 1 0 ⟨340, 124, 340, 125⟩)] 0 ⟨340, 112, 340, 126⟩), (.var 8 ⟨340, 128, 340, 137⟩)] ⟨340, 82, 340, 87⟩ ⟨340, 82, 340, 138⟩) (.tup [(.num 0 0 ⟨340, 143, 340, 144⟩)] 0 ⟨340, 142, 340, 146⟩) ⟨340, 82, 340, 146⟩)] ⟨340, 11, 340, 146⟩) [(.ret (.cb false 0 ⟨341, 19, 341, 24⟩) ⟨341, 12, 341, 24⟩)] [] ⟨340, 8, 341, 24⟩), (.asg (.var 9 ⟨342, 8, 342, 16⟩) (.tup [(.tup [(.str [115, 116, 101, 112] 0 ⟨342, 21, 342, 27⟩), (.tup [(.bin .Sub (.num 0 0 ⟨342, 30, 342, 31⟩) (.var 4 ⟨342, 34, 342, 43⟩) ⟨342, 30, 342, 43⟩), (.num 1 0 ⟨342, 45, 342, 46⟩)] 0 ⟨342, 29, 342, 47⟩), (.tup [(.tup [(.tup [(.num 1 0 ⟨342, 52, 342, 53⟩), (.num 2 0 ⟨342, 55, 342, 56⟩)] 0 ⟨342, 51, 342, 57⟩), (.tup [(.str [115, 116, 101, 112] 0 ⟨342, 60, 342, 66⟩), (.tup [(.num 0 0 ⟨342, 69, 342, 70⟩), (.num 1 0 ⟨342, 72, 342, 73⟩)] 0 ⟨342, 68, 342, 74⟩), (.tup [] 0 ⟨342, 76, 342, 78⟩)] 0 ⟨342, 59, 342, 79⟩)] 0 ⟨342, 50, 342, 80⟩)] 0 ⟨342, 49, 342, 82⟩)] 0 ⟨342, 20, 342, 83⟩)] 0 ⟨342, 19, 342, 85⟩) ⟨342, 8, 342, 85⟩), (.iff (.or [(.not (.call 57 [] ⟨343, 15, 343, 30⟩ ⟨343, 15, 343, 32⟩) ⟨343, 11, 343, 32⟩), (.cmp .NotEq (.call 44 [(.var 9 ⟨343, 43, 343, 51⟩), (.tup [(.num 0 0 ⟨343, 54, 343, 55⟩), (.num 0 0 ⟨343, 57, 343, 58⟩)] 0 ⟨343, 53, 343, 59⟩), (.str [102, 114, 101, 101] 0 ⟨343, 61, 343, 67⟩)] ⟨343, 36, 343, 42⟩ ⟨343, 36, 343, 68⟩) (.lst [(.tup [(.cn 0 ⟨343, 74, 343, 78⟩), (.tup [(.num 0 0 ⟨343, 81, 343, 82⟩), (.num 1 0 ⟨343, 84, 343, 85⟩)] 0 ⟨343, 80, 343, 86⟩), (.tup [(.num 0 0 ⟨343, 89, 343, 90⟩), (.num 1 0 ⟨343, 92, 343, 93⟩)] 0 ⟨343, 88, 343, 94⟩)] 0 ⟨343, 73, 343, 95⟩), (.tup [(.tup [(.bin .Mult (.num 2 0 ⟨343, 99, 343, 100⟩) (.var 4 ⟨343, 103, 343, 112⟩) ⟨343, 99, 343, 112⟩), (.num 1 0 ⟨343, 114, 343, 115⟩)] 0 ⟨343, 98, 343, 116⟩), (.tup [(.bin .Sub (.num 0 0 ⟨343, 119, 343, 120⟩) (.var 4 ⟨343, 123, 343, 132⟩) ⟨343, 119, 343, 132⟩), (.num 1 0 ⟨343, 134, 343, 135⟩)] 0 ⟨343, 118, 343, 136⟩), (.tup [(.num 1 0 ⟨343, 139, 343, 140⟩), (.num 2 0 ⟨343, 142, 343, 143⟩)] 0 ⟨343, 138, 343, 144⟩)] 0 ⟨343, 97, 343, 145⟩)] ⟨343, 72, 343, 146⟩) ⟨343, 36, 343, 146⟩), (.cmp .NotEq (.call 44 [(.var 9 ⟨343, 157, 343, 165⟩), (.tup [(.num 0 0 ⟨343, 168, 343, 169⟩), (.num 0 0 ⟨343, 171, 343, 172⟩)] 0 ⟨343, 167, 343, 173⟩), (.str [100, 111, 110, 101] 0 ⟨343, 175, 343, 181⟩)] ⟨343, 150, 343, 156⟩ ⟨343, 150, 343, 182⟩) (.lst [(.tup [(.cn 0 ⟨343, 188, 343, 192⟩), (.tup [(.bin .Sub (.num 0 0 ⟨343, 195, 343, 196⟩) (.var 4 ⟨343, 199, 343, 208⟩) ⟨343, 195, 343, 208⟩), (.num 1 0 ⟨343, 210, 343, 211⟩)] 0 ⟨343, 194, 343, 212⟩), (.tup [(.num 1 0 ⟨343, 215, 343, 216⟩), (.num 2 0 ⟨343, 218, 343, 219⟩)] 0 ⟨343, 214, 343, 220⟩)] 0 ⟨343, 187, 343, 221⟩)] ⟨343, 186, 343, 222⟩) ⟨343, 150, 343, 222⟩)] ⟨343, 11, 343, 222⟩) [(.ret (.cb false 0 ⟨344, 19, 344, 24⟩) ⟨344, 12, 344, 24⟩)] [] ⟨343, 8, 344, 24⟩)] ⟨324, 4, 344, 24⟩), 
  (.ret (.cb true 0 ⟨345, 11, 345, 15⟩) ⟨345, 4, 345, 15⟩)]⟩
def fns : Ev.FT := (.node f0 (.node f1 (.node f3 (.node f7 (.node f15 (.node f31 .nil .nil) (.node f47 .nil .nil)) (.node f23 (.node f39 .nil .nil) (.node f55 .nil .nil))) (.node f11 (.node f19 (.node f35 .nil .nil) (.node f51 .nil .nil)) (.node f27 (.node f43 .nil .nil) .nil))) (.node f5 (.node f9 (.node f17 (.node f33 .nil .nil) (.node f49 .nil .nil)) (.node f25 (.node f41 .nil .nil) (.node f57 .nil .nil))) (.node f13 (.node f21 (.node f37 .nil .nil) (.node f53 .nil .nil)) (.node f29 (.node f45 .nil .nil) .nil)))) (.node f2 (.node f4 (.node f8 (.node f16 (.node f32 .nil .nil) (.node f48 .nil .nil)) (.node f24 (.node f40 .nil .nil) (.node f56 .nil .nil))) (.node f12 (.node f20 (.node f36 .nil .nil) (.node f52 .nil .nil)) (.node f28 (.node f44 .nil .nil) .nil))) (.node f6 (.node f10 (.node f18 (.node f34 .nil .nil) (.node f50 .nil .nil)) (.node f26 (.node f42 .nil .nil) (.node f58 .nil .nil))) (.node f14 (.node f22 (.node f38 .nil .nil) (.node f54 .nil .nil)) (.node f30 (.node f46 .nil .nil) .nil)))))
-- consts {'NOUGHT': 0, 'WHOLE': 1, 'MOST_OUTCOMES': 2, 'MOST_MEMBERS': 3, 'MOST_STEPS': 4, 'MOST_PARTS': 5, 'MOST_TERMS': 6, 'MOST_MIX_PARTS': 7, 'MOST_MIXES': 8}
-- fields {'value': 0, 'is_free': 1, 'reckoned': 2}
-- classes {'MixError': (0, 1), 'BadMix': (1, 2), 'BadPlace': (2, 3), 'BadHabit': (3, 4), 'BadValue': (4, 5), 'BadFirst': (5, 6), 'TooMany': (6, 7), 'Worths': (7, 53)}
-- fns {'BadMix.__init__': 0, 'BadPlace.__init__': 1, 'BadHabit.__init__': 2, 'BadValue.__init__': 3, 'BadFirst.__init__': 4, 'TooMany.__init__': 5, 'is_integer': 6, 'divisor_of': 7, 'is_fraction': 8, 'lowest': 9, 'add': 10, 'less': 11, 'mul': 12, 'div': 13, 'order_of': 14, 'counts_together': 15, 'is_outcome': 16, 'counts_of': 17, 'is_term': 18, 'is_mix': 19, 'within': 20, 'part_at': 21, 'is_place': 22, 'put': 23, 'front_of': 24, 'front_in': 25, 'behind': 26, 'need_mix': 27, 'flat': 28, 'sorted_fractions': 29, 'greatest': 30, 'meeting': 31, 'piece_at': 32, 'height': 33, 'starts_of': 34, 'added': 35, 'stretched': 36, 'spot_behind': 37, 'Worths.__init__': 38, 'Worths.done_first': 39, 'Worths.first_deeds': 40, 'Worths.worth_pieces': 41, 'need_few': 42, 'need_span': 43, 'pieces': 44, 'turns': 45, 'need_value': 46, 'all_firsts': 47, 'best_at': 48, 'between': 49, 'firsts': 50, 'need_range': 51, 'regret_of': 52, 'regret': 53, 'guard': 54, '_law_tape': 55, '_law_pick': 56, '_law_four_right': 57, 'law': 58}
def kdL0 : List Kd := [.no, .no, .no, .no, .no, .no, .fn, .fn, .fn, .fn, .fn, .fn, .fn, .fn, .fn, .fn, .fn, .fn, .fn, .fn, .fn, .fn, .fn, .fn, .fn, .fn, .fn, .fn, .fn, .fn]
def kdL1 : List Kd := [.fn, .fn, .fn, .fn, .fn, .fn, .fn, .fn, .mt 7, .mt 7, .mt 7, .mt 7, .fn, .fn, .fn, .fn, .fn, .fn, .fn, .fn, .fn, .fn, .fn, .fn, .fn, .fn, .fn, .fn, .fn]
def kdL : List Kd := kdL0 ++ kdL1
def kd (f : Nat) : Kd := match kdL[f]? with | some q => q | none => .no
def T : Ev.Tab := ⟨fns, [.tup [.int (0), .int (1)], .tup [.int (1), .int (1)], .int (3), .int (3), .int (16), .int (48), .int (4), .int (96), .int (400)], fun _ _ _ => none, kd, fun c => if c = 7 then some 38 else none, fun c f => (c == 7 && decide (f < 3))⟩
theorem kd6 : T.kind 6 = .fn := rfl
theorem gt6 : T.fns.get 6 = some f6 := rfl
theorem kd7 : T.kind 7 = .fn := rfl
theorem gt7 : T.fns.get 7 = some f7 := rfl
theorem kd8 : T.kind 8 = .fn := rfl
theorem gt8 : T.fns.get 8 = some f8 := rfl
theorem kd9 : T.kind 9 = .fn := rfl
theorem gt9 : T.fns.get 9 = some f9 := rfl
theorem kd10 : T.kind 10 = .fn := rfl
theorem gt10 : T.fns.get 10 = some f10 := rfl
theorem kd11 : T.kind 11 = .fn := rfl
theorem gt11 : T.fns.get 11 = some f11 := rfl
theorem kd12 : T.kind 12 = .fn := rfl
theorem gt12 : T.fns.get 12 = some f12 := rfl
theorem kd13 : T.kind 13 = .fn := rfl
theorem gt13 : T.fns.get 13 = some f13 := rfl
theorem kd14 : T.kind 14 = .fn := rfl
theorem gt14 : T.fns.get 14 = some f14 := rfl
theorem kd15 : T.kind 15 = .fn := rfl
theorem gt15 : T.fns.get 15 = some f15 := rfl
theorem kd16 : T.kind 16 = .fn := rfl
theorem gt16 : T.fns.get 16 = some f16 := rfl
theorem kd17 : T.kind 17 = .fn := rfl
theorem gt17 : T.fns.get 17 = some f17 := rfl
theorem kd18 : T.kind 18 = .fn := rfl
theorem gt18 : T.fns.get 18 = some f18 := rfl
theorem kd19 : T.kind 19 = .fn := rfl
theorem gt19 : T.fns.get 19 = some f19 := rfl
theorem kd20 : T.kind 20 = .fn := rfl
theorem gt20 : T.fns.get 20 = some f20 := rfl
theorem kd21 : T.kind 21 = .fn := rfl
theorem gt21 : T.fns.get 21 = some f21 := rfl
theorem kd22 : T.kind 22 = .fn := rfl
theorem gt22 : T.fns.get 22 = some f22 := rfl
theorem kd23 : T.kind 23 = .fn := rfl
theorem gt23 : T.fns.get 23 = some f23 := rfl
theorem kd24 : T.kind 24 = .fn := rfl
theorem gt24 : T.fns.get 24 = some f24 := rfl
theorem kd25 : T.kind 25 = .fn := rfl
theorem gt25 : T.fns.get 25 = some f25 := rfl
theorem kd26 : T.kind 26 = .fn := rfl
theorem gt26 : T.fns.get 26 = some f26 := rfl
theorem kd27 : T.kind 27 = .fn := rfl
theorem gt27 : T.fns.get 27 = some f27 := rfl
theorem kd28 : T.kind 28 = .fn := rfl
theorem gt28 : T.fns.get 28 = some f28 := rfl
theorem kd29 : T.kind 29 = .fn := rfl
theorem gt29 : T.fns.get 29 = some f29 := rfl
theorem kd30 : T.kind 30 = .fn := rfl
theorem gt30 : T.fns.get 30 = some f30 := rfl
theorem kd31 : T.kind 31 = .fn := rfl
theorem gt31 : T.fns.get 31 = some f31 := rfl
theorem kd32 : T.kind 32 = .fn := rfl
theorem gt32 : T.fns.get 32 = some f32 := rfl
theorem kd33 : T.kind 33 = .fn := rfl
theorem gt33 : T.fns.get 33 = some f33 := rfl
theorem kd34 : T.kind 34 = .fn := rfl
theorem gt34 : T.fns.get 34 = some f34 := rfl
theorem kd35 : T.kind 35 = .fn := rfl
theorem gt35 : T.fns.get 35 = some f35 := rfl
theorem kd36 : T.kind 36 = .fn := rfl
theorem gt36 : T.fns.get 36 = some f36 := rfl
theorem kd37 : T.kind 37 = .fn := rfl
theorem gt37 : T.fns.get 37 = some f37 := rfl
theorem kd38 : T.kind 38 = .mt 7 := rfl
theorem gt38 : T.fns.get 38 = some f38 := rfl
theorem kd39 : T.kind 39 = .mt 7 := rfl
theorem gt39 : T.fns.get 39 = some f39 := rfl
theorem kd40 : T.kind 40 = .mt 7 := rfl
theorem gt40 : T.fns.get 40 = some f40 := rfl
theorem kd41 : T.kind 41 = .mt 7 := rfl
theorem gt41 : T.fns.get 41 = some f41 := rfl
theorem kd42 : T.kind 42 = .fn := rfl
theorem gt42 : T.fns.get 42 = some f42 := rfl
theorem kd43 : T.kind 43 = .fn := rfl
theorem gt43 : T.fns.get 43 = some f43 := rfl
theorem kd44 : T.kind 44 = .fn := rfl
theorem gt44 : T.fns.get 44 = some f44 := rfl
theorem kd45 : T.kind 45 = .fn := rfl
theorem gt45 : T.fns.get 45 = some f45 := rfl
theorem kd46 : T.kind 46 = .fn := rfl
theorem gt46 : T.fns.get 46 = some f46 := rfl
theorem kd47 : T.kind 47 = .fn := rfl
theorem gt47 : T.fns.get 47 = some f47 := rfl
theorem kd48 : T.kind 48 = .fn := rfl
theorem gt48 : T.fns.get 48 = some f48 := rfl
theorem kd49 : T.kind 49 = .fn := rfl
theorem gt49 : T.fns.get 49 = some f49 := rfl
theorem kd50 : T.kind 50 = .fn := rfl
theorem gt50 : T.fns.get 50 = some f50 := rfl
theorem kd51 : T.kind 51 = .fn := rfl
theorem gt51 : T.fns.get 51 = some f51 := rfl
theorem kd52 : T.kind 52 = .fn := rfl
theorem gt52 : T.fns.get 52 = some f52 := rfl
theorem kd53 : T.kind 53 = .fn := rfl
theorem gt53 : T.fns.get 53 = some f53 := rfl
theorem kd54 : T.kind 54 = .fn := rfl
theorem gt54 : T.fns.get 54 = some f54 := rfl
theorem kd55 : T.kind 55 = .fn := rfl
theorem gt55 : T.fns.get 55 = some f55 := rfl
theorem kd56 : T.kind 56 = .fn := rfl
theorem gt56 : T.fns.get 56 = some f56 := rfl
theorem kd57 : T.kind 57 = .fn := rfl
theorem gt57 : T.fns.get 57 = some f57 := rfl
theorem kd58 : T.kind 58 = .fn := rfl
theorem gt58 : T.fns.get 58 = some f58 := rfl
end K79
namespace K79
open PySem PySem.Spec PyProof.Rows L2
def top (i : Nat) : Stmt := PySem.Challenge.pw_onenumber_k79_spans_by_hand.main.body.getD i (.Pass ⟨0, 0, 0, 0⟩)
def inner : Stmt → List Stmt
  | .ClassDef (body := b) .. => b
  | _ => []
def mth (i j : Nat) : Stmt := (inner (top i)).getD j (.Pass ⟨0, 0, 0, 0⟩)
def nmf0 : List Str := ["__init__", "__init__", "__init__", "__init__", "__init__", "__init__", "is_integer", "divisor_of", "is_fraction", "lowest", "add", "less", "mul", "div", "order_of", "counts_together", "is_outcome", "counts_of", "is_term", "is_mix", "within", "part_at", "is_place", "put", "front_of", "front_in", "behind", "need_mix", "flat", "sorted_fractions"]
def nmf1 : List Str := ["greatest", "meeting", "piece_at", "height", "starts_of", "added", "stretched", "spot_behind", "__init__", "done_first", "first_deeds", "worth_pieces", "need_few", "need_span", "pieces", "turns", "need_value", "all_firsts", "best_at", "between", "firsts", "need_range", "regret_of", "regret", "guard", "_law_tape", "_law_pick", "_law_four_right", "law"]
def nmf : List Str := nmf0 ++ nmf1
def nmc0 : List Str := ["MixError", "BadMix", "BadPlace", "BadHabit", "BadValue", "BadFirst", "TooMany", "Worths"]
def nmc : List Str := nmc0
def nmg0 : List Str := ["NOUGHT", "WHOLE", "MOST_OUTCOMES", "MOST_MEMBERS", "MOST_STEPS", "MOST_PARTS", "MOST_TERMS", "MOST_MIX_PARTS", "MOST_MIXES"]
def nmg : List Str := nmg0
def nml0 : List Str := ["value", "is_free", "reckoned"]
def nml : List Str := nml0
def nmv0 : List (List Str) := [["self", "value"], ["self", "value"], ["self", "value"], ["self", "value"], ["self", "value"], ["self", "value"], ["value"], ["one", "other"], ["value"], ["top", "bottom", "shared"], ["one", "other"], ["one", "other"], ["one", "other"], ["one", "other"], ["one", "other", "gap"], ["values", "steps", "parts", "value", "counts"], ["value"], ["value", "counts", ".0", "one"], ["value", "counts"], ["value", "counts", ".0", "one"], ["term", ".0", "one"], ["term", "place", "number"], ["term", "value", "number", ".0"], ["term", "place", "other", "number", "rest", "inner", ".0", "at", "one"], ["term", ".0", "number", "one", "place"], ["mix", ".0", "number", "term", "place"], ["mix", "place", "number", "rest", "step", "found", "weight", "one"], ["value"], [], ["values", "found", "value", "place", ".0", "one"]]
def nmv1 : List (List Str) := [["rows", "tops", "top", "slope", "found", "start"], ["piece", "top", "slope"], ["pieces", "value", "found", "piece"], ["pieces", "value", "piece"], ["several", ".0", "pieces", "piece"], ["one", "other", "found", "start", "first", "second"], ["pieces", "weight", ".0", "start", "top", "slope"], ["spot", "place", "number", "rest"], ["self", "habit"], ["self", "mix", "spot", "place", "step", "found", "number", "weight", "later"], ["self", "mix"], ["self", "mix", "spot", "key", "rows", "place", ".0", "start", "top", "slope"], ["mix", "met", "waiting", "one", "place", "weight", "later"], ["mix", "spot", "habit"], ["mix", "spot", "habit"], ["mix", "spot", "habit", ".0", "piece"], ["value"], ["mix", "spot", "habit", "worths", "rows", ".0", "place"], ["rows", "whole", "value", ".0", "place", "some"], ["starts", "number"], ["mix", "spot", "habit", "whole", "rows", "starts", "found", "number", "start", "here", "later", ".0", "place", "some"], ["low", "high"], ["whole", "some", "low", "high", "found", "value", "lack"], ["mix", "spot", "habit", "first", "low", "high", "whole", "rows", "found", ".0", "place", "some"], ["mix", "spot", "habit", "low", "high", "whole", "rows", "best", "place", "some", "lack"], ["_law_script", "_law_first", "_law_mixed", "_law_cell", "_law_digits"], ["_law_tape_here", "_law_many", "_law_found", "_law_once"], ["_law_sure"], ["_law_script", "_law_end", "_law_start", "_law_tape_here", "_law_many", "_law_lone", "_law_two", "_law_low", "_law_high", "_law_row"]]
def nmv : List (List Str) := nmv0 ++ nmv1
def nmp0 : List (List Str) := [["self", "value"], ["self", "value"], ["self", "value"], ["self", "value"], ["self", "value"], ["self", "value"], ["value"], ["one", "other"], ["value"], ["top", "bottom"], ["one", "other"], ["one", "other"], ["one", "other"], ["one", "other"], ["one", "other"], ["values"], ["value"], ["value"], ["value"], ["value"], ["term"], ["term", "place"], ["term", "value"], ["term", "place", "other"], ["term"], ["mix"], ["mix", "place"], ["value"], [], ["values"]]
def nmp1 : List (List Str) := [["rows"], ["piece", "top", "slope"], ["pieces", "value"], ["pieces", "value"], ["several"], ["one", "other"], ["pieces", "weight"], ["spot", "place", "number"], ["self", "habit"], ["self", "mix", "spot", "place"], ["self", "mix"], ["self", "mix", "spot"], ["mix"], ["mix", "spot", "habit"], ["mix", "spot", "habit"], ["mix", "spot", "habit"], ["value"], ["mix", "spot", "habit"], ["rows", "whole", "value"], ["starts", "number"], ["mix", "spot", "habit"], ["low", "high"], ["whole", "some", "low", "high"], ["mix", "spot", "habit", "first", "low", "high"], ["mix", "spot", "habit", "low", "high"], ["_law_script", "_law_first"], ["_law_tape_here", "_law_many"], [], ["_law_script"]]
def nmp : List (List Str) := nmp0 ++ nmp1
def d6 : He.DefD := ⟨("is_integer", none), "is_integer", "is_integer", defArgs (top 11), defBody (top 11), defScope (top 11), [], []⟩
def d7 : He.DefD := ⟨("divisor_of", none), "divisor_of", "divisor_of", defArgs (top 12), defBody (top 12), defScope (top 12), [], []⟩
def d8 : He.DefD := ⟨("is_fraction", none), "is_fraction", "is_fraction", defArgs (top 13), defBody (top 13), defScope (top 13), [], []⟩
def d9 : He.DefD := ⟨("lowest", none), "lowest", "lowest", defArgs (top 14), defBody (top 14), defScope (top 14), [], []⟩
def d10 : He.DefD := ⟨("add", none), "add", "add", defArgs (top 15), defBody (top 15), defScope (top 15), [], []⟩
def d11 : He.DefD := ⟨("less", none), "less", "less", defArgs (top 16), defBody (top 16), defScope (top 16), [], []⟩
def d12 : He.DefD := ⟨("mul", none), "mul", "mul", defArgs (top 17), defBody (top 17), defScope (top 17), [], []⟩
def d13 : He.DefD := ⟨("div", none), "div", "div", defArgs (top 18), defBody (top 18), defScope (top 18), [], []⟩
def d14 : He.DefD := ⟨("order_of", none), "order_of", "order_of", defArgs (top 19), defBody (top 19), defScope (top 19), [], []⟩
def d15 : He.DefD := ⟨("counts_together", none), "counts_together", "counts_together", defArgs (top 27), defBody (top 27), defScope (top 27), [], []⟩
def d16 : He.DefD := ⟨("is_outcome", none), "is_outcome", "is_outcome", defArgs (top 28), defBody (top 28), defScope (top 28), [], []⟩
def d17 : He.DefD := ⟨("counts_of", none), "counts_of", "counts_of", defArgs (top 29), defBody (top 29), defScope (top 29), [], []⟩
def d18 : He.DefD := ⟨("is_term", none), "is_term", "is_term", defArgs (top 30), defBody (top 30), defScope (top 30), [], []⟩
def d19 : He.DefD := ⟨("is_mix", none), "is_mix", "is_mix", defArgs (top 31), defBody (top 31), defScope (top 31), [], []⟩
def d20 : He.DefD := ⟨("within", none), "within", "within", defArgs (top 32), defBody (top 32), defScope (top 32), [], []⟩
def d21 : He.DefD := ⟨("part_at", none), "part_at", "part_at", defArgs (top 34), defBody (top 34), defScope (top 34), [], []⟩
def d22 : He.DefD := ⟨("is_place", none), "is_place", "is_place", defArgs (top 35), defBody (top 35), defScope (top 35), [], []⟩
def d23 : He.DefD := ⟨("put", none), "put", "put", defArgs (top 36), defBody (top 36), defScope (top 36), [], []⟩
def d24 : He.DefD := ⟨("front_of", none), "front_of", "front_of", defArgs (top 37), defBody (top 37), defScope (top 37), [], []⟩
def d25 : He.DefD := ⟨("front_in", none), "front_in", "front_in", defArgs (top 38), defBody (top 38), defScope (top 38), [], []⟩
def d26 : He.DefD := ⟨("behind", none), "behind", "behind", defArgs (top 39), defBody (top 39), defScope (top 39), [], []⟩
def d27 : He.DefD := ⟨("need_mix", none), "need_mix", "need_mix", defArgs (top 40), defBody (top 40), defScope (top 40), [], []⟩
def d28 : He.DefD := ⟨("flat", none), "flat", "flat", defArgs (top 43), defBody (top 43), defScope (top 43), [], []⟩
def d29 : He.DefD := ⟨("sorted_fractions", none), "sorted_fractions", "sorted_fractions", defArgs (top 44), defBody (top 44), defScope (top 44), [], []⟩
def d30 : He.DefD := ⟨("greatest", none), "greatest", "greatest", defArgs (top 45), defBody (top 45), defScope (top 45), [], []⟩
def d31 : He.DefD := ⟨("meeting", none), "meeting", "meeting", defArgs (top 46), defBody (top 46), defScope (top 46), [], []⟩
def d32 : He.DefD := ⟨("piece_at", none), "piece_at", "piece_at", defArgs (top 47), defBody (top 47), defScope (top 47), [], []⟩
def d33 : He.DefD := ⟨("height", none), "height", "height", defArgs (top 48), defBody (top 48), defScope (top 48), [], []⟩
def d34 : He.DefD := ⟨("starts_of", none), "starts_of", "starts_of", defArgs (top 49), defBody (top 49), defScope (top 49), [], []⟩
def d35 : He.DefD := ⟨("added", none), "added", "added", defArgs (top 50), defBody (top 50), defScope (top 50), [], []⟩
def d36 : He.DefD := ⟨("stretched", none), "stretched", "stretched", defArgs (top 51), defBody (top 51), defScope (top 51), [], []⟩
def d37 : He.DefD := ⟨("spot_behind", none), "spot_behind", "spot_behind", defArgs (top 52), defBody (top 52), defScope (top 52), [], []⟩
def d38 : He.DefD := ⟨("Worths", some "__init__"), "__init__", "Worths.__init__", defArgs (mth 53 0), defBody (mth 53 0), defScope (mth 53 0), [], []⟩
def d39 : He.DefD := ⟨("Worths", some "done_first"), "done_first", "Worths.done_first", defArgs (mth 53 1), defBody (mth 53 1), defScope (mth 53 1), [], []⟩
def d40 : He.DefD := ⟨("Worths", some "first_deeds"), "first_deeds", "Worths.first_deeds", defArgs (mth 53 2), defBody (mth 53 2), defScope (mth 53 2), [], []⟩
def d41 : He.DefD := ⟨("Worths", some "worth_pieces"), "worth_pieces", "Worths.worth_pieces", defArgs (mth 53 3), defBody (mth 53 3), defScope (mth 53 3), [], []⟩
def d42 : He.DefD := ⟨("need_few", none), "need_few", "need_few", defArgs (top 54), defBody (top 54), defScope (top 54), [], []⟩
def d43 : He.DefD := ⟨("need_span", none), "need_span", "need_span", defArgs (top 55), defBody (top 55), defScope (top 55), [], []⟩
def d44 : He.DefD := ⟨("pieces", none), "pieces", "pieces", defArgs (top 56), defBody (top 56), defScope (top 56), [], []⟩
def d45 : He.DefD := ⟨("turns", none), "turns", "turns", defArgs (top 57), defBody (top 57), defScope (top 57), [], []⟩
def d46 : He.DefD := ⟨("need_value", none), "need_value", "need_value", defArgs (top 58), defBody (top 58), defScope (top 58), [], []⟩
def d47 : He.DefD := ⟨("all_firsts", none), "all_firsts", "all_firsts", defArgs (top 59), defBody (top 59), defScope (top 59), [], []⟩
def d48 : He.DefD := ⟨("best_at", none), "best_at", "best_at", defArgs (top 60), defBody (top 60), defScope (top 60), [], []⟩
def d49 : He.DefD := ⟨("between", none), "between", "between", defArgs (top 61), defBody (top 61), defScope (top 61), [], []⟩
def d50 : He.DefD := ⟨("firsts", none), "firsts", "firsts", defArgs (top 62), defBody (top 62), defScope (top 62), [], []⟩
def d51 : He.DefD := ⟨("need_range", none), "need_range", "need_range", defArgs (top 63), defBody (top 63), defScope (top 63), [], []⟩
def d52 : He.DefD := ⟨("regret_of", none), "regret_of", "regret_of", defArgs (top 64), defBody (top 64), defScope (top 64), [], []⟩
def d53 : He.DefD := ⟨("regret", none), "regret", "regret", defArgs (top 65), defBody (top 65), defScope (top 65), [], []⟩
def d54 : He.DefD := ⟨("guard", none), "guard", "guard", defArgs (top 66), defBody (top 66), defScope (top 66), [], []⟩
def d55 : He.DefD := ⟨("_law_tape", none), "_law_tape", "_law_tape", defArgs (top 68), defBody (top 68), defScope (top 68), [], []⟩
def d56 : He.DefD := ⟨("_law_pick", none), "_law_pick", "_law_pick", defArgs (top 69), defBody (top 69), defScope (top 69), [], []⟩
def d57 : He.DefD := ⟨("_law_four_right", none), "_law_four_right", "_law_four_right", defArgs (top 70), defBody (top 70), defScope (top 70), [], []⟩
def d58 : He.DefD := ⟨("law", none), "law", "law", defArgs (top 71), defBody (top 71), defScope (top 71), [], []⟩
def dfs0 : List He.DefD := [d6, d7, d8, d9, d10, d11, d12, d13, d14, d15, d16, d17, d18, d19, d20, d21, d22, d23, d24, d25, d26, d27, d28, d29, d30, d31, d32, d33, d34, d35]
def dfs1 : List He.DefD := [d36, d37, d38, d39, d40, d41, d42, d43, d44, d45, d46, d47, d48, d49, d50, d51, d52, d53, d54, d55, d56, d57, d58]
def dfs : List He.DefD := dfs0 ++ dfs1
def fas0 : List He.Fa := [.glo "is_integer", .glo "divisor_of", .glo "is_fraction", .glo "lowest", .glo "add", .glo "less", .glo "mul", .glo "div", .glo "order_of", .glo "counts_together", .glo "is_outcome", .glo "counts_of", .glo "is_term", .glo "is_mix", .glo "within", .glo "part_at", .glo "is_place", .glo "put", .glo "front_of", .glo "front_in", .glo "behind", .glo "need_mix", .glo "flat", .glo "sorted_fractions", .glo "greatest", .glo "meeting", .glo "piece_at", .glo "height", .glo "starts_of", .glo "added"]
def fas1 : List He.Fa := [.glo "stretched", .glo "spot_behind", .glo "need_few", .glo "need_span", .glo "pieces", .glo "turns", .glo "need_value", .glo "all_firsts", .glo "best_at", .glo "between", .glo "firsts", .glo "need_range", .glo "regret_of", .glo "regret", .glo "guard", .glo "_law_tape", .glo "_law_pick", .glo "_law_four_right", .glo "law", .glo "Worths", .cls "Worths", .mkr "Worths", .noat "Worths" "value", .noat "Worths" "is_free", .noat "Worths" "reckoned", .meth "Worths" "__init__", .meth "Worths" "done_first", .meth "Worths" "first_deeds", .meth "Worths" "worth_pieces", .free "len"]
def fas2 : List He.Fa := [.free "all", .free "any", .free "abs", .free "enumerate", .free "zip", .free "range", .free "int", .free "list", .free "tuple", .free "repr", .free "sum", .free "isinstance", .free "sorted", .free "max", .free "min", .free "str", .free "dict", .free "reversed", .free "bool", .glo "NOUGHT", .glo "WHOLE", .int "MOST_OUTCOMES" (3), .int "MOST_MEMBERS" (3), .int "MOST_STEPS" (16), .int "MOST_PARTS" (48), .int "MOST_TERMS" (4), .int "MOST_MIX_PARTS" (96), .int "MOST_MIXES" (400)]
def fas : List He.Fa := fas0 ++ fas1 ++ fas2
def exs (K : PySem.W.Frag) : Bool := Ev.noLstK K && He.tupB K "NOUGHT" [.int (0), .int (1)] && He.tupB K "WHOLE" [.int (1), .int (1)]
def lse0 : List Str := ["__name__", "MixError", "BadMix", "BadPlace", "BadHabit", "BadValue", "BadFirst", "TooMany", "NOUGHT", "WHOLE", "is_integer", "divisor_of", "is_fraction", "lowest", "add", "less", "mul", "div", "order_of", "MOST_OUTCOMES", "MOST_MEMBERS", "MOST_STEPS", "MOST_PARTS", "MOST_TERMS", "MOST_MIX_PARTS", "counts_together", "is_outcome", "counts_of", "is_term", "is_mix"]
def lse1 : List Str := ["within", "part_at", "is_place", "put", "front_of", "front_in", "behind", "need_mix", "MOST_MIXES", "flat", "sorted_fractions", "greatest", "meeting", "piece_at", "height", "starts_of", "added", "stretched", "spot_behind", "Worths", "need_few", "need_span", "pieces", "turns", "need_value", "all_firsts", "best_at", "between", "firsts", "need_range"]
def lse2 : List Str := ["regret_of", "regret", "guard", "_law_tape", "_law_pick", "_law_four_right"]
def lse : List Str := lse0 ++ lse1 ++ lse2
abbrev R : PySem.W.OpenRow := PySem.W.OpenLaw.row PySem.Challenge.rw_onenumber_k79_spans_by_hand
abbrev hk : PySem.W.Hook := He.hookX 6 fas dfs [] [] exs
def ob (s : PySem.W.SharedT) : He.AlX := He.obsX 6 fas dfs [] [] exs (HandSHeadRun.getT s)
theorem ob_eq (s : PySem.W.SharedT) : ob s = hk.obs s.abs := He.obsX_eq (HandSHeadRun.getT_eq s)
theorem run (w : World) : HandSHeadRun.RunEq R (PySem.W.view R.prog [71]) hk ob 4000 lse w := by
  intro os
  kernel_rfl
end K79
namespace K79
open PySem PySem.Spec PyProof.Rows L2 Ev
def M (P : Program) (w : World) : Nm := ⟨fun i => nmf.getD i "", fun i => nmg.getD i "", fun i => nmc.getD i "", fun i => nml.getD i "", P, w⟩
abbrev nv (i : Nat) : List Str := nmv.getD i []
theorem tx6 (P : Program) (w : World) : decSs (M P w) (nv 6) f6.body = defBody (top 11) := by kernel_rfl
theorem wf6 (P : Program) (w : World) : wfSs (M P w) (nv 6) (defScope (top 11)) f6.body = true := cLs_ok (cS_ok 40 _) _ (show cLs (cS (M P w) (nv 6) 40 (defScope (top 11))) f6.body = true by kernel_rfl)
theorem tx7 (P : Program) (w : World) : decSs (M P w) (nv 7) f7.body = defBody (top 12) := by kernel_rfl
theorem wf7 (P : Program) (w : World) : wfSs (M P w) (nv 7) (defScope (top 12)) f7.body = true := cLs_ok (cS_ok 40 _) _ (show cLs (cS (M P w) (nv 7) 40 (defScope (top 12))) f7.body = true by kernel_rfl)
theorem tx8 (P : Program) (w : World) : decSs (M P w) (nv 8) f8.body = defBody (top 13) := by kernel_rfl
theorem wf8 (P : Program) (w : World) : wfSs (M P w) (nv 8) (defScope (top 13)) f8.body = true := cLs_ok (cS_ok 40 _) _ (show cLs (cS (M P w) (nv 8) 40 (defScope (top 13))) f8.body = true by kernel_rfl)
theorem tx9 (P : Program) (w : World) : decSs (M P w) (nv 9) f9.body = defBody (top 14) := by kernel_rfl
theorem wf9 (P : Program) (w : World) : wfSs (M P w) (nv 9) (defScope (top 14)) f9.body = true := cLs_ok (cS_ok 40 _) _ (show cLs (cS (M P w) (nv 9) 40 (defScope (top 14))) f9.body = true by kernel_rfl)
theorem tx10 (P : Program) (w : World) : decSs (M P w) (nv 10) f10.body = defBody (top 15) := by kernel_rfl
theorem wf10 (P : Program) (w : World) : wfSs (M P w) (nv 10) (defScope (top 15)) f10.body = true := cLs_ok (cS_ok 40 _) _ (show cLs (cS (M P w) (nv 10) 40 (defScope (top 15))) f10.body = true by kernel_rfl)
theorem tx11 (P : Program) (w : World) : decSs (M P w) (nv 11) f11.body = defBody (top 16) := by kernel_rfl
theorem wf11 (P : Program) (w : World) : wfSs (M P w) (nv 11) (defScope (top 16)) f11.body = true := cLs_ok (cS_ok 40 _) _ (show cLs (cS (M P w) (nv 11) 40 (defScope (top 16))) f11.body = true by kernel_rfl)
theorem tx12 (P : Program) (w : World) : decSs (M P w) (nv 12) f12.body = defBody (top 17) := by kernel_rfl
theorem wf12 (P : Program) (w : World) : wfSs (M P w) (nv 12) (defScope (top 17)) f12.body = true := cLs_ok (cS_ok 40 _) _ (show cLs (cS (M P w) (nv 12) 40 (defScope (top 17))) f12.body = true by kernel_rfl)
theorem tx13 (P : Program) (w : World) : decSs (M P w) (nv 13) f13.body = defBody (top 18) := by kernel_rfl
theorem wf13 (P : Program) (w : World) : wfSs (M P w) (nv 13) (defScope (top 18)) f13.body = true := cLs_ok (cS_ok 40 _) _ (show cLs (cS (M P w) (nv 13) 40 (defScope (top 18))) f13.body = true by kernel_rfl)
theorem tx14 (P : Program) (w : World) : decSs (M P w) (nv 14) f14.body = defBody (top 19) := by kernel_rfl
theorem wf14 (P : Program) (w : World) : wfSs (M P w) (nv 14) (defScope (top 19)) f14.body = true := cLs_ok (cS_ok 40 _) _ (show cLs (cS (M P w) (nv 14) 40 (defScope (top 19))) f14.body = true by kernel_rfl)
theorem tx15 (P : Program) (w : World) : decSs (M P w) (nv 15) f15.body = defBody (top 27) := by kernel_rfl
theorem wf15 (P : Program) (w : World) : wfSs (M P w) (nv 15) (defScope (top 27)) f15.body = true := cLs_ok (cS_ok 40 _) _ (show cLs (cS (M P w) (nv 15) 40 (defScope (top 27))) f15.body = true by kernel_rfl)
theorem tx16 (P : Program) (w : World) : decSs (M P w) (nv 16) f16.body = defBody (top 28) := by kernel_rfl
theorem wf16 (P : Program) (w : World) : wfSs (M P w) (nv 16) (defScope (top 28)) f16.body = true := cLs_ok (cS_ok 40 _) _ (show cLs (cS (M P w) (nv 16) 40 (defScope (top 28))) f16.body = true by kernel_rfl)
theorem tx17 (P : Program) (w : World) : decSs (M P w) (nv 17) f17.body = defBody (top 29) := by kernel_rfl
theorem wf17 (P : Program) (w : World) : wfSs (M P w) (nv 17) (defScope (top 29)) f17.body = true := cLs_ok (cS_ok 40 _) _ (show cLs (cS (M P w) (nv 17) 40 (defScope (top 29))) f17.body = true by kernel_rfl)
theorem tx18 (P : Program) (w : World) : decSs (M P w) (nv 18) f18.body = defBody (top 30) := by kernel_rfl
theorem wf18 (P : Program) (w : World) : wfSs (M P w) (nv 18) (defScope (top 30)) f18.body = true := cLs_ok (cS_ok 40 _) _ (show cLs (cS (M P w) (nv 18) 40 (defScope (top 30))) f18.body = true by kernel_rfl)
theorem tx19 (P : Program) (w : World) : decSs (M P w) (nv 19) f19.body = defBody (top 31) := by kernel_rfl
theorem wf19 (P : Program) (w : World) : wfSs (M P w) (nv 19) (defScope (top 31)) f19.body = true := cLs_ok (cS_ok 40 _) _ (show cLs (cS (M P w) (nv 19) 40 (defScope (top 31))) f19.body = true by kernel_rfl)
theorem tx20 (P : Program) (w : World) : decSs (M P w) (nv 20) f20.body = defBody (top 32) := by kernel_rfl
theorem wf20 (P : Program) (w : World) : wfSs (M P w) (nv 20) (defScope (top 32)) f20.body = true := cLs_ok (cS_ok 40 _) _ (show cLs (cS (M P w) (nv 20) 40 (defScope (top 32))) f20.body = true by kernel_rfl)
theorem tx21 (P : Program) (w : World) : decSs (M P w) (nv 21) f21.body = defBody (top 34) := by kernel_rfl
theorem wf21 (P : Program) (w : World) : wfSs (M P w) (nv 21) (defScope (top 34)) f21.body = true := cLs_ok (cS_ok 40 _) _ (show cLs (cS (M P w) (nv 21) 40 (defScope (top 34))) f21.body = true by kernel_rfl)
theorem tx22 (P : Program) (w : World) : decSs (M P w) (nv 22) f22.body = defBody (top 35) := by kernel_rfl
theorem wf22 (P : Program) (w : World) : wfSs (M P w) (nv 22) (defScope (top 35)) f22.body = true := cLs_ok (cS_ok 40 _) _ (show cLs (cS (M P w) (nv 22) 40 (defScope (top 35))) f22.body = true by kernel_rfl)
theorem tx23 (P : Program) (w : World) : decSs (M P w) (nv 23) f23.body = defBody (top 36) := by kernel_rfl
theorem wf23 (P : Program) (w : World) : wfSs (M P w) (nv 23) (defScope (top 36)) f23.body = true := cLs_ok (cS_ok 40 _) _ (show cLs (cS (M P w) (nv 23) 40 (defScope (top 36))) f23.body = true by kernel_rfl)
theorem tx24 (P : Program) (w : World) : decSs (M P w) (nv 24) f24.body = defBody (top 37) := by kernel_rfl
theorem wf24 (P : Program) (w : World) : wfSs (M P w) (nv 24) (defScope (top 37)) f24.body = true := cLs_ok (cS_ok 40 _) _ (show cLs (cS (M P w) (nv 24) 40 (defScope (top 37))) f24.body = true by kernel_rfl)
theorem tx25 (P : Program) (w : World) : decSs (M P w) (nv 25) f25.body = defBody (top 38) := by kernel_rfl
theorem wf25 (P : Program) (w : World) : wfSs (M P w) (nv 25) (defScope (top 38)) f25.body = true := cLs_ok (cS_ok 40 _) _ (show cLs (cS (M P w) (nv 25) 40 (defScope (top 38))) f25.body = true by kernel_rfl)
theorem tx26 (P : Program) (w : World) : decSs (M P w) (nv 26) f26.body = defBody (top 39) := by kernel_rfl
theorem wf26 (P : Program) (w : World) : wfSs (M P w) (nv 26) (defScope (top 39)) f26.body = true := cLs_ok (cS_ok 40 _) _ (show cLs (cS (M P w) (nv 26) 40 (defScope (top 39))) f26.body = true by kernel_rfl)
theorem tx27 (P : Program) (w : World) : decSs (M P w) (nv 27) f27.body = defBody (top 40) := by kernel_rfl
theorem wf27 (P : Program) (w : World) : wfSs (M P w) (nv 27) (defScope (top 40)) f27.body = true := cLs_ok (cS_ok 40 _) _ (show cLs (cS (M P w) (nv 27) 40 (defScope (top 40))) f27.body = true by kernel_rfl)
theorem tx28 (P : Program) (w : World) : decSs (M P w) (nv 28) f28.body = defBody (top 43) := by kernel_rfl
theorem wf28 (P : Program) (w : World) : wfSs (M P w) (nv 28) (defScope (top 43)) f28.body = true := cLs_ok (cS_ok 40 _) _ (show cLs (cS (M P w) (nv 28) 40 (defScope (top 43))) f28.body = true by kernel_rfl)
theorem tx29 (P : Program) (w : World) : decSs (M P w) (nv 29) f29.body = defBody (top 44) := by kernel_rfl
theorem wf29 (P : Program) (w : World) : wfSs (M P w) (nv 29) (defScope (top 44)) f29.body = true := cLs_ok (cS_ok 40 _) _ (show cLs (cS (M P w) (nv 29) 40 (defScope (top 44))) f29.body = true by kernel_rfl)
theorem tx30 (P : Program) (w : World) : decSs (M P w) (nv 30) f30.body = defBody (top 45) := by kernel_rfl
theorem wf30 (P : Program) (w : World) : wfSs (M P w) (nv 30) (defScope (top 45)) f30.body = true := cLs_ok (cS_ok 40 _) _ (show cLs (cS (M P w) (nv 30) 40 (defScope (top 45))) f30.body = true by kernel_rfl)
theorem tx31 (P : Program) (w : World) : decSs (M P w) (nv 31) f31.body = defBody (top 46) := by kernel_rfl
theorem wf31 (P : Program) (w : World) : wfSs (M P w) (nv 31) (defScope (top 46)) f31.body = true := cLs_ok (cS_ok 40 _) _ (show cLs (cS (M P w) (nv 31) 40 (defScope (top 46))) f31.body = true by kernel_rfl)
theorem tx32 (P : Program) (w : World) : decSs (M P w) (nv 32) f32.body = defBody (top 47) := by kernel_rfl
theorem wf32 (P : Program) (w : World) : wfSs (M P w) (nv 32) (defScope (top 47)) f32.body = true := cLs_ok (cS_ok 40 _) _ (show cLs (cS (M P w) (nv 32) 40 (defScope (top 47))) f32.body = true by kernel_rfl)
theorem tx33 (P : Program) (w : World) : decSs (M P w) (nv 33) f33.body = defBody (top 48) := by kernel_rfl
theorem wf33 (P : Program) (w : World) : wfSs (M P w) (nv 33) (defScope (top 48)) f33.body = true := cLs_ok (cS_ok 40 _) _ (show cLs (cS (M P w) (nv 33) 40 (defScope (top 48))) f33.body = true by kernel_rfl)
theorem tx34 (P : Program) (w : World) : decSs (M P w) (nv 34) f34.body = defBody (top 49) := by kernel_rfl
theorem wf34 (P : Program) (w : World) : wfSs (M P w) (nv 34) (defScope (top 49)) f34.body = true := cLs_ok (cS_ok 40 _) _ (show cLs (cS (M P w) (nv 34) 40 (defScope (top 49))) f34.body = true by kernel_rfl)
theorem tx35 (P : Program) (w : World) : decSs (M P w) (nv 35) f35.body = defBody (top 50) := by kernel_rfl
theorem wf35 (P : Program) (w : World) : wfSs (M P w) (nv 35) (defScope (top 50)) f35.body = true := cLs_ok (cS_ok 40 _) _ (show cLs (cS (M P w) (nv 35) 40 (defScope (top 50))) f35.body = true by kernel_rfl)
theorem tx36 (P : Program) (w : World) : decSs (M P w) (nv 36) f36.body = defBody (top 51) := by kernel_rfl
theorem wf36 (P : Program) (w : World) : wfSs (M P w) (nv 36) (defScope (top 51)) f36.body = true := cLs_ok (cS_ok 40 _) _ (show cLs (cS (M P w) (nv 36) 40 (defScope (top 51))) f36.body = true by kernel_rfl)
theorem tx37 (P : Program) (w : World) : decSs (M P w) (nv 37) f37.body = defBody (top 52) := by kernel_rfl
theorem wf37 (P : Program) (w : World) : wfSs (M P w) (nv 37) (defScope (top 52)) f37.body = true := cLs_ok (cS_ok 40 _) _ (show cLs (cS (M P w) (nv 37) 40 (defScope (top 52))) f37.body = true by kernel_rfl)
theorem tx38 (P : Program) (w : World) : decSs (M P w) (nv 38) f38.body = defBody (mth 53 0) := by kernel_rfl
theorem wf38 (P : Program) (w : World) : wfSs (M P w) (nv 38) (defScope (mth 53 0)) f38.body = true := cLs_ok (cS_ok 40 _) _ (show cLs (cS (M P w) (nv 38) 40 (defScope (mth 53 0))) f38.body = true by kernel_rfl)
theorem tx39 (P : Program) (w : World) : decSs (M P w) (nv 39) f39.body = defBody (mth 53 1) := by kernel_rfl
theorem wf39 (P : Program) (w : World) : wfSs (M P w) (nv 39) (defScope (mth 53 1)) f39.body = true := cLs_ok (cS_ok 40 _) _ (show cLs (cS (M P w) (nv 39) 40 (defScope (mth 53 1))) f39.body = true by kernel_rfl)
theorem tx40 (P : Program) (w : World) : decSs (M P w) (nv 40) f40.body = defBody (mth 53 2) := by kernel_rfl
theorem wf40 (P : Program) (w : World) : wfSs (M P w) (nv 40) (defScope (mth 53 2)) f40.body = true := cLs_ok (cS_ok 40 _) _ (show cLs (cS (M P w) (nv 40) 40 (defScope (mth 53 2))) f40.body = true by kernel_rfl)
theorem tx41 (P : Program) (w : World) : decSs (M P w) (nv 41) f41.body = defBody (mth 53 3) := by kernel_rfl
theorem wf41 (P : Program) (w : World) : wfSs (M P w) (nv 41) (defScope (mth 53 3)) f41.body = true := cLs_ok (cS_ok 40 _) _ (show cLs (cS (M P w) (nv 41) 40 (defScope (mth 53 3))) f41.body = true by kernel_rfl)
theorem tx42 (P : Program) (w : World) : decSs (M P w) (nv 42) f42.body = defBody (top 54) := by kernel_rfl
theorem wf42 (P : Program) (w : World) : wfSs (M P w) (nv 42) (defScope (top 54)) f42.body = true := cLs_ok (cS_ok 40 _) _ (show cLs (cS (M P w) (nv 42) 40 (defScope (top 54))) f42.body = true by kernel_rfl)
theorem tx43 (P : Program) (w : World) : decSs (M P w) (nv 43) f43.body = defBody (top 55) := by kernel_rfl
theorem wf43 (P : Program) (w : World) : wfSs (M P w) (nv 43) (defScope (top 55)) f43.body = true := cLs_ok (cS_ok 40 _) _ (show cLs (cS (M P w) (nv 43) 40 (defScope (top 55))) f43.body = true by kernel_rfl)
theorem tx44 (P : Program) (w : World) : decSs (M P w) (nv 44) f44.body = defBody (top 56) := by kernel_rfl
theorem wf44 (P : Program) (w : World) : wfSs (M P w) (nv 44) (defScope (top 56)) f44.body = true := cLs_ok (cS_ok 40 _) _ (show cLs (cS (M P w) (nv 44) 40 (defScope (top 56))) f44.body = true by kernel_rfl)
theorem tx45 (P : Program) (w : World) : decSs (M P w) (nv 45) f45.body = defBody (top 57) := by kernel_rfl
theorem wf45 (P : Program) (w : World) : wfSs (M P w) (nv 45) (defScope (top 57)) f45.body = true := cLs_ok (cS_ok 40 _) _ (show cLs (cS (M P w) (nv 45) 40 (defScope (top 57))) f45.body = true by kernel_rfl)
theorem tx46 (P : Program) (w : World) : decSs (M P w) (nv 46) f46.body = defBody (top 58) := by kernel_rfl
theorem wf46 (P : Program) (w : World) : wfSs (M P w) (nv 46) (defScope (top 58)) f46.body = true := cLs_ok (cS_ok 40 _) _ (show cLs (cS (M P w) (nv 46) 40 (defScope (top 58))) f46.body = true by kernel_rfl)
theorem tx47 (P : Program) (w : World) : decSs (M P w) (nv 47) f47.body = defBody (top 59) := by kernel_rfl
theorem wf47 (P : Program) (w : World) : wfSs (M P w) (nv 47) (defScope (top 59)) f47.body = true := cLs_ok (cS_ok 40 _) _ (show cLs (cS (M P w) (nv 47) 40 (defScope (top 59))) f47.body = true by kernel_rfl)
theorem tx48 (P : Program) (w : World) : decSs (M P w) (nv 48) f48.body = defBody (top 60) := by kernel_rfl
theorem wf48 (P : Program) (w : World) : wfSs (M P w) (nv 48) (defScope (top 60)) f48.body = true := cLs_ok (cS_ok 40 _) _ (show cLs (cS (M P w) (nv 48) 40 (defScope (top 60))) f48.body = true by kernel_rfl)
theorem tx49 (P : Program) (w : World) : decSs (M P w) (nv 49) f49.body = defBody (top 61) := by kernel_rfl
theorem wf49 (P : Program) (w : World) : wfSs (M P w) (nv 49) (defScope (top 61)) f49.body = true := cLs_ok (cS_ok 40 _) _ (show cLs (cS (M P w) (nv 49) 40 (defScope (top 61))) f49.body = true by kernel_rfl)
theorem tx50 (P : Program) (w : World) : decSs (M P w) (nv 50) f50.body = defBody (top 62) := by kernel_rfl
theorem wf50 (P : Program) (w : World) : wfSs (M P w) (nv 50) (defScope (top 62)) f50.body = true := cLs_ok (cS_ok 40 _) _ (show cLs (cS (M P w) (nv 50) 40 (defScope (top 62))) f50.body = true by kernel_rfl)
theorem tx51 (P : Program) (w : World) : decSs (M P w) (nv 51) f51.body = defBody (top 63) := by kernel_rfl
theorem wf51 (P : Program) (w : World) : wfSs (M P w) (nv 51) (defScope (top 63)) f51.body = true := cLs_ok (cS_ok 40 _) _ (show cLs (cS (M P w) (nv 51) 40 (defScope (top 63))) f51.body = true by kernel_rfl)
theorem tx52 (P : Program) (w : World) : decSs (M P w) (nv 52) f52.body = defBody (top 64) := by kernel_rfl
theorem wf52 (P : Program) (w : World) : wfSs (M P w) (nv 52) (defScope (top 64)) f52.body = true := cLs_ok (cS_ok 40 _) _ (show cLs (cS (M P w) (nv 52) 40 (defScope (top 64))) f52.body = true by kernel_rfl)
theorem tx53 (P : Program) (w : World) : decSs (M P w) (nv 53) f53.body = defBody (top 65) := by kernel_rfl
theorem wf53 (P : Program) (w : World) : wfSs (M P w) (nv 53) (defScope (top 65)) f53.body = true := cLs_ok (cS_ok 40 _) _ (show cLs (cS (M P w) (nv 53) 40 (defScope (top 65))) f53.body = true by kernel_rfl)
theorem tx54 (P : Program) (w : World) : decSs (M P w) (nv 54) f54.body = defBody (top 66) := by kernel_rfl
theorem wf54 (P : Program) (w : World) : wfSs (M P w) (nv 54) (defScope (top 66)) f54.body = true := cLs_ok (cS_ok 40 _) _ (show cLs (cS (M P w) (nv 54) 40 (defScope (top 66))) f54.body = true by kernel_rfl)
theorem tx55 (P : Program) (w : World) : decSs (M P w) (nv 55) f55.body = defBody (top 68) := by kernel_rfl
theorem wf55 (P : Program) (w : World) : wfSs (M P w) (nv 55) (defScope (top 68)) f55.body = true := cLs_ok (cS_ok 40 _) _ (show cLs (cS (M P w) (nv 55) 40 (defScope (top 68))) f55.body = true by kernel_rfl)
theorem tx56 (P : Program) (w : World) : decSs (M P w) (nv 56) f56.body = defBody (top 69) := by kernel_rfl
theorem wf56 (P : Program) (w : World) : wfSs (M P w) (nv 56) (defScope (top 69)) f56.body = true := cLs_ok (cS_ok 40 _) _ (show cLs (cS (M P w) (nv 56) 40 (defScope (top 69))) f56.body = true by kernel_rfl)
theorem tx57 (P : Program) (w : World) : decSs (M P w) (nv 57) f57.body = defBody (top 70) := by kernel_rfl
theorem wf57 (P : Program) (w : World) : wfSs (M P w) (nv 57) (defScope (top 70)) f57.body = true := cLs_ok (cS_ok 40 _) _ (show cLs (cS (M P w) (nv 57) 40 (defScope (top 70))) f57.body = true by kernel_rfl)
theorem tx58 (P : Program) (w : World) : decSs (M P w) (nv 58) f58.body = defBody (top 71) := by kernel_rfl
theorem wf58 (P : Program) (w : World) : wfSs (M P w) (nv 58) (defScope (top 71)) f58.body = true := cLs_ok (cS_ok 40 _) _ (show cLs (cS (M P w) (nv 58) 40 (defScope (top 71))) f58.body = true by kernel_rfl)
end K79
namespace K79
open PySem PySem.Spec PyProof.Rows L2 Ev
def atNL0 : List (Str × Option Str) := [("BadMix", some "__init__"), ("BadPlace", some "__init__"), ("BadHabit", some "__init__"), ("BadValue", some "__init__"), ("BadFirst", some "__init__"), ("TooMany", some "__init__"), ("is_integer", none), ("divisor_of", none), ("is_fraction", none), ("lowest", none), ("add", none), ("less", none), ("mul", none), ("div", none), ("order_of", none), ("counts_together", none), ("is_outcome", none), ("counts_of", none), ("is_term", none), ("is_mix", none), ("within", none), ("part_at", none), ("is_place", none), ("put", none), ("front_of", none), ("front_in", none), ("behind", none), ("need_mix", none), ("flat", none), ("sorted_fractions", none)]
def atNL1 : List (Str × Option Str) := [("greatest", none), ("meeting", none), ("piece_at", none), ("height", none), ("starts_of", none), ("added", none), ("stretched", none), ("spot_behind", none), ("Worths", some "__init__"), ("Worths", some "done_first"), ("Worths", some "first_deeds"), ("Worths", some "worth_pieces"), ("need_few", none), ("need_span", none), ("pieces", none), ("turns", none), ("need_value", none), ("all_firsts", none), ("best_at", none), ("between", none), ("firsts", none), ("need_range", none), ("regret_of", none), ("regret", none), ("guard", none), ("_law_tape", none), ("_law_pick", none), ("_law_four_right", none), ("law", none)]
def atNL : List (Str × Option Str) := atNL0 ++ atNL1
def at_ (f : Nat) : Str × Option Str := atNL.getD f ("", none)
def fa (K : PySem.W.Frag) (f : Nat) : Addr := He.fAd K (at_ f)
def ca (K : PySem.W.Frag) (c : Nat) : Addr := He.ga K (nmc.getD c "")
def fdAt (K : PySem.W.Frag) (a : Addr) : FuncData := match K.lookup a with
  | some ⟨_, _, .func fd, _⟩ => fd
  | _ => PySem.W.fnOf "" "" (defArgs (.Pass ⟨0, 0, 0, 0⟩)) [] (defScope (.Pass ⟨0, 0, 0, 0⟩)) .none .none .none .none none .none .none
def fds (K : PySem.W.Frag) (f : Nat) : FuncData := fdAt K (fa K f)
def pss (f : Nat) : List Str := nmp.getD f []
theorem fdAt_eq {K : PySem.W.Frag} {x qual : Str} {params : Arguments} {body : List Stmt} {scope : Scope} {a : Addr} {fd : FuncData} (F : FunD K x qual params body scope [] [] a fd) : fdAt K a = fd := by
  obtain ⟨oc, od, dV, kV, doc, pm, an, cdv, ct, osl, e, lk, hcd, hD, hK⟩ := F.ex
  unfold fdAt
  rw [lk]
theorem mk_DefF {K : PySem.W.Frag} {M : Nm} {f : Nat} {x qual : Str} {params : Arguments} {body : List Stmt} {scope : Scope} {fd : FuncData} {N : List Str} {fn : Fn} (F : FunD K x qual params body scope [] [] (fa K f) fd)
    (tx : decSs M N fn.body = body) (S : FnScope N (pss f) scope) (hg : T.fns.get f = some fn) (wf : wfSs M N scope fn.body = true) (hl : N.length = fn.nslots) : DefF K M T (fa K) (fds K) pss f := by
  have e1 : fds K f = fd := fdAt_eq F
  obtain ⟨oc, od, dV, kV, doc, pm, an, cdv, ct, osl, e, lk, hcd, hD, hK⟩ := F.ex
  subst tx
  exact ⟨x, qual, params, scope, dV, kV, doc, pm, cdv, ct, oc, an, od, osl, N, fn, by rw [lk, e], hcd, S, by rw [e1, e], hg, wf, hl⟩
structure Fk (K : PySem.W.Frag) (mg : Str → Option Value) (M : Nm) (f : Nat) : Prop where
  df : DefF K M T (fa K) (fds K) pss f
  bd : Binds K (fds K f) (pss f) []
  kp : PySem.W.keepIn K (.ref (fa K f)) = true
  na : ∀ fn, T.fns.get f = some fn → fn.nargs = (pss f).length
  gl : T.kind f = .fn → mg (M.f f) = some (.ref (fa K f))
  mt : ∀ c, T.kind f = .mt c → Meth K (ca K c) (M.f f) (fa K f) ∧ Cls K (ca K c) ∧ ∀ g, M.fl g ≠ M.f f
theorem nml_ne {x : Str} (h : nml.all (fun y => !(decide (y = x))) = true) (h0 : x ≠ "") (g : Nat) : nml.getD g "" ≠ x := fun z => by
  by_cases hg : g < nml.length
  · have e : nml.getD g "" = nml[g] := by rw [List.getD_eq_getElem?_getD, List.getElem?_eq_getElem hg]; rfl
    have := List.all_eq_true.mp h _ (List.getElem_mem hg)
    rw [← e, z] at this
    simp at this
  · rw [List.getD_eq_getElem?_getD, List.getElem?_eq_none (Nat.le_of_not_lt hg)] at z
    exact h0 z.symm
theorem nml_inj {f g : Nat} (hf : f < nml.length) (h : nml.Nodup) (h0 : nml.all (fun y => !(decide (y = ""))) = true) (e : nml.getD g "" = nml.getD f "") : g = f := by
  have ef : nml.getD f "" = nml[f] := by rw [List.getD_eq_getElem?_getD, List.getElem?_eq_getElem hf]; rfl
  by_cases hg : g < nml.length
  · have eg : nml.getD g "" = nml[g] := by rw [List.getD_eq_getElem?_getD, List.getElem?_eq_getElem hg]; rfl
    rw [ef, eg] at e
    exact (List.getElem_inj h).mp e
  · rw [List.getD_eq_getElem?_getD, List.getElem?_eq_none (Nat.le_of_not_lt hg), ef] at e
    have := List.all_eq_true.mp h0 _ (List.getElem_mem hf)
    rw [← e] at this
    simp at this
theorem sc6 : FnScope (nv 6) (pss 6) (defScope (top 11)) := ⟨rfl, rfl, rfl, by decide +kernel, rfl, by decide +kernel, by decide +kernel⟩
theorem fk6 {K : PySem.W.Frag} {h : Heap} {mg : Str → Option Value} (P : Program) (w : World) (X : K.In h) (G : h.Ns mainGlobals mg) (c : He.SaysD fas dfs K) : Fk K mg (M P w) 6 := by
  obtain ⟨fd, F⟩ := c.def_ 0 (d := d6) rfl
  have F : FunD K d6.name d6.qual d6.params d6.body d6.scope [] [] (fa K 6) fd := F
  have e : fds K 6 = fd := fdAt_eq F
  refine ⟨mk_DefF F (tx6 P w) sc6 rfl (wf6 P w) rfl, ?_, F.kp, fun fn h => by cases h; rfl, fun _ => He.glo_ok X G (c.fact 0 (f := .glo "is_integer") rfl), (fun c2 z => by cases z)⟩
  rw [e]
  exact F.bindsN fun _ _ _ _ _ _ us hl => match us, hl with | [_], _ => rfl
theorem sc7 : FnScope (nv 7) (pss 7) (defScope (top 12)) := ⟨rfl, rfl, rfl, by decide +kernel, rfl, by decide +kernel, by decide +kernel⟩
theorem fk7 {K : PySem.W.Frag} {h : Heap} {mg : Str → Option Value} (P : Program) (w : World) (X : K.In h) (G : h.Ns mainGlobals mg) (c : He.SaysD fas dfs K) : Fk K mg (M P w) 7 := by
  obtain ⟨fd, F⟩ := c.def_ 1 (d := d7) rfl
  have F : FunD K d7.name d7.qual d7.params d7.body d7.scope [] [] (fa K 7) fd := F
  have e : fds K 7 = fd := fdAt_eq F
  refine ⟨mk_DefF F (tx7 P w) sc7 rfl (wf7 P w) rfl, ?_, F.kp, fun fn h => by cases h; rfl, fun _ => He.glo_ok X G (c.fact 1 (f := .glo "divisor_of") rfl), (fun c2 z => by cases z)⟩
  rw [e]
  exact F.bindsN fun _ _ _ _ _ _ us hl => match us, hl with | [_, _], _ => rfl
theorem sc8 : FnScope (nv 8) (pss 8) (defScope (top 13)) := ⟨rfl, rfl, rfl, by decide +kernel, rfl, by decide +kernel, by decide +kernel⟩
theorem fk8 {K : PySem.W.Frag} {h : Heap} {mg : Str → Option Value} (P : Program) (w : World) (X : K.In h) (G : h.Ns mainGlobals mg) (c : He.SaysD fas dfs K) : Fk K mg (M P w) 8 := by
  obtain ⟨fd, F⟩ := c.def_ 2 (d := d8) rfl
  have F : FunD K d8.name d8.qual d8.params d8.body d8.scope [] [] (fa K 8) fd := F
  have e : fds K 8 = fd := fdAt_eq F
  refine ⟨mk_DefF F (tx8 P w) sc8 rfl (wf8 P w) rfl, ?_, F.kp, fun fn h => by cases h; rfl, fun _ => He.glo_ok X G (c.fact 2 (f := .glo "is_fraction") rfl), (fun c2 z => by cases z)⟩
  rw [e]
  exact F.bindsN fun _ _ _ _ _ _ us hl => match us, hl with | [_], _ => rfl
theorem sc9 : FnScope (nv 9) (pss 9) (defScope (top 14)) := ⟨rfl, rfl, rfl, by decide +kernel, rfl, by decide +kernel, by decide +kernel⟩
theorem fk9 {K : PySem.W.Frag} {h : Heap} {mg : Str → Option Value} (P : Program) (w : World) (X : K.In h) (G : h.Ns mainGlobals mg) (c : He.SaysD fas dfs K) : Fk K mg (M P w) 9 := by
  obtain ⟨fd, F⟩ := c.def_ 3 (d := d9) rfl
  have F : FunD K d9.name d9.qual d9.params d9.body d9.scope [] [] (fa K 9) fd := F
  have e : fds K 9 = fd := fdAt_eq F
  refine ⟨mk_DefF F (tx9 P w) sc9 rfl (wf9 P w) rfl, ?_, F.kp, fun fn h => by cases h; rfl, fun _ => He.glo_ok X G (c.fact 3 (f := .glo "lowest") rfl), (fun c2 z => by cases z)⟩
  rw [e]
  exact F.bindsN fun _ _ _ _ _ _ us hl => match us, hl with | [_, _], _ => rfl
theorem sc10 : FnScope (nv 10) (pss 10) (defScope (top 15)) := ⟨rfl, rfl, rfl, by decide +kernel, rfl, by decide +kernel, by decide +kernel⟩
theorem fk10 {K : PySem.W.Frag} {h : Heap} {mg : Str → Option Value} (P : Program) (w : World) (X : K.In h) (G : h.Ns mainGlobals mg) (c : He.SaysD fas dfs K) : Fk K mg (M P w) 10 := by
  obtain ⟨fd, F⟩ := c.def_ 4 (d := d10) rfl
  have F : FunD K d10.name d10.qual d10.params d10.body d10.scope [] [] (fa K 10) fd := F
  have e : fds K 10 = fd := fdAt_eq F
  refine ⟨mk_DefF F (tx10 P w) sc10 rfl (wf10 P w) rfl, ?_, F.kp, fun fn h => by cases h; rfl, fun _ => He.glo_ok X G (c.fact 4 (f := .glo "add") rfl), (fun c2 z => by cases z)⟩
  rw [e]
  exact F.bindsN fun _ _ _ _ _ _ us hl => match us, hl with | [_, _], _ => rfl
theorem sc11 : FnScope (nv 11) (pss 11) (defScope (top 16)) := ⟨rfl, rfl, rfl, by decide +kernel, rfl, by decide +kernel, by decide +kernel⟩
theorem fk11 {K : PySem.W.Frag} {h : Heap} {mg : Str → Option Value} (P : Program) (w : World) (X : K.In h) (G : h.Ns mainGlobals mg) (c : He.SaysD fas dfs K) : Fk K mg (M P w) 11 := by
  obtain ⟨fd, F⟩ := c.def_ 5 (d := d11) rfl
  have F : FunD K d11.name d11.qual d11.params d11.body d11.scope [] [] (fa K 11) fd := F
  have e : fds K 11 = fd := fdAt_eq F
  refine ⟨mk_DefF F (tx11 P w) sc11 rfl (wf11 P w) rfl, ?_, F.kp, fun fn h => by cases h; rfl, fun _ => He.glo_ok X G (c.fact 5 (f := .glo "less") rfl), (fun c2 z => by cases z)⟩
  rw [e]
  exact F.bindsN fun _ _ _ _ _ _ us hl => match us, hl with | [_, _], _ => rfl
theorem sc12 : FnScope (nv 12) (pss 12) (defScope (top 17)) := ⟨rfl, rfl, rfl, by decide +kernel, rfl, by decide +kernel, by decide +kernel⟩
theorem fk12 {K : PySem.W.Frag} {h : Heap} {mg : Str → Option Value} (P : Program) (w : World) (X : K.In h) (G : h.Ns mainGlobals mg) (c : He.SaysD fas dfs K) : Fk K mg (M P w) 12 := by
  obtain ⟨fd, F⟩ := c.def_ 6 (d := d12) rfl
  have F : FunD K d12.name d12.qual d12.params d12.body d12.scope [] [] (fa K 12) fd := F
  have e : fds K 12 = fd := fdAt_eq F
  refine ⟨mk_DefF F (tx12 P w) sc12 rfl (wf12 P w) rfl, ?_, F.kp, fun fn h => by cases h; rfl, fun _ => He.glo_ok X G (c.fact 6 (f := .glo "mul") rfl), (fun c2 z => by cases z)⟩
  rw [e]
  exact F.bindsN fun _ _ _ _ _ _ us hl => match us, hl with | [_, _], _ => rfl
theorem sc13 : FnScope (nv 13) (pss 13) (defScope (top 18)) := ⟨rfl, rfl, rfl, by decide +kernel, rfl, by decide +kernel, by decide +kernel⟩
theorem fk13 {K : PySem.W.Frag} {h : Heap} {mg : Str → Option Value} (P : Program) (w : World) (X : K.In h) (G : h.Ns mainGlobals mg) (c : He.SaysD fas dfs K) : Fk K mg (M P w) 13 := by
  obtain ⟨fd, F⟩ := c.def_ 7 (d := d13) rfl
  have F : FunD K d13.name d13.qual d13.params d13.body d13.scope [] [] (fa K 13) fd := F
  have e : fds K 13 = fd := fdAt_eq F
  refine ⟨mk_DefF F (tx13 P w) sc13 rfl (wf13 P w) rfl, ?_, F.kp, fun fn h => by cases h; rfl, fun _ => He.glo_ok X G (c.fact 7 (f := .glo "div") rfl), (fun c2 z => by cases z)⟩
  rw [e]
  exact F.bindsN fun _ _ _ _ _ _ us hl => match us, hl with | [_, _], _ => rfl
theorem sc14 : FnScope (nv 14) (pss 14) (defScope (top 19)) := ⟨rfl, rfl, rfl, by decide +kernel, rfl, by decide +kernel, by decide +kernel⟩
theorem fk14 {K : PySem.W.Frag} {h : Heap} {mg : Str → Option Value} (P : Program) (w : World) (X : K.In h) (G : h.Ns mainGlobals mg) (c : He.SaysD fas dfs K) : Fk K mg (M P w) 14 := by
  obtain ⟨fd, F⟩ := c.def_ 8 (d := d14) rfl
  have F : FunD K d14.name d14.qual d14.params d14.body d14.scope [] [] (fa K 14) fd := F
  have e : fds K 14 = fd := fdAt_eq F
  refine ⟨mk_DefF F (tx14 P w) sc14 rfl (wf14 P w) rfl, ?_, F.kp, fun fn h => by cases h; rfl, fun _ => He.glo_ok X G (c.fact 8 (f := .glo "order_of") rfl), (fun c2 z => by cases z)⟩
  rw [e]
  exact F.bindsN fun _ _ _ _ _ _ us hl => match us, hl with | [_, _], _ => rfl
theorem sc15 : FnScope (nv 15) (pss 15) (defScope (top 27)) := ⟨rfl, rfl, rfl, by decide +kernel, rfl, by decide +kernel, by decide +kernel⟩
theorem fk15 {K : PySem.W.Frag} {h : Heap} {mg : Str → Option Value} (P : Program) (w : World) (X : K.In h) (G : h.Ns mainGlobals mg) (c : He.SaysD fas dfs K) : Fk K mg (M P w) 15 := by
  obtain ⟨fd, F⟩ := c.def_ 9 (d := d15) rfl
  have F : FunD K d15.name d15.qual d15.params d15.body d15.scope [] [] (fa K 15) fd := F
  have e : fds K 15 = fd := fdAt_eq F
  refine ⟨mk_DefF F (tx15 P w) sc15 rfl (wf15 P w) rfl, ?_, F.kp, fun fn h => by cases h; rfl, fun _ => He.glo_ok X G (c.fact 9 (f := .glo "counts_together") rfl), (fun c2 z => by cases z)⟩
  rw [e]
  exact F.bindsN fun _ _ _ _ _ _ us hl => match us, hl with | [_], _ => rfl
theorem sc16 : FnScope (nv 16) (pss 16) (defScope (top 28)) := ⟨rfl, rfl, rfl, by decide +kernel, rfl, by decide +kernel, by decide +kernel⟩
theorem fk16 {K : PySem.W.Frag} {h : Heap} {mg : Str → Option Value} (P : Program) (w : World) (X : K.In h) (G : h.Ns mainGlobals mg) (c : He.SaysD fas dfs K) : Fk K mg (M P w) 16 := by
  obtain ⟨fd, F⟩ := c.def_ 10 (d := d16) rfl
  have F : FunD K d16.name d16.qual d16.params d16.body d16.scope [] [] (fa K 16) fd := F
  have e : fds K 16 = fd := fdAt_eq F
  refine ⟨mk_DefF F (tx16 P w) sc16 rfl (wf16 P w) rfl, ?_, F.kp, fun fn h => by cases h; rfl, fun _ => He.glo_ok X G (c.fact 10 (f := .glo "is_outcome") rfl), (fun c2 z => by cases z)⟩
  rw [e]
  exact F.bindsN fun _ _ _ _ _ _ us hl => match us, hl with | [_], _ => rfl
theorem sc17 : FnScope (nv 17) (pss 17) (defScope (top 29)) := ⟨rfl, rfl, rfl, by decide +kernel, rfl, by decide +kernel, by decide +kernel⟩
theorem fk17 {K : PySem.W.Frag} {h : Heap} {mg : Str → Option Value} (P : Program) (w : World) (X : K.In h) (G : h.Ns mainGlobals mg) (c : He.SaysD fas dfs K) : Fk K mg (M P w) 17 := by
  obtain ⟨fd, F⟩ := c.def_ 11 (d := d17) rfl
  have F : FunD K d17.name d17.qual d17.params d17.body d17.scope [] [] (fa K 17) fd := F
  have e : fds K 17 = fd := fdAt_eq F
  refine ⟨mk_DefF F (tx17 P w) sc17 rfl (wf17 P w) rfl, ?_, F.kp, fun fn h => by cases h; rfl, fun _ => He.glo_ok X G (c.fact 11 (f := .glo "counts_of") rfl), (fun c2 z => by cases z)⟩
  rw [e]
  exact F.bindsN fun _ _ _ _ _ _ us hl => match us, hl with | [_], _ => rfl
theorem sc18 : FnScope (nv 18) (pss 18) (defScope (top 30)) := ⟨rfl, rfl, rfl, by decide +kernel, rfl, by decide +kernel, by decide +kernel⟩
theorem fk18 {K : PySem.W.Frag} {h : Heap} {mg : Str → Option Value} (P : Program) (w : World) (X : K.In h) (G : h.Ns mainGlobals mg) (c : He.SaysD fas dfs K) : Fk K mg (M P w) 18 := by
  obtain ⟨fd, F⟩ := c.def_ 12 (d := d18) rfl
  have F : FunD K d18.name d18.qual d18.params d18.body d18.scope [] [] (fa K 18) fd := F
  have e : fds K 18 = fd := fdAt_eq F
  refine ⟨mk_DefF F (tx18 P w) sc18 rfl (wf18 P w) rfl, ?_, F.kp, fun fn h => by cases h; rfl, fun _ => He.glo_ok X G (c.fact 12 (f := .glo "is_term") rfl), (fun c2 z => by cases z)⟩
  rw [e]
  exact F.bindsN fun _ _ _ _ _ _ us hl => match us, hl with | [_], _ => rfl
theorem sc19 : FnScope (nv 19) (pss 19) (defScope (top 31)) := ⟨rfl, rfl, rfl, by decide +kernel, rfl, by decide +kernel, by decide +kernel⟩
theorem fk19 {K : PySem.W.Frag} {h : Heap} {mg : Str → Option Value} (P : Program) (w : World) (X : K.In h) (G : h.Ns mainGlobals mg) (c : He.SaysD fas dfs K) : Fk K mg (M P w) 19 := by
  obtain ⟨fd, F⟩ := c.def_ 13 (d := d19) rfl
  have F : FunD K d19.name d19.qual d19.params d19.body d19.scope [] [] (fa K 19) fd := F
  have e : fds K 19 = fd := fdAt_eq F
  refine ⟨mk_DefF F (tx19 P w) sc19 rfl (wf19 P w) rfl, ?_, F.kp, fun fn h => by cases h; rfl, fun _ => He.glo_ok X G (c.fact 13 (f := .glo "is_mix") rfl), (fun c2 z => by cases z)⟩
  rw [e]
  exact F.bindsN fun _ _ _ _ _ _ us hl => match us, hl with | [_], _ => rfl
theorem sc20 : FnScope (nv 20) (pss 20) (defScope (top 32)) := ⟨rfl, rfl, rfl, by decide +kernel, rfl, by decide +kernel, by decide +kernel⟩
theorem fk20 {K : PySem.W.Frag} {h : Heap} {mg : Str → Option Value} (P : Program) (w : World) (X : K.In h) (G : h.Ns mainGlobals mg) (c : He.SaysD fas dfs K) : Fk K mg (M P w) 20 := by
  obtain ⟨fd, F⟩ := c.def_ 14 (d := d20) rfl
  have F : FunD K d20.name d20.qual d20.params d20.body d20.scope [] [] (fa K 20) fd := F
  have e : fds K 20 = fd := fdAt_eq F
  refine ⟨mk_DefF F (tx20 P w) sc20 rfl (wf20 P w) rfl, ?_, F.kp, fun fn h => by cases h; rfl, fun _ => He.glo_ok X G (c.fact 14 (f := .glo "within") rfl), (fun c2 z => by cases z)⟩
  rw [e]
  exact F.bindsN fun _ _ _ _ _ _ us hl => match us, hl with | [_], _ => rfl
theorem sc21 : FnScope (nv 21) (pss 21) (defScope (top 34)) := ⟨rfl, rfl, rfl, by decide +kernel, rfl, by decide +kernel, by decide +kernel⟩
theorem fk21 {K : PySem.W.Frag} {h : Heap} {mg : Str → Option Value} (P : Program) (w : World) (X : K.In h) (G : h.Ns mainGlobals mg) (c : He.SaysD fas dfs K) : Fk K mg (M P w) 21 := by
  obtain ⟨fd, F⟩ := c.def_ 15 (d := d21) rfl
  have F : FunD K d21.name d21.qual d21.params d21.body d21.scope [] [] (fa K 21) fd := F
  have e : fds K 21 = fd := fdAt_eq F
  refine ⟨mk_DefF F (tx21 P w) sc21 rfl (wf21 P w) rfl, ?_, F.kp, fun fn h => by cases h; rfl, fun _ => He.glo_ok X G (c.fact 15 (f := .glo "part_at") rfl), (fun c2 z => by cases z)⟩
  rw [e]
  exact F.bindsN fun _ _ _ _ _ _ us hl => match us, hl with | [_, _], _ => rfl
theorem sc22 : FnScope (nv 22) (pss 22) (defScope (top 35)) := ⟨rfl, rfl, rfl, by decide +kernel, rfl, by decide +kernel, by decide +kernel⟩
theorem fk22 {K : PySem.W.Frag} {h : Heap} {mg : Str → Option Value} (P : Program) (w : World) (X : K.In h) (G : h.Ns mainGlobals mg) (c : He.SaysD fas dfs K) : Fk K mg (M P w) 22 := by
  obtain ⟨fd, F⟩ := c.def_ 16 (d := d22) rfl
  have F : FunD K d22.name d22.qual d22.params d22.body d22.scope [] [] (fa K 22) fd := F
  have e : fds K 22 = fd := fdAt_eq F
  refine ⟨mk_DefF F (tx22 P w) sc22 rfl (wf22 P w) rfl, ?_, F.kp, fun fn h => by cases h; rfl, fun _ => He.glo_ok X G (c.fact 16 (f := .glo "is_place") rfl), (fun c2 z => by cases z)⟩
  rw [e]
  exact F.bindsN fun _ _ _ _ _ _ us hl => match us, hl with | [_, _], _ => rfl
theorem sc23 : FnScope (nv 23) (pss 23) (defScope (top 36)) := ⟨rfl, rfl, rfl, by decide +kernel, rfl, by decide +kernel, by decide +kernel⟩
theorem fk23 {K : PySem.W.Frag} {h : Heap} {mg : Str → Option Value} (P : Program) (w : World) (X : K.In h) (G : h.Ns mainGlobals mg) (c : He.SaysD fas dfs K) : Fk K mg (M P w) 23 := by
  obtain ⟨fd, F⟩ := c.def_ 17 (d := d23) rfl
  have F : FunD K d23.name d23.qual d23.params d23.body d23.scope [] [] (fa K 23) fd := F
  have e : fds K 23 = fd := fdAt_eq F
  refine ⟨mk_DefF F (tx23 P w) sc23 rfl (wf23 P w) rfl, ?_, F.kp, fun fn h => by cases h; rfl, fun _ => He.glo_ok X G (c.fact 17 (f := .glo "put") rfl), (fun c2 z => by cases z)⟩
  rw [e]
  exact F.bindsN fun _ _ _ _ _ _ us hl => match us, hl with | [_, _, _], _ => rfl
theorem sc24 : FnScope (nv 24) (pss 24) (defScope (top 37)) := ⟨rfl, rfl, rfl, by decide +kernel, rfl, by decide +kernel, by decide +kernel⟩
theorem fk24 {K : PySem.W.Frag} {h : Heap} {mg : Str → Option Value} (P : Program) (w : World) (X : K.In h) (G : h.Ns mainGlobals mg) (c : He.SaysD fas dfs K) : Fk K mg (M P w) 24 := by
  obtain ⟨fd, F⟩ := c.def_ 18 (d := d24) rfl
  have F : FunD K d24.name d24.qual d24.params d24.body d24.scope [] [] (fa K 24) fd := F
  have e : fds K 24 = fd := fdAt_eq F
  refine ⟨mk_DefF F (tx24 P w) sc24 rfl (wf24 P w) rfl, ?_, F.kp, fun fn h => by cases h; rfl, fun _ => He.glo_ok X G (c.fact 18 (f := .glo "front_of") rfl), (fun c2 z => by cases z)⟩
  rw [e]
  exact F.bindsN fun _ _ _ _ _ _ us hl => match us, hl with | [_], _ => rfl
theorem sc25 : FnScope (nv 25) (pss 25) (defScope (top 38)) := ⟨rfl, rfl, rfl, by decide +kernel, rfl, by decide +kernel, by decide +kernel⟩
theorem fk25 {K : PySem.W.Frag} {h : Heap} {mg : Str → Option Value} (P : Program) (w : World) (X : K.In h) (G : h.Ns mainGlobals mg) (c : He.SaysD fas dfs K) : Fk K mg (M P w) 25 := by
  obtain ⟨fd, F⟩ := c.def_ 19 (d := d25) rfl
  have F : FunD K d25.name d25.qual d25.params d25.body d25.scope [] [] (fa K 25) fd := F
  have e : fds K 25 = fd := fdAt_eq F
  refine ⟨mk_DefF F (tx25 P w) sc25 rfl (wf25 P w) rfl, ?_, F.kp, fun fn h => by cases h; rfl, fun _ => He.glo_ok X G (c.fact 19 (f := .glo "front_in") rfl), (fun c2 z => by cases z)⟩
  rw [e]
  exact F.bindsN fun _ _ _ _ _ _ us hl => match us, hl with | [_], _ => rfl
theorem sc26 : FnScope (nv 26) (pss 26) (defScope (top 39)) := ⟨rfl, rfl, rfl, by decide +kernel, rfl, by decide +kernel, by decide +kernel⟩
theorem fk26 {K : PySem.W.Frag} {h : Heap} {mg : Str → Option Value} (P : Program) (w : World) (X : K.In h) (G : h.Ns mainGlobals mg) (c : He.SaysD fas dfs K) : Fk K mg (M P w) 26 := by
  obtain ⟨fd, F⟩ := c.def_ 20 (d := d26) rfl
  have F : FunD K d26.name d26.qual d26.params d26.body d26.scope [] [] (fa K 26) fd := F
  have e : fds K 26 = fd := fdAt_eq F
  refine ⟨mk_DefF F (tx26 P w) sc26 rfl (wf26 P w) rfl, ?_, F.kp, fun fn h => by cases h; rfl, fun _ => He.glo_ok X G (c.fact 20 (f := .glo "behind") rfl), (fun c2 z => by cases z)⟩
  rw [e]
  exact F.bindsN fun _ _ _ _ _ _ us hl => match us, hl with | [_, _], _ => rfl
theorem sc27 : FnScope (nv 27) (pss 27) (defScope (top 40)) := ⟨rfl, rfl, rfl, by decide +kernel, rfl, by decide +kernel, by decide +kernel⟩
theorem fk27 {K : PySem.W.Frag} {h : Heap} {mg : Str → Option Value} (P : Program) (w : World) (X : K.In h) (G : h.Ns mainGlobals mg) (c : He.SaysD fas dfs K) : Fk K mg (M P w) 27 := by
  obtain ⟨fd, F⟩ := c.def_ 21 (d := d27) rfl
  have F : FunD K d27.name d27.qual d27.params d27.body d27.scope [] [] (fa K 27) fd := F
  have e : fds K 27 = fd := fdAt_eq F
  refine ⟨mk_DefF F (tx27 P w) sc27 rfl (wf27 P w) rfl, ?_, F.kp, fun fn h => by cases h; rfl, fun _ => He.glo_ok X G (c.fact 21 (f := .glo "need_mix") rfl), (fun c2 z => by cases z)⟩
  rw [e]
  exact F.bindsN fun _ _ _ _ _ _ us hl => match us, hl with | [_], _ => rfl
theorem sc28 : FnScope (nv 28) (pss 28) (defScope (top 43)) := ⟨rfl, rfl, rfl, by decide +kernel, rfl, by decide +kernel, by decide +kernel⟩
theorem fk28 {K : PySem.W.Frag} {h : Heap} {mg : Str → Option Value} (P : Program) (w : World) (X : K.In h) (G : h.Ns mainGlobals mg) (c : He.SaysD fas dfs K) : Fk K mg (M P w) 28 := by
  obtain ⟨fd, F⟩ := c.def_ 22 (d := d28) rfl
  have F : FunD K d28.name d28.qual d28.params d28.body d28.scope [] [] (fa K 28) fd := F
  have e : fds K 28 = fd := fdAt_eq F
  refine ⟨mk_DefF F (tx28 P w) sc28 rfl (wf28 P w) rfl, ?_, F.kp, fun fn h => by cases h; rfl, fun _ => He.glo_ok X G (c.fact 22 (f := .glo "flat") rfl), (fun c2 z => by cases z)⟩
  rw [e]
  exact F.bindsN fun _ _ _ _ _ _ us hl => match us, hl with | [], _ => rfl
theorem sc29 : FnScope (nv 29) (pss 29) (defScope (top 44)) := ⟨rfl, rfl, rfl, by decide +kernel, rfl, by decide +kernel, by decide +kernel⟩
theorem fk29 {K : PySem.W.Frag} {h : Heap} {mg : Str → Option Value} (P : Program) (w : World) (X : K.In h) (G : h.Ns mainGlobals mg) (c : He.SaysD fas dfs K) : Fk K mg (M P w) 29 := by
  obtain ⟨fd, F⟩ := c.def_ 23 (d := d29) rfl
  have F : FunD K d29.name d29.qual d29.params d29.body d29.scope [] [] (fa K 29) fd := F
  have e : fds K 29 = fd := fdAt_eq F
  refine ⟨mk_DefF F (tx29 P w) sc29 rfl (wf29 P w) rfl, ?_, F.kp, fun fn h => by cases h; rfl, fun _ => He.glo_ok X G (c.fact 23 (f := .glo "sorted_fractions") rfl), (fun c2 z => by cases z)⟩
  rw [e]
  exact F.bindsN fun _ _ _ _ _ _ us hl => match us, hl with | [_], _ => rfl
theorem sc30 : FnScope (nv 30) (pss 30) (defScope (top 45)) := ⟨rfl, rfl, rfl, by decide +kernel, rfl, by decide +kernel, by decide +kernel⟩
theorem fk30 {K : PySem.W.Frag} {h : Heap} {mg : Str → Option Value} (P : Program) (w : World) (X : K.In h) (G : h.Ns mainGlobals mg) (c : He.SaysD fas dfs K) : Fk K mg (M P w) 30 := by
  obtain ⟨fd, F⟩ := c.def_ 24 (d := d30) rfl
  have F : FunD K d30.name d30.qual d30.params d30.body d30.scope [] [] (fa K 30) fd := F
  have e : fds K 30 = fd := fdAt_eq F
  refine ⟨mk_DefF F (tx30 P w) sc30 rfl (wf30 P w) rfl, ?_, F.kp, fun fn h => by cases h; rfl, fun _ => He.glo_ok X G (c.fact 24 (f := .glo "greatest") rfl), (fun c2 z => by cases z)⟩
  rw [e]
  exact F.bindsN fun _ _ _ _ _ _ us hl => match us, hl with | [_], _ => rfl
theorem sc31 : FnScope (nv 31) (pss 31) (defScope (top 46)) := ⟨rfl, rfl, rfl, by decide +kernel, rfl, by decide +kernel, by decide +kernel⟩
theorem fk31 {K : PySem.W.Frag} {h : Heap} {mg : Str → Option Value} (P : Program) (w : World) (X : K.In h) (G : h.Ns mainGlobals mg) (c : He.SaysD fas dfs K) : Fk K mg (M P w) 31 := by
  obtain ⟨fd, F⟩ := c.def_ 25 (d := d31) rfl
  have F : FunD K d31.name d31.qual d31.params d31.body d31.scope [] [] (fa K 31) fd := F
  have e : fds K 31 = fd := fdAt_eq F
  refine ⟨mk_DefF F (tx31 P w) sc31 rfl (wf31 P w) rfl, ?_, F.kp, fun fn h => by cases h; rfl, fun _ => He.glo_ok X G (c.fact 25 (f := .glo "meeting") rfl), (fun c2 z => by cases z)⟩
  rw [e]
  exact F.bindsN fun _ _ _ _ _ _ us hl => match us, hl with | [_, _, _], _ => rfl
theorem sc32 : FnScope (nv 32) (pss 32) (defScope (top 47)) := ⟨rfl, rfl, rfl, by decide +kernel, rfl, by decide +kernel, by decide +kernel⟩
theorem fk32 {K : PySem.W.Frag} {h : Heap} {mg : Str → Option Value} (P : Program) (w : World) (X : K.In h) (G : h.Ns mainGlobals mg) (c : He.SaysD fas dfs K) : Fk K mg (M P w) 32 := by
  obtain ⟨fd, F⟩ := c.def_ 26 (d := d32) rfl
  have F : FunD K d32.name d32.qual d32.params d32.body d32.scope [] [] (fa K 32) fd := F
  have e : fds K 32 = fd := fdAt_eq F
  refine ⟨mk_DefF F (tx32 P w) sc32 rfl (wf32 P w) rfl, ?_, F.kp, fun fn h => by cases h; rfl, fun _ => He.glo_ok X G (c.fact 26 (f := .glo "piece_at") rfl), (fun c2 z => by cases z)⟩
  rw [e]
  exact F.bindsN fun _ _ _ _ _ _ us hl => match us, hl with | [_, _], _ => rfl
theorem sc33 : FnScope (nv 33) (pss 33) (defScope (top 48)) := ⟨rfl, rfl, rfl, by decide +kernel, rfl, by decide +kernel, by decide +kernel⟩
theorem fk33 {K : PySem.W.Frag} {h : Heap} {mg : Str → Option Value} (P : Program) (w : World) (X : K.In h) (G : h.Ns mainGlobals mg) (c : He.SaysD fas dfs K) : Fk K mg (M P w) 33 := by
  obtain ⟨fd, F⟩ := c.def_ 27 (d := d33) rfl
  have F : FunD K d33.name d33.qual d33.params d33.body d33.scope [] [] (fa K 33) fd := F
  have e : fds K 33 = fd := fdAt_eq F
  refine ⟨mk_DefF F (tx33 P w) sc33 rfl (wf33 P w) rfl, ?_, F.kp, fun fn h => by cases h; rfl, fun _ => He.glo_ok X G (c.fact 27 (f := .glo "height") rfl), (fun c2 z => by cases z)⟩
  rw [e]
  exact F.bindsN fun _ _ _ _ _ _ us hl => match us, hl with | [_, _], _ => rfl
theorem sc34 : FnScope (nv 34) (pss 34) (defScope (top 49)) := ⟨rfl, rfl, rfl, by decide +kernel, rfl, by decide +kernel, by decide +kernel⟩
theorem fk34 {K : PySem.W.Frag} {h : Heap} {mg : Str → Option Value} (P : Program) (w : World) (X : K.In h) (G : h.Ns mainGlobals mg) (c : He.SaysD fas dfs K) : Fk K mg (M P w) 34 := by
  obtain ⟨fd, F⟩ := c.def_ 28 (d := d34) rfl
  have F : FunD K d34.name d34.qual d34.params d34.body d34.scope [] [] (fa K 34) fd := F
  have e : fds K 34 = fd := fdAt_eq F
  refine ⟨mk_DefF F (tx34 P w) sc34 rfl (wf34 P w) rfl, ?_, F.kp, fun fn h => by cases h; rfl, fun _ => He.glo_ok X G (c.fact 28 (f := .glo "starts_of") rfl), (fun c2 z => by cases z)⟩
  rw [e]
  exact F.bindsN fun _ _ _ _ _ _ us hl => match us, hl with | [_], _ => rfl
theorem sc35 : FnScope (nv 35) (pss 35) (defScope (top 50)) := ⟨rfl, rfl, rfl, by decide +kernel, rfl, by decide +kernel, by decide +kernel⟩
theorem fk35 {K : PySem.W.Frag} {h : Heap} {mg : Str → Option Value} (P : Program) (w : World) (X : K.In h) (G : h.Ns mainGlobals mg) (c : He.SaysD fas dfs K) : Fk K mg (M P w) 35 := by
  obtain ⟨fd, F⟩ := c.def_ 29 (d := d35) rfl
  have F : FunD K d35.name d35.qual d35.params d35.body d35.scope [] [] (fa K 35) fd := F
  have e : fds K 35 = fd := fdAt_eq F
  refine ⟨mk_DefF F (tx35 P w) sc35 rfl (wf35 P w) rfl, ?_, F.kp, fun fn h => by cases h; rfl, fun _ => He.glo_ok X G (c.fact 29 (f := .glo "added") rfl), (fun c2 z => by cases z)⟩
  rw [e]
  exact F.bindsN fun _ _ _ _ _ _ us hl => match us, hl with | [_, _], _ => rfl
theorem sc36 : FnScope (nv 36) (pss 36) (defScope (top 51)) := ⟨rfl, rfl, rfl, by decide +kernel, rfl, by decide +kernel, by decide +kernel⟩
theorem fk36 {K : PySem.W.Frag} {h : Heap} {mg : Str → Option Value} (P : Program) (w : World) (X : K.In h) (G : h.Ns mainGlobals mg) (c : He.SaysD fas dfs K) : Fk K mg (M P w) 36 := by
  obtain ⟨fd, F⟩ := c.def_ 30 (d := d36) rfl
  have F : FunD K d36.name d36.qual d36.params d36.body d36.scope [] [] (fa K 36) fd := F
  have e : fds K 36 = fd := fdAt_eq F
  refine ⟨mk_DefF F (tx36 P w) sc36 rfl (wf36 P w) rfl, ?_, F.kp, fun fn h => by cases h; rfl, fun _ => He.glo_ok X G (c.fact 30 (f := .glo "stretched") rfl), (fun c2 z => by cases z)⟩
  rw [e]
  exact F.bindsN fun _ _ _ _ _ _ us hl => match us, hl with | [_, _], _ => rfl
theorem sc37 : FnScope (nv 37) (pss 37) (defScope (top 52)) := ⟨rfl, rfl, rfl, by decide +kernel, rfl, by decide +kernel, by decide +kernel⟩
theorem fk37 {K : PySem.W.Frag} {h : Heap} {mg : Str → Option Value} (P : Program) (w : World) (X : K.In h) (G : h.Ns mainGlobals mg) (c : He.SaysD fas dfs K) : Fk K mg (M P w) 37 := by
  obtain ⟨fd, F⟩ := c.def_ 31 (d := d37) rfl
  have F : FunD K d37.name d37.qual d37.params d37.body d37.scope [] [] (fa K 37) fd := F
  have e : fds K 37 = fd := fdAt_eq F
  refine ⟨mk_DefF F (tx37 P w) sc37 rfl (wf37 P w) rfl, ?_, F.kp, fun fn h => by cases h; rfl, fun _ => He.glo_ok X G (c.fact 31 (f := .glo "spot_behind") rfl), (fun c2 z => by cases z)⟩
  rw [e]
  exact F.bindsN fun _ _ _ _ _ _ us hl => match us, hl with | [_, _, _], _ => rfl
theorem sc38 : FnScope (nv 38) (pss 38) (defScope (mth 53 0)) := ⟨rfl, rfl, rfl, by decide +kernel, rfl, by decide +kernel, by decide +kernel⟩
theorem fk38 {K : PySem.W.Frag} {h : Heap} {mg : Str → Option Value} (P : Program) (w : World) (X : K.In h) (G : h.Ns mainGlobals mg) (c : He.SaysD fas dfs K) : Fk K mg (M P w) 38 := by
  obtain ⟨fd, F⟩ := c.def_ 32 (d := d38) rfl
  have F : FunD K d38.name d38.qual d38.params d38.body d38.scope [] [] (fa K 38) fd := F
  have e : fds K 38 = fd := fdAt_eq F
  refine ⟨mk_DefF F (tx38 P w) sc38 rfl (wf38 P w) rfl, ?_, F.kp, fun fn h => by cases h; rfl, (fun z => by cases z), (fun c2 z => by cases z; exact ⟨He.meth_ok (c.fact 55 (f := .meth "Worths" "__init__") rfl), He.cls_ok (c.fact 50 (f := .cls "Worths") rfl), nml_ne (x := "__init__") (by decide +kernel) (by decide +kernel)⟩)⟩
  rw [e]
  exact F.bindsN fun _ _ _ _ _ _ us hl => match us, hl with | [_, _], _ => rfl
theorem sc39 : FnScope (nv 39) (pss 39) (defScope (mth 53 1)) := ⟨rfl, rfl, rfl, by decide +kernel, rfl, by decide +kernel, by decide +kernel⟩
theorem fk39 {K : PySem.W.Frag} {h : Heap} {mg : Str → Option Value} (P : Program) (w : World) (X : K.In h) (G : h.Ns mainGlobals mg) (c : He.SaysD fas dfs K) : Fk K mg (M P w) 39 := by
  obtain ⟨fd, F⟩ := c.def_ 33 (d := d39) rfl
  have F : FunD K d39.name d39.qual d39.params d39.body d39.scope [] [] (fa K 39) fd := F
  have e : fds K 39 = fd := fdAt_eq F
  refine ⟨mk_DefF F (tx39 P w) sc39 rfl (wf39 P w) rfl, ?_, F.kp, fun fn h => by cases h; rfl, (fun z => by cases z), (fun c2 z => by cases z; exact ⟨He.meth_ok (c.fact 56 (f := .meth "Worths" "done_first") rfl), He.cls_ok (c.fact 50 (f := .cls "Worths") rfl), nml_ne (x := "done_first") (by decide +kernel) (by decide +kernel)⟩)⟩
  rw [e]
  exact F.bindsN fun _ _ _ _ _ _ us hl => match us, hl with | [_, _, _, _], _ => rfl
theorem sc40 : FnScope (nv 40) (pss 40) (defScope (mth 53 2)) := ⟨rfl, rfl, rfl, by decide +kernel, rfl, by decide +kernel, by decide +kernel⟩
theorem fk40 {K : PySem.W.Frag} {h : Heap} {mg : Str → Option Value} (P : Program) (w : World) (X : K.In h) (G : h.Ns mainGlobals mg) (c : He.SaysD fas dfs K) : Fk K mg (M P w) 40 := by
  obtain ⟨fd, F⟩ := c.def_ 34 (d := d40) rfl
  have F : FunD K d40.name d40.qual d40.params d40.body d40.scope [] [] (fa K 40) fd := F
  have e : fds K 40 = fd := fdAt_eq F
  refine ⟨mk_DefF F (tx40 P w) sc40 rfl (wf40 P w) rfl, ?_, F.kp, fun fn h => by cases h; rfl, (fun z => by cases z), (fun c2 z => by cases z; exact ⟨He.meth_ok (c.fact 57 (f := .meth "Worths" "first_deeds") rfl), He.cls_ok (c.fact 50 (f := .cls "Worths") rfl), nml_ne (x := "first_deeds") (by decide +kernel) (by decide +kernel)⟩)⟩
  rw [e]
  exact F.bindsN fun _ _ _ _ _ _ us hl => match us, hl with | [_, _], _ => rfl
theorem sc41 : FnScope (nv 41) (pss 41) (defScope (mth 53 3)) := ⟨rfl, rfl, rfl, by decide +kernel, rfl, by decide +kernel, by decide +kernel⟩
theorem fk41 {K : PySem.W.Frag} {h : Heap} {mg : Str → Option Value} (P : Program) (w : World) (X : K.In h) (G : h.Ns mainGlobals mg) (c : He.SaysD fas dfs K) : Fk K mg (M P w) 41 := by
  obtain ⟨fd, F⟩ := c.def_ 35 (d := d41) rfl
  have F : FunD K d41.name d41.qual d41.params d41.body d41.scope [] [] (fa K 41) fd := F
  have e : fds K 41 = fd := fdAt_eq F
  refine ⟨mk_DefF F (tx41 P w) sc41 rfl (wf41 P w) rfl, ?_, F.kp, fun fn h => by cases h; rfl, (fun z => by cases z), (fun c2 z => by cases z; exact ⟨He.meth_ok (c.fact 58 (f := .meth "Worths" "worth_pieces") rfl), He.cls_ok (c.fact 50 (f := .cls "Worths") rfl), nml_ne (x := "worth_pieces") (by decide +kernel) (by decide +kernel)⟩)⟩
  rw [e]
  exact F.bindsN fun _ _ _ _ _ _ us hl => match us, hl with | [_, _, _], _ => rfl
theorem sc42 : FnScope (nv 42) (pss 42) (defScope (top 54)) := ⟨rfl, rfl, rfl, by decide +kernel, rfl, by decide +kernel, by decide +kernel⟩
theorem fk42 {K : PySem.W.Frag} {h : Heap} {mg : Str → Option Value} (P : Program) (w : World) (X : K.In h) (G : h.Ns mainGlobals mg) (c : He.SaysD fas dfs K) : Fk K mg (M P w) 42 := by
  obtain ⟨fd, F⟩ := c.def_ 36 (d := d42) rfl
  have F : FunD K d42.name d42.qual d42.params d42.body d42.scope [] [] (fa K 42) fd := F
  have e : fds K 42 = fd := fdAt_eq F
  refine ⟨mk_DefF F (tx42 P w) sc42 rfl (wf42 P w) rfl, ?_, F.kp, fun fn h => by cases h; rfl, fun _ => He.glo_ok X G (c.fact 32 (f := .glo "need_few") rfl), (fun c2 z => by cases z)⟩
  rw [e]
  exact F.bindsN fun _ _ _ _ _ _ us hl => match us, hl with | [_], _ => rfl
theorem sc43 : FnScope (nv 43) (pss 43) (defScope (top 55)) := ⟨rfl, rfl, rfl, by decide +kernel, rfl, by decide +kernel, by decide +kernel⟩
theorem fk43 {K : PySem.W.Frag} {h : Heap} {mg : Str → Option Value} (P : Program) (w : World) (X : K.In h) (G : h.Ns mainGlobals mg) (c : He.SaysD fas dfs K) : Fk K mg (M P w) 43 := by
  obtain ⟨fd, F⟩ := c.def_ 37 (d := d43) rfl
  have F : FunD K d43.name d43.qual d43.params d43.body d43.scope [] [] (fa K 43) fd := F
  have e : fds K 43 = fd := fdAt_eq F
  refine ⟨mk_DefF F (tx43 P w) sc43 rfl (wf43 P w) rfl, ?_, F.kp, fun fn h => by cases h; rfl, fun _ => He.glo_ok X G (c.fact 33 (f := .glo "need_span") rfl), (fun c2 z => by cases z)⟩
  rw [e]
  exact F.bindsN fun _ _ _ _ _ _ us hl => match us, hl with | [_, _, _], _ => rfl
theorem sc44 : FnScope (nv 44) (pss 44) (defScope (top 56)) := ⟨rfl, rfl, rfl, by decide +kernel, rfl, by decide +kernel, by decide +kernel⟩
theorem fk44 {K : PySem.W.Frag} {h : Heap} {mg : Str → Option Value} (P : Program) (w : World) (X : K.In h) (G : h.Ns mainGlobals mg) (c : He.SaysD fas dfs K) : Fk K mg (M P w) 44 := by
  obtain ⟨fd, F⟩ := c.def_ 38 (d := d44) rfl
  have F : FunD K d44.name d44.qual d44.params d44.body d44.scope [] [] (fa K 44) fd := F
  have e : fds K 44 = fd := fdAt_eq F
  refine ⟨mk_DefF F (tx44 P w) sc44 rfl (wf44 P w) rfl, ?_, F.kp, fun fn h => by cases h; rfl, fun _ => He.glo_ok X G (c.fact 34 (f := .glo "pieces") rfl), (fun c2 z => by cases z)⟩
  rw [e]
  exact F.bindsN fun _ _ _ _ _ _ us hl => match us, hl with | [_, _, _], _ => rfl
theorem sc45 : FnScope (nv 45) (pss 45) (defScope (top 57)) := ⟨rfl, rfl, rfl, by decide +kernel, rfl, by decide +kernel, by decide +kernel⟩
theorem fk45 {K : PySem.W.Frag} {h : Heap} {mg : Str → Option Value} (P : Program) (w : World) (X : K.In h) (G : h.Ns mainGlobals mg) (c : He.SaysD fas dfs K) : Fk K mg (M P w) 45 := by
  obtain ⟨fd, F⟩ := c.def_ 39 (d := d45) rfl
  have F : FunD K d45.name d45.qual d45.params d45.body d45.scope [] [] (fa K 45) fd := F
  have e : fds K 45 = fd := fdAt_eq F
  refine ⟨mk_DefF F (tx45 P w) sc45 rfl (wf45 P w) rfl, ?_, F.kp, fun fn h => by cases h; rfl, fun _ => He.glo_ok X G (c.fact 35 (f := .glo "turns") rfl), (fun c2 z => by cases z)⟩
  rw [e]
  exact F.bindsN fun _ _ _ _ _ _ us hl => match us, hl with | [_, _, _], _ => rfl
theorem sc46 : FnScope (nv 46) (pss 46) (defScope (top 58)) := ⟨rfl, rfl, rfl, by decide +kernel, rfl, by decide +kernel, by decide +kernel⟩
theorem fk46 {K : PySem.W.Frag} {h : Heap} {mg : Str → Option Value} (P : Program) (w : World) (X : K.In h) (G : h.Ns mainGlobals mg) (c : He.SaysD fas dfs K) : Fk K mg (M P w) 46 := by
  obtain ⟨fd, F⟩ := c.def_ 40 (d := d46) rfl
  have F : FunD K d46.name d46.qual d46.params d46.body d46.scope [] [] (fa K 46) fd := F
  have e : fds K 46 = fd := fdAt_eq F
  refine ⟨mk_DefF F (tx46 P w) sc46 rfl (wf46 P w) rfl, ?_, F.kp, fun fn h => by cases h; rfl, fun _ => He.glo_ok X G (c.fact 36 (f := .glo "need_value") rfl), (fun c2 z => by cases z)⟩
  rw [e]
  exact F.bindsN fun _ _ _ _ _ _ us hl => match us, hl with | [_], _ => rfl
theorem sc47 : FnScope (nv 47) (pss 47) (defScope (top 59)) := ⟨rfl, rfl, rfl, by decide +kernel, rfl, by decide +kernel, by decide +kernel⟩
theorem fk47 {K : PySem.W.Frag} {h : Heap} {mg : Str → Option Value} (P : Program) (w : World) (X : K.In h) (G : h.Ns mainGlobals mg) (c : He.SaysD fas dfs K) : Fk K mg (M P w) 47 := by
  obtain ⟨fd, F⟩ := c.def_ 41 (d := d47) rfl
  have F : FunD K d47.name d47.qual d47.params d47.body d47.scope [] [] (fa K 47) fd := F
  have e : fds K 47 = fd := fdAt_eq F
  refine ⟨mk_DefF F (tx47 P w) sc47 rfl (wf47 P w) rfl, ?_, F.kp, fun fn h => by cases h; rfl, fun _ => He.glo_ok X G (c.fact 37 (f := .glo "all_firsts") rfl), (fun c2 z => by cases z)⟩
  rw [e]
  exact F.bindsN fun _ _ _ _ _ _ us hl => match us, hl with | [_, _, _], _ => rfl
theorem sc48 : FnScope (nv 48) (pss 48) (defScope (top 60)) := ⟨rfl, rfl, rfl, by decide +kernel, rfl, by decide +kernel, by decide +kernel⟩
theorem fk48 {K : PySem.W.Frag} {h : Heap} {mg : Str → Option Value} (P : Program) (w : World) (X : K.In h) (G : h.Ns mainGlobals mg) (c : He.SaysD fas dfs K) : Fk K mg (M P w) 48 := by
  obtain ⟨fd, F⟩ := c.def_ 42 (d := d48) rfl
  have F : FunD K d48.name d48.qual d48.params d48.body d48.scope [] [] (fa K 48) fd := F
  have e : fds K 48 = fd := fdAt_eq F
  refine ⟨mk_DefF F (tx48 P w) sc48 rfl (wf48 P w) rfl, ?_, F.kp, fun fn h => by cases h; rfl, fun _ => He.glo_ok X G (c.fact 38 (f := .glo "best_at") rfl), (fun c2 z => by cases z)⟩
  rw [e]
  exact F.bindsN fun _ _ _ _ _ _ us hl => match us, hl with | [_, _, _], _ => rfl
theorem sc49 : FnScope (nv 49) (pss 49) (defScope (top 61)) := ⟨rfl, rfl, rfl, by decide +kernel, rfl, by decide +kernel, by decide +kernel⟩
theorem fk49 {K : PySem.W.Frag} {h : Heap} {mg : Str → Option Value} (P : Program) (w : World) (X : K.In h) (G : h.Ns mainGlobals mg) (c : He.SaysD fas dfs K) : Fk K mg (M P w) 49 := by
  obtain ⟨fd, F⟩ := c.def_ 43 (d := d49) rfl
  have F : FunD K d49.name d49.qual d49.params d49.body d49.scope [] [] (fa K 49) fd := F
  have e : fds K 49 = fd := fdAt_eq F
  refine ⟨mk_DefF F (tx49 P w) sc49 rfl (wf49 P w) rfl, ?_, F.kp, fun fn h => by cases h; rfl, fun _ => He.glo_ok X G (c.fact 39 (f := .glo "between") rfl), (fun c2 z => by cases z)⟩
  rw [e]
  exact F.bindsN fun _ _ _ _ _ _ us hl => match us, hl with | [_, _], _ => rfl
theorem sc50 : FnScope (nv 50) (pss 50) (defScope (top 62)) := ⟨rfl, rfl, rfl, by decide +kernel, rfl, by decide +kernel, by decide +kernel⟩
theorem fk50 {K : PySem.W.Frag} {h : Heap} {mg : Str → Option Value} (P : Program) (w : World) (X : K.In h) (G : h.Ns mainGlobals mg) (c : He.SaysD fas dfs K) : Fk K mg (M P w) 50 := by
  obtain ⟨fd, F⟩ := c.def_ 44 (d := d50) rfl
  have F : FunD K d50.name d50.qual d50.params d50.body d50.scope [] [] (fa K 50) fd := F
  have e : fds K 50 = fd := fdAt_eq F
  refine ⟨mk_DefF F (tx50 P w) sc50 rfl (wf50 P w) rfl, ?_, F.kp, fun fn h => by cases h; rfl, fun _ => He.glo_ok X G (c.fact 40 (f := .glo "firsts") rfl), (fun c2 z => by cases z)⟩
  rw [e]
  exact F.bindsN fun _ _ _ _ _ _ us hl => match us, hl with | [_, _, _], _ => rfl
theorem sc51 : FnScope (nv 51) (pss 51) (defScope (top 63)) := ⟨rfl, rfl, rfl, by decide +kernel, rfl, by decide +kernel, by decide +kernel⟩
theorem fk51 {K : PySem.W.Frag} {h : Heap} {mg : Str → Option Value} (P : Program) (w : World) (X : K.In h) (G : h.Ns mainGlobals mg) (c : He.SaysD fas dfs K) : Fk K mg (M P w) 51 := by
  obtain ⟨fd, F⟩ := c.def_ 45 (d := d51) rfl
  have F : FunD K d51.name d51.qual d51.params d51.body d51.scope [] [] (fa K 51) fd := F
  have e : fds K 51 = fd := fdAt_eq F
  refine ⟨mk_DefF F (tx51 P w) sc51 rfl (wf51 P w) rfl, ?_, F.kp, fun fn h => by cases h; rfl, fun _ => He.glo_ok X G (c.fact 41 (f := .glo "need_range") rfl), (fun c2 z => by cases z)⟩
  rw [e]
  exact F.bindsN fun _ _ _ _ _ _ us hl => match us, hl with | [_, _], _ => rfl
theorem sc52 : FnScope (nv 52) (pss 52) (defScope (top 64)) := ⟨rfl, rfl, rfl, by decide +kernel, rfl, by decide +kernel, by decide +kernel⟩
theorem fk52 {K : PySem.W.Frag} {h : Heap} {mg : Str → Option Value} (P : Program) (w : World) (X : K.In h) (G : h.Ns mainGlobals mg) (c : He.SaysD fas dfs K) : Fk K mg (M P w) 52 := by
  obtain ⟨fd, F⟩ := c.def_ 46 (d := d52) rfl
  have F : FunD K d52.name d52.qual d52.params d52.body d52.scope [] [] (fa K 52) fd := F
  have e : fds K 52 = fd := fdAt_eq F
  refine ⟨mk_DefF F (tx52 P w) sc52 rfl (wf52 P w) rfl, ?_, F.kp, fun fn h => by cases h; rfl, fun _ => He.glo_ok X G (c.fact 42 (f := .glo "regret_of") rfl), (fun c2 z => by cases z)⟩
  rw [e]
  exact F.bindsN fun _ _ _ _ _ _ us hl => match us, hl with | [_, _, _, _], _ => rfl
theorem sc53 : FnScope (nv 53) (pss 53) (defScope (top 65)) := ⟨rfl, rfl, rfl, by decide +kernel, rfl, by decide +kernel, by decide +kernel⟩
theorem fk53 {K : PySem.W.Frag} {h : Heap} {mg : Str → Option Value} (P : Program) (w : World) (X : K.In h) (G : h.Ns mainGlobals mg) (c : He.SaysD fas dfs K) : Fk K mg (M P w) 53 := by
  obtain ⟨fd, F⟩ := c.def_ 47 (d := d53) rfl
  have F : FunD K d53.name d53.qual d53.params d53.body d53.scope [] [] (fa K 53) fd := F
  have e : fds K 53 = fd := fdAt_eq F
  refine ⟨mk_DefF F (tx53 P w) sc53 rfl (wf53 P w) rfl, ?_, F.kp, fun fn h => by cases h; rfl, fun _ => He.glo_ok X G (c.fact 43 (f := .glo "regret") rfl), (fun c2 z => by cases z)⟩
  rw [e]
  exact F.bindsN fun _ _ _ _ _ _ us hl => match us, hl with | [_, _, _, _, _, _], _ => rfl
theorem sc54 : FnScope (nv 54) (pss 54) (defScope (top 66)) := ⟨rfl, rfl, rfl, by decide +kernel, rfl, by decide +kernel, by decide +kernel⟩
theorem fk54 {K : PySem.W.Frag} {h : Heap} {mg : Str → Option Value} (P : Program) (w : World) (X : K.In h) (G : h.Ns mainGlobals mg) (c : He.SaysD fas dfs K) : Fk K mg (M P w) 54 := by
  obtain ⟨fd, F⟩ := c.def_ 48 (d := d54) rfl
  have F : FunD K d54.name d54.qual d54.params d54.body d54.scope [] [] (fa K 54) fd := F
  have e : fds K 54 = fd := fdAt_eq F
  refine ⟨mk_DefF F (tx54 P w) sc54 rfl (wf54 P w) rfl, ?_, F.kp, fun fn h => by cases h; rfl, fun _ => He.glo_ok X G (c.fact 44 (f := .glo "guard") rfl), (fun c2 z => by cases z)⟩
  rw [e]
  exact F.bindsN fun _ _ _ _ _ _ us hl => match us, hl with | [_, _, _, _, _], _ => rfl
theorem sc55 : FnScope (nv 55) (pss 55) (defScope (top 68)) := ⟨rfl, rfl, rfl, by decide +kernel, rfl, by decide +kernel, by decide +kernel⟩
theorem fk55 {K : PySem.W.Frag} {h : Heap} {mg : Str → Option Value} (P : Program) (w : World) (X : K.In h) (G : h.Ns mainGlobals mg) (c : He.SaysD fas dfs K) : Fk K mg (M P w) 55 := by
  obtain ⟨fd, F⟩ := c.def_ 49 (d := d55) rfl
  have F : FunD K d55.name d55.qual d55.params d55.body d55.scope [] [] (fa K 55) fd := F
  have e : fds K 55 = fd := fdAt_eq F
  refine ⟨mk_DefF F (tx55 P w) sc55 rfl (wf55 P w) rfl, ?_, F.kp, fun fn h => by cases h; rfl, fun _ => He.glo_ok X G (c.fact 45 (f := .glo "_law_tape") rfl), (fun c2 z => by cases z)⟩
  rw [e]
  exact F.bindsN fun _ _ _ _ _ _ us hl => match us, hl with | [_, _], _ => rfl
theorem sc56 : FnScope (nv 56) (pss 56) (defScope (top 69)) := ⟨rfl, rfl, rfl, by decide +kernel, rfl, by decide +kernel, by decide +kernel⟩
theorem fk56 {K : PySem.W.Frag} {h : Heap} {mg : Str → Option Value} (P : Program) (w : World) (X : K.In h) (G : h.Ns mainGlobals mg) (c : He.SaysD fas dfs K) : Fk K mg (M P w) 56 := by
  obtain ⟨fd, F⟩ := c.def_ 50 (d := d56) rfl
  have F : FunD K d56.name d56.qual d56.params d56.body d56.scope [] [] (fa K 56) fd := F
  have e : fds K 56 = fd := fdAt_eq F
  refine ⟨mk_DefF F (tx56 P w) sc56 rfl (wf56 P w) rfl, ?_, F.kp, fun fn h => by cases h; rfl, fun _ => He.glo_ok X G (c.fact 46 (f := .glo "_law_pick") rfl), (fun c2 z => by cases z)⟩
  rw [e]
  exact F.bindsN fun _ _ _ _ _ _ us hl => match us, hl with | [_, _], _ => rfl
theorem sc57 : FnScope (nv 57) (pss 57) (defScope (top 70)) := ⟨rfl, rfl, rfl, by decide +kernel, rfl, by decide +kernel, by decide +kernel⟩
theorem fk57 {K : PySem.W.Frag} {h : Heap} {mg : Str → Option Value} (P : Program) (w : World) (X : K.In h) (G : h.Ns mainGlobals mg) (c : He.SaysD fas dfs K) : Fk K mg (M P w) 57 := by
  obtain ⟨fd, F⟩ := c.def_ 51 (d := d57) rfl
  have F : FunD K d57.name d57.qual d57.params d57.body d57.scope [] [] (fa K 57) fd := F
  have e : fds K 57 = fd := fdAt_eq F
  refine ⟨mk_DefF F (tx57 P w) sc57 rfl (wf57 P w) rfl, ?_, F.kp, fun fn h => by cases h; rfl, fun _ => He.glo_ok X G (c.fact 47 (f := .glo "_law_four_right") rfl), (fun c2 z => by cases z)⟩
  rw [e]
  exact F.bindsN fun _ _ _ _ _ _ us hl => match us, hl with | [], _ => rfl
theorem sc58 : FnScope (nv 58) (pss 58) (defScope (top 71)) := ⟨rfl, rfl, rfl, by decide +kernel, rfl, by decide +kernel, by decide +kernel⟩
theorem fk58 {K : PySem.W.Frag} {h : Heap} {mg : Str → Option Value} (P : Program) (w : World) (X : K.In h) (G : h.Ns mainGlobals mg) (c : He.SaysD fas dfs K) : Fk K mg (M P w) 58 := by
  obtain ⟨fd, F⟩ := c.def_ 52 (d := d58) rfl
  have F : FunD K d58.name d58.qual d58.params d58.body d58.scope [] [] (fa K 58) fd := F
  have e : fds K 58 = fd := fdAt_eq F
  refine ⟨mk_DefF F (tx58 P w) sc58 rfl (wf58 P w) rfl, ?_, F.kp, fun fn h => by cases h; rfl, fun _ => He.glo_ok X G (c.fact 48 (f := .glo "law") rfl), (fun c2 z => by cases z)⟩
  rw [e]
  exact F.bindsN fun _ _ _ _ _ _ us hl => match us, hl with | [_], _ => rfl
theorem fk {K : PySem.W.Frag} {h : Heap} {mg : Str → Option Value} (P : Program) (w : World) (X : K.In h) (G : h.Ns mainGlobals mg) (c : He.SaysD fas dfs K) (f : Nat) (h : T.kind f ≠ .no) : Fk K mg (M P w) f := by
  have hf : f < 59 := by
    have h : kd f ≠ .no := h
    unfold kd at h
    by_cases a : f < 59
    · exact a
    · rw [List.getElem?_eq_none (by show 59 ≤ f; omega)] at h
      exact absurd rfl h
  match f, hf, h with
  | 0, _, h => exact absurd rfl h
  | 1, _, h => exact absurd rfl h
  | 2, _, h => exact absurd rfl h
  | 3, _, h => exact absurd rfl h
  | 4, _, h => exact absurd rfl h
  | 5, _, h => exact absurd rfl h
  | 6, _, h => exact fk6 P w X G c
  | 7, _, h => exact fk7 P w X G c
  | 8, _, h => exact fk8 P w X G c
  | 9, _, h => exact fk9 P w X G c
  | 10, _, h => exact fk10 P w X G c
  | 11, _, h => exact fk11 P w X G c
  | 12, _, h => exact fk12 P w X G c
  | 13, _, h => exact fk13 P w X G c
  | 14, _, h => exact fk14 P w X G c
  | 15, _, h => exact fk15 P w X G c
  | 16, _, h => exact fk16 P w X G c
  | 17, _, h => exact fk17 P w X G c
  | 18, _, h => exact fk18 P w X G c
  | 19, _, h => exact fk19 P w X G c
  | 20, _, h => exact fk20 P w X G c
  | 21, _, h => exact fk21 P w X G c
  | 22, _, h => exact fk22 P w X G c
  | 23, _, h => exact fk23 P w X G c
  | 24, _, h => exact fk24 P w X G c
  | 25, _, h => exact fk25 P w X G c
  | 26, _, h => exact fk26 P w X G c
  | 27, _, h => exact fk27 P w X G c
  | 28, _, h => exact fk28 P w X G c
  | 29, _, h => exact fk29 P w X G c
  | 30, _, h => exact fk30 P w X G c
  | 31, _, h => exact fk31 P w X G c
  | 32, _, h => exact fk32 P w X G c
  | 33, _, h => exact fk33 P w X G c
  | 34, _, h => exact fk34 P w X G c
  | 35, _, h => exact fk35 P w X G c
  | 36, _, h => exact fk36 P w X G c
  | 37, _, h => exact fk37 P w X G c
  | 38, _, h => exact fk38 P w X G c
  | 39, _, h => exact fk39 P w X G c
  | 40, _, h => exact fk40 P w X G c
  | 41, _, h => exact fk41 P w X G c
  | 42, _, h => exact fk42 P w X G c
  | 43, _, h => exact fk43 P w X G c
  | 44, _, h => exact fk44 P w X G c
  | 45, _, h => exact fk45 P w X G c
  | 46, _, h => exact fk46 P w X G c
  | 47, _, h => exact fk47 P w X G c
  | 48, _, h => exact fk48 P w X G c
  | 49, _, h => exact fk49 P w X G c
  | 50, _, h => exact fk50 P w X G c
  | 51, _, h => exact fk51 P w X G c
  | 52, _, h => exact fk52 P w X G c
  | 53, _, h => exact fk53 P w X G c
  | 54, _, h => exact fk54 P w X G c
  | 55, _, h => exact fk55 P w X G c
  | 56, _, h => exact fk56 P w X G c
  | 57, _, h => exact fk57 P w X G c
  | 58, _, h => exact fk58 P w X G c
  | n + 59, hf, _ => omega
theorem tf {K : PySem.W.Frag} {h : Heap} {mg : Str → Option Value} (P : Program) (w : World) (X : K.In h) (G : h.Ns mainGlobals mg) (c : He.SaysD fas dfs K) (ce : exs K = true) : TF K mg (M P w) T (fa K) (ca K) (fds K) pss := by
  refine ⟨fun f hf => ?_, fun f hf => (fk P w X G c f hf).bd, fun f c2 hf => (fk P w X G c f (by rw [hf]; exact fun z => by cases z)).mt c2 hf, fun c2 f hf => ?_, fun c2 g hg => ?_, fun g d e => ?_, fun b => ?_, fun b => ?_, fun f fn => ?_⟩
  · have q := fk P w X G c f (by rw [hf]; exact fun z => by cases z)
    exact ⟨q.gl hf, q.kp⟩
  · have hf : (if c2 = 7 then some 38 else none) = some f := hf
    by_cases e7 : c2 = 7
    · subst e7
      cases hf
      exact ⟨He.glo_ok X G (c.fact 49 (f := .glo "Worths") rfl), He.mkr_ok (c.fact 51 (f := .mkr "Worths") rfl), fun z => by cases z⟩
    rw [if_neg e7] at hf
    cases hf
  · have hg : ((c2 == 7 && decide (g < 3))) = true := hg
    obtain ⟨h1, h2⟩ := ba hg
    have h1 : c2 = 7 := beq_iff_eq.mp h1
    have h2 : g < 3 := of_decide_eq_true h2
    subst h1
    refine ⟨He.cls_ok (c.fact 50 (f := .cls "Worths") rfl), ?_, fun g' e => nml_inj h2 (by decide +kernel) (by decide +kernel) e⟩
    match g, h2 with
    | 0, _ => exact He.noat_ok (c.fact 52 (f := .noat "Worths" "value") rfl)
    | 1, _ => exact He.noat_ok (c.fact 53 (f := .noat "Worths" "is_free") rfl)
    | 2, _ => exact He.noat_ok (c.fact 54 (f := .noat "Worths" "reckoned") rfl)
    | n + 3, h => omega
  · have ex := ce
    unfold exs at ex
    simp only [Bool.and_eq_true] at ex
    match g, e with
    | 0, e =>
      cases e
      exact ⟨_, .ref _, He.glo_ok X G (c.fact 79 (f := .glo "NOUGHT") rfl), rfl, fun w => by
        unfold Rep
        exact ⟨_, _, rfl, He.tupB_ok ex.1.2 w.H, Reps.cons (by unfold Rep; rfl) (Reps.cons (by unfold Rep; rfl) (Reps.nil))⟩⟩
    | 1, e =>
      cases e
      exact ⟨_, .ref _, He.glo_ok X G (c.fact 80 (f := .glo "WHOLE") rfl), rfl, fun w => by
        unfold Rep
        exact ⟨_, _, rfl, He.tupB_ok ex.2 w.H, Reps.cons (by unfold Rep; rfl) (Reps.cons (by unfold Rep; rfl) (Reps.nil))⟩⟩
    | 2, e =>
      cases e
      obtain ⟨t, q⟩ := He.int_ok X G (c.fact 81 (f := .int "MOST_OUTCOMES" (3)) rfl)
      exact ⟨_, .int (3), q, ⟨t, rfl⟩, fun w => by unfold Rep; rfl⟩
    | 3, e =>
      cases e
      obtain ⟨t, q⟩ := He.int_ok X G (c.fact 82 (f := .int "MOST_MEMBERS" (3)) rfl)
      exact ⟨_, .int (3), q, ⟨t, rfl⟩, fun w => by unfold Rep; rfl⟩
    | 4, e =>
      cases e
      obtain ⟨t, q⟩ := He.int_ok X G (c.fact 83 (f := .int "MOST_STEPS" (16)) rfl)
      exact ⟨_, .int (16), q, ⟨t, rfl⟩, fun w => by unfold Rep; rfl⟩
    | 5, e =>
      cases e
      obtain ⟨t, q⟩ := He.int_ok X G (c.fact 84 (f := .int "MOST_PARTS" (48)) rfl)
      exact ⟨_, .int (48), q, ⟨t, rfl⟩, fun w => by unfold Rep; rfl⟩
    | 6, e =>
      cases e
      obtain ⟨t, q⟩ := He.int_ok X G (c.fact 85 (f := .int "MOST_TERMS" (4)) rfl)
      exact ⟨_, .int (4), q, ⟨t, rfl⟩, fun w => by unfold Rep; rfl⟩
    | 7, e =>
      cases e
      obtain ⟨t, q⟩ := He.int_ok X G (c.fact 86 (f := .int "MOST_MIX_PARTS" (96)) rfl)
      exact ⟨_, .int (96), q, ⟨t, rfl⟩, fun w => by unfold Rep; rfl⟩
    | 8, e =>
      cases e
      obtain ⟨t, q⟩ := He.int_ok X G (c.fact 87 (f := .int "MOST_MIXES" (400)) rfl)
      exact ⟨_, .int (400), q, ⟨t, rfl⟩, fun w => by unfold Rep; rfl⟩
    | n + 9, e => cases e
  · match b with
    | 0 => exact He.free_ok X G (c.fact 59 (f := .free "len") rfl)
    | 1 => exact He.free_ok X G (c.fact 60 (f := .free "all") rfl)
    | 2 => exact He.free_ok X G (c.fact 61 (f := .free "any") rfl)
    | 3 => exact He.free_ok X G (c.fact 62 (f := .free "abs") rfl)
    | 4 => exact He.free_ok X G (c.fact 63 (f := .free "enumerate") rfl)
    | 5 => exact He.free_ok X G (c.fact 64 (f := .free "zip") rfl)
    | 6 => exact He.free_ok X G (c.fact 65 (f := .free "range") rfl)
    | 7 => exact He.free_ok X G (c.fact 66 (f := .free "int") rfl)
    | 8 => exact He.free_ok X G (c.fact 67 (f := .free "list") rfl)
    | 9 => exact He.free_ok X G (c.fact 68 (f := .free "tuple") rfl)
    | 10 => exact He.free_ok X G (c.fact 69 (f := .free "repr") rfl)
    | 11 => exact He.free_ok X G (c.fact 70 (f := .free "sum") rfl)
    | 12 => exact He.free_ok X G (c.fact 71 (f := .free "isinstance") rfl)
    | 13 => exact He.free_ok X G (c.fact 72 (f := .free "sorted") rfl)
    | 14 => exact He.free_ok X G (c.fact 73 (f := .free "max") rfl)
    | 15 => exact He.free_ok X G (c.fact 74 (f := .free "min") rfl)
    | 16 => exact He.free_ok X G (c.fact 75 (f := .free "str") rfl)
    | 17 => exact He.free_ok X G (c.fact 76 (f := .free "dict") rfl)
    | n + 18 => exact He.free_ok X G (c.fact 77 (f := .free "reversed") rfl)
  · match b with
    | 0 => exact He.free_ok X G (c.fact 66 (f := .free "int") rfl)
    | 1 => exact He.free_ok X G (c.fact 78 (f := .free "bool") rfl)
    | 2 => exact He.free_ok X G (c.fact 68 (f := .free "tuple") rfl)
    | 3 => exact He.free_ok X G (c.fact 75 (f := .free "str") rfl)
    | n + 4 => exact He.free_ok X G (c.fact 67 (f := .free "list") rfl)
  · exact fun h1 h2 => (fk P w X G c f h1).na fn h2
theorem lawbd {K : PySem.W.Frag} (c : He.SaysD fas dfs K) (s : Shared) (u : Value) : BindsTo s (fds K 58) ⟨[u], []⟩ [("_law_script", u)] := by
  obtain ⟨fd, F⟩ := c.def_ 52 (d := d58) rfl
  have F : FunD K d58.name d58.qual d58.params d58.body d58.scope [] [] (fa K 58) fd := F
  have e : fds K 58 = fd := fdAt_eq F
  rw [e]
  exact FunD.bindsA (ps := ["_law_script"]) F (fun _ _ _ _ _ _ us hl => match us, hl with | [_], _ => rfl) s [u] rfl
end K79
namespace K79
open PySem Ev Ew
local macro_rules | `(tactic| walk_at "tt") => `(tactic| first | rfl | (refine pr ?_; assumption) | (apply decide_eq_true; first | assumption | omega) | (apply notB_t; walk_at "ff"))
local macro_rules | `(tactic| walk_at "ff") => `(tactic| first | rfl | (refine pr ?_; assumption) | (apply decide_eq_false; first | assumption | omega) | (apply notB_f; walk_at "tt"))
local macro_rules | `(tactic| walk_at "bn") => `(tactic| first | (refine pr ?_; assumption) | (show Bn _ (OfNat.ofNat _); exact Bn.lit 64 rfl) | (apply Bn.mul; (focus walk_at "bn"); (focus walk_at "bn")) | (apply Bn.add; (focus walk_at "bn"); (focus walk_at "bn")) | (apply Bn.sub; (focus walk_at "bn"); (focus walk_at "bn")) | (apply Bn.pow; walk_at "bn") | (apply Bn.mod; (focus (first | decide | omega)); walk_at "bn") | (apply Bn.div; (focus (first | decide | omega)); walk_at "bn"))
local macro_rules | `(tactic| walk_at "ev1") => `(tactic| first
  | ((show (W _).e _ _ _ _ = _); first | (refine pr ?_; assumption) | exact x_num | exact x_str | exact x_cb | exact x_cn | exact x_varv rfl | apply x_bin | apply x_cmp | (apply x_idxT <;> walk_at "ev!") | (apply x_idxL <;> walk_at "ev!") | (apply x_idxK <;> walk_at "ev!") | apply x_max | apply x_min | apply x_isi | apply x_b1 | apply x_and1 | apply x_and | apply x_or1 | apply x_or | apply x_ife | (apply x_t; (focus walk_at "tt")) | (apply x_f; (focus walk_at "ff")) | exact x_glob rfl | apply x_neg | apply x_not | apply x_tup | apply x_lst | (apply x_call <;> walk_at "ev!") | (apply x_callL <;> walk_at "ev!") | apply x_calh | apply x_new | apply x_mth | apply x_att | exact x_varl rfl rfl | apply x_dicS)
  | ((show O _ _ _ _ _ _ _ _); first | exact o_var rfl | apply o_nv | (refine pr ?_; assumption))
  | ((show Two _ _ _ _ _ _ _ _ _ _); first | apply two_v | apply two_n)
  | ((show opV _ _ _ = _); first | exact op_add | exact op_sub | (apply op_mulB; (focus walk_at "bn"); (focus walk_at "bn"); (focus (first | omega | decide))) | (apply op_mod; first | decide | omega) | (apply op_divB; (focus (first | decide | omega)); (focus (first | (show Bn _ (OfNat.ofNat _); exact Bn.lit 200 rfl) | exact Bn.mono (by assumption) (by omega)))) | (apply op_powB; (focus walk_at "bn"); (focus decide); (focus (first | decide | omega))) | (refine pr ?_; assumption) | rfl)
  | ((show cmpV _ _ _ = _); first | exact c_lt | exact c_le | exact c_gt | exact c_ge | exact c_eq | exact c_ne | (refine pr ?_; assumption) | rfl)
  | ((show Ss _ _ _ _ _ _); first | apply ss_asgV | apply ss_iff | (apply ss_t; (focus walk_at "tt")) | (apply ss_f; (focus walk_at "ff")) | exact ss_retV rfl | exact ss_retL rfl | apply ss_retE | apply ss_expE | apply ss_forE | apply ss_setKE | exact ss_0 | (refine pr ?_; assumption))
  | ((show Es _ _ _ _ _ _ _ _); first | exact es_0 | (apply es_sT <;> walk_at "ev!") | (apply es_sL <;> walk_at "ev!") | apply es_1)
  | ((show As _ _ _ _ _ _ _ _); first | exact as_0 | apply as_v | apply as_1)
  | ((show sel _ (_ : Res) _ = _); first | (apply r_t; (focus walk_at "tt")) | (apply r_f; (focus walk_at "ff")))
  | ((show walk _ _ _ _ _ = _); first | apply w_rng | (apply w_seqT <;> walk_at "ev!") | (apply w_seqL <;> walk_at "ev!") | (refine pr ?_; assumption))
  | ((show getH _ _ = _); first | (refine pr ?_; assumption) | (apply getH_set; walk_at "ev1") | exact getH_app | rfl)
  | ((show dicS _ _ _ _ _ _ = _); first | exact dic_0 | apply dic_1)
  | (simp only [put, setS]; rfl) | exact setH_set _ _ | (refine pr ?_; assumption) | rfl)
local macro_rules | `(tactic| walk_at "ev") => `(tactic| repeat' walk_at "ev1")
local macro_rules | `(tactic| walk_at "ev!") => `(tactic| ((repeat' walk_at "ev1"); done))
def kDig : D := .str [100, 105, 103, 105, 116, 115]
def kMix : D := .str [109, 105, 120, 101, 100]
def tape (a b : Int) : VO := .dK [(kDig, .int a), (kMix, .int b)]
theorem pick_ok {k : Nat} {h : Hs} {j : Nat} {n a b : Int} (hj : getH h j = some (tape a b)) (hn : 0 < n) (hn2 : Bn 60 n) (ha : 0 ≤ a) (hb : Bn 40 b) : ∃ q a' b', (W T).run k 56 [.ref j, .int n] h = .ok (.int q) false (setH (tape a' b') h j) ∧ 0 ≤ q ∧ q < n ∧ 0 ≤ a' ∧ Bn 40 b' := by
  by_cases ha2 : n ≤ a
  · refine ⟨a % n, a / n, b, ?_, Int.emod_nonneg _ (by omega), Int.emod_lt_of_pos _ hn, Int.ediv_nonneg ha (by omega), hb⟩
    apply run_rt gt56 (fun _ _ _ => rfl) rfl
    show Ss T k [.v (.ref j), .v (.int n), .u, .u] h f56.body _
    unfold f56
    dsimp only
    walk_at "ev"
  · refine ⟨(((b * 40014 + 1031) % 2147483563) ^ 2 % 2147483399) ^ 3 % 998244353 / 13 % n, a, (b * 40014 + 1031) % 2147483563, ?_, Int.emod_nonneg _ (by omega), Int.emod_lt_of_pos _ hn, ha, (Bn.mod (by decide) (Bn.lit 40 rfl))⟩
    apply run_rt gt56 (fun _ _ _ => rfl) rfl
    show Ss T k [.v (.ref j), .v (.int n), .u, .u] h f56.body _
    unfold f56
    dsimp only
    walk_at "ev"
def b55 : List St := match f55.body with | [_, .for_ _ _ b _, _, _] => b | _ => []
theorem tape_loop {k : Nat} {h : Hs} {p : Pos} {L i : D} : ∀ (ns : List Int) (x : Int) (s : Sl), (∀ z ∈ ns, Bn 1048577 z) → Bn 40 x → ∃ x' s', forL k (.var 3 p) (fun env h => ss (W T) k env h b55) [.v L, .v i, .v (.int x), s, .u] h (ns.map .int) = .nx [.v L, .v i, .v (.int x'), s', .u] h ∧ Bn 40 x'
  | [], x, s, _, hx => ⟨x, s, rfl, hx⟩
  | z :: ns, x, s, hz, hx => by
    have hz1 := hz z List.mem_cons_self
    obtain ⟨x', s', e, h'⟩ := tape_loop ns ((x * 30029 + z * z + 13) ^ 2 % 2147483563 + 2) (.v (.int z)) (fun y hy => hz y (List.mem_cons_of_mem _ hy)) ((Bn.add (Bn.mod (n := 35) (by decide) (Bn.lit 35 rfl)) (Bn.lit 3 rfl)).mono (by decide))
    refine ⟨x', s', ?_, h'⟩
    have st : Ss T k [.v L, .v i, .v (.int x), .v (.int z), .u] h b55 (.nx [.v L, .v i, .v (.int ((x * 30029 + z * z + 13) ^ 2 % 2147483563 + 2)), .v (.int z), .u] h) := by
      unfold b55 f55
      dsimp only
      walk_at "ev"
    unfold Ss at st
    simp only [List.map_cons, forL, tg, setS, st]
    exact e
theorem atL_map : ∀ {ns : List Int} {m : Nat} (h : m < ns.length), atL (ns.map D.int) m = some (.int ns[m])
  | _ :: _, 0, _ => rfl
  | _ :: r, m + 1, h => atL_map (ns := r) (m := m) (Nat.lt_of_succ_lt_succ h)
theorem tape_ok {k : Nat} {h : Hs} {ns : List Int} {i : Int} (hi : 0 ≤ i) (hi2 : i ≤ 60) (hz : ∀ z ∈ ns, Bn 1048577 z) : ∃ a b, (W T).run k 55 [.lst (ns.map .int), .int i] h = .ok (.ref h.length) false (h ++ [tape a b]) ∧ 0 ≤ a ∧ Bn 40 b := by
  have hib : Bn 10 i := by unfold Bn; omega
  obtain ⟨x, s, e, hx⟩ := tape_loop (k := k) (h := h) (p := ⟨305, 8, 305, 17⟩) (L := .lst (ns.map .int)) (i := .int i) ns (101 + i * 53) .u hz ((Bn.add (Bn.lit 7 rfl) (Bn.mul hib (Bn.lit 6 rfl))).mono (by decide))
  by_cases h1 : i < ((ns.map D.int).length : Int)
  · have hl : i.toNat < ns.length := by rw [List.length_map] at h1; omega
    have at1 : atI (ns.map .int) i = some (.int ns[i.toNat]) := by
      cases i with
      | negSucc m => omega
      | ofNat m => exact atL_map hl
    by_cases h2 : (10 : Int) ^ 18 ≤ ns[i.toNat]
    · refine ⟨ns[i.toNat] - 10 ^ 18, x, ?_, by omega, hx⟩
      apply run_rt gt55 (fun _ _ _ => rfl) rfl
      show Ss T k [.v (.lst (ns.map .int)), .v (.int i), .u, .u, .u] h f55.body _
      unfold f55
      dsimp only
      walk_at "ev"
    · refine ⟨0, x, ?_, by omega, hx⟩
      apply run_rt gt55 (fun _ _ _ => rfl) rfl
      show Ss T k [.v (.lst (ns.map .int)), .v (.int i), .u, .u, .u] h f55.body _
      unfold f55
      dsimp only
      walk_at "ev"
  · refine ⟨0, x, ?_, by omega, hx⟩
    apply run_rt gt55 (fun _ _ _ => rfl) rfl
    show Ss T k [.v (.lst (ns.map .int)), .v (.int i), .u, .u, .u] h f55.body _
    unfold f55
    dsimp only
    walk_at "ev"
end K79
namespace K79
open PySem Ev Ew
def kEnd : D := .tup [.str [101, 110, 100]]
def kStep : D := .str [115, 116, 101, 112]
def qf (a b : Int) : D := .tup [.int a, .int b]
def lone (m : Int) : D := .tup [.tup [kStep, qf m 1, .tup []]]
def two_ (m : Int) : D := .tup [.tup [kStep, qf 0 1, .tup [.tup [qf 1 2, kEnd]]], .tup [kStep, qf (2 * m) 1, .tup [.tup [qf 1 2, kEnd]]]]
def row_ (m : Int) : D := .tup [.tup [kStep, qf (0 - m) 1, .tup [.tup [qf 1 2, .tup [kStep, qf 0 1, .tup []]]]]]
def b58 : List St := match f58.body with | [_, .for_ _ _ b _, _] => b | _ => []
def rest10 : List St := (b58.drop 2).take 10
def env0 (L t : D) (i m : Int) (s5 s6 s7 s8 s9 : Sl) : Ev.Env := [.v L, .v kEnd, .v (.int i), .v t, .v (.int m), s5, s6, s7, s8, s9]
def env1 (L t : D) (i m : Int) : Ev.Env := env0 L t i m (.v (lone m)) (.v (two_ m)) (.v (qf 0 1)) (.v (qf (4 * m) 1)) (.v (row_ m))
theorem rest_1 (L t : D) (i : Int) (s5 s6 s7 s8 s9 : Sl) (h : Hs) : ss (ev T 600) 100 (env0 L t i 1 s5 s6 s7 s8 s9) h rest10 = .nx (env1 L t i 1) h := by kernel_rfl
theorem rest_2 (L t : D) (i : Int) (s5 s6 s7 s8 s9 : Sl) (h : Hs) : ss (ev T 600) 100 (env0 L t i 2 s5 s6 s7 s8 s9) h rest10 = .nx (env1 L t i 2) h := by kernel_rfl
theorem rest_3 (L t : D) (i : Int) (s5 s6 s7 s8 s9 : Sl) (h : Hs) : ss (ev T 600) 100 (env0 L t i 3 s5 s6 s7 s8 s9) h rest10 = .nx (env1 L t i 3) h := by kernel_rfl
theorem rest_4 (L t : D) (i : Int) (s5 s6 s7 s8 s9 : Sl) (h : Hs) : ss (ev T 600) 100 (env0 L t i 4 s5 s6 s7 s8 s9) h rest10 = .nx (env1 L t i 4) h := by kernel_rfl
theorem rest_5 (L t : D) (i : Int) (s5 s6 s7 s8 s9 : Sl) (h : Hs) : ss (ev T 600) 100 (env0 L t i 5 s5 s6 s7 s8 s9) h rest10 = .nx (env1 L t i 5) h := by kernel_rfl
theorem rest_6 (L t : D) (i : Int) (s5 s6 s7 s8 s9 : Sl) (h : Hs) : ss (ev T 600) 100 (env0 L t i 6 s5 s6 s7 s8 s9) h rest10 = .nx (env1 L t i 6) h := by kernel_rfl
theorem rest_7 (L t : D) (i : Int) (s5 s6 s7 s8 s9 : Sl) (h : Hs) : ss (ev T 600) 100 (env0 L t i 7 s5 s6 s7 s8 s9) h rest10 = .nx (env1 L t i 7) h := by kernel_rfl
theorem rest_8 (L t : D) (i : Int) (s5 s6 s7 s8 s9 : Sl) (h : Hs) : ss (ev T 600) 100 (env0 L t i 8 s5 s6 s7 s8 s9) h rest10 = .nx (env1 L t i 8) h := by kernel_rfl
theorem rest_9 (L t : D) (i : Int) (s5 s6 s7 s8 s9 : Sl) (h : Hs) : ss (ev T 600) 100 (env0 L t i 9 s5 s6 s7 s8 s9) h rest10 = .nx (env1 L t i 9) h := by kernel_rfl
def c58 (n : Nat) : Ex := match b58.drop 12 with | [.iff (.or xs _) _ _ _] => xs.getD n (.num 0 0 ⟨0, 0, 0, 0⟩) | _ => .num 0 0 ⟨0, 0, 0, 0⟩
theorem four : (ev T 600).run 99 57 [] [] = .ok (.bl true) false [] := by kernel_rfl
theorem last_1_1 (L t : D) (i : Int) (h : Hs) : (ev T 600).e 100 (env1 L t i 1) h (c58 1) = .ok (.bl false) false (env1 L t i 1) h := by kernel_rfl
theorem last_1_2 (L t : D) (i : Int) (h : Hs) : (ev T 600).e 100 (env1 L t i 1) h (c58 2) = .ok (.bl false) false (env1 L t i 1) h := by kernel_rfl
theorem last_2_1 (L t : D) (i : Int) (h : Hs) : (ev T 600).e 100 (env1 L t i 2) h (c58 1) = .ok (.bl false) false (env1 L t i 2) h := by kernel_rfl
theorem last_2_2 (L t : D) (i : Int) (h : Hs) : (ev T 600).e 100 (env1 L t i 2) h (c58 2) = .ok (.bl false) false (env1 L t i 2) h := by kernel_rfl
theorem last_3_1 (L t : D) (i : Int) (h : Hs) : (ev T 600).e 100 (env1 L t i 3) h (c58 1) = .ok (.bl false) false (env1 L t i 3) h := by kernel_rfl
theorem last_3_2 (L t : D) (i : Int) (h : Hs) : (ev T 600).e 100 (env1 L t i 3) h (c58 2) = .ok (.bl false) false (env1 L t i 3) h := by kernel_rfl
theorem last_4_1 (L t : D) (i : Int) (h : Hs) : (ev T 600).e 100 (env1 L t i 4) h (c58 1) = .ok (.bl false) false (env1 L t i 4) h := by kernel_rfl
theorem last_4_2 (L t : D) (i : Int) (h : Hs) : (ev T 600).e 100 (env1 L t i 4) h (c58 2) = .ok (.bl false) false (env1 L t i 4) h := by kernel_rfl
theorem last_5_1 (L t : D) (i : Int) (h : Hs) : (ev T 600).e 100 (env1 L t i 5) h (c58 1) = .ok (.bl false) false (env1 L t i 5) h := by kernel_rfl
theorem last_5_2 (L t : D) (i : Int) (h : Hs) : (ev T 600).e 100 (env1 L t i 5) h (c58 2) = .ok (.bl false) false (env1 L t i 5) h := by kernel_rfl
theorem last_6_1 (L t : D) (i : Int) (h : Hs) : (ev T 600).e 100 (env1 L t i 6) h (c58 1) = .ok (.bl false) false (env1 L t i 6) h := by kernel_rfl
theorem last_6_2 (L t : D) (i : Int) (h : Hs) : (ev T 600).e 100 (env1 L t i 6) h (c58 2) = .ok (.bl false) false (env1 L t i 6) h := by kernel_rfl
theorem last_7_1 (L t : D) (i : Int) (h : Hs) : (ev T 600).e 100 (env1 L t i 7) h (c58 1) = .ok (.bl false) false (env1 L t i 7) h := by kernel_rfl
theorem last_7_2 (L t : D) (i : Int) (h : Hs) : (ev T 600).e 100 (env1 L t i 7) h (c58 2) = .ok (.bl false) false (env1 L t i 7) h := by kernel_rfl
theorem last_8_1 (L t : D) (i : Int) (h : Hs) : (ev T 600).e 100 (env1 L t i 8) h (c58 1) = .ok (.bl false) false (env1 L t i 8) h := by kernel_rfl
theorem last_8_2 (L t : D) (i : Int) (h : Hs) : (ev T 600).e 100 (env1 L t i 8) h (c58 2) = .ok (.bl false) false (env1 L t i 8) h := by kernel_rfl
theorem last_9_1 (L t : D) (i : Int) (h : Hs) : (ev T 600).e 100 (env1 L t i 9) h (c58 1) = .ok (.bl false) false (env1 L t i 9) h := by kernel_rfl
theorem last_9_2 (L t : D) (i : Int) (h : Hs) : (ev T 600).e 100 (env1 L t i 9) h (c58 2) = .ok (.bl false) false (env1 L t i 9) h := by kernel_rfl
end K79
namespace K79
open PySem Ev Ew
local macro_rules | `(tactic| walk_at "tt") => `(tactic| first | rfl | (refine pr ?_; assumption) | (apply decide_eq_true; first | assumption | omega) | (apply notB_t; walk_at "ff"))
local macro_rules | `(tactic| walk_at "ff") => `(tactic| first | rfl | (refine pr ?_; assumption) | (apply decide_eq_false; first | assumption | omega) | (apply notB_f; walk_at "tt"))
local macro_rules | `(tactic| walk_at "bn") => `(tactic| first | (refine pr ?_; assumption) | (show Bn _ (OfNat.ofNat _); exact Bn.lit 64 rfl) | (apply Bn.mul; (focus walk_at "bn"); (focus walk_at "bn")) | (apply Bn.add; (focus walk_at "bn"); (focus walk_at "bn")) | (apply Bn.sub; (focus walk_at "bn"); (focus walk_at "bn")) | (apply Bn.pow; walk_at "bn") | (apply Bn.mod; (focus (first | decide | omega)); walk_at "bn") | (apply Bn.div; (focus (first | decide | omega)); walk_at "bn"))
local macro_rules | `(tactic| walk_at "ev1") => `(tactic| first
  | ((show (W _).e _ _ _ _ = _); first | (refine pr ?_; assumption) | exact x_num | exact x_str | exact x_cb | exact x_cn | exact x_varv rfl | apply x_bin | apply x_cmp | (apply x_idxT <;> walk_at "ev!") | (apply x_idxL <;> walk_at "ev!") | (apply x_idxK <;> walk_at "ev!") | apply x_max | apply x_min | apply x_isi | apply x_b1 | apply x_and1 | apply x_and | apply x_or1 | apply x_or | apply x_ife | (apply x_t; (focus walk_at "tt")) | (apply x_f; (focus walk_at "ff")) | exact x_glob rfl | apply x_neg | apply x_not | apply x_tup | apply x_lst | (apply x_call <;> walk_at "ev!") | (apply x_callL <;> walk_at "ev!") | apply x_calh | apply x_new | apply x_mth | apply x_att | exact x_varl rfl rfl | apply x_dicS)
  | ((show O _ _ _ _ _ _ _ _); first | exact o_var rfl | apply o_nv | (refine pr ?_; assumption))
  | ((show Two _ _ _ _ _ _ _ _ _ _); first | apply two_v | apply two_n)
  | ((show opV _ _ _ = _); first | exact op_add | exact op_sub | (apply op_mulB; (focus walk_at "bn"); (focus walk_at "bn"); (focus (first | omega | decide))) | (apply op_mod; first | decide | omega) | (apply op_divB; (focus (first | decide | omega)); (focus (first | (show Bn _ (OfNat.ofNat _); exact Bn.lit 200 rfl) | exact Bn.mono (by assumption) (by omega)))) | (apply op_powB; (focus walk_at "bn"); (focus decide); (focus (first | decide | omega))) | (refine pr ?_; assumption) | rfl)
  | ((show cmpV _ _ _ = _); first | exact c_lt | exact c_le | exact c_gt | exact c_ge | exact c_eq | exact c_ne | (refine pr ?_; assumption) | rfl)
  | ((show Ss _ _ _ _ _ _); first | apply ss_asgV | apply ss_iff | (apply ss_t; (focus walk_at "tt")) | (apply ss_f; (focus walk_at "ff")) | exact ss_retV rfl | exact ss_retL rfl | apply ss_retE | apply ss_expE | apply ss_forE | apply ss_setKE | exact ss_0 | (refine pr ?_; assumption))
  | ((show Es _ _ _ _ _ _ _ _); first | exact es_0 | (apply es_sT <;> walk_at "ev!") | (apply es_sL <;> walk_at "ev!") | apply es_1)
  | ((show As _ _ _ _ _ _ _ _); first | exact as_0 | apply as_v | apply as_1)
  | ((show sel _ (_ : Res) _ = _); first | (apply r_t; (focus walk_at "tt")) | (apply r_f; (focus walk_at "ff")))
  | ((show walk _ _ _ _ _ = _); first | apply w_rng | (apply w_seqT <;> walk_at "ev!") | (apply w_seqL <;> walk_at "ev!") | (refine pr ?_; assumption))
  | ((show getH _ _ = _); first | (refine pr ?_; assumption) | (apply getH_set; walk_at "ev1") | exact getH_app | rfl)
  | ((show dicS _ _ _ _ _ _ = _); first | exact dic_0 | apply dic_1)
  | (simp only [put, setS]; rfl) | exact setH_set _ _ | (refine pr ?_; assumption) | rfl)
local macro_rules | `(tactic| walk_at "ev") => `(tactic| repeat' walk_at "ev1")
local macro_rules | `(tactic| walk_at "ev!") => `(tactic| ((repeat' walk_at "ev1"); done))
def Sh (L : D) (env : Ev.Env) : Prop := ∃ s2 s3 s4 s5 s6 s7 s8 s9, env = [.v L, .v kEnd, s2, s3, s4, s5, s6, s7, s8, s9]
theorem rest_all (L t : D) (i : Int) (s5 s6 s7 s8 s9 : Sl) (h : Hs) (q : Int) (h0 : 0 ≤ q) (h9 : q < 9) : Ss T 100 (env0 L t i (1 + q) s5 s6 s7 s8 s9) h rest10 (.nx (env1 L t i (1 + q)) h) ∧
    (W T).e 100 (env1 L t i (1 + q)) h (c58 1) = .ok (.bl false) false (env1 L t i (1 + q)) h ∧ (W T).e 100 (env1 L t i (1 + q)) h (c58 2) = .ok (.bl false) false (env1 L t i (1 + q)) h := by
  have c : q = 0 ∨ q = 1 ∨ q = 2 ∨ q = 3 ∨ q = 4 ∨ q = 5 ∨ q = 6 ∨ q = 7 ∨ q = 8 := by omega
  rcases c with rfl | rfl | rfl | rfl | rfl | rfl | rfl | rfl | rfl
  · exact ⟨ss_W (rest_1 L t i s5 s6 s7 s8 s9 h) (fun z => by cases z), W_e (last_1_1 L t i h) (fun z => by cases z), W_e (last_1_2 L t i h) (fun z => by cases z)⟩
  · exact ⟨ss_W (rest_2 L t i s5 s6 s7 s8 s9 h) (fun z => by cases z), W_e (last_2_1 L t i h) (fun z => by cases z), W_e (last_2_2 L t i h) (fun z => by cases z)⟩
  · exact ⟨ss_W (rest_3 L t i s5 s6 s7 s8 s9 h) (fun z => by cases z), W_e (last_3_1 L t i h) (fun z => by cases z), W_e (last_3_2 L t i h) (fun z => by cases z)⟩
  · exact ⟨ss_W (rest_4 L t i s5 s6 s7 s8 s9 h) (fun z => by cases z), W_e (last_4_1 L t i h) (fun z => by cases z), W_e (last_4_2 L t i h) (fun z => by cases z)⟩
  · exact ⟨ss_W (rest_5 L t i s5 s6 s7 s8 s9 h) (fun z => by cases z), W_e (last_5_1 L t i h) (fun z => by cases z), W_e (last_5_2 L t i h) (fun z => by cases z)⟩
  · exact ⟨ss_W (rest_6 L t i s5 s6 s7 s8 s9 h) (fun z => by cases z), W_e (last_6_1 L t i h) (fun z => by cases z), W_e (last_6_2 L t i h) (fun z => by cases z)⟩
  · exact ⟨ss_W (rest_7 L t i s5 s6 s7 s8 s9 h) (fun z => by cases z), W_e (last_7_1 L t i h) (fun z => by cases z), W_e (last_7_2 L t i h) (fun z => by cases z)⟩
  · exact ⟨ss_W (rest_8 L t i s5 s6 s7 s8 s9 h) (fun z => by cases z), W_e (last_8_1 L t i h) (fun z => by cases z), W_e (last_8_2 L t i h) (fun z => by cases z)⟩
  · exact ⟨ss_W (rest_9 L t i s5 s6 s7 s8 s9 h) (fun z => by cases z), W_e (last_9_1 L t i h) (fun z => by cases z), W_e (last_9_2 L t i h) (fun z => by cases z)⟩
theorem body_ok {ns : List Int} (hz : ∀ z ∈ ns, Bn 1048577 z) {i : Int} (hi : 0 ≤ i) (hi2 : i ≤ 60) (s3 s4 s5 s6 s7 s8 s9 : Sl) (h : Hs) : ∃ t m h', Ss T 100 [.v (.lst (ns.map .int)), .v kEnd, .v (.int i), s3, s4, s5, s6, s7, s8, s9] h b58 (.nx (env1 (.lst (ns.map .int)) t i m) h') := by
  obtain ⟨a, b, e1, ha, hb⟩ := tape_ok (k := 99) (h := h) hi hi2 hz
  obtain ⟨q, a', b', e2, q0, q9, ha', hb'⟩ := pick_ok (k := 99) (h := h ++ [tape a b]) (j := h.length) (n := 9) getH_app (by decide) (Bn.lit 60 rfl) ha hb
  obtain ⟨r1, r2, r3⟩ := rest_all (.lst (ns.map .int)) (.ref h.length) i s5 s6 s7 s8 s9 (setH (tape a' b') (h ++ [tape a b]) h.length) q q0 q9
  refine ⟨.ref h.length, 1 + q, setH (tape a' b') (h ++ [tape a b]) h.length, ?_⟩
  have A : Ss T 100 [.v (.lst (ns.map .int)), .v kEnd, .v (.int i), s3, s4, s5, s6, s7, s8, s9] h (b58.take 2) (.nx (env0 (.lst (ns.map .int)) (.ref h.length) i (1 + q) s5 s6 s7 s8 s9) (setH (tape a' b') (h ++ [tape a b]) h.length)) := by
    unfold b58 f58 env0
    dsimp only [List.take]
    walk_at "ev"
  have e4 := W_run four (fun z => by cases z)
  have B : Ss T 100 (env1 (.lst (ns.map .int)) (.ref h.length) i (1 + q)) (setH (tape a' b') (h ++ [tape a b]) h.length) (b58.drop 12) (.nx (env1 (.lst (ns.map .int)) (.ref h.length) i (1 + q)) (setH (tape a' b') (h ++ [tape a b]) h.length)) := by
    unfold c58 b58 f58 at r2 r3
    unfold b58 f58
    dsimp only [List.drop, List.getD_cons_succ, List.getD_cons_zero] at r2 r3 ⊢
    walk_at "ev"
  exact Ss_app A (Ss_app r1 B)
theorem loop_ok {ns : List Int} (hz : ∀ z ∈ ns, Bn 1048577 z) {p : Pos} : ∀ (n : Nat) (lo : Int) (s2 s3 s4 s5 s6 s7 s8 s9 : Sl) (h : Hs), 0 ≤ lo → lo + n ≤ 60 → ∃ t2 t3 t4 t5 t6 t7 t8 t9 h',
    forL 100 (.var 2 p) (fun env h => ss (W T) 100 env h b58) [.v (.lst (ns.map .int)), .v kEnd, s2, s3, s4, s5, s6, s7, s8, s9] h (rangeL lo n) = .nx [.v (.lst (ns.map .int)), .v kEnd, t2, t3, t4, t5, t6, t7, t8, t9] h'
  | 0, lo, s2, s3, s4, s5, s6, s7, s8, s9, h, _, _ => ⟨_, _, _, _, _, _, _, _, _, rfl⟩
  | n + 1, lo, s2, s3, s4, s5, s6, s7, s8, s9, h, h0, h1 => by
    obtain ⟨t, m, h', e⟩ := body_ok hz h0 (by omega) s3 s4 s5 s6 s7 s8 s9 h
    obtain ⟨t2, t3, t4, t5, t6, t7, t8, t9, h'', e2⟩ := loop_ok hz (p := p) n (lo + 1) (.v (.int lo)) (.v t) (.v (.int m)) (.v (lone m)) (.v (two_ m)) (.v (qf 0 1)) (.v (qf (4 * m) 1)) (.v (row_ m)) h' (by omega) (by omega)
    refine ⟨t2, t3, t4, t5, t6, t7, t8, t9, h'', ?_⟩
    unfold Ss at e
    simp only [rangeL, forL, tg, setS, e]
    exact e2
theorem law_W {ns : List Int} (hz : ∀ z ∈ ns, Bn 1048577 z) : ∃ h', (W T).run 100 58 [.lst (ns.map .int)] [] = .ok (.bl true) false h' := by
  have hm : (0 + ((max 1 (min 3 ((ns.map D.int).length : Int))).toNat : Int)) ≤ 60 := by omega
  have hr : rngOk (max 1 (min 3 ((ns.map D.int).length : Int))) = true := rng_ok (by omega) (by omega)
  obtain ⟨t2, t3, t4, t5, t6, t7, t8, t9, h', e⟩ := loop_ok hz (p := ⟨324, 8, 324, 18⟩) (max 1 (min 3 ((ns.map D.int).length : Int))).toNat 0 .u .u .u .u .u .u .u .u [] (by decide) hm
  refine ⟨h', ?_⟩
  apply run_rt gt58 (fun _ _ _ => rfl) rfl
  show Ss T 100 [.v (.lst (ns.map .int)), .u, .u, .u, .u, .u, .u, .u, .u, .u] [] f58.body _
  unfold b58 f58 at e
  unfold f58
  dsimp only at e ⊢
  walk_at "ev"
end K79
open PySem PySem.W PySem.Calls PyProof.Rows
theorem PySem.Challenge.cw_onenumber_k79_spans_by_hand_holds : PySem.Challenge.rw_onenumber_k79_spans_by_hand.Holds := by
  w_on; o_law
  refine HandSHeadRun.head_any (r := OpenLaw.row PySem.Challenge.rw_onenumber_k79_spans_by_hand) (q := view (OpenLaw.row PySem.Challenge.rw_onenumber_k79_spans_by_hand).prog [71]) (H := K79.hk) (ob := K79.ob) (M := 4000) (loose := K79.lse) (d := HandSHeadRun.topDef (OpenLaw.row PySem.Challenge.rw_onenumber_k79_spans_by_hand).prog 71) (kwd := []) K79.ob_eq
    (by kernel_rfl) (fun s => by kernel_rfl) K79.run (by kernel_rfl) (by kernel_rfl) (by kernel_rfl) (by rfl) (by first | assumption | decide +kernel) (by decide +kernel) ⟨rfl, rfl, rfl, rfl, rfl, by decide +kernel⟩ ?hw ?hc
  case hw => w_witness2
  case hc =>
    refine Ev.walkG (l := PySem.Challenge.rw_onenumber_k79_spans_by_hand) (n := 63) (k := 202) (x := "_law_script") rfl (by decide) (by kernel_rfl) ⟨rfl, by decide, by decide⟩ ?F
    intro w mg fa h Y G hmg0
    obtain ⟨K, KX, c⟩ := Y
    have hmg : mg ("law" : PySem.Str) = some (.ref fa) := by
      have e : (HandSHeadRun.topDef (OpenLaw.row PySem.Challenge.rw_onenumber_k79_spans_by_hand).prog 71).name = ("law" : PySem.Str) := by kernel_rfl
      rw [← e]
      exact hmg0
    have cd : He.SaysD K79.fas K79.dfs K := c.t.d
    have ce : K79.exs K = true := c.more
    have nl : Ev.noLstK K = true := by
      unfold K79.exs at ce
      simp only [Bool.and_eq_true] at ce
      grind
    have fkl := K79.fk (PySem.Challenge.rw_onenumber_k79_spans_by_hand).prog w KX G cd 58 (fun z => by cases z)
    have ea : fa = K79.fa K 58 := by
      have e := hmg.symm.trans (fkl.gl rfl)
      cases e
      rfl
    subst ea
    refine ⟨K, K79.fds K 58, Ev.spF K (K79.M (PySem.Challenge.rw_onenumber_k79_spans_by_hand).prog w) (K79.ca K) (K79.pss 58) (fun ds h => (Ew.W K79.T).run 100 58 ds h), KX, nl, fun s u => ?_, fun H a ns hl hb hO hS => ?_, fun base hK hG => ?_⟩
    · exact K79.lawbd cd s u
    · obtain ⟨h', e⟩ := K79.law_W (ns := ns) (fun z hz => Ev.bits_bn (hb z hz))
      exact Ev.law_spF hS e
    · exact Ev.fnG_W fun m => Ev.all_f rfl rfl (K79.tf (PySem.Challenge.rw_onenumber_k79_spans_by_hand).prog w hK hG cd ce) (fun _ _ _ => rfl) (fun f hf => (K79.fk (PySem.Challenge.rw_onenumber_k79_spans_by_hand).prog w hK hG cd f hf).df) 100 m 58 (fun z => by cases z)
