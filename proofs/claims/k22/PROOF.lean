import PyProof.Rows.All
import Wide.All
import OpenK.AllK
import Wide.FinOn
import KE.SortData
import KE.DataMinMax
import KE.DataFind
import HandS.ForMost
import KE.KeyNested
import HandS.Deep
import HandS.TupMul
import HandS.TupAny
import KE.KTupSum
import HandS.IsInst
import HandS.SortKw
import HandS.Style
import KE.GoesEnum
import KE.GoesMore
import HandS.Zip
import HandS.Codes
import HandS.Conv
import HandS.Small
import HandS.DictComp
import HandS.WordsDict
import HandS.TupLen
import PyProof.Rows.TupDisplay
import HandS.SetFor
import HandS.DictTup
import HandS.Comp
import HandS.Ends
import HandS.Head0
import HandS.Head1
import HandS.Head2
import HandS.HeadEnd
import HandS.HeadHook1
import HandS.HeadHook2
import Lean
import KE.KStateDown
import HandS.Defaults
import PySem.Challenge.RW_doubledrawn_k22_whole_what_characters_ha
set_option Elab.async false
set_option linter.all false
set_option maxRecDepth 100000
set_option maxHeartbeats 0

/-! DEv: a pure language (values are trees, lists are owned by slots) and its evaluator. -/
namespace DD
open PySem

/-- values as trees -/
inductive T where
  | non | bl (b : Bool) | int (i : Int) | str (x : Str) | tup (xs : List T) | lst (xs : List T)
  | dct (kvs : List (T × T)) | ins (c : Nat) (fs : List (Str × T)) | scr (ns : List Int)
  deriving Inhabited

mutual
def T.beq : T → T → Bool
  | .non, .non => true
  | .bl a, .bl b => a == b
  | .int a, .int b => a == b
  | .str a, .str b => a == b
  | .tup xs, .tup ys => T.beqs xs ys
  | .lst xs, .lst ys => T.beqs xs ys
  | .dct xs, .dct ys => T.beqk xs ys
  | .ins c xs, .ins d ys => c == d && T.beqf xs ys
  | .scr a, .scr b => a == b
  | _, _ => false
def T.beqs : List T → List T → Bool
  | [], [] => true
  | x :: xs, y :: ys => T.beq x y && T.beqs xs ys
  | _, _ => false
def T.beqk : List (T × T) → List (T × T) → Bool
  | [], [] => true
  | (a, b) :: xs, (c, d) :: ys => T.beq a c && T.beq b d && T.beqk xs ys
  | _, _ => false
def T.beqf : List (Str × T) → List (Str × T) → Bool
  | [], [] => true
  | (a, b) :: xs, (c, d) :: ys => (a == c) && T.beq b d && T.beqf xs ys
  | _, _ => false
end

mutual
/-- as the library's data -/
def T.toD : T → PyData
  | .non => .none
  | .bl b => .bool b
  | .int i => .int i
  | .str x => .str x
  | .tup xs => .tuple (T.toDs xs)
  | .lst xs => .list (T.toDs xs)
  | .dct _ => .none
  | .ins _ _ => .none
  | .scr _ => .none
def T.toDs : List T → List PyData
  | [] => []
  | x :: xs => T.toD x :: T.toDs xs
end
theorem T.toDs_map : ∀ xs : List T, T.toDs xs = xs.map T.toD
  | [] => rfl
  | x :: xs => by rw [T.toDs, T.toDs_map xs]; rfl

mutual
/-- data of depth below n, texts of the plain kind -/
def T.dat : Nat → T → Bool
  | _, .non => true
  | _, .bl _ => true
  | _, .int _ => true
  | _, .str x => PySem.PyData.strOk x
  | 0, .tup _ => false
  | n + 1, .tup xs => T.dats n xs
  | 0, .lst _ => false
  | n + 1, .lst xs => T.dats n xs
  | _, .dct _ => false
  | _, .ins _ _ => false
  | _, .scr _ => false
def T.dats : Nat → List T → Bool
  | _, [] => true
  | n, x :: xs => T.dat n x && T.dats n xs
end

/-- Python's == of data -/
def T.eqv (a b : T) : Bool := PyData.eqv a.toD b.toD
/-- Python's < of alike data -/
def T.ltv (a b : T) : Bool := PySem.W.dataLt a.toD b.toD
def T.alk (a b : T) : Bool := PySem.W.alike a.toD b.toD

inductive Prim where
  | add | sub | mul | fdiv | mod | pow | neg
  | eq | ne | lt | le | gt | ge | isN | notN | inn | notin | ix
  | len | sum | abs | int | tuple | list | sorted | sortedRev | min1 | max1 | min2 | max2 | all | any
  | isInt | isBool | isTup | isList | isStr | isDict | isSeq
  | lenSet | sortedSet | count | index | get2 | get1 | repr | str
  | slL | slU | slLU | slRev | lrng1 | lrng2 | trng1 | trng2
  deriving DecidableEq
inductive Md where
  | own | sh | io
  deriving DecidableEq
structure Sl where
  t : T
  m : Md
abbrev En := List (Option Sl)
inductive R (α : Type) where
  | ok (a : α)
  | exc (c : Nat) (fs : List (Str × T)) (env : En)
  | bad
/-- an expression's outcome: a value (fresh: a new list or dict that nothing else holds), or a slot that is read in place -/
inductive OV where
  | v (t : T) (fr : Bool)
  | s (i : Nat)
inductive P where
  | s (i : Nat)
  | t (ps : List P)
inductive ItK where
  | val | range1 | range2 | range3 | enum | zip | items | values | keys
  deriving DecidableEq
inductive E where
  | cst (t : T)
  | var (i : Nat) | mv (i : Nat) | peek (i : Nat) | io (i : Nat)
  | tup (es : List E) | lst (es : List E)
  | prim (p : Prim) (es : List E)
  | and (a b : E) | or (a b : E) | not (a : E)
  | ite (c a b : E)
  | chain (o1 o2 : Prim) (a b c : E)
  | call (f : Nat) (es : List E)
  | mk (c : Nat) (es : List E)
  | fld (e : E) (x : Str)
  | pop (i : Nat) | popAt (i : Nat) (e : E)
  | comp (own : List Nat) (g : P) (k : ItK) (es : List E) (cond : Option E) (elt : E)
  | comp2 (own : List Nat) (g : P) (k : ItK) (es : List E) (g2 : P) (k2 : ItK) (es2 : List E) (own2 : List Nat) (cond : Option E) (elt : E)
  | dcomp (own : List Nat) (g : P) (k : ItK) (es : List E) (key val : E)
  | dct (kvs : List (E × E))
  | get (o a d : E)
  | cnt (o a : E)
abbrev Fn := List T → R (T × Bool × Option T)
inductive Tg where
  | s (i : Nat)
  | ix (i : Nat) (e : E)
  | p (g : P)
inductive S where
  | set (i : Nat) (e : E)
  | asg (g : P) (e : E)
  | par (gs : List Tg) (es : List E)
  | setIx (i : Nat) (ix e : E)
  | aug (i : Nat) (p : Prim) (e : E)
  | augIx (i : Nat) (ix : E) (p : Prim) (e : E)
  | expr (e : E)
  | app (i : Nat) (e : E)
  | ext (i : Nat) (e : E)
  | ret (e : E) | retN
  | ite (c : E) (a b : List S)
  | forr (g : P) (k : ItK) (es : List E) (body : List S)
  | forK (i : Nat) (g : P) (body : List S)
  | whil (c : E) (body : List S)
  | brk | cont | pass | raise
inductive Fl where
  | nx | rt (t : T) (fr : Bool) | bk | ct
structure Df where
  np : Nat             -- how many parameters
  io : Option Nat      -- the one that is passed to be changed
  slots : Nat
  body : List S
/-- how tuples are laid: with their objects, so that their methods can be called (then they are no keys), or not -/
class Mode where
  st : Bool
variable [Mode]
def isKey0 : T → Bool
  | .int _ => true
  | .str _ => true
  | _ => false
/-- what may stand within a key, n deep -/
def isKeyI : Nat → T → Bool
  | 0, t => isKey0 t || (match t with
    | .non => true
    | _ => false)
  | n + 1, t => match t with
    | .tup xs => xs.all (isKeyI n)
    | .non => true
    | t => isKey0 t
def isKey1 : T → Bool
  | .tup xs => xs.all (isKeyI 7)
  | _ => false
def lookT (k : T) : List (T × T) → Option T
  | [] => none
  | (a, b) :: r => if T.beq a k then some b else lookT k r
def putT (k v : T) (kvs : List (T × T)) : List (T × T) := if kvs.any fun p => T.beq p.1 k then kvs.map fun p => if T.beq p.1 k then (p.1, v) else p else kvs ++ [(k, v)]
/-- a key that fits the keys of a dict -/
def headK (f : T → Bool) : List (T × T) → Bool
  | [] => true
  | p :: _ => f p.1
def fitK (k : T) (kvs : List (T × T)) : Bool := (isKey0 k && headK isKey0 kvs) || (isKey1 k && headK isKey1 kvs)

def line : Nat := 16777216
def ixAt (xs : List T) (i : Int) : Option T := if 0 ≤ i then xs[i.toNat]? else if -(xs.length : Int) ≤ i then xs[(i + xs.length).toNat]? else none
def ixPl (n : Nat) (i : Int) : Option Nat := if 0 ≤ i then (if i < n then some i.toNat else none) else if -(n : Int) ≤ i then some (i + n).toNat else none
def clipI (n : Nat) (i : Int) : Nat := if i < 0 then (i + n).toNat else min i.toNat n
def clipO (n d : Nat) : Option Int → Nat
  | none => d
  | some i => clipI n i
def cutT (xs : List T) (lo hi : Option Int) : List T := (xs.drop (clipO xs.length 0 lo)).take (clipO xs.length xs.length hi - clipO xs.length 0 lo)
def insT (x : T) : List T → List T
  | [] => [x]
  | y :: ys => if T.ltv y x then y :: insT x ys else x :: y :: ys
/-- stable sorting by < -/
def sortT : List T → List T
  | [] => []
  | x :: xs => insT x (sortT xs)
def insTr (x : T) : List T → List T
  | [] => [x]
  | y :: ys => if T.ltv x y then y :: insTr x ys else x :: y :: ys
/-- stable sorting, falling -/
def sortTr : List T → List T
  | [] => []
  | x :: xs => insTr x (sortTr xs)
def isTupC : T → Bool
  | .tup (_ :: _) => true
  | _ => false
def noTupNon : T → Bool
  | .tup _ => false
  | .non => false
  | _ => true
def alkAll (xs : List T) : Bool := xs.all fun x => xs.all fun y => T.alk x y
/-- what sorts: all tuples with something in them, or no tuple, no None -/
def srtOk (xs : List T) : Bool := T.dats 40 xs && alkAll xs &&
  (xs.all isTupC || xs.all noTupNon)
def sumI : List T → Option Int
  | [] => some 0
  | .int i :: r => (sumI r).map (i + ·)
  | _ :: _ => none
def blsT : List T → Option (List Bool)
  | [] => some []
  | .bl b :: r => (blsT r).map (b :: ·)
  | _ :: _ => none
def seqOf : T → Option (List T)
  | .tup xs => some xs
  | .lst xs => some xs
  | _ => none


def small64 (i : Int) : Bool := decide (-(2 ^ 64) < i) && decide (i < 2 ^ 64)

def small63 (i : Int) : Bool := decide (-(2 ^ 63) ≤ i) && decide (i < 2 ^ 63)
def dedup : List T → List T
  | [] => []
  | x :: xs => if xs.any fun y => T.beq y x then dedup xs else x :: dedup xs

def mulOk (i j : Int) : Bool := small64 i || small64 j

def one (f : T → Option T) : List T → Option T
  | [a] => f a
  | _ => none
def two (f : T → T → Option T) : List T → Option T
  | [a, b] => f a b
  | _ => none
def three (f : T → T → T → Option T) : List T → Option T
  | [a, b, c] => f a b c
  | _ => none
def sAdd : T → T → Option T
  | .int i, .int j => some (.int (i + j))
  | .tup a, .tup b => if a.length + b.length ≤ line then some (.tup (a ++ b)) else none
  | .lst a, .lst b => if a.length + b.length ≤ line then some (.lst (a ++ b)) else none
  | .str a, .str b => if a.length + b.length ≤ line then some (.str (a ++ b)) else none
  | _, _ => none
def sSub : T → T → Option T
  | .int i, .int j => some (.int (i - j))
  | _, _ => none
def sMul : T → T → Option T
  | .int i, .int j => if mulOk i j then some (.int (i * j)) else none
  | .lst xs, .int k => if (-(2 ^ 63) ≤ k ∧ k < 2 ^ 63) ∧ xs.length * k.toNat ≤ line then some (.lst (List.replicate k.toNat xs).flatten) else none
  | .tup xs, .int k => if xs.length ≤ 1000 ∧ k ≤ 1000 ∧ -(2 ^ 63) ≤ k then some (.tup (List.replicate k.toNat xs).flatten) else none
  | _, _ => none
def sFdiv : T → T → Option T
  | .int i, .int j => if 0 < j ∧ j < 115792089237316195423570985008687907853269984665640564039457584007913129639936 then some (.int (i / j)) else none
  | _, _ => none
def sMod : T → T → Option T
  | .int i, .int j => if 0 < j then some (.int (i % j)) else none
  | _, _ => none
def sPow : T → T → Option T
  | .int i, .int j => if 0 ≤ j ∧ j ≤ 1000000 ∧ i.natAbs < 2 ^ 64 then some (.int (i ^ j.toNat)) else none
  | _, _ => none
def sNeg : T → Option T
  | .int i => some (.int (-i))
  | _ => none
def sEq (a b : T) : Option T := if T.dat 60 a && T.dat 60 b then some (.bl (T.eqv a b)) else none
def sNe (a b : T) : Option T := if T.dat 60 a && T.dat 60 b then some (.bl (!T.eqv a b)) else none
def sLt : T → T → Option T
  | .int i, .int j => some (.bl (decide (i < j)))
  | _, _ => none
def sLe : T → T → Option T
  | .int i, .int j => some (.bl (decide (i ≤ j)))
  | _, _ => none
def sGt : T → T → Option T
  | .int i, .int j => some (.bl (decide (j < i)))
  | _, _ => none
def sGe : T → T → Option T
  | .int i, .int j => some (.bl (decide (j ≤ i)))
  | _, _ => none
def isNon : T → Bool
  | .non => true
  | _ => false
def sIsN (a b : T) : Option T := if isNon b then some (.bl (isNon a)) else none
def sNotN (a b : T) : Option T := if isNon b then some (.bl (!isNon a)) else none
def sIn (x : T) : T → Option T
  | .dct kvs => if fitK x kvs then some (.bl (lookT x kvs).isSome) else none
  | .lst ys => if T.dat 59 x && T.dats 59 ys then some (.bl (ys.any fun y => T.eqv y x)) else none
  | .tup ys => if T.dat 59 x && T.dats 59 ys then some (.bl (ys.any fun y => T.eqv y x)) else none
  | _ => none
def sNotin (x : T) : T → Option T
  | .dct kvs => if fitK x kvs then some (.bl (!(lookT x kvs).isSome)) else none
  | .lst ys => if T.dat 59 x && T.dats 59 ys then some (.bl (!ys.any fun y => T.eqv y x)) else none
  | .tup ys => if T.dat 59 x && T.dats 59 ys then some (.bl (!ys.any fun y => T.eqv y x)) else none
  | _ => none
def sIx : T → T → Option T
  | .lst xs, .int i => ixAt xs i
  | .tup xs, .int i => ixAt xs i
  | .dct kvs, k => if fitK k kvs then lookT k kvs else none
  | _, _ => none
def sLen : T → Option T
  | .lst xs => some (.int xs.length)
  | .tup xs => some (.int xs.length)
  | .str x => if x.length ≤ line then some (.int x.length) else none
  | _ => none
def sSum : T → Option T
  | .lst xs => (sumI xs).map .int
  | .tup xs => (sumI xs).map .int
  | _ => none
def sAbs : T → Option T
  | .int i => some (.int (if i < 0 then -i else i))
  | _ => none
def sInt : T → Option T
  | .int i => some (.int i)
  | .bl b => some (.int (if b then 1 else 0))
  | _ => none
def sTuple (a : T) : Option T := (seqOf a).map .tup
def sList (a : T) : Option T := (seqOf a).map .lst
def sSorted : T → Option T
  | .lst xs => if srtOk xs then some (.lst (sortT xs)) else none
  | _ => none
def sSortedRev : T → Option T
  | .lst xs => if srtOk xs then some (.lst (sortTr xs)) else none
  | _ => none
def sMin2 : T → T → Option T
  | .int i, .int j => some (.int (if j < i then j else i))
  | _, _ => none
def sMax2 : T → T → Option T
  | .int i, .int j => some (.int (if j > i then j else i))
  | _, _ => none
def minOk (xs : List T) : Bool := T.dats 40 xs && alkAll xs && xs.all fun y => !isNon y
def sMin1 (a : T) : Option T := match seqOf a with
  | some (x :: xs) => if minOk (x :: xs) then some (xs.foldl (fun a y => if T.ltv y a then y else a) x) else none
  | _ => none
def sMax1 (a : T) : Option T := match seqOf a with
  | some (x :: xs) => if minOk (x :: xs) then some (xs.foldl (fun a y => if T.ltv a y then y else a) x) else none
  | _ => none
def sAll : T → Option T
  | .lst xs => (blsT xs).map fun bs => .bl (bs.all id)
  | _ => none
def sAny : T → Option T
  | .lst xs => (blsT xs).map fun bs => .bl (bs.any id)
  | _ => none
def tyInt : T → Bool
  | .int _ => true
  | .bl _ => true
  | _ => false
def tyBool : T → Bool
  | .bl _ => true
  | _ => false
def tyTup : T → Bool
  | .tup _ => true
  | _ => false
def tyList : T → Bool
  | .lst _ => true
  | _ => false
def tyStr : T → Bool
  | .str _ => true
  | _ => false
def tyDict : T → Bool
  | .dct _ => true
  | _ => false
def tySeq : T → Bool
  | .tup _ => true
  | .lst _ => true
  | _ => false
def isScr : T → Bool
  | .scr _ => true
  | _ => false
def isIns : T → Bool
  | .ins _ _ => true
  | .dct _ => true
  | _ => false
def sTy (f : T → Bool) (a : T) : Option T := if isScr a || isIns a then none else some (.bl (f a))
def sLenSet (a : T) : Option T := match seqOf a with
  | some xs => if xs.all isKey0 then some (.int (dedup xs).length) else none
  | none => none
def intsOf : List T → Option (List Int)
  | [] => some []
  | .int i :: r => (intsOf r).map (i :: ·)
  | _ :: _ => none
def insU (x : Int) : List Int → List Int
  | [] => [x]
  | y :: ys => if x < y then x :: y :: ys else if x = y then y :: ys else y :: insU x ys
/-- ascending, each once -/
def sortU : List Int → List Int
  | [] => []
  | x :: xs => insU x (sortU xs)
def sSortedSet : T → Option T
  | .tup xs => (intsOf xs).bind fun ns => if ns.length < 63 then some (.lst ((sortU ns).map .int)) else none
  | _ => none
def lstOf : T → Option (List T)
  | .lst xs => some xs
  | .tup xs => some xs
  | _ => none
def sCount (a x : T) : Option T := match lstOf a with
  | some xs => if T.dats 40 xs && T.dat 40 x then some (.int (xs.countP fun y => T.eqv y x)) else none
  | none => none
def sIndex (a x : T) : Option T := match seqOf a with
  | some xs => if T.dats 40 xs && T.dat 40 x then (xs.findIdx? fun y => T.eqv y x).map fun (n : Nat) => .int n else none
  | none => none
def isCell0 : T → Bool
  | .lst _ => true
  | .dct _ => true
  | _ => false
def sGet2 : T → T → T → Option T
  | .dct kvs, k, d => if fitK k kvs && !isCell0 d then some ((lookT k kvs).getD d) else none
  | _, _, _ => none
def sGet1 : T → T → Option T
  | .dct kvs, k => if fitK k kvs then some ((lookT k kvs).getD .non) else none
  | _, _ => none
def sSlice (a : T) (lo hi : Option Int) : Option T := match a with
  | .lst xs => some (.lst (cutT xs lo hi))
  | .tup xs => some (.tup (cutT xs lo hi))
  | .scr xs => some (.lst (cutT (xs.map .int) lo hi))
  | _ => none
def sSlL : T → T → Option T
  | a, .int i => sSlice a (some i) none
  | _, _ => none
def sSlU : T → T → Option T
  | a, .int i => sSlice a none (some i)
  | _, _ => none
def sSlLU : T → T → T → Option T
  | a, .int i, .int j => sSlice a (some i) (some j)
  | _, _, _ => none
def rangeT (lo : Int) : Nat → List T
  | 0 => []
  | n + 1 => .int lo :: rangeT (lo + 1) n
def in62 (i : Int) : Bool := decide (-(2 ^ 62) ≤ i) && decide (i < 2 ^ 62)
def rngOk (i j : Int) : Bool := in62 i && in62 j && decide ((j - i).toNat ≤ line)
def sLr1 : T → Option T
  | .int j => if rngOk 0 j then some (.lst (rangeT 0 (j - 0).toNat)) else none
  | _ => none
def sLr2 : T → T → Option T
  | .int i, .int j => if rngOk i j then some (.lst (rangeT i (j - i).toNat)) else none
  | _, _ => none
def sTr1 : T → Option T
  | .int j => if rngOk 0 j then some (.tup (rangeT 0 (j - 0).toNat)) else none
  | _ => none
def sTr2 : T → T → Option T
  | .int i, .int j => if rngOk i j then some (.tup (rangeT i (j - i).toNat)) else none
  | _, _ => none
def sSlRev : T → Option T
  | .lst xs => some (.lst xs.reverse)
  | _ => none
def Prim.sem : Prim → List T → Option T
  | .add => two sAdd | .sub => two sSub | .mul => two sMul | .fdiv => two sFdiv | .mod => two sMod | .pow => two sPow | .neg => one sNeg
  | .eq => two sEq | .ne => two sNe | .lt => two sLt | .le => two sLe | .gt => two sGt | .ge => two sGe
  | .isN => two sIsN | .notN => two sNotN | .inn => two sIn | .notin => two sNotin | .ix => two sIx
  | .len => one sLen | .sum => one sSum | .abs => one sAbs | .int => one sInt | .tuple => one sTuple | .list => one sList
  | .sorted => one sSorted | .sortedRev => one sSortedRev | .min1 => one sMin1 | .max1 => one sMax1 | .min2 => two sMin2 | .max2 => two sMax2
  | .all => one sAll | .any => one sAny
  | .isInt => one (sTy tyInt) | .isBool => one (sTy tyBool) | .isTup => one (sTy tyTup) | .isList => one (sTy tyList) | .isStr => one (sTy tyStr) | .isDict => one (sTy tyDict) | .isSeq => one (sTy tySeq)
  | .lenSet => one sLenSet | .sortedSet => one sSortedSet | .count => two sCount | .index => two sIndex | .get2 => three sGet2 | .get1 => two sGet1
  | .repr => fun _ => none | .str => fun _ => none
  | .slL => two sSlL | .slU => two sSlU | .slLU => three sSlLU | .slRev => one sSlRev
  | .lrng1 => one sLr1 | .lrng2 => two sLr2 | .trng1 => one sTr1 | .trng2 => two sTr2

def isCell : T → Bool
  | .lst _ => true
  | .dct _ => true
  | _ => false
/-- does the operation make a new object (where its value is a list or dict)? -/
def Prim.makes : Prim → Bool
  | .add | .mul | .list | .sorted | .sortedRev | .sortedSet | .slL | .slU | .slLU | .slRev | .lrng1 | .lrng2 => true
  | _ => false

/-! ### slots -/

def R.bind {α β : Type} : R α → (α → R β) → R β
  | .ok a, f => f a
  | .exc c fs env, _ => .exc c fs env
  | .bad, _ => .bad
def R.opt {α : Type} : Option α → R α
  | some a => .ok a
  | none => .bad

def getS (env : En) (i : Nat) : Option Sl := (env[i]?).join
def OV.res (env : En) : OV → Option T
  | .v t _ => some t
  | .s i => (getS env i).map (·.t)




def zipT : List T → List T → List T
  | x :: xs, y :: ys => .tup [x, y] :: zipT xs ys
  | _, _ => []
def enumT (n : Nat) : List T → List T
  | [] => []
  | x :: xs => .tup [.int n, x] :: enumT (n + 1) xs
def ItK.walk : ItK → List T → Option (List T)
  | .val, [.lst xs] => some xs
  | .val, [.tup xs] => some xs
  | .range1, [.int j] => if in62 j then some (rangeT 0 j.toNat) else none
  | .range2, [.int i, .int j] => if in62 i && in62 j then some (rangeT i (j - i).toNat) else none
  | .enum, [.lst xs] => some (enumT 0 xs)
  | .enum, [.tup xs] => some (enumT 0 xs)
  | .zip, [.lst xs, .lst ys] => some (zipT xs ys)
  | .zip, [.tup xs, .tup ys] => some (zipT xs ys)
  | .items, [.dct kvs] => some (kvs.map fun p => .tup [p.1, p.2])
  | .values, [.dct kvs] => some (kvs.map (·.2))
  | .keys, [.dct kvs] => some (kvs.map (·.1))
  | _, _ => none
def ItK.isD : ItK → Bool
  | .items | .values | .keys => true
  | _ => false

def setS (env : En) (i : Nat) (t : T) (fr : Bool) : R En :=
  match env[i]? with
  | some (some ⟨_, .io⟩) => .bad
  | some _ => .ok (env.set i (some ⟨t, if fr then .own else .sh⟩))
  | none => .bad
mutual
def asgP : P → T → En → R En
  | .s i, t, env => setS env i t false
  | .t ps, .tup ts, env => if ps.length == ts.length then asgPs ps ts env else .bad
  | .t _, _, _ => .bad
def asgPs : List P → List T → En → R En
  | [], _, env => .ok env
  | p :: ps, t :: ts, env => (asgP p t env).bind fun env => asgPs ps ts env
  | _ :: _, [], _ => .bad
end
/-- an owned slot's value put for by another -/
def upS (env : En) (i : Nat) (f : T → Option T) : R En :=
  match getS env i with
  | some ⟨t, .own⟩ => (R.opt (f t)).bind fun t' => .ok (env.set i (some ⟨t', .own⟩))
  | some ⟨t, .io⟩ => (R.opt (f t)).bind fun t' => .ok (env.set i (some ⟨t', .io⟩))
  | _ => .bad
def wipeE (env : En) : List Nat → En
  | [] => env
  | i :: is => (wipeE env is).set i none
/-- a slot that a block's own name covers, kept -/
def sav (env : En) (i : Nat) : Option Sl := match getS env i with
  | some ⟨_, .io⟩ => none
  | o => o
def unE (old : En) : En → List Nat → En
  | e, [] => e
  | e, i :: is => unE old (e.set i (sav old i)) is
/-- behind a block: its own names are as they were ahead of it -/
def backE (old new : En) (own : List Nat) : En := unE old (wipeE new own) own

def vals (env : En) : List OV → Option (List T)
  | [] => some []
  | o :: os => match o.res env, vals env os with
    | some t, some ts => some (t :: ts)
    | _, _ => none
/-- values that are put into something: no slots read in place -/
def plain : List OV → Option (List T)
  | [] => some []
  | .v t _ :: os => (plain os).map (t :: ·)
  | .s _ :: _ => none

/-- what is walked: a dict must be new, or handed over -/
def plainK (k : ItK) (os : List OV) : Option (List T) := if k.isD then (match os with
  | [.v t true] => some [t]
  | _ => none) else plain os


/-- the slot that is passed to be changed -/
def ioO : List OV → Option Nat
  | [] => none
  | .s i :: _ => some i
  | .v _ _ :: os => ioO os
/-- just what is handed on to be changed is read in place -/
def argsOk : List E → List OV → Bool
  | [], [] => true
  | .io _ :: es, .s _ :: os => argsOk es os
  | .io _ :: _, .v _ _ :: _ => false
  | _ :: es, .v _ _ :: os => argsOk es os
  | _, _ => false
def putIo : Option Nat → Option T → En → R En
  | none, none, env => .ok env
  | some i, some t, env => upS env i fun _ => some t
  | _, _, _ => .bad

def loopC (f : En → R (OV × En)) (c : En → R (Bool × En)) (g : P) (own : List Nat) : List T → List T → En → R (List T × En)
  | [], acc, env => .ok (acc, env)
  | x :: xs, acc, env => (asgP g x (wipeE env own)).bind fun env => (c env).bind fun (b, env) =>
      if b then (f env).bind fun (o, env) => match o with
        | .v t _ => if acc.length < line then loopC f c g own xs (acc ++ [t]) env else .bad
        | .s _ => .bad
      else loopC f c g own xs acc env
/-- the outer of two: the inner hands on what is made so far -/
def loopC2 (h : List T → En → R (List T × En)) (g : P) (own : List Nat) : List T → List T → En → R (List T × En)
  | [], acc, env => .ok (acc, env)
  | x :: xs, acc, env => (asgP g x (wipeE env own)).bind fun env => (h acc env).bind fun (acc, env) => loopC2 h g own xs acc env
def loopD (f : En → R (T × T × En)) (g : P) (own : List Nat) : List T → List (T × T) → En → R (List (T × T) × En)
  | [], acc, env => .ok (acc, env)
  | x :: xs, acc, env => (asgP g x (wipeE env own)).bind fun env => (f env).bind fun (k, v, env) =>
      if fitK k acc && decide (acc.length < line) then loopD f g own xs (putT k v acc) env else .bad

/-- a dict with one pair more -/
def putD (k v : T) (kvs : List (T × T)) : Option (List (T × T)) := if fitK k kvs && decide (kvs.length < line) then some (putT k v kvs) else none
def mkD : List (T × T) → List (T × T) → Option (List (T × T))
  | [], acc => some acc
  | (k, v) :: r, acc => (putD k v acc).bind fun acc => mkD r acc

def asBl : OV → R Bool
  | .v (.bl b) _ => .ok b
  | _ => .bad

section
variable (Φ Ψ : Nat → Fn)
mutual
def ev : E → En → R (OV × En)
  | .cst t, env => .ok (.v t false, env)
  | .var i, env => match getS env i with
    | some ⟨t, .io⟩ => .bad
    | some ⟨t, _⟩ => .ok (.v t false, env.set i (some ⟨t, .sh⟩))
    | none => .bad
  | .mv i, env => match getS env i with
    | some ⟨t, .own⟩ => .ok (.v t true, env.set i none)
    | some ⟨t, .sh⟩ => .ok (.v t false, env.set i none)
    | _ => .bad
  | .peek i, env => match getS env i with
    | some _ => .ok (.s i, env)
    | none => .bad
  | .io i, env => match getS env i with
    | some ⟨_, .own⟩ => .ok (.s i, env)
    | some ⟨_, .io⟩ => .ok (.s i, env)
    | _ => .bad
  | .tup es, env => (evs es env).bind fun (os, env) => (R.opt (plain os)).bind fun ts => if ts.length ≤ line then .ok (.v (.tup ts) false, env) else .bad
  | .lst es, env => (evs es env).bind fun (os, env) => (R.opt (plain os)).bind fun ts => if ts.length ≤ line then .ok (.v (.lst ts) true, env) else .bad
  | .prim p es, env => (evs es env).bind fun (os, env) => (R.opt (vals env os)).bind fun ts => (R.opt (p.sem ts)).bind fun t => .ok (.v t (p.makes && isCell t), env)
  | .and a b, env => (ev a env).bind fun (o, env) => (asBl o).bind fun c => if c then (ev b env).bind fun (o, env) => (asBl o).bind fun d => .ok (.v (.bl d) false, env) else .ok (.v (.bl false) false, env)
  | .or a b, env => (ev a env).bind fun (o, env) => (asBl o).bind fun c => if c then .ok (.v (.bl true) false, env) else (ev b env).bind fun (o, env) => (asBl o).bind fun d => .ok (.v (.bl d) false, env)
  | .not a, env => (ev a env).bind fun (o, env) => (asBl o).bind fun c => .ok (.v (.bl (!c)) false, env)
  | .ite c a b, env => (ev c env).bind fun (o, env) => (asBl o).bind fun d => if d then ev a env else ev b env
  | .chain o1 o2 a b c, env => (ev a env).bind fun (x, env) => (ev b env).bind fun (y, env) => (R.opt (vals env [x, y])).bind fun ts => (R.opt (o1.sem ts)).bind fun t =>
      (asBl (.v t false)).bind fun d => if d then (ev c env).bind fun (z, env) => (R.opt (vals env [y, z])).bind fun ts => (R.opt (o2.sem ts)).bind fun t => .ok (.v t false, env) else .ok (.v (.bl false) false, env)
  | .call f es, env => (evs es env).bind fun (os, env) => (R.opt (vals env os)).bind fun ts => if argsOk es os then (match Φ f ts with
    | .ok (t, fr, out) => (putIo (ioO os) out env).bind fun env => .ok (.v t fr, env)
    | _ => .bad) else .bad
  | .mk c es, env => (evs es env).bind fun (os, env) => (R.opt (plain os)).bind fun ts => match Ψ c ts with
    | .ok (t, _, _) => .ok (.v t false, env)
    | _ => .bad
  | .fld e x, env => (ev e env).bind fun (o, env) => match o.res env with
    | some (.ins _ fs) => (R.opt (fs.lookup x)).bind fun t => .ok (.v t false, env)
    | _ => .bad
  | .pop i, env => match getS env i with
    | some ⟨.lst xs, _⟩ => (R.opt (xs[xs.length - 1]?)).bind fun t => (upS env i fun _ => some (.lst xs.dropLast)).bind fun env => .ok (.v t false, env)
    | _ => .bad
  | .popAt i e, env => match getS env i with
    | some ⟨.lst _, _⟩ => (ev e env).bind fun (o, env) => (match o, getS env i with
      | .v (.int k) _, some ⟨.lst xs, _⟩ => if small63 k then (R.opt (ixPl xs.length k)).bind fun j => (R.opt (xs[j]?)).bind fun t => (upS env i fun _ => some (.lst (xs.eraseIdx j))).bind fun env => .ok (.v t false, env) else .bad
      | _, _ => .bad)
    | _ => .bad
  | .comp own g k es cond elt, env => (evs es env).bind fun (os, env) => (R.opt (plainK k os)).bind fun ts => (R.opt (k.walk ts)).bind fun xs =>
      (loopC (fun e => ev elt e) (fun e => evc cond e) g own xs [] env).bind fun (ys, env') => .ok (.v (.lst ys) true, backE env env' own)
  | .comp2 own g k es g2 k2 es2 own2 cond elt, env => (evs es env).bind fun (os, env) => (R.opt (plainK k os)).bind fun ts => (R.opt (k.walk ts)).bind fun xs =>
      (loopC2 (fun acc env => (evs es2 env).bind fun (os, env) => (R.opt (plainK k2 os)).bind fun ts => (R.opt (k2.walk ts)).bind fun ys => loopC (fun e => ev elt e) (fun e => evc cond e) g2 own2 ys acc env) g own xs [] env).bind
        fun (ys, env') => .ok (.v (.lst ys) true, backE env env' own)
  | .dcomp own g k es key val, env => (evs es env).bind fun (os, env) => (R.opt (plainK k os)).bind fun ts => (R.opt (k.walk ts)).bind fun xs =>
      (loopD (fun e => (ev key e).bind fun (o, e) => (ev val e).bind fun (p, e) => match o, p with
        | .v a _, .v b _ => .ok (a, b, e)
        | _, _ => .bad) g own xs [] env).bind fun (ys, env') => .ok (.v (.dct ys) true, backE env env' own)
  | .dct kvs, env => (evkv kvs env).bind fun (ys, env) => (R.opt (mkD ys [])).bind fun d => .ok (.v (.dct d) true, env)
  | .cnt o a, env => (ev o env).bind fun (x, env) => match x with
    | .v t _ => if (lstOf t).isSome then (ev a env).bind fun (y, env) => (R.opt (y.res env)).bind fun k => (R.opt (sCount t k)).bind fun r => .ok (.v r false, env) else .bad
    | .s _ => .bad
  | .get o a d, env => (ev o env).bind fun (x, env) => match x.res env with
    | some (.dct _) => (ev a env).bind fun (y, env) => (ev d env).bind fun (z, env) => (R.opt (vals env [x, y, z])).bind fun ts => (R.opt (three sGet2 ts)).bind fun t => .ok (.v t false, env)
    | _ => .bad
def evs : List E → En → R (List OV × En)
  | [], env => .ok ([], env)
  | e :: es, env => (ev e env).bind fun (o, env) => (evs es env).bind fun (os, env) => .ok (o :: os, env)
def evc : Option E → En → R (Bool × En)
  | none, env => .ok (true, env)
  | some e, env => (ev e env).bind fun (o, env) => (asBl o).bind fun b => .ok (b, env)
def evkv : List (E × E) → En → R (List (T × T) × En)
  | [], env => .ok ([], env)
  | (k, v) :: r, env => (ev k env).bind fun (o, env) => (ev v env).bind fun (p, env) => match o, p with
    | .v a _, .v b _ => (evkv r env).bind fun (ys, env) => .ok ((a, b) :: ys, env)
    | _, _ => .bad
end
end

/-! ### statements -/



def setIxT (t i v : T) : Option T := match t with
  | .lst xs => (match i with
    | .int k => (ixPl xs.length k).map fun j => .lst (xs.set j v)
    | _ => none)
  | .dct kvs => (putD i v kvs).map .dct
  | _ => none

def loopF (f : En → R (Fl × En)) (g : P) : List T → En → R (Fl × En)
  | [], env => .ok (.nx, env)
  | x :: xs, env => (asgP g x env).bind fun env => (f env).bind fun (fl, env) => match fl with
    | .nx => loopF f g xs env
    | .ct => loopF f g xs env
    | .bk => .ok (.nx, env)
    | .rt t fr => .ok (.rt t fr, env)
def loopW (c : En → R (Bool × En)) (f : En → R (Fl × En)) : Nat → En → R (Fl × En)
  | 0, _ => .bad
  | n + 1, env => (c env).bind fun (b, env) => if b then (f env).bind fun (fl, env) => match fl with
      | .nx => loopW c f n env
      | .ct => loopW c f n env
      | .bk => .ok (.nx, env)
      | .rt t fr => .ok (.rt t fr, env)
    else .ok (.nx, env)

section
variable (Φ Ψ : Nat → Fn) (W : Nat)
def asgT : Tg → T → Bool → En → R En
  | .s i, t, fr, env => setS env i t fr
  | .ix i e, t, _, env => (ev Φ Ψ e env).bind fun (o, env) => (R.opt (o.res env)).bind fun k => upS env i fun x => setIxT x k t
  | .p g, t, _, env => asgP g t env
def asgTs : List Tg → List OV → En → R En
  | [], [], env => .ok env
  | g :: gs, .v t fr :: os, env => (asgT Φ Ψ g t fr env).bind fun env => asgTs gs os env
  | _, _, _ => .bad
mutual
def exec : S → En → R (Fl × En)
  | .set i e, env => (ev Φ Ψ e env).bind fun (o, env) => match o with
    | .v t fr => (setS env i t fr).bind fun env => .ok (.nx, env)
    | .s _ => .bad
  | .asg g e, env => (ev Φ Ψ e env).bind fun (o, env) => match o with
    | .v t _ => (asgP g t env).bind fun env => .ok (.nx, env)
    | .s _ => .bad
  | .par gs es, env => (evs Φ Ψ es env).bind fun (os, env) => (asgTs Φ Ψ gs os env).bind fun env => .ok (.nx, env)
  | .setIx i ix e, env => (ev Φ Ψ e env).bind fun (o, env) => match o, getS env i with
    | .v t _, some _ => (ev Φ Ψ ix env).bind fun (k, env) => (R.opt (k.res env)).bind fun k => (upS env i fun x => setIxT x k t).bind fun env => .ok (.nx, env)
    | _, _ => .bad
  | .aug i p e, env => match getS env i with
    | some ⟨.int a, .sh⟩ => (ev Φ Ψ e env).bind fun (o, env) => match o with
      | .v (.int b) _ => (match getS env i with
        | some ⟨.int a, .sh⟩ => (R.opt (p.sem [.int a, .int b])).bind fun t => (setS env i t false).bind fun env => .ok (.nx, env)
        | _ => .bad)
      | _ => .bad
    | _ => .bad
  | .augIx i ix p e, env => (ev Φ Ψ ix env).bind fun (k, env) => match k with
    | .v k _ => (match getS env i with
        | some ⟨x, _⟩ => (R.opt (Prim.sem .ix [x, k])).bind fun a => (ev Φ Ψ e env).bind fun (o, env) => (R.opt (o.res env)).bind fun b => match a, b with
          | .int a, .int b => (R.opt (p.sem [.int a, .int b])).bind fun t => (upS env i fun x => setIxT x k t).bind fun env => .ok (.nx, env)
          | _, _ => .bad
        | none => .bad)
    | .s _ => .bad
  | .expr e, env => (ev Φ Ψ e env).bind fun (_, env) => .ok (.nx, env)
  | .app i e, env => match getS env i with
    | some ⟨.lst _, _⟩ => (ev Φ Ψ e env).bind fun (o, env) => (match o with
      | .v t _ => (upS env i fun x => match x with
        | .lst xs => if xs.length < line then some (.lst (xs ++ [t])) else none
        | _ => none).bind fun env => .ok (.nx, env)
      | .s _ => .bad)
    | _ => .bad
  | .ext i e, env => match getS env i with
    | some ⟨.lst _, _⟩ => (ev Φ Ψ e env).bind fun (o, env) => (match o with
      | .v (.lst ys) _ => (upS env i fun x => match x with
        | .lst xs => if xs.length + ys.length ≤ line then some (.lst (xs ++ ys)) else none
        | _ => none).bind fun env => .ok (.nx, env)
      | _ => .bad)
    | _ => .bad
  | .ret e, env => (ev Φ Ψ e env).bind fun (o, env) => match o with
    | .v t fr => .ok (.rt t fr, env)
    | .s _ => .bad
  | .retN, env => .ok (.rt .non false, env)
  | .ite c a b, env => (ev Φ Ψ c env).bind fun (o, env) => (asBl o).bind fun d => if d then execs a env else execs b env
  | .forr g k es body, env => (evs Φ Ψ es env).bind fun (os, env) => (R.opt (plainK k os)).bind fun ts => (R.opt (k.walk ts)).bind fun xs => loopF (fun env => execs body env) g xs env
  | .forK i g body, env => match getS env i with
    | some ⟨.dct kvs, .own⟩ => if kvs.isEmpty then .ok (.nx, env) else loopF (fun env => execs body env) g (kvs.map (·.1)) (env.set i (some ⟨.dct kvs, .sh⟩))
    | _ => .bad
  | .whil c body, env => loopW (fun env => (ev Φ Ψ c env).bind fun (o, env) => (asBl o).bind fun b => .ok (b, env)) (fun env => execs body env) W env
  | .brk, env => .ok (.bk, env)
  | .cont, env => .ok (.ct, env)
  | .pass, env => .ok (.nx, env)
  | .raise, _ => .bad
def execs : List S → En → R (Fl × En)
  | [], env => .ok (.nx, env)
  | s :: ss, env => (exec s env).bind fun (fl, env) => match fl with
    | .nx => execs ss env
    | fl => .ok (fl, env)
end
end

/-! ### defs -/
def outOf : Option Nat → En → Option (Option T)
  | none, _ => some none
  | some i, env => match getS env i with
    | some ⟨t, .io⟩ => some (some t)
    | _ => none
def startE (io : Option Nat) (ts : List T) (n : Nat) : En := (ts.mapIdx fun i t => some ⟨t, if io = some i then Md.io else Md.sh⟩) ++ List.replicate (n - ts.length) none
def runDf (Φ Ψ : Nat → Fn) (W : Nat) (d : Df) : Fn := fun ts =>
  if ts.length == d.np then
    (execs Φ Ψ W d.body (startE d.io ts d.slots)).bind fun (fl, env) => match fl with
      | .nx => (R.opt (outOf d.io env)).bind fun out => .ok (.non, false, out)
      | .rt t fr => (R.opt (outOf d.io env)).bind fun out => .ok (t, fr, out)
      | _ => .bad
  else .bad
/-- the meaning of the defs, n calls deep -/
def fnS (W : Nat) (D : Nat → Option Df) : Nat → Nat → Fn
  | 0, _ => fun _ => .bad
  | n + 1, f => fun ts => match D f with
    | some d => runDf (fnS W D n) (fun _ _ => .bad) W d ts
    | none => .bad
end DD
/-! DRep: what a tree stands for in the abstract heap; the simulation's invariant. -/
namespace L2
open PySem
/-- a dict with tuple keys (of any depth): the keys, where their tuples stand, the values -/
abbrev KEnt := NestedKey × Addr × V
def EntV (p : KEnt) (q : NestedKey × Addr × Value) : Prop := p.1 = q.1 ∧ p.2.1 = q.2.1 ∧ RelV p.2.2 q.2.2
def DNP (P : Program) (w : World) (a : Addr) (xs : List KEnt) (h : Heap) : Prop := xs.length ≤ sizeLine ∧ (a == sysModules) = false ∧ ∃ ys : List (NestedKey × Addr × Value), Paired EntV xs ys ∧ ∃ o es ep, h.get? a = some o ∧ o.ExactDict ∧ o.data = .dict es ep ∧ es.toList = ys.map (entryOfKey (nestedKind P w)) ∧ (ys.map (·.1)).Nodup
abbrev dN (P : Program) (w : World) (a : Addr) (xs : List KEnt) : HO := .ext (DNP P w a xs)
end L2
namespace DD
open PySem L2

/-- constants of a run: the written part, where the classes stand -/
structure Cn where
  K : PySem.W.Frag
  cls : Nat → Addr
  P : Program
  w : World
/-- keys as the library's -/
def toNK : T → NestedKey
  | .int i => .num i
  | .str x => .text x
  | .tup xs => .tup (toNKs xs)
  | _ => .none
where toNKs : List T → List NestedKey
  | [] => []
  | x :: xs => toNK x :: toNKs xs
variable [Mode]
abbrev Cn.st (_ : Cn) : Bool := Mode.st
/-- how a tuple is laid: where methods of tuples are called, with its object -/
def HoT (st : Bool) (u : HO) (vs : List V) : Prop := match st with
  | false => u = .tup vs
  | true => ∃ od : Obj, u = .frz od (.tup vs) ∧ od.dict = none
def Tp (st : Bool) (H : Hp) (a : Addr) (vs : List V) : Prop := ∃ u, H a = some u ∧ HoT st u vs
theorem Tp.sq {st : Bool} {K : PySem.W.Frag} {H : Hp} {a : Addr} {vs : List V} (h : Tp st H a vs) : SqT K H a vs := by
  obtain ⟨u, h1, h2⟩ := h
  cases st with
  | false => rw [show u = .tup vs from h2] at h1; exact SqT.of h1
  | true => obtain ⟨od, rfl, _⟩ := h2; exact .inl (.inr ⟨od, h1⟩)
/-- a tuple that is destructured at once -/
def TpW (H : Hp) (a : Addr) (vs : List V) : Prop := H a = some (.tup vs) ∨ ∃ od, H a = some (.frz od (.tup vs))
theorem TpW.sq {K : PySem.W.Frag} {H : Hp} {a : Addr} {vs : List V} (h : TpW H a vs) : SqT K H a vs := .inl h
theorem Tp.w {st : Bool} {H : Hp} {a : Addr} {vs : List V} (h : Tp st H a vs) : TpW H a vs := by
  obtain ⟨u, h1, h2⟩ := h
  cases st with
  | false => rw [show u = .tup vs from h2] at h1; exact .inl h1
  | true => obtain ⟨od, rfl, _⟩ := h2; exact .inr ⟨od, h1⟩

def kT : Key → T
  | .inl i => .int i
  | .inr x => .str x
mutual
def Rep (c : Cn) (H : Hp) (Av : Addr → Prop) : T → V → Prop
  | .non, v => v = .non
  | .bl b, v => v = .bl b
  | .int i, v => v = .int i
  | .str x, v => v = .str x
  | .tup ts, v => ∃ a vs, v = .ref a ∧ Tp c.st H a vs ∧ RepL c H Av ts vs
  | .lst ts, v => ∃ a vs, v = .ref a ∧ ¬Av a ∧ H a = some (.lst vs) ∧ RepL c H Av ts vs
  | .dct kvs, v => ∃ a, v = .ref a ∧ ¬Av a ∧ ((∃ ks, Rd H a (.dK ks) ∧ RepK0 c H Av kvs ks) ∨ ∃ ks, Rd H a (dN c.P c.w a ks) ∧ RepK1 c H Av kvs ks ∧ kvs ≠ [])
  | .ins n fs, v => ∃ a dx fv, v = .ref a ∧ H a = some (.ins (c.cls n) dx fv) ∧ RepF c H Av fs fv
  | .scr ns, v => ∃ a, v = .ref a ∧ ((∃ o, H a = some (.frz o (.lst (ns.map V.int)))) ∨ SqL c.K (fun _ => none) a (ns.map V.int))
def RepL (c : Cn) (H : Hp) (Av : Addr → Prop) : List T → List V → Prop
  | [], vs => vs = []
  | t :: ts, vs => ∃ v r, vs = v :: r ∧ Rep c H Av t v ∧ RepL c H Av ts r
def RepK0 (c : Cn) (H : Hp) (Av : Addr → Prop) : List (T × T) → List (Key × V) → Prop
  | [], vs => vs = []
  | (k, t) :: ts, vs => ∃ k' v r, vs = (k', v) :: r ∧ k = kT k' ∧ Rep c H Av t v ∧ RepK0 c H Av ts r
def RepK1 (c : Cn) (H : Hp) (Av : Addr → Prop) : List (T × T) → List KEnt → Prop
  | [], vs => vs = []
  | (k, t) :: ts, vs => ∃ q v r, vs = (toNK k, q, v) :: r ∧ isKey1 k = true ∧ Rep c H Av k (.ref q) ∧ Rep c H Av t v ∧ RepK1 c H Av ts r
def RepF (c : Cn) (H : Hp) (Av : Addr → Prop) : List (Str × T) → List (Str × V) → Prop
  | [], vs => vs = []
  | (k, t) :: ts, vs => ∃ v r, vs = (k, v) :: r ∧ Rep c H Av t v ∧ RepF c H Av ts r
end

/-- what the evaluator's own stores change -/
def MutO : HO → Prop
  | .lst _ => True
  | .dK _ => True
  | .ext _ => True
  | .frz _ (.dK _) => True
  | .frz _ (.ext _) => True
  | _ => False
/-- all is kept but perhaps the mutable things at Av -/
def Kp (Av : Addr → Prop) (H H' : Hp) : Prop := ∀ a o, H a = some o → (¬Av a ∨ ¬MutO o) → H' a = some o
theorem Kp.of_all {Av : Addr → Prop} {H H' : Hp} (h : ∀ a o, H a = some o → H' a = some o) : Kp Av H H' := fun a o e _ => h a o e
theorem HoT.mut {st : Bool} {u : HO} {vs : List V} (h : HoT st u vs) : ¬MutO u := by
  cases st with
  | false => rw [show u = .tup vs from h]; exact id
  | true => obtain ⟨od, rfl, _⟩ := h; exact id
theorem Tp.mono {st : Bool} {Av : Addr → Prop} {H H' : Hp} (k : Kp Av H H') {a : Addr} {vs : List V} (h : Tp st H a vs) : Tp st H' a vs := let ⟨u, h1, h2⟩ := h; ⟨u, k a _ h1 (.inr h2.mut), h2⟩
section
variable {c : Cn} {H H' : Hp} {Av Av' : Addr → Prop}
mutual
theorem Rep.mono (k : Kp Av H H') (hA : ∀ a o, H a = some o → Av' a → Av a) : ∀ (t : T) (v : V), Rep c H Av t v → Rep c H' Av' t v
  | .non, _, h => h
  | .bl _, _, h => h
  | .int _, _, h => h
  | .str _, _, h => h
  | .tup ts, v, h => by
    rw [Rep] at h ⊢
    obtain ⟨a, vs, e, hH, hr⟩ := h
    exact ⟨a, vs, e, hH.mono k, RepL.mono k hA ts vs hr⟩
  | .lst ts, v, h => by
    rw [Rep] at h ⊢
    obtain ⟨a, vs, e, hn, hH, hr⟩ := h
    exact ⟨a, vs, e, fun z => hn (hA a _ hH z), k a _ hH (.inl hn), RepL.mono k hA ts vs hr⟩
  | .dct kvs, v, h => by
    rw [Rep] at h ⊢
    obtain ⟨a, e, hn, hH⟩ := h
    rcases hH with ⟨ks, hH, hr⟩ | ⟨ks, hH, hr⟩
    · rcases hH with hH | ⟨od, hH⟩
      · exact ⟨a, e, fun z => hn (hA a _ hH z), .inl ⟨ks, .inl (k a _ hH (.inl hn)), RepK0.mono k hA kvs ks hr⟩⟩
      · exact ⟨a, e, fun z => hn (hA a _ hH z), .inl ⟨ks, .inr ⟨od, k a _ hH (.inl hn)⟩, RepK0.mono k hA kvs ks hr⟩⟩
    · rcases hH with hH | ⟨od, hH⟩
      · exact ⟨a, e, fun z => hn (hA a _ hH z), .inr ⟨ks, .inl (k a _ hH (.inl hn)), RepK1.mono k hA kvs ks hr.1, hr.2⟩⟩
      · exact ⟨a, e, fun z => hn (hA a _ hH z), .inr ⟨ks, .inr ⟨od, k a _ hH (.inl hn)⟩, RepK1.mono k hA kvs ks hr.1, hr.2⟩⟩
  | .ins n fs, v, h => by
    rw [Rep] at h ⊢
    obtain ⟨a, dx, fv, e, hH, hr⟩ := h
    exact ⟨a, dx, fv, e, k a _ hH (.inr fun z => z), RepF.mono k hA fs fv hr⟩
  | .scr ns, v, h => by
    rw [Rep] at h ⊢
    obtain ⟨a, e, hq⟩ := h
    refine ⟨a, e, hq.imp (fun ⟨o, h⟩ => ⟨o, k a _ h (.inr fun z => z)⟩) id⟩
theorem RepL.mono (k : Kp Av H H') (hA : ∀ a o, H a = some o → Av' a → Av a) : ∀ (ts : List T) (vs : List V), RepL c H Av ts vs → RepL c H' Av' ts vs
  | [], _, h => h
  | t :: ts, vs, h => by
    rw [RepL] at h ⊢
    obtain ⟨v, r, e, h1, h2⟩ := h
    exact ⟨v, r, e, Rep.mono k hA t v h1, RepL.mono k hA ts r h2⟩
theorem RepK0.mono (k : Kp Av H H') (hA : ∀ a o, H a = some o → Av' a → Av a) : ∀ (ts : List (T × T)) (vs : List (Key × V)), RepK0 c H Av ts vs → RepK0 c H' Av' ts vs
  | [], _, h => h
  | (_, t) :: ts, vs, h => by
    rw [RepK0] at h ⊢
    obtain ⟨k', v, r, e, ek, h1, h2⟩ := h
    exact ⟨k', v, r, e, ek, Rep.mono k hA t v h1, RepK0.mono k hA ts r h2⟩
theorem RepK1.mono (k : Kp Av H H') (hA : ∀ a o, H a = some o → Av' a → Av a) : ∀ (ts : List (T × T)) (vs : List KEnt), RepK1 c H Av ts vs → RepK1 c H' Av' ts vs
  | [], _, h => h
  | (kt, t) :: ts, vs, h => by
    rw [RepK1] at h ⊢
    obtain ⟨q, v, r, e, ek, h0, h1, h2⟩ := h
    exact ⟨q, v, r, e, ek, Rep.mono k hA kt _ h0, Rep.mono k hA t v h1, RepK1.mono k hA ts r h2⟩
theorem RepF.mono (k : Kp Av H H') (hA : ∀ a o, H a = some o → Av' a → Av a) : ∀ (ts : List (Str × T)) (vs : List (Str × V)), RepF c H Av ts vs → RepF c H' Av' ts vs
  | [], _, h => h
  | (_, t) :: ts, vs, h => by
    rw [RepF] at h ⊢
    obtain ⟨v, r, e, h1, h2⟩ := h
    exact ⟨v, r, e, Rep.mono k hA t v h1, RepF.mono k hA ts r h2⟩
end

/-- a list or a dict that stands at a, its items without what is owned -/
def CellOk (c : Cn) (H : Hp) (Av : Addr → Prop) : T → Addr → Prop
  | .lst ts, a => ∃ vs, H a = some (.lst vs) ∧ RepL c H Av ts vs
  | .dct kvs, a => (∃ ks, H a = some (.dK ks) ∧ RepK0 c H Av kvs ks) ∨ ∃ ks, H a = some (dN c.P c.w a ks) ∧ RepK1 c H Av kvs ks ∧ kvs ≠ []
  | _, _ => False
theorem CellOk.mono (k : Kp Av H H') (hA : ∀ a o, H a = some o → Av' a → Av a) : ∀ {t : T} {a : Addr}, H' a = H a → CellOk c H Av t a → CellOk c H' Av' t a
  | .lst ts, a, he, h => by
    obtain ⟨vs, h1, h2⟩ := h
    exact ⟨vs, he.trans h1, RepL.mono k hA ts vs h2⟩
  | .dct kvs, a, he, h => by
    rcases h with ⟨ks, h1, h2⟩ | ⟨ks, h1, h2⟩
    · exact .inl ⟨ks, he.trans h1, RepK0.mono k hA kvs ks h2⟩
    · exact .inr ⟨ks, he.trans h1, RepK1.mono k hA kvs ks h2.1, h2.2⟩
  | .non, _, _, h | .bl _, _, _, h | .int _, _, _, h | .str _, _, _, h | .tup _, _, _, h | .ins _ _, _, _, h | .scr _, _, _, h => h.elim
theorem CellOk.dom : ∀ {t : T} {a : Addr}, CellOk c H Av t a → ∃ o, H a = some o ∧ MutO o
  | .lst ts, a, h => let ⟨vs, h1, _⟩ := h; ⟨_, h1, trivial⟩
  | .dct kvs, a, h => by
    rcases h with ⟨ks, h1, _⟩ | ⟨ks, h1, _⟩
    · exact ⟨_, h1, trivial⟩
    · exact ⟨_, h1, trivial⟩
  | .non, _, h | .bl _, _, h | .int _, _, h | .str _, _, h | .tup _, _, h | .ins _ _, _, h | .scr _, _, h => h.elim
/-- a cell that is not owned is a value -/
theorem CellOk.rep : ∀ {t : T} {a : Addr}, CellOk c H Av t a → ¬Av a → Rep c H Av t (.ref a)
  | .lst ts, a, h, n => by
    obtain ⟨vs, h1, h2⟩ := h
    rw [Rep]
    exact ⟨a, vs, rfl, n, h1, h2⟩
  | .dct kvs, a, h, n => by
    rw [Rep]
    exact ⟨a, rfl, n, h.imp (fun ⟨ks, x, y⟩ => ⟨ks, .inl x, y⟩) fun ⟨ks, x, y⟩ => ⟨ks, .inl x, y⟩⟩
  | .non, _, h, _ | .bl _, _, h, _ | .int _, _, h, _ | .str _, _, h, _ | .tup _, _, h, _ | .ins _ _, _, h, _ | .scr _, _, h, _ => h.elim

/-! ### the frame -/
structure Fr where
  A : Addr → Prop
  H0 : Hp
  io : Nat → Option Addr
def Fr.av (F : Fr) (O : Addr → Option Nat) : Addr → Prop := fun a => F.A a ∨ (O a).isSome = true
def Ent (c : Cn) (F : Fr) (O : Addr → Option Nat) (H : Hp) (i : Nat) (sl : Sl) (v : V) : Prop :=
  match sl.m with
  | .sh => Rep c H (F.av O) sl.t v
  | .own => ∃ a, v = .ref a ∧ O a = some i ∧ F.H0 a = none ∧ CellOk c H (F.av O) sl.t a
  | .io => ∃ a, v = .ref a ∧ O a = some i ∧ F.io i = some a ∧ CellOk c H (F.av O) sl.t a
structure SimO (c : Cn) (F : Fr) (O : Addr → Option Nat) (es : En) (vs : List (Option V)) (H : Hp) : Prop where
  len : vs.length = es.length
  oa : ∀ a, (O a).isSome = true → ¬F.A a
  ad : ∀ a, F.A a → H a ≠ none
  od : ∀ a, (O a).isSome = true → H a ≠ none
  iod : ∀ i b, F.io i = some b → H b ≠ none ∧ F.H0 b ≠ none
  keep : ∀ b o, F.H0 b = some o → (∀ i, F.io i ≠ some b) → H b = some o
  ent : ∀ i sl, es[i]? = some (some sl) → ∃ v, vs[i]? = some (some v) ∧ Ent c F O H i sl v
def Sim (c : Cn) (F : Fr) (es : En) (vs : List (Option V)) (H : Hp) : Prop := ∃ O, SimO c F O es vs H

theorem av_mono {F : Fr} {O O' : Addr → Option Nat} (h : ∀ a, (O' a).isSome = true → (O a).isSome = true) : ∀ a o, H a = some o → F.av O' a → F.av O a := fun a _ _ q => q.imp id (h a)

/-- the heap grows -/
theorem SimO.grow {F : Fr} {O : Addr → Option Nat} {es : En} {vs : List (Option V)} (S : SimO c F O es vs H) (k : ∀ a o, H a = some o → H' a = some o) : SimO c F O es vs H' := by
  have nn : ∀ a, H a ≠ none → H' a ≠ none := fun a h => by
    cases e : H a with
    | none => exact absurd e h
    | some o => rw [k a o e]; exact fun z => nomatch z
  refine ⟨S.len, S.oa, fun a h => nn a (S.ad a h), fun a h => nn a (S.od a h), fun i b h => ⟨nn b (S.iod i b h).1, (S.iod i b h).2⟩, fun b o h n => k b o (S.keep b o h n), fun i sl h => ?_⟩
  obtain ⟨v, h1, h2⟩ := S.ent i sl h
  refine ⟨v, h1, ?_⟩
  have kp : Kp (F.av O) H H' := Kp.of_all k
  have same : ∀ a, (∃ o, H a = some o ∧ MutO o) → H' a = H a := fun a ⟨o, e, _⟩ => by rw [e, k a o e]
  unfold Ent at h2 ⊢
  cases hm : sl.m with
  | sh => rw [hm] at h2; exact Rep.mono kp (fun _ _ _ z => z) _ _ h2
  | own =>
    rw [hm] at h2
    obtain ⟨a, e1, e2, e3, e5⟩ := h2
    exact ⟨a, e1, e2, e3, CellOk.mono kp (fun _ _ _ z => z) (same a e5.dom) e5⟩
  | io =>
    rw [hm] at h2
    obtain ⟨a, e1, e2, e3, e4⟩ := h2
    exact ⟨a, e1, e2, e3, CellOk.mono kp (fun _ _ _ z => z) (same a e4.dom) e4⟩

/-- entries taken out of order, left out, owned ones made shared -/
theorem SimO.re {F : Fr} {O : Addr → Option Nat} {es es' : En} {vs vs' : List (Option V)} (S : SimO c F O es vs H) (hl : vs'.length = es'.length) (f : Nat → Nat)
    (h : ∀ j sl, es'[j]? = some (some sl) → ∃ m, es[f j]? = some (some ⟨sl.t, m⟩) ∧ vs'[j]? = vs[f j]? ∧ (sl.m = m ∨ (sl.m = .sh ∧ m = .own)) ∧ (m = .io → f j = j) ∧
      (m ≠ .sh → sl.m ≠ .sh → ∀ j' sl', es'[j']? = some (some sl') → f j' = f j → j' = j) ∧ (m ≠ .sh → sl.m = .sh → ∀ j' sl', es'[j']? = some (some sl') → f j' = f j → sl'.m = .sh)) : Sim c F es' vs' H := by
  classical
  let own : Nat → Prop := fun j => ∃ sl, es'[j]? = some (some sl) ∧ sl.m ≠ .sh
  let O' : Addr → Option Nat := fun a => if q : ∃ j, own j ∧ O a = some (f j) then some q.choose else none
  have sub : ∀ a, (O' a).isSome = true → (O a).isSome = true := fun a q => by
    by_cases z : ∃ j, own j ∧ O a = some (f j)
    · rw [z.choose_spec.2]; rfl
    · have : O' a = none := dif_neg z
      rw [this] at q; cases q
  have key : ∀ a j sl, es'[j]? = some (some sl) → sl.m ≠ .sh → (∀ j' sl', es'[j']? = some (some sl') → f j' = f j → j' = j) → O a = some (f j) → O' a = some j := fun a j sl h1 h2 h3 h4 => by
    have q : ∃ j, own j ∧ O a = some (f j) := ⟨j, ⟨sl, h1, h2⟩, h4⟩
    have e : O' a = some q.choose := dif_pos q
    rw [e]
    obtain ⟨⟨sl', h5, _⟩, h6⟩ := q.choose_spec
    exact congrArg some (h3 _ _ h5 (Option.some.inj (h4.symm.trans h6)).symm)
  have kp : Kp (F.av O) H H := fun a o e _ => e
  refine ⟨O', hl, fun a q => S.oa a (sub a q), S.ad, fun a q => S.od a (sub a q), S.iod, S.keep, fun j sl hj => ?_⟩
  obtain ⟨m, e1, e2, hm, hio, u1, u2⟩ := h j sl hj
  obtain ⟨v, e3, e4⟩ := S.ent _ _ e1
  refine ⟨v, e2.trans e3, ?_⟩
  obtain ⟨t, ms⟩ := sl
  rcases hm with hm | ⟨hm, hm2⟩
  · have hm : ms = m := hm
    subst hm
    cases ms with
    | sh =>
      exact Rep.mono kp (av_mono sub) _ _ e4
    | own =>
      obtain ⟨a, q1, q2, q3, q5⟩ := e4
      exact ⟨a, q1, key a j _ hj (fun z => nomatch z) (u1 (fun z => nomatch z) fun z => nomatch z) q2, q3, CellOk.mono kp (av_mono sub) rfl q5⟩
    | io =>
      obtain ⟨a, q1, q2, q3, q4⟩ := e4
      have ej := hio rfl
      rw [ej] at q3
      exact ⟨a, q1, key a j _ hj (fun z => nomatch z) (u1 (fun z => nomatch z) fun z => nomatch z) q2, q3, CellOk.mono kp (av_mono sub) rfl q4⟩
  · have hm : ms = .sh := hm
    subst hm hm2
    obtain ⟨a, q1, q2, q3, q5⟩ := e4
    have na : ¬F.av O' a := fun z => by
      rcases z with z | z
      · exact S.oa a (by rw [q2]; rfl) z
      · by_cases w : ∃ j, own j ∧ O a = some (f j)
        · obtain ⟨⟨sl', h5, h6⟩, h7⟩ := w.choose_spec
          exact h6 (u2 (fun z => nomatch z) rfl _ _ h5 (Option.some.inj (q2.symm.trans h7)).symm)
        · have : O' a = none := dif_neg w
          rw [this] at z; cases z
    show Rep c H (F.av O') t v
    rw [q1]
    exact (CellOk.mono kp (av_mono sub) rfl q5).rep na

theorem SimO.push_sh {F : Fr} {O : Addr → Option Nat} {es : En} {vs : List (Option V)} (S : SimO c F O es vs H) {t : T} {v : V} (r : Rep c H (F.av O) t v) : SimO c F O (es ++ [some ⟨t, .sh⟩]) (vs ++ [some v]) H := by
  refine ⟨by simp [S.len], S.oa, S.ad, S.od, S.iod, S.keep, fun i sl h => ?_⟩
  by_cases hi : i < es.length
  · rw [List.getElem?_append_left hi] at h
    rw [List.getElem?_append_left (by rw [S.len]; exact hi)]
    exact S.ent i sl h
  · rw [List.getElem?_append_right (by omega)] at h
    have e0 : i - es.length = 0 := by
      cases q : i - es.length with
      | zero => rfl
      | succ n => rw [q] at h; simp at h
    rw [e0] at h
    simp only [List.getElem?_cons_zero, Option.some.injEq] at h
    subst h
    refine ⟨v, ?_, r⟩
    rw [List.getElem?_append_right (by rw [S.len]; omega), S.len, e0]
    rfl
theorem SimO.push_none {F : Fr} {O : Addr → Option Nat} {es : En} {vs : List (Option V)} (S : SimO c F O es vs H) (o : Option V) : SimO c F O (es ++ [none]) (vs ++ [o]) H := by
  refine ⟨by simp [S.len], S.oa, S.ad, S.od, S.iod, S.keep, fun i sl h => ?_⟩
  by_cases hi : i < es.length
  · rw [List.getElem?_append_left hi] at h
    rw [List.getElem?_append_left (by rw [S.len]; exact hi)]
    exact S.ent i sl h
  · rw [List.getElem?_append_right (by omega)] at h
    cases q : i - es.length with
    | zero => rw [q] at h; simp at h
    | succ n => rw [q] at h; simp at h
theorem SimO.free {F : Fr} {O : Addr → Option Nat} {es : En} {vs : List (Option V)} (S : SimO c F O es vs H) {p : Addr} (hp : H p = none) : ¬F.A p ∧ F.H0 p = none ∧ (∀ i, F.io i ≠ some p) := by
  have h3 : ∀ i, F.io i ≠ some p := fun i e => (S.iod i p e).1 hp
  refine ⟨fun z => S.ad p z hp, ?_, h3⟩
  cases e : F.H0 p with
  | none => rfl
  | some o => rw [S.keep p o e h3] at hp; cases hp
/-- a new list or dict, owned by the top of the stack -/
theorem SimO.push_own {F : Fr} {O : Addr → Option Nat} {es : En} {vs : List (Option V)} (S : SimO c F O es vs H) {t : T} {p : Addr} (hp : H p = none) (k : ∀ a o, H a = some o → H' a = some o)
    (r : CellOk c H' (fun a => F.av O a ∨ a = p) t p) : ∃ O', (∀ b, (O' b).isSome = true → (O b).isSome = true ∨ b = p) ∧ SimO c F O' (es ++ [some ⟨t, .own⟩]) (vs ++ [some (.ref p)]) H' := by
  obtain ⟨f1, f2, f3⟩ := S.free hp
  have hOp : O p = none := by
    cases e : O p with
    | none => rfl
    | some i => exact absurd hp (S.od p (by rw [e]; rfl))
  have G := S.grow k
  obtain ⟨op, hop, _⟩ := r.dom
  let O' : Addr → Option Nat := fun a => if a = p then some es.length else O a
  have O'p : O' p = some es.length := if_pos rfl
  have O'n : ∀ {a}, a ≠ p → O' a = O a := fun h => if_neg h
  have avp : ∀ a o, H a = some o → F.av O' a → F.av O a := fun a o e q => by
    have hne : a ≠ p := fun z => by rw [z, hp] at e; cases e
    rcases q with q | q
    · exact .inl q
    · rw [O'n hne] at q; exact .inr q
  have kp : Kp (F.av O) H H' := Kp.of_all k
  have same : ∀ a, (∃ o, H a = some o ∧ MutO o) → H' a = H a := fun a ⟨o, e, _⟩ => by rw [e, k a o e]
  have ne : ∀ a, (∃ o, H a = some o ∧ MutO o) → a ≠ p := fun a ⟨o, e, _⟩ z => by rw [z, hp] at e; cases e
  refine ⟨O', fun b q => ?_, ⟨by simp [S.len], fun a q => ?_, G.ad, fun a q => ?_, G.iod, G.keep, fun i sl h => ?_⟩⟩
  · by_cases e : b = p
    · exact .inr e
    · rw [O'n e] at q; exact .inl q
  · by_cases e : a = p
    · subst e; exact f1
    · rw [O'n e] at q; exact S.oa a q
  · by_cases e : a = p
    · subst e; rw [hop]; exact fun z => nomatch z
    · rw [O'n e] at q; exact G.od a q
  · by_cases hi : i < es.length
    · rw [List.getElem?_append_left hi] at h
      rw [List.getElem?_append_left (by rw [S.len]; exact hi)]
      obtain ⟨v, h1, h2⟩ := S.ent i sl h
      refine ⟨v, h1, ?_⟩
      obtain ⟨t', m⟩ := sl
      cases m with
      | sh => exact Rep.mono kp avp _ _ h2
      | own =>
        obtain ⟨a, q1, q2, q3, q5⟩ := h2
        exact ⟨a, q1, (O'n (ne a q5.dom)).trans q2, q3, CellOk.mono kp avp (same a q5.dom) q5⟩
      | io =>
        obtain ⟨a, q1, q2, q3, q4⟩ := h2
        exact ⟨a, q1, (O'n (ne a q4.dom)).trans q2, q3, CellOk.mono kp avp (same a q4.dom) q4⟩
    · rw [List.getElem?_append_right (by omega)] at h
      have e0 : i - es.length = 0 := by
        cases q : i - es.length with
        | zero => rfl
        | succ n => rw [q] at h; simp at h
      have ei : i = es.length := by omega
      rw [e0] at h
      simp only [List.getElem?_cons_zero, Option.some.injEq] at h
      subst h
      refine ⟨.ref p, ?_, p, rfl, ?_, f2, CellOk.mono (Kp.of_all fun _ _ e => e) (fun b _ _ q => ?_) rfl r⟩
      · rw [List.getElem?_append_right (by rw [S.len]; omega), S.len, e0]
        rfl
      · rw [O'p, ei]
      · rcases q with q | q
        · exact .inl (.inl q)
        · by_cases e : b = p
          · exact .inr e
          · rw [O'n e] at q; exact .inl (.inr q)
/-- an owned cell is put for by another -/
theorem SimO.put {F : Fr} {O : Addr → Option Nat} {es : En} {vs : List (Option V)} (S : SimO c F O es vs H) {i : Nat} {t t' : T} {m : Md} {a : Addr} (hi : es[i]? = some (some ⟨t, m⟩)) (hm : m ≠ .sh) (hv : vs[i]? = some (some (.ref a)))
    (k : ∀ b o, b ≠ a → H b = some o → H' b = some o) (r : CellOk c H' (F.av O) t' a) : SimO c F O (es.set i (some ⟨t', m⟩)) vs H' := by
  have hil : i < es.length := (List.getElem?_eq_some_iff.mp hi).1
  have own : O a = some i ∧ (∀ o, F.H0 a = some o → F.io i = some a) ∧ ∃ o, H a = some o ∧ MutO o := by
    obtain ⟨v, h1, h2⟩ := S.ent i _ hi
    rw [hv] at h1
    cases m with
    | sh => exact absurd rfl hm
    | own =>
      obtain ⟨b, q1, q2, q3, q5⟩ := h2
      have e : a = b := V.ref.inj ((Option.some.inj (Option.some.inj h1)).trans q1)
      subst e
      exact ⟨q2, fun o z => (by rw [q3] at z; cases z), q5.dom⟩
    | io =>
      obtain ⟨b, q1, q2, q3, q4⟩ := h2
      have e : a = b := V.ref.inj ((Option.some.inj (Option.some.inj h1)).trans q1)
      subst e
      exact ⟨q2, fun _ _ => q3, q4.dom⟩
  obtain ⟨hO, hH0, oa, hoa, moa⟩ := own
  obtain ⟨oa', hoa', _⟩ := r.dom
  have nn : ∀ b, H b ≠ none → H' b ≠ none := fun b h => by
    by_cases e : b = a
    · rw [e, hoa']; exact fun z => nomatch z
    · cases q : H b with
      | none => exact absurd q h
      | some o => rw [k b o e q]; exact fun z => nomatch z
  have kp : Kp (F.av O) H H' := fun b o e q => by
    by_cases hb : b = a
    · subst hb
      rcases q with q | q
      · exact absurd (.inr (by rw [hO]; rfl)) q
      · rw [hoa] at e; cases e; exact absurd moa q
    · exact k b o hb e
  have av : ∀ b o, H b = some o → F.av O b → F.av O b := fun _ _ _ z => z
  refine ⟨by simp [S.len], S.oa, fun b h => nn b (S.ad b h), fun b h => nn b (S.od b h), fun j b h => ⟨nn b (S.iod j b h).1, (S.iod j b h).2⟩, fun b o h n => ?_, fun j sl h => ?_⟩
  · by_cases e : b = a
    · subst e; exact absurd (hH0 o h) (n i)
    · exact k b o e (S.keep b o h n)
  · by_cases hj : j = i
    · subst hj
      rw [List.getElem?_set_self hil] at h
      cases h
      refine ⟨.ref a, hv, ?_⟩
      obtain ⟨v, h1, h2⟩ := S.ent j _ hi
      rw [hv] at h1
      cases m with
      | sh => exact absurd rfl hm
      | own =>
        obtain ⟨b, q1, q2, q3, q5⟩ := h2
        have e : a = b := V.ref.inj ((Option.some.inj (Option.some.inj h1)).trans q1)
        subst e
        exact ⟨a, rfl, q2, q3, r⟩
      | io =>
        obtain ⟨b, q1, q2, q3, q4⟩ := h2
        have e : a = b := V.ref.inj ((Option.some.inj (Option.some.inj h1)).trans q1)
        subst e
        exact ⟨a, rfl, q2, q3, r⟩
    · rw [List.getElem?_set_ne (Ne.symm hj)] at h
      obtain ⟨v, h1, h2⟩ := S.ent j sl h
      refine ⟨v, h1, ?_⟩
      obtain ⟨t', m'⟩ := sl
      have ne : ∀ b, O b = some j → b ≠ a := fun b q z => by rw [z, hO] at q; exact hj (Option.some.inj q).symm
      have same : ∀ b, b ≠ a → (∃ o, H b = some o ∧ MutO o) → H' b = H b := fun b n ⟨o, e, _⟩ => by rw [e, k b o n e]
      cases m' with
      | sh => exact Rep.mono kp av _ _ h2
      | own =>
        obtain ⟨b, q1, q2, q3, q5⟩ := h2
        exact ⟨b, q1, q2, q3, CellOk.mono kp av (same b (ne b q2) q5.dom) q5⟩
      | io =>
        obtain ⟨b, q1, q2, q3, q4⟩ := h2
        exact ⟨b, q1, q2, q3, CellOk.mono kp av (same b (ne b q2) q4.dom) q4⟩
/-- what stands in a slot, to be read: its items without what is owned -/
def RepT (c : Cn) (H : Hp) (Av : Addr → Prop) (t : T) (v : V) : Prop := Rep c H Av t v ∨ ∃ a, v = .ref a ∧ CellOk c H Av t a
theorem Ent.repT {F : Fr} {O : Addr → Option Nat} {i : Nat} {sl : Sl} {v : V} (h : Ent c F O H i sl v) : RepT c H (F.av O) sl.t v := by
  obtain ⟨t, m⟩ := sl
  cases m with
  | sh => exact .inl h
  | own => obtain ⟨a, q1, q2, q3, q5⟩ := h; exact .inr ⟨a, q1, q5⟩
  | io => obtain ⟨a, q1, q2, q3, q5⟩ := h; exact .inr ⟨a, q1, q5⟩
end
end DD
/-! DFrz: a dict that is locked for good: all values are what they were. -/
namespace DD
variable [Mode]
open PySem L2
/-- a dict -/
def DictN (u : HO) : Prop := (∃ ks, u = .dK ks) ∨ ∃ φ, u = .ext φ
section
variable {c : Cn} {H : Hp} {Av : Addr → Prop} {a : Addr} {u : HO} {od : Obj}
theorem lock_ne (hu : H a = some u) (hd : DictN u) {b : Addr} {o : HO} (e : H b = some o) (n : ∀ ks, o ≠ .dK ks) (m : ∀ ks, o ≠ .ext ks) : upd H a (.frz od u) b = some o := by
  rw [upd_ne]
  · exact e
  · intro z
    rw [z, hu] at e
    cases e
    rcases hd with ⟨ks, e⟩ | ⟨ks, e⟩
    · exact n ks e
    · exact m ks e
theorem HoT.nd {st : Bool} {o : HO} {vs : List V} (h : HoT st o vs) : (∀ ks, o ≠ .dK ks) ∧ ∀ ks, o ≠ .ext ks := by
  cases st with
  | false => rw [show o = .tup vs from h]; exact ⟨fun _ z => (nomatch z), fun _ z => (nomatch z)⟩
  | true => obtain ⟨od, rfl, _⟩ := h; exact ⟨fun _ z => (nomatch z), fun _ z => (nomatch z)⟩
theorem rd_lock (hu : H a = some u) {b : Addr} {w : HO} (hd : DictN u) (h : Rd H b w) : Rd (upd H a (.frz od u)) b w := by
  rcases h with h | ⟨od', h⟩
  · by_cases e : b = a
    · subst e
      rw [hu] at h
      cases h
      exact .inr ⟨od, upd_same⟩
    · exact .inl (by rw [upd_ne e]; exact h)
  · exact .inr ⟨od', lock_ne hu hd h (fun _ z => (nomatch z)) fun _ z => (nomatch z)⟩
mutual
theorem Rep.lock (hu : H a = some u) (hd : DictN u) : ∀ (t : T) (v : V), Rep c H Av t v → Rep c (upd H a (.frz od u)) Av t v
  | .non, _, h => by rw [Rep] at h ⊢; exact h
  | .bl _, _, h => by rw [Rep] at h ⊢; exact h
  | .int _, _, h => by rw [Rep] at h ⊢; exact h
  | .str _, _, h => by rw [Rep] at h ⊢; exact h
  | .tup ts, v, h => by
    rw [Rep] at h ⊢
    obtain ⟨b, vs, e, ⟨o, h1, h2⟩, hr⟩ := h
    exact ⟨b, vs, e, ⟨o, lock_ne hu hd h1 h2.nd.1 h2.nd.2, h2⟩, RepL.lock hu hd ts vs hr⟩
  | .lst ts, v, h => by
    rw [Rep] at h ⊢
    obtain ⟨b, vs, e, hn, hH, hr⟩ := h
    exact ⟨b, vs, e, hn, lock_ne hu hd hH (fun _ z => (nomatch z)) fun _ z => (nomatch z), RepL.lock hu hd ts vs hr⟩
  | .dct kvs, v, h => by
    rw [Rep] at h ⊢
    obtain ⟨b, e, hn, hH⟩ := h
    rcases hH with ⟨ks, hH, hr⟩ | ⟨ks, hH, hr, hne⟩
    · exact ⟨b, e, hn, .inl ⟨ks, rd_lock hu hd hH, RepK0.lock hu hd kvs ks hr⟩⟩
    · exact ⟨b, e, hn, .inr ⟨ks, rd_lock hu hd hH, RepK1.lock hu hd kvs ks hr, hne⟩⟩
  | .ins n fs, v, h => by
    rw [Rep] at h ⊢
    obtain ⟨b, dx, fv, e, hH, hr⟩ := h
    exact ⟨b, dx, fv, e, lock_ne hu hd hH (fun _ z => (nomatch z)) fun _ z => (nomatch z), RepF.lock hu hd fs fv hr⟩
  | .scr ns, v, h => by
    rw [Rep] at h ⊢
    obtain ⟨b, e, hq⟩ := h
    exact ⟨b, e, hq.imp (fun ⟨o, h⟩ => ⟨o, lock_ne hu hd h (fun _ z => (nomatch z)) fun _ z => (nomatch z)⟩) id⟩
theorem RepL.lock (hu : H a = some u) (hd : DictN u) : ∀ (ts : List T) (vs : List V), RepL c H Av ts vs → RepL c (upd H a (.frz od u)) Av ts vs
  | [], _, h => by rw [RepL] at h ⊢; exact h
  | t :: ts, vs, h => by
    rw [RepL] at h ⊢
    obtain ⟨v, r, e, h1, h2⟩ := h
    exact ⟨v, r, e, Rep.lock hu hd t v h1, RepL.lock hu hd ts r h2⟩
theorem RepK0.lock (hu : H a = some u) (hd : DictN u) : ∀ (ts : List (T × T)) (vs : List (Key × V)), RepK0 c H Av ts vs → RepK0 c (upd H a (.frz od u)) Av ts vs
  | [], _, h => by rw [RepK0] at h ⊢; exact h
  | (_, t) :: ts, vs, h => by
    rw [RepK0] at h ⊢
    obtain ⟨k', v, r, e, ek, h1, h2⟩ := h
    exact ⟨k', v, r, e, ek, Rep.lock hu hd t v h1, RepK0.lock hu hd ts r h2⟩
theorem RepK1.lock (hu : H a = some u) (hd : DictN u) : ∀ (ts : List (T × T)) (vs : List KEnt), RepK1 c H Av ts vs → RepK1 c (upd H a (.frz od u)) Av ts vs
  | [], _, h => by rw [RepK1] at h ⊢; exact h
  | (kt, t) :: ts, vs, h => by
    rw [RepK1] at h ⊢
    obtain ⟨q, v, r, e, ek, h0, h1, h2⟩ := h
    exact ⟨q, v, r, e, ek, Rep.lock hu hd kt _ h0, Rep.lock hu hd t v h1, RepK1.lock hu hd ts r h2⟩
theorem RepF.lock (hu : H a = some u) (hd : DictN u) : ∀ (ts : List (Str × T)) (vs : List (Str × V)), RepF c H Av ts vs → RepF c (upd H a (.frz od u)) Av ts vs
  | [], _, h => by rw [RepF] at h ⊢; exact h
  | (_, t) :: ts, vs, h => by
    rw [RepF] at h ⊢
    obtain ⟨v, r, e, h1, h2⟩ := h
    exact ⟨v, r, e, Rep.lock hu hd t v h1, RepF.lock hu hd ts r h2⟩
end
theorem CellOk.lock (hu : H a = some u) (hd : DictN u) : ∀ {t : T} {b : Addr}, b ≠ a → CellOk c H Av t b → CellOk c (upd H a (.frz od u)) Av t b
  | .lst ts, b, n, h => by
    obtain ⟨vs, h1, h2⟩ := h
    exact ⟨vs, (upd_ne n).trans h1, RepL.lock hu hd ts vs h2⟩
  | .dct kvs, b, n, h => by
    rcases h with ⟨ks, h1, h2⟩ | ⟨ks, h1, h2, h3⟩
    · exact .inl ⟨ks, (upd_ne n).trans h1, RepK0.lock hu hd kvs ks h2⟩
    · exact .inr ⟨ks, (upd_ne n).trans h1, RepK1.lock hu hd kvs ks h2, h3⟩
  | .non, _, _, h | .bl _, _, _, h | .int _, _, _, h | .str _, _, _, h | .tup _, _, _, h | .ins _ _, _, _, h | .scr _, _, _, h => h.elim
/-- a dict that nobody owns, that is not the caller's, is locked -/
theorem SimO.lockS {F : Fr} {O : Addr → Option Nat} {es : En} {vs : List (Option V)} (S : SimO c F O es vs H) (hu : H a = some u) (hd : DictN u) (hO : O a = none) (h0 : F.H0 a = none) : SimO c F O es vs (upd H a (.frz od u)) := by
  have nn : ∀ b, H b ≠ none → upd H a (.frz od u) b ≠ none := fun b h => by
    by_cases e : b = a
    · rw [e, upd_same]; exact fun z => nomatch z
    · rw [upd_ne e]; exact h
  refine ⟨S.len, S.oa, fun b h => nn b (S.ad b h), fun b h => nn b (S.od b h), fun i b h => ⟨nn b (S.iod i b h).1, (S.iod i b h).2⟩, fun b o h n => ?_, fun i sl h => ?_⟩
  · have e : b ≠ a := fun z => by rw [z, h0] at h; cases h
    rw [upd_ne e]
    exact S.keep b o h n
  · obtain ⟨v, h1, h2⟩ := S.ent i sl h
    refine ⟨v, h1, ?_⟩
    have own : ∀ {b : Addr} {j : Nat}, O b = some j → b ≠ a := fun h z => by rw [z, hO] at h; cases h
    unfold Ent at h2 ⊢
    cases hm : sl.m with
    | sh => rw [hm] at h2; exact Rep.lock hu hd _ _ h2
    | own =>
      rw [hm] at h2
      obtain ⟨b, e1, e2, e3, e5⟩ := h2
      exact ⟨b, e1, e2, e3, CellOk.lock hu hd (own e2) e5⟩
    | io =>
      rw [hm] at h2
      obtain ⟨b, e1, e2, e3, e4⟩ := h2
      exact ⟨b, e1, e2, e3, CellOk.lock hu hd (own e2) e4⟩
/-- an own slot made shared: nobody owns what stands there -/
theorem SimO.share {F : Fr} {O : Addr → Option Nat} {es : En} {vs : List (Option V)} (S : SimO c F O es vs H) {i : Nat} {t : T} (hi : es[i]? = some (some ⟨t, .own⟩)) :
    ∃ (b : Addr) (O' : Addr → Option Nat), vs[i]? = some (some (.ref b)) ∧ F.H0 b = none ∧ O' b = none ∧ CellOk c H (F.av O') t b ∧ SimO c F O' (es.set i (some ⟨t, .sh⟩)) vs H := by
  obtain ⟨v, h1, b, rfl, hO, h0, hc⟩ := S.ent i _ hi
  classical
  have hil : i < es.length := (List.getElem?_eq_some_iff.mp hi).1
  let O' : Addr → Option Nat := fun x => if x = b then none else O x
  have Ob : O' b = none := if_pos rfl
  have On : ∀ {x}, x ≠ b → O' x = O x := fun h => if_neg h
  have sub : ∀ x, (O' x).isSome = true → (O x).isSome = true := fun x q => by
    by_cases e : x = b
    · subst e; rw [Ob] at q; cases q
    · rw [On e] at q; exact q
  have kp : Kp (F.av O) H H := fun _ _ e _ => e
  have hc' : CellOk c H (F.av O') t b := CellOk.mono kp (av_mono sub) rfl hc
  have nb : ¬F.av O' b := fun z => by
    rcases z with z | z
    · exact S.oa b (by rw [hO]; rfl) z
    · rw [Ob] at z; cases z
  refine ⟨b, O', h1, h0, Ob, hc', by simp [S.len], fun x q => S.oa x (sub x q), S.ad, fun x q => S.od x (sub x q), S.iod, S.keep, fun j sl h => ?_⟩
  by_cases hj : j = i
  · subst hj
    rw [List.getElem?_set_self hil] at h
    cases h
    exact ⟨.ref b, h1, hc'.rep nb⟩
  · rw [List.getElem?_set_ne (Ne.symm hj)] at h
    obtain ⟨v, q1, q2⟩ := S.ent j sl h
    refine ⟨v, q1, ?_⟩
    have own : ∀ {x : Addr}, O x = some j → x ≠ b := fun h z => by rw [z, hO] at h; exact hj (Option.some.inj h).symm
    unfold Ent at q2 ⊢
    cases hm : sl.m with
    | sh => rw [hm] at q2; exact Rep.mono kp (av_mono sub) _ _ q2
    | own =>
      rw [hm] at q2
      obtain ⟨x, e1, e2, e3, e5⟩ := q2
      exact ⟨x, e1, (On (own e2)).trans e2, e3, CellOk.mono kp (av_mono sub) rfl e5⟩
    | io =>
      rw [hm] at q2
      obtain ⟨x, e1, e2, e3, e4⟩ := q2
      exact ⟨x, e1, (On (own e2)).trans e2, e3, CellOk.mono kp (av_mono sub) rfl e4⟩
/-- an own dict that holds something, locked for good: a shared one from now on -/
theorem SimO.frzOwn {F : Fr} {O : Addr → Option Nat} {es : En} {vs : List (Option V)} (S : SimO c F O es vs H) {i : Nat} {kvs : List (T × T)} (hi : es[i]? = some (some ⟨.dct kvs, .own⟩)) :
    ∃ (b : Addr) (w : HO) (O' : Addr → Option Nat), vs[i]? = some (some (.ref b)) ∧ H b = some w ∧ DictN w ∧ F.H0 b = none ∧ CellOk c H (F.av O') (.dct kvs) b ∧ ∀ od, SimO c F O' (es.set i (some ⟨.dct kvs, .sh⟩)) vs (upd H b (.frz od w)) := by
  obtain ⟨b, O', h1, h0, hO, hc, S'⟩ := S.share hi
  have : ∃ w, H b = some w ∧ DictN w := by
    rcases hc with ⟨ks, e, r⟩ | ⟨ks, e, r, _⟩
    · exact ⟨_, e, .inl ⟨ks, rfl⟩⟩
    · exact ⟨_, e, .inr ⟨_, rfl⟩⟩
  obtain ⟨w, hw, hd⟩ := this
  exact ⟨b, w, O', h1, hw, hd, h0, hc, fun od => S'.lockS hw hd hO h0⟩
end
end DD
/-! DRd: the readings of the language's pieces, and how operands are read off the stack. -/
namespace DD
variable [Mode]
open PySem L2

structure At (c : Cn) (F : Fr) (env stk : En) (σ : St) (ws : List (Option V)) (H : Hp) : Prop where
  hl : env.length = σ.length
  hw : stk.length = ws.length
  sim : Sim c F (env ++ stk) (σ ++ ws) H
def OVok (σ : St) : OV → V → Prop
  | .v _ _, _ => True
  | .s i, v => σ[i]? = some (some v)
def OV.sl : OV → Option Sl
  | .v t fr => some ⟨t, if fr then .own else .sh⟩
  | .s _ => none
inductive OVs (σ : St) : List OV → List V → Prop
  | nil : OVs σ [] []
  | cons {o os v vs} : OVok σ o v → OVs σ os vs → OVs σ (o :: os) (v :: vs)

section
variable (c : Cn) (Φ Ψ : Nat → Fn)
def rdE (e : E) : TE := fun σ H Q => ∃ F env stk ws, At c F env stk σ ws H ∧ ∃ o env', ev Φ Ψ e env = .ok (o, env') ∧ ∀ v H', At c F env' (stk ++ [o.sl]) σ (ws ++ [some v]) H' → OVok σ o v → Q v H'
def rdT (e : E) : TT := fun σ H Q => ∃ F env stk ws, At c F env stk σ ws H ∧ ∃ b fr env', ev Φ Ψ e env = .ok (.v (.bl b) fr, env') ∧ ∀ H', At c F env' stk σ ws H' → Q b H'
def rdA (es : List E) : TA := fun σ H Q => ∃ F env stk ws, At c F env stk σ ws H ∧ ∃ os env', evs Φ Ψ es env = .ok (os, env') ∧ ∀ vs H', At c F env' (stk ++ os.map OV.sl) σ (ws ++ vs.map some) H' → OVs σ os vs → Q vs H'
end

theorem PE.wk {X : Cx} {e : Expr} {t t' : TE} (h : PE X e t) (k : ∀ σ H Q, t' σ H Q → t σ H Q) : PE X e t' := ⟨fun pins s σ H Q I q => h.run pins s σ H Q I (k σ H Q q)⟩
theorem PT.wk {X : Cx} {e : Expr} {t t' : TT} (h : PT X e t) (k : ∀ σ H Q, t' σ H Q → t σ H Q) : PT X e t' := ⟨fun pins s σ H Q I q => h.run pins s σ H Q I (k σ H Q q)⟩
theorem PW.wk {X : Cx} {e : Expr} {t t' : TT} (h : PW X e t) (k : ∀ σ H Q, t' σ H Q → t σ H Q) : PW X e t' := ⟨fun wh pins s σ H Q I q => h.run wh pins s σ H Q I (k σ H Q q)⟩
theorem PA.wk {X : Cx} {es : List Expr} {t t' : TA} (h : PA X es t) (k : ∀ σ H Q, t' σ H Q → t σ H Q) : PA X es t' := ⟨fun pos pins s σ H Q I q => h.run pos pins s σ H Q I (k σ H Q q)⟩
theorem PS.wk {X : Cx} {e : Stmt} {t t' : TS} (h : PS X e t) (k : ∀ D σ H, t' D σ H → t D σ H) : PS X e t' := ⟨fun pins s σ H D I q => h.run pins s σ H D I (k D σ H q)⟩
theorem PSs.wk {X : Cx} {e : List Stmt} {t t' : TS} (h : PSs X e t) (k : ∀ D σ H, t' D σ H → t D σ H) : PSs X e t' := ⟨fun pins s σ H D I q => h.run pins s σ H D I (k D σ H q)⟩

/-! ### results -/
/-- all of H stands in H' -/
def Gr (H H' : Hp) : Prop := ∀ a o, H a = some o → H' a = some o
theorem Gr.refl {H : Hp} : Gr H H := fun _ _ e => e
theorem Gr.trans {H H1 H2 : Hp} (a : Gr H H1) (b : Gr H1 H2) : Gr H H2 := fun x o e => b x o (a x o e)
theorem Gr.upd {H : Hp} {p : Addr} {o : HO} (hp : H p = none) : Gr H (upd H p o) := fun a u e => by rw [upd_ne (ne_of_none e hp)]; exact e
/-- an operation's value: new (then it is owned by nobody), or one that is shared -/
def Out (c : Cn) (Av : Addr → Prop) (H : Hp) (fr : Bool) (t : T) (v : V) (H' : Hp) : Prop :=
  Gr H H' ∧ if fr = true then ∃ p, v = .ref p ∧ H p = none ∧ CellOk c H' (fun a => Av a ∨ a = p) t p else Rep c H' Av t v

section
variable {c : Cn} {F : Fr} {env stk : En} {σ : St} {ws : List (Option V)} {H H' : Hp}

theorem SimO.pushO {O : Addr → Option Nat} {es : En} {vs : List (Option V)} (S : SimO c F O es vs H) {t : T} {v : V} {fr : Bool} (o : Out c (F.av O) H fr t v H') :
    ∃ O', (∀ b, (O' b).isSome = true → (O b).isSome = true ∨ (fr = true ∧ v = .ref b)) ∧ SimO c F O' (es ++ [some ⟨t, if fr then .own else .sh⟩]) (vs ++ [some v]) H' := by
  obtain ⟨g, o⟩ := o
  cases fr with
  | false => exact ⟨O, fun _ q => .inl q, (S.grow g).push_sh o⟩
  | true =>
    obtain ⟨p, rfl, hp, hc⟩ := o
    obtain ⟨O', h1, h2⟩ := S.push_own hp g hc
    exact ⟨O', fun b q => (h1 b q).imp id fun e => ⟨rfl, by rw [e]⟩, h2⟩
theorem SimO.push {O : Addr → Option Nat} {es : En} {vs : List (Option V)} (S : SimO c F O es vs H) {t : T} {v : V} {fr : Bool} (o : Out c (F.av O) H fr t v H') : Sim c F (es ++ [some ⟨t, if fr then .own else .sh⟩]) (vs ++ [some v]) H' :=
  let ⟨O', _, h⟩ := S.pushO o
  ⟨O', h⟩

/-- the top of the stack is dropped -/
theorem Sim.drop {es xs : En} {vs ys : List (Option V)} (S : Sim c F (es ++ xs) (vs ++ ys) H) (hl : vs.length = es.length) : Sim c F es vs H := by
  obtain ⟨O, S⟩ := S
  refine S.re hl (fun j => j) fun j sl h => ?_
  have hj : j < es.length := (List.getElem?_eq_some_iff.mp h).1
  refine ⟨sl.m, ?_, ?_, .inl rfl, fun _ => rfl, fun _ _ _ _ _ e => e, fun n e => absurd e n⟩
  · rw [List.getElem?_append_left hj]; exact h
  · rw [List.getElem?_append_left (by omega)]
theorem At.drop {xs : En} {ys : List (Option V)} (S : At c F env (stk ++ xs) σ (ws ++ ys) H) (hl : stk.length = ws.length) : At c F env stk σ ws H := by
  refine ⟨S.hl, hl, Sim.drop (xs := xs) (ys := ys) ?_ (by simp [S.hl, hl])⟩
  rw [List.append_assoc, List.append_assoc]
  exact S.sim
/-- operands, read off the stack: what they stand for, where the rest stands without them -/
inductive RepTs (c : Cn) (H : Hp) (Av : Addr → Prop) : List T → List V → Prop
  | nil : RepTs c H Av [] []
  | cons {t ts v vs} : RepT c H Av t v → RepTs c H Av ts vs → RepTs c H Av (t :: ts) (v :: vs)
theorem vals_cons {env : En} {o : OV} {os : List OV} {ts : List T} (h : vals env (o :: os) = some ts) : ∃ t r, ts = t :: r ∧ o.res env = some t ∧ vals env os = some r := by
  rw [vals] at h
  cases e1 : o.res env with
  | none => rw [e1] at h; cases h
  | some t =>
    cases e2 : vals env os with
    | none => rw [e1, e2] at h; cases h
    | some r =>
      rw [e1, e2] at h
      exact ⟨t, r, (Option.some.inj h).symm, rfl, rfl⟩
theorem getS_some {env : En} {i : Nat} {sl : Sl} (h : getS env i = some sl) : env[i]? = some (some sl) := by
  unfold getS at h
  cases e : env[i]? with
  | none => rw [e] at h; cases h
  | some o => rw [e] at h; cases o with
    | none => cases h
    | some x => cases h; rfl
theorem getS_of {env : En} {i : Nat} {sl : Sl} (h : env[i]? = some (some sl)) : getS env i = some sl := by
  unfold getS
  rw [h]; rfl
theorem OVs.length {os : List OV} {vs : List V} (h : OVs σ os vs) : os.length = vs.length := by
  induction h with
  | nil => rfl
  | cons _ _ ih => simp [ih]
theorem operand {O : Addr → Option Nat} {es : En} {vs : List (Option V)} {k : Nat} {o : OV} {v : V} {t : T} (S : SimO c F O es vs H)
    (h1 : ∀ i, i < env.length → es[i]? = env[i]?) (h2 : ∀ i, i < env.length → vs[i]? = σ[i]?) (h3 : es[k]? = some o.sl) (h4 : vs[k]? = some (some v)) (ho : OVok σ o v) (hr : o.res env = some t) : RepT c H (F.av O) t v := by
  cases o with
  | v t' fr =>
    cases hr
    obtain ⟨v', q1, q2⟩ := S.ent k _ h3
    rw [h4] at q1
    cases q1
    exact q2.repT
  | s i =>
    have hr : (getS env i).map (·.t) = some t := hr
    cases e : getS env i with
    | none => rw [e] at hr; cases hr
    | some sl =>
      rw [e] at hr
      have e2 := getS_some e
      have hi : i < env.length := (List.getElem?_eq_some_iff.mp e2).1
      obtain ⟨v', q1, q2⟩ := S.ent i sl (by rw [h1 i hi]; exact e2)
      rw [h2 i hi] at q1
      have ho : σ[i]? = some (some v) := ho
      rw [ho] at q1
      cases q1
      have : sl.t = t := Option.some.inj hr
      subst this
      exact q2.repT
theorem operands {O : Addr → Option Nat} {es : En} {vs0 : List (Option V)} (S : SimO c F O es vs0 H) (h1 : ∀ i, i < env.length → es[i]? = env[i]?) (h2 : ∀ i, i < env.length → vs0[i]? = σ[i]?) :
    ∀ (os : List OV) (vs : List V) (ts : List T) (k : Nat), (∀ i, i < os.length → es[k + i]? = (os.map OV.sl)[i]?) → (∀ i, i < os.length → vs0[k + i]? = (vs.map some)[i]?) → OVs σ os vs → vals env os = some ts → RepTs c H (F.av O) ts vs
  | [], vs, ts, k, _, _, ho, hv => by
    cases ho
    rw [vals] at hv
    cases hv
    exact .nil
  | o :: os, vs, ts, k, a1, a2, ho, hv => by
    cases ho with
    | cons p q =>
      obtain ⟨t, r, rfl, r1, r2⟩ := vals_cons hv
      refine .cons (operand (env := env) (σ := σ) S h1 h2 (k := k) ?_ ?_ p r1) (operands S h1 h2 os _ r (k + 1) (fun i hi => ?_) (fun i hi => ?_) q r2)
      · have := a1 0 (by simp); simpa using this
      · have := a2 0 (by simp); simpa using this
      · have := a1 (i + 1) (by simp; omega)
        rw [show k + (i + 1) = k + 1 + i by omega] at this
        simpa using this
      · have := a2 (i + 1) (by simp; omega)
        rw [show k + (i + 1) = k + 1 + i by omega] at this
        simpa using this
theorem At.ops {os : List OV} {vs : List V} {ts : List T} (S : At c F env (stk ++ os.map OV.sl) σ (ws ++ vs.map some) H) (hl : stk.length = ws.length) (ho : OVs σ os vs) (hv : vals env os = some ts) :
    ∃ O, SimO c F O (env ++ stk) (σ ++ ws) H ∧ RepTs c H (F.av O) ts vs := by
  obtain ⟨O, S0⟩ := S.sim
  have hs := S.hl
  have hlen : vs.length = os.length := ho.length.symm
  have rt : RepTs c H (F.av O) ts vs := operands (env := env) (σ := σ) S0 (fun i hi => by rw [List.getElem?_append_left hi]) (fun i hi => by rw [List.getElem?_append_left (by omega)]) os vs ts (env.length + stk.length)
    (fun i hi => by rw [← List.append_assoc, List.getElem?_append_right (by simp only [List.length_append]; omega)]; exact congrArg _ (by simp only [List.length_append]; omega))
    (fun i hi => by rw [← List.append_assoc, List.getElem?_append_right (by simp only [List.length_append]; omega)]; exact congrArg _ (by simp only [List.length_append]; omega)) ho hv
  -- the rest, with the same owned things but those of the operands
  classical
  let O' : Addr → Option Nat := fun a => (O a).bind fun i => if i < (env ++ stk).length then some i else none
  have sub : ∀ a, (O' a).isSome = true → (O a).isSome = true := fun a q => by
    cases e : O a with
    | none => simp only [O', e, Option.bind_none] at q; exact q
    | some i => rfl
  have keep : ∀ a i, i < (env ++ stk).length → O a = some i → O' a = some i := fun a i hi e => by
    simp only [O', e, Option.bind_some, if_pos hi]
  have kp : Kp (F.av O) H H := fun a o e _ => e
  have avs : ∀ a o, H a = some o → F.av O' a → F.av O a := av_mono sub
  refine ⟨O', ⟨by simp [hs, hl], fun a q => S0.oa a (sub a q), S0.ad, fun a q => S0.od a (sub a q), S0.iod, S0.keep, fun i sl h => ?_⟩, ?_⟩
  · have hi : i < (env ++ stk).length := (List.getElem?_eq_some_iff.mp h).1
    obtain ⟨v, h1, h2⟩ := S0.ent i sl (by rw [← List.append_assoc, List.getElem?_append_left hi]; exact h)
    refine ⟨v, ?_, ?_⟩
    · have hi' : i < (σ ++ ws).length := by rw [List.length_append, ← hs, ← hl, ← List.length_append]; exact hi
      rw [← h1, ← List.append_assoc, List.getElem?_append_left hi']
    · obtain ⟨t, m⟩ := sl
      cases m with
      | sh => exact Rep.mono kp avs _ _ h2
      | own => obtain ⟨a, q1, q2, q3, q5⟩ := h2; exact ⟨a, q1, keep a i hi q2, q3, CellOk.mono kp avs rfl q5⟩
      | io => obtain ⟨a, q1, q2, q3, q5⟩ := h2; exact ⟨a, q1, keep a i hi q2, q3, CellOk.mono kp avs rfl q5⟩
  · clear keep ho hv S hlen S0
    induction rt with
    | nil => exact .nil
    | cons p _ ih =>
      refine .cons ?_ ih
      rcases p with p | ⟨a, e, p⟩
      · exact .inl (Rep.mono kp avs _ _ p)
      · exact .inr ⟨a, e, CellOk.mono kp avs rfl p⟩
/-- the value of an operation put on the stack -/
theorem At.out {O : Addr → Option Nat} {t : T} {v : V} {fr : Bool} (S : SimO c F O (env ++ stk) (σ ++ ws) H) (hs : env.length = σ.length) (hl : stk.length = ws.length) (o : Out c (F.av O) H fr t v H') :
    At c F env (stk ++ [(OV.v t fr).sl]) σ (ws ++ [some v]) H' := by
  refine ⟨hs, by simp [hl], ?_⟩
  have := S.push o
  rw [List.append_assoc, List.append_assoc] at this
  exact this
end

/-! ### operations by values -/
/-- the rule r serves the operation p -/
def P2 (c : Cn) (p : Prim) (r : R2) : Prop := ∀ (Av : Addr → Prop) (H : Hp) (tx ty : T) (x y : V) (t : T) (Q : VK), RepT c H Av tx x → RepT c H Av ty y → p.sem [tx, ty] = some t → (∀ v H', Out c Av H (p.makes && isCell t) t v H' → Q v H') → r x y H Q
def P1 (c : Cn) (p : Prim) (r : V → Hp → VK → Prop) : Prop := ∀ (Av : Addr → Prop) (H : Hp) (tx : T) (x : V) (t : T) (Q : VK), RepT c H Av tx x → p.sem [tx] = some t → (∀ v H', Out c Av H (p.makes && isCell t) t v H' → Q v H') → r x H Q
def PN (c : Cn) (p : Prim) (r : List V → Hp → VK → Prop) : Prop := ∀ (Av : Addr → Prop) (H : Hp) (ts : List T) (vs : List V) (t : T) (Q : VK), RepTs c H Av ts vs → p.sem ts = some t → (∀ v H', Out c Av H (p.makes && isCell t) t v H' → Q v H') → r vs H Q

section
variable {c : Cn} {Φ Ψ : Nat → Fn}
theorem R.bind_ok {α β : Type} {r : R α} {f : α → R β} {b : β} (h : r.bind f = .ok b) : ∃ a, r = .ok a ∧ f a = .ok b := by
  cases r with
  | ok a => exact ⟨a, rfl, h⟩
  | exc _ _ _ => cases h
  | bad => cases h
theorem R.opt_ok {α : Type} {o : Option α} {a : α} (h : R.opt o = .ok a) : o = some a := by
  cases o with
  | none => cases h
  | some b => cases h; rfl

/-- two operands in a row -/
theorem rd_two {a b : E} {σ : St} {H : Hp} {F : Fr} {env : En} {stk : En} {ws : List (Option V)} {os : List OV} {env' : En} {K : V → V → Hp → Prop} (A : At c F env stk σ ws H) (h : evs Φ Ψ [a, b] env = .ok (os, env'))
    (k : ∀ x y H', At c F env' (stk ++ os.map OV.sl) σ (ws ++ [x, y].map some) H' → OVs σ os [x, y] → K x y H') : rdE c Φ Ψ a σ H fun x H1 => rdE c Φ Ψ b σ H1 fun y H2 => K x y H2 := by
  simp only [evs] at h
  obtain ⟨⟨o1, e1⟩, h1, h⟩ := R.bind_ok h
  obtain ⟨⟨os2, e2⟩, h2, h⟩ := R.bind_ok h
  simp only [evs] at h2
  obtain ⟨⟨o2, e3⟩, h3, h2⟩ := R.bind_ok h2
  simp only [evs] at h2
  cases h2
  cases h
  refine ⟨F, env, stk, ws, A, o1, e1, h1, fun x H1 A1 ok1 => ⟨F, e1, _, _, A1, o2, _, h3, fun y H2 A2 ok2 => ?_⟩⟩
  refine k x y H2 ?_ (.cons ok1 (.cons ok2 .nil))
  rw [List.append_assoc, List.append_assoc] at A2
  exact A2
theorem rd_bin {p : Prim} {r : R2} (hp : P2 c p r) {a b : E} : ∀ σ H Q, rdE c Φ Ψ (.prim p [a, b]) σ H Q → tOp r (rdE c Φ Ψ a) (rdE c Φ Ψ b) σ H Q := by
  intro σ H Q ⟨F, env, stk, ws, A, o, env', h, k⟩
  rw [ev] at h
  obtain ⟨⟨os, e1⟩, h1, h⟩ := R.bind_ok h
  obtain ⟨ts, h2, h⟩ := R.bind_ok h
  obtain ⟨t, h3, h⟩ := R.bind_ok h
  cases h
  have h2 := R.opt_ok h2
  have h3 := R.opt_ok h3
  refine rd_two (K := fun x y H2 => r x y H2 Q) A h1 fun x y H2 A2 ok => ?_
  obtain ⟨O, S, rt⟩ := A2.ops A.hw ok h2
  cases rt with
  | cons p1 rt =>
    cases rt with
    | cons p2 rt =>
      cases rt
      exact hp _ _ _ _ _ _ _ _ p1 p2 h3 fun v H' o => k v H' (At.out S A2.hl A.hw o) trivial
theorem rd_un {p : Prim} {r : V → Hp → VK → Prop} (hp : P1 c p r) {a : E} : ∀ σ H Q, rdE c Φ Ψ (.prim p [a]) σ H Q → tUn r (rdE c Φ Ψ a) σ H Q := by
  intro σ H Q ⟨F, env, stk, ws, A, o, env', h, k⟩
  rw [ev] at h
  obtain ⟨⟨os, e1⟩, h1, h⟩ := R.bind_ok h
  obtain ⟨ts, h2, h⟩ := R.bind_ok h
  obtain ⟨t, h3, h⟩ := R.bind_ok h
  cases h
  have h2 := R.opt_ok h2
  have h3 := R.opt_ok h3
  simp only [evs] at h1
  obtain ⟨⟨o1, e2⟩, h4, h1⟩ := R.bind_ok h1
  simp only [evs] at h1
  cases h1
  refine ⟨F, env, stk, ws, A, o1, _, h4, fun x H1 A1 ok1 => ?_⟩
  obtain ⟨O, S, rt⟩ := At.ops (os := [o1]) (vs := [x]) A1 A.hw (.cons ok1 .nil) h2
  cases rt with
  | cons p1 rt =>
    cases rt
    exact hp _ _ _ _ _ _ p1 h3 fun v H' o => k v H' (At.out S A1.hl A.hw o) trivial
theorem rd_call {p : Prim} {r : List V → Hp → VK → Prop} (hp : PN c p r) {es : List E} : ∀ σ H Q, rdE c Φ Ψ (.prim p es) σ H Q → tCB r (rdA c Φ Ψ es) σ H Q := by
  intro σ H Q ⟨F, env, stk, ws, A, o, env', h, k⟩
  rw [ev] at h
  obtain ⟨⟨os, e1⟩, h1, h⟩ := R.bind_ok h
  obtain ⟨ts, h2, h⟩ := R.bind_ok h
  obtain ⟨t, h3, h⟩ := R.bind_ok h
  cases h
  have h2 := R.opt_ok h2
  have h3 := R.opt_ok h3
  refine ⟨F, env, stk, ws, A, os, _, h1, fun vs H1 A1 ok => ?_⟩
  obtain ⟨O, S, rt⟩ := A1.ops A.hw ok h2
  exact hp _ _ _ _ _ _ rt h3 fun v H' o => k v H' (At.out S A1.hl A.hw o) trivial
/-- a value as a test -/
theorem rd_test {e : E} : ∀ σ H Q, rdT c Φ Ψ e σ H Q → tB (rdE c Φ Ψ e) σ H Q := by
  intro σ H Q ⟨F, env, stk, ws, A, b, fr, env', h, k⟩
  refine ⟨F, env, stk, ws, A, _, _, h, fun v H1 A1 _ => ?_⟩
  obtain ⟨O, S⟩ := A1.sim
  obtain ⟨v', q1, q2⟩ := S.ent (env'.length + stk.length) ⟨.bl b, if fr then .own else .sh⟩ (by
    rw [← List.append_assoc, List.getElem?_append_right (by simp)]; simp [OV.sl])
  have hs := A1.hl
  have hw := A.hw
  rw [← List.append_assoc, List.getElem?_append_right (by simp; omega)] at q1
  have e0 : env'.length + stk.length - (σ ++ ws).length = 0 := by simp; omega
  rw [e0] at q1
  simp only [List.getElem?_cons_zero, Option.some.injEq] at q1
  subst q1
  have hb : v = .bl b := by
    rcases q2.repT with q | ⟨a, e, q⟩
    · rw [Rep] at q; exact q
    · exact q.elim
  exact ⟨b, hb, k H1 (A1.drop A.hw)⟩
theorem rd_args_nil : ∀ σ H Q, rdA c Φ Ψ [] σ H Q → tNil σ H Q := by
  intro σ H Q ⟨F, env, stk, ws, A, os, env', h, k⟩
  simp only [evs] at h
  cases h
  exact k [] H (by simpa using A) .nil
theorem rd_args_cons {e : E} {es : List E} : ∀ σ H Q, rdA c Φ Ψ (e :: es) σ H Q → tCons (rdE c Φ Ψ e) (rdA c Φ Ψ es) σ H Q := by
  intro σ H Q ⟨F, env, stk, ws, A, os, env', h, k⟩
  simp only [evs] at h
  obtain ⟨⟨o1, e1⟩, h1, h⟩ := R.bind_ok h
  obtain ⟨⟨os2, e2⟩, h2, h⟩ := R.bind_ok h
  cases h
  refine ⟨F, env, stk, ws, A, o1, e1, h1, fun x H1 A1 ok1 => ⟨F, e1, _, _, A1, os2, _, h2, fun xs H2 A2 ok2 => ?_⟩⟩
  refine k (x :: xs) H2 ?_ (.cons ok1 ok2)
  rw [List.append_assoc, List.append_assoc] at A2
  exact A2
end
end DD
/-! DStr: tuples laid with their objects. -/
namespace L2
open PySem PySem.Spec PyProof.Rows DD
/-- a new tuple, laid as the run wants it -/
theorem newT {P : Program} {w : World} {H : Hp} {h : Heap} {a : Addr} {od : Obj} {xs : List V} (st : Bool) (hget : h.get? a = some od) (hd : od.dict = none) (hz : xs.length ≤ sizeLine) {its : List Value} (r : Vals xs its) (it : IsTup h a its.toArray) :
    ∃ u, HoT st u xs ∧ ObjOk P w (upd H a u) h a u := by
  cases st with
  | false => exact ⟨.tup xs, rfl, hz, its, r, it⟩
  | true => exact ⟨.frz od (.tup xs), ⟨od, rfl, hd⟩, hget, hz, its, r, it⟩
variable {X : Cx}
/-! ### + -/
def rCatS (st : Bool) (K : PySem.W.Frag) : R2 := fun x y H Q => ∃ a b xs ys, x = .ref a ∧ y = .ref b ∧ SqT K H a xs ∧ SqT K H b ys ∧ xs.length + ys.length ≤ sizeLine ∧
  (xs = [] → Q (.ref b) H) ∧ (xs ≠ [] → ys = [] → Q (.ref a) H) ∧ (xs ≠ [] → ys ≠ [] → ∀ p u, H p = none → HoT st u (xs ++ ys) → Q (.ref p) (upd H p u))
theorem op_catS (st : Bool) : OpR X (binaryOp .Add) (rCatS st X.K) := by
  intro pins s σ H x y v u Q I rx ry h
  obtain ⟨a, b, xs, ys, rfl, rfl, ha, hb, hz, q0, q1, q2⟩ := h
  by_cases hx : xs = []
  · exact op_catA pins s σ H _ _ v u Q I rx ry ⟨a, b, xs, ys, rfl, rfl, ha, hb, hz, q0, q1, fun z => absurd hx z⟩
  · cases rx
    cases ry
    obtain ⟨its, r1, p1, _⟩ := I.tuple ha
    obtain ⟨its2, r2, p2, _⟩ := I.tuple hb
    refine HT.cat_tup p1 p2 (fun z => hx (r1.nil_iff.mp z)) (fun z => ⟨.ref a, H, I, rfl, q1 hx (r2.nil_iff.mp z)⟩) (fun z => ?_) (by rw [← r1.length, ← r2.length]; exact hz)
    obtain ⟨u, hu, new⟩ := newT (P := X.prog) (w := X.w) (H := H) (xs := xs ++ ys) st (Heap.get?_push_size s.heap rfl) rfl (by rw [List.length_append]; exact hz) (r1.append r2) (IsTup.new _ _)
    exact ⟨.ref s.heap.objs.size, _, I.laid (t' := s.toks) (o := u) (fun b ob q => Heap.get?_push_of_some _ q) (Nat.le_refl _) new, rfl, q2 hx (fun w => z (r2.nil_iff.mpr w)) _ _ (I.hok.fresh (Nat.le_refl _)) hu⟩
/-! ### slices -/
def rSlTS (st : Bool) (K : PySem.W.Frag) : V → Option Int → Option Int → Hp → VK → Prop := fun x lo hi H Q => ∃ a xs, x = .ref a ∧ SqT K H a xs ∧
  (HT.sIx xs.length 0 lo = 0 ∧ HT.sIx xs.length xs.length hi = xs.length → Q (.ref a) H) ∧ (¬ (HT.sIx xs.length 0 lo = 0 ∧ HT.sIx xs.length xs.length hi = xs.length) → ∀ p u, H p = none → HoT st u (cutV xs lo hi) → Q (.ref p) (upd H p u))
theorem sl_tupS (st : Bool) : SlR X (rSlTS st X.K) := by
  intro pins s σ H x v vl vu lo hi sl Q I rx hs pl pu h
  obtain ⟨a, xs, rfl, hx, q1, q2⟩ := h
  by_cases hw : HT.sIx xs.length 0 lo = 0 ∧ HT.sIx xs.length xs.length hi = xs.length
  · exact sl_tupA pins s σ H _ v vl vu lo hi sl Q I rx hs pl pu ⟨a, xs, rfl, hx, q1, fun z => absurd hw z⟩
  · cases rx
    obtain ⟨its, r, ht, hz⟩ := I.tuple hx
    have hlen : its.toArray.size = xs.length := by rw [List.size_toArray]; exact r.length.symm
    refine ⟨"tuple", _, PyProof.Rows.slot_tuple_getitem.lookup, ht.typeIs, ?_⟩
    refine HT.getItem_tuple_cut ht hs pl pu (by rw [hlen]; exact hw) ?_ (by rw [hlen]; exact hz)
    rw [hlen]
    obtain ⟨u, hu, new⟩ := newT (P := X.prog) (w := X.w) (H := H) (xs := cutV xs lo hi) st (Heap.get?_push_size s.heap rfl) rfl (Nat.le_trans (cutV_length xs lo hi) hz) ((r.drop (HT.sIx xs.length 0 lo)).take (HT.sIx xs.length xs.length hi - HT.sIx xs.length 0 lo)) (IsTup.new _ _)
    exact ⟨.ref s.heap.objs.size, _, I.laid (t' := s.toks) (o := u) (fun b ob q => Heap.get?_push_of_some _ q) (Nat.le_refl _) new, rfl, q2 hw _ _ (I.hok.fresh (Nat.le_refl _)) hu⟩
/-! ### a display -/
def tTupS (st : Bool) (t : TA) : TE := fun σ H Q => t σ H fun xs H1 => xs.length ≤ sizeLine ∧ ∀ p u, H1 p = none → HoT st u xs → Q (.ref p) (upd H1 p u)
theorem pe_tupS {es : List Expr} {t : TA} {pos : Pos} {x1} (st : Bool) (h : PA X es t) : PE X (.Tuple es x1 pos) (tTupS st t) := by
  refine ⟨fun pins s σ H Q I hq => ?_⟩
  refine wpAny_Tuple_spliced (thn (h.run pos pins s σ H _ I hq) fun us s1 ⟨xs, H1, I1, r, z, q⟩ => ⟨by rw [← r.length]; exact z, ?_⟩)
  have hf : H1 s1.heap.objs.size = none := I1.hok.fresh (Nat.le_refl _)
  obtain ⟨u, hu, new⟩ := newT (P := X.prog) (w := X.w) (H := H1) (xs := xs) st (Heap.get?_push_size s1.heap rfl) rfl z r (IsTup.new _ _)
  exact ⟨.ref s1.heap.objs.size, _, I1.laid (t' := s1.toks) (fun b u e => Heap.get?_push_of_some _ e) (Nat.le_refl _) new, rfl, q _ _ hf hu⟩
/-! ### tuple(list) -/
theorem call_tupleS (st : Bool) : CallR X (.type "tuple") (fun xs H Q => ∃ p ys, xs = [.ref p] ∧ ((SqL X.K H p ys ∧ ∀ l u, H l = none → HoT st u ys → Q (.ref l) (upd H l u)) ∨ (SqT X.K H p ys ∧ Q (.ref p) H))) := by
  intro pins s σ H xs us Q I r h
  obtain ⟨p, ys, rfl, h⟩ := h
  obtain ⟨u, rfl, rx⟩ := vals1 r
  cases rx
  rcases h with ⟨hq, q⟩ | ⟨hq, q⟩
  · obtain ⟨its, r', pl, hz⟩ := I.list hq
    have hlen := r'.length
    refine call_tuple_list pl.isList (fun h' kp => ?_) (by simp only [List.size_toArray] <;> omega)
    have I1 : Inv X pins σ H { s with heap := h' } := I.kept (t' := s.toks) kp
    obtain ⟨u, hu, new⟩ := newT (P := X.prog) (w := X.w) (H := H) (xs := ys) st (Heap.get?_push_size h' rfl) rfl hz r' (IsTup.new _ _)
    have I2 : Inv X pins σ (upd H h'.objs.size u) { s with heap := h'.push { cls := .type "tuple", data := .seq its.toArray } } :=
      I1.laid (t' := s.toks) (fun b o e => Heap.get?_push_of_some _ e) (Nat.le_refl _) new
    exact ⟨.ref h'.objs.size, _, I2, rfl, q _ _ (I1.hok.fresh (Nat.le_refl _)) hu⟩
  · obtain ⟨its, r', pl, hz⟩ := I.tuple hq
    exact call_tuple_same pl ⟨.ref p, H, I, rfl, q⟩
/-! ### * -/
theorem op_repTS (st : Bool) : OpR X (binaryOp .Mult) (fun x y H Q => ∃ l k xs, x = .ref l ∧ y = .int k ∧ SqT X.K H l xs ∧ xs ≠ [] ∧ 2 ≤ k ∧ k ≤ 1000 ∧ xs.length ≤ 1000 ∧ ∀ p u, H p = none → HoT st u (List.replicate k.toNat xs).flatten → Q (.ref p) (upd H p u)) := by
  intro pins s σ H x y v u Q I rx ry h
  obtain ⟨l, k, xs, rfl, rfl, hT, hne, h1, h2, hz, q⟩ := h
  cases rx
  obtain ⟨t, rfl⟩ := ry
  obtain ⟨its, r, ⟨⟨cls, dd, data, sl⟩, ho, hc, n, hd⟩, hs⟩ := I.tuple hT
  simp only at hc hd
  subst hc hd
  have hle : its.length = xs.length := r.length.symm
  have hn : its ≠ [] := fun e => hne (by
    rw [e] at hle
    exact List.eq_nil_of_length_eq_zero hle.symm)
  have hi : its.toArray.isEmpty = false := by
    cases its with
    | nil => exact absurd rfl hn
    | cons a b => rfl
  have hsz0 : its.toArray.size = xs.length := by rw [List.size_toArray, hle]
  have hm : ((its.toArray.size : Nat) : Int) * k ≤ 1000000 := by
    rw [hsz0]
    have a1 : ((xs.length : Nat) : Int) * k ≤ 1000 * k := Int.mul_le_mul_of_nonneg_right (by omega) (by omega)
    omega
  have flen : (List.replicate k.toNat its).flatten.length ≤ sizeLine := by
    rw [PyProof.Rows.lm_len_rep_flat, hle, sizeLine_eq]
    have a1 : k.toNat * xs.length ≤ 1000 * 1000 := Nat.mul_le_mul (by omega) hz
    omega
  have c0 : (decide (k < -(2 ^ 63)) || decide (k ≥ 2 ^ 63)) = false := by
    rw [decide_eq_false (by omega), decide_eq_false (by omega)] <;> rfl
  have c1 : (its.toArray.isEmpty || k == 1) = false := by
    rw [hi, Bool.false_or]
    exact beq_eq_false_iff_ne.mpr (by omega)
  have c2 : (decide (k ≤ 0) || its.toArray.isEmpty) = false := by
    rw [hi, Bool.or_false]
    exact decide_eq_false (by omega)
  have c4 : Builtin.Tuple.tupleTooMany (((its.toArray.size : Nat) : Int) * k) = false := by
    unfold Builtin.Tuple.tupleTooMany
    rw [sizeLine_eq]
    exact decide_eq_false (by omega)
  refine wpAny_binaryOp_repeat_ref (T := "tuple") (U := "int") (by decide) ⟨_, ho, rfl⟩ (fun s' => typeIs_int s' k t) noFill_tuple_mul F.fills_int_mul F.slot_int_rmul repeat_tuple F.slot_int_index.lookup
    (call_meets F.slot_int_rmul (typeIs_int s k t) F.entry_int_rmul (F.args_int_rmul_2 _ _) (int_rmul_tuple k t l its.toArray n dd sl)
      ⟨ho, rfl, ⟨_, ho, rfl⟩, call_meets F.slot_tuple_mul ⟨_, ho, rfl⟩ F.entry_tuple_mul (F.args_tuple_mul_2 _ _) (tuple_mulW l its.toArray n dd sl k t c0 c1 c2 (by omega) c4 (by rw [size_rep, List.size_toArray]; exact flen)) ⟨ho, ?_⟩⟩)
  rw [size_rep]
  obtain ⟨u, hu, new⟩ := newT (P := X.prog) (w := X.w) (H := H) (xs := (List.replicate k.toNat xs).flatten) st (Heap.get?_push_size s.heap rfl) rfl (by rw [PyProof.Rows.lm_len_rep_flat, sizeLine_eq]; have a1 : k.toNat * xs.length ≤ 1000 * 1000 := Nat.mul_le_mul (by omega) hz; omega) (r.rep k.toNat) (IsTup.new _ _)
  exact ⟨.ref s.heap.objs.size, _, I.laid (t' := s.toks) (o := u) (fun b ob q => Heap.get?_push_of_some _ q) (Nat.le_refl _) new, rfl, q _ _ (I.hok.fresh (Nat.le_refl _)) hu⟩
end L2
/-! DPrim: the operations by values, each by a rule of the layer. -/
namespace DD
variable [Mode]
open PySem L2

theorem line_eq : (line : Nat) = sizeLine := by rw [sizeLine_eq]; rfl
section
variable {c : Cn} {H H' : Hp} {Av : Addr → Prop} {v : V}
theorem RepT.non (h : RepT c H Av .non v) : v = .non := by
  rcases h with h | ⟨a, _, h⟩
  · rw [Rep] at h; exact h
  · exact h.elim
theorem RepT.bl {b : Bool} (h : RepT c H Av (.bl b) v) : v = .bl b := by
  rcases h with h | ⟨a, _, h⟩
  · rw [Rep] at h; exact h
  · exact h.elim
theorem RepT.int {i : Int} (h : RepT c H Av (.int i) v) : v = .int i := by
  rcases h with h | ⟨a, _, h⟩
  · rw [Rep] at h; exact h
  · exact h.elim
theorem RepT.str {x : Str} (h : RepT c H Av (.str x) v) : v = .str x := by
  rcases h with h | ⟨a, _, h⟩
  · rw [Rep] at h; exact h
  · exact h.elim
theorem RepT.tup {ts : List T} (h : RepT c H Av (.tup ts) v) : ∃ a vs, v = .ref a ∧ Tp c.st H a vs ∧ RepL c H Av ts vs := by
  rcases h with h | ⟨a, _, h⟩
  · rw [Rep] at h; exact h
  · exact h.elim
theorem RepT.lst {ts : List T} (h : RepT c H Av (.lst ts) v) : ∃ a vs, v = .ref a ∧ H a = some (.lst vs) ∧ RepL c H Av ts vs := by
  rcases h with h | ⟨a, e, h⟩
  · rw [Rep] at h
    obtain ⟨a, vs, e, _, h1, h2⟩ := h
    exact ⟨a, vs, e, h1, h2⟩
  · obtain ⟨vs, h1, h2⟩ := h
    exact ⟨a, vs, e, h1, h2⟩
theorem RepT.rep_tup {ts : List T} (h : RepT c H Av (.tup ts) v) : Rep c H Av (.tup ts) v := by
  rcases h with h | ⟨a, _, h⟩
  · exact h
  · exact h.elim
theorem RepT.scr {ns : List Int} (h : RepT c H Av (.scr ns) v) : ∃ a, v = .ref a ∧ SqL c.K H a (ns.map V.int) := by
  rcases h with h | ⟨a, _, h⟩
  · rw [Rep] at h
    obtain ⟨a, e, h⟩ := h
    refine ⟨a, e, ?_⟩
    rcases h with ⟨o, h⟩ | h
    · exact .inl (.inr ⟨o, h⟩)
    · rcases h with (h | ⟨o, h⟩) | h
      · cases h
      · cases h
      · exact .inr h
  · exact h.elim

theorem RepL.length : ∀ {ts : List T} {vs : List V}, RepL c H Av ts vs → ts.length = vs.length
  | [], vs, h => by rw [RepL] at h; subst h; rfl
  | t :: ts, vs, h => by
    rw [RepL] at h
    obtain ⟨v, r, rfl, _, h⟩ := h
    simp [RepL.length h]
theorem RepL.cons {t : T} {ts : List T} {v : V} {vs : List V} (h1 : Rep c H Av t v) (h2 : RepL c H Av ts vs) : RepL c H Av (t :: ts) (v :: vs) := by
  rw [RepL]; exact ⟨v, vs, rfl, h1, h2⟩
theorem RepL.nil : RepL c H Av [] [] := by rw [RepL]
theorem RepL.inv {t : T} {ts : List T} {vs : List V} (h : RepL c H Av (t :: ts) vs) : ∃ v r, vs = v :: r ∧ Rep c H Av t v ∧ RepL c H Av ts r := by
  rw [RepL] at h; exact h
theorem RepL.inv_nil {vs : List V} (h : RepL c H Av [] vs) : vs = [] := by rw [RepL] at h; exact h
theorem RepL.append : ∀ {ts us : List T} {vs ws : List V}, RepL c H Av ts vs → RepL c H Av us ws → RepL c H Av (ts ++ us) (vs ++ ws)
  | [], us, vs, ws, h1, h2 => by rw [h1.inv_nil]; exact h2
  | t :: ts, us, vs, ws, h1, h2 => by
    obtain ⟨v, r, rfl, p, q⟩ := h1.inv
    exact RepL.cons p (RepL.append q h2)
theorem RepL.get : ∀ {ts : List T} {vs : List V} {i : Nat} {t : T}, RepL c H Av ts vs → ts[i]? = some t → ∃ v, vs[i]? = some v ∧ Rep c H Av t v
  | [], _, _, _, _, e => by simp at e
  | t :: ts, vs, 0, t', h, e => by
    obtain ⟨v, r, rfl, p, q⟩ := h.inv
    simp only [List.getElem?_cons_zero, Option.some.injEq] at e
    subst e
    exact ⟨v, rfl, p⟩
  | t :: ts, vs, i + 1, t', h, e => by
    obtain ⟨v, r, rfl, p, q⟩ := h.inv
    simp only [List.getElem?_cons_succ] at e ⊢
    exact RepL.get q e
theorem RepL.take : ∀ {ts : List T} {vs : List V} (n : Nat), RepL c H Av ts vs → RepL c H Av (ts.take n) (vs.take n)
  | _, _, 0, _ => by simp only [List.take_zero]; exact RepL.nil
  | [], vs, n + 1, h => by rw [h.inv_nil]; exact RepL.nil
  | t :: ts, vs, n + 1, h => by
    obtain ⟨v, r, rfl, p, q⟩ := h.inv
    exact RepL.cons p (RepL.take n q)
theorem RepL.drop : ∀ {ts : List T} {vs : List V} (n : Nat), RepL c H Av ts vs → RepL c H Av (ts.drop n) (vs.drop n)
  | _, _, 0, h => h
  | [], vs, n + 1, h => by rw [h.inv_nil]; exact RepL.nil
  | t :: ts, vs, n + 1, h => by
    obtain ⟨v, r, rfl, p, q⟩ := h.inv
    exact RepL.drop n q
theorem RepL.reverse : ∀ {ts : List T} {vs : List V}, RepL c H Av ts vs → RepL c H Av ts.reverse vs.reverse
  | [], vs, h => by rw [h.inv_nil]; exact RepL.nil
  | t :: ts, vs, h => by
    obtain ⟨v, r, rfl, p, q⟩ := h.inv
    rw [List.reverse_cons, List.reverse_cons]
    exact RepL.append (RepL.reverse q) (RepL.cons p RepL.nil)
theorem RepL.rep {ts : List T} {vs : List V} (h : RepL c H Av ts vs) : ∀ n : Nat, RepL c H Av (List.replicate n ts).flatten (List.replicate n vs).flatten
  | 0 => RepL.nil
  | n + 1 => by
    rw [List.replicate_succ, List.replicate_succ, List.flatten_cons, List.flatten_cons]
    exact RepL.append h (RepL.rep h n)
theorem RepL.set : ∀ {ts : List T} {vs : List V} {t : T} {v : V} (i : Nat), RepL c H Av ts vs → Rep c H Av t v → RepL c H Av (ts.set i t) (vs.set i v)
  | [], vs, _, _, _, h, _ => by rw [h.inv_nil]; exact RepL.nil
  | t' :: ts, vs, t, v, 0, h, r => by
    obtain ⟨v', rr, rfl, p, q⟩ := h.inv
    exact RepL.cons r q
  | t' :: ts, vs, t, v, i + 1, h, r => by
    obtain ⟨v', rr, rfl, p, q⟩ := h.inv
    exact RepL.cons p (RepL.set i q r)
theorem RepL.eraseIdx : ∀ {ts : List T} {vs : List V} (i : Nat), RepL c H Av ts vs → RepL c H Av (ts.eraseIdx i) (vs.eraseIdx i)
  | [], vs, _, h => by rw [h.inv_nil]; exact RepL.nil
  | t' :: ts, vs, 0, h => by
    obtain ⟨v', rr, rfl, p, q⟩ := h.inv
    exact q
  | t' :: ts, vs, i + 1, h => by
    obtain ⟨v', rr, rfl, p, q⟩ := h.inv
    exact RepL.cons p (RepL.eraseIdx i q)
theorem RepL.dropLast {ts : List T} {vs : List V} (h : RepL c H Av ts vs) : RepL c H Av ts.dropLast vs.dropLast := by
  rw [List.dropLast_eq_take, List.dropLast_eq_take, h.length]
  exact h.take _
theorem RepL.ints : ∀ {ns : List Int} {vs : List V}, RepL c H Av (ns.map T.int) vs → vs = ns.map V.int
  | [], vs, h => h.inv_nil
  | n :: ns, vs, h => by
    obtain ⟨v, r, rfl, p, q⟩ := RepL.inv (t := .int n) (ts := ns.map T.int) h
    rw [Rep] at p
    rw [p, RepL.ints q]; rfl
theorem RepL.of_ints : ∀ (ns : List Int), RepL c H Av (ns.map T.int) (ns.map V.int)
  | [] => RepL.nil
  | n :: ns => RepL.cons (by rw [Rep]) (RepL.of_ints ns)

mutual
theorem Rep.dp : ∀ (n : Nat) (t : T) (v : V), T.dat n t = true → Rep c H Av t v → Dp c.K H v t.toD
  | _, .non, v, _, h => by rw [Rep] at h; subst h; exact .non
  | _, .bl b, v, _, h => by rw [Rep] at h; subst h; exact .bl b
  | _, .int i, v, _, h => by rw [Rep] at h; subst h; exact .int i
  | _, .str x, v, _, h => by rw [Rep] at h; subst h; exact .str x
  | n + 1, .tup ts, v, d, h => by
    rw [Rep] at h
    obtain ⟨a, vs, rfl, h1, h2⟩ := h
    rw [T.toD]
    exact .tup h1.sq (RepL.dp n ts vs (by rw [T.dat] at d; exact d) h2)
  | n + 1, .lst ts, v, d, h => by
    rw [Rep] at h
    obtain ⟨a, vs, rfl, _, h1, h2⟩ := h
    rw [T.toD]
    exact .lst (SqL.of h1) (RepL.dp n ts vs (by rw [T.dat] at d; exact d) h2)
  | 0, .tup ts, v, d, h => by rw [T.dat] at d; cases d
  | 0, .lst ts, v, d, h => by rw [T.dat] at d; cases d
  | n, .dct _, v, d, h => by rw [T.dat] at d; cases d
  | n, .ins _ _, v, d, h => by rw [T.dat] at d; cases d
  | n, .scr _, v, d, h => by rw [T.dat] at d; cases d
theorem RepL.dp : ∀ (n : Nat) (ts : List T) (vs : List V), T.dats n ts = true → RepL c H Av ts vs → DpAll c.K H vs (T.toDs ts)
  | _, [], vs, _, h => by rw [h.inv_nil, T.toDs]; exact .nil
  | n, t :: ts, vs, d, h => by
    obtain ⟨v, r, rfl, p, q⟩ := h.inv
    rw [T.dats, Bool.and_eq_true] at d
    rw [T.toDs]
    exact .cons (Rep.dp n t v d.1 p) (RepL.dp n ts r d.2 q)
end
theorem RepT.dp (n : Nat) {t : T} (d : T.dat n t = true) (h : RepT c H Av t v) : Dp c.K H v t.toD := by
  rcases h with h | ⟨a, e, h⟩
  · exact Rep.dp n t v d h
  · cases t with
    | lst ts =>
      obtain ⟨vs, h1, h2⟩ := h
      cases n with
      | zero => rw [T.dat] at d; cases d
      | succ n =>
        subst e
        rw [T.toD]
        exact .lst (SqL.of h1) (RepL.dp n ts vs (by rw [T.dat] at d; exact d) h2)
    | dct kvs => cases n <;> (rw [T.dat] at d; cases d)
    | _ => exact h.elim
mutual
theorem dat_lay : ∀ (n : Nat) (t : T), T.dat n t = true → PyData.canLay0 t.toD = true ∧ PyData.depth t.toD ≤ n
  | n, .non, _ => by simp [T.toD, PyData.canLay0, PyData.depth]
  | n, .bl b, _ => by simp [T.toD, PyData.canLay0, PyData.depth]
  | n, .int i, _ => by simp [T.toD, PyData.canLay0, PyData.depth]
  | n, .str x, d => by
    have d' : PyData.strOk x = true := by cases n <;> (rw [T.dat] at d; exact d)
    simp [T.toD, PyData.canLay0, PyData.depth, d']
  | n + 1, .tup ts, d => by
    have q := dats_lay n ts (by rw [T.dat] at d; exact d)
    simp only [T.toD, PyData.canLay0, PyData.depth]
    exact ⟨q.1, by omega⟩
  | n + 1, .lst ts, d => by
    have q := dats_lay n ts (by rw [T.dat] at d; exact d)
    simp only [T.toD, PyData.canLay0, PyData.depth]
    exact ⟨q.1, by omega⟩
  | 0, .tup ts, d => by rw [T.dat] at d; cases d
  | 0, .lst ts, d => by rw [T.dat] at d; cases d
  | n, .dct _, d => by rw [T.dat] at d; cases d
  | n, .ins _ _, d => by rw [T.dat] at d; cases d
  | n, .scr _, d => by rw [T.dat] at d; cases d
theorem dats_lay : ∀ (n : Nat) (ts : List T), T.dats n ts = true → PyData.canLayAll0 (T.toDs ts) = true ∧ PyData.depthAll (T.toDs ts) ≤ n
  | n, [], _ => by simp [T.toDs, PyData.canLayAll0, PyData.depthAll]
  | n, t :: ts, d => by
    rw [T.dats, Bool.and_eq_true] at d
    have p := dat_lay n t d.1
    have q := dats_lay n ts d.2
    simp only [T.toDs, PyData.canLayAll0, PyData.depthAll]
    exact ⟨by rw [p.1, q.1]; rfl, by omega⟩
end
theorem dat_shaped {n : Nat} {t : T} (hn : n ≤ 64) (d : T.dat n t = true) : SeqAt.shaped t.toD = true := by
  have q := dat_lay n t d
  show (PyData.canLay0 t.toD && decide (PyData.depth t.toD ≤ 64)) = true
  rw [Bool.and_eq_true]
  exact ⟨q.1, decide_eq_true (by omega)⟩

/-! ### outcomes -/
theorem Out.sh {t : T} {v : V} {fr : Bool} (hf : fr = false) (r : Rep c H Av t v) : Out c Av H fr t v H := by
  subst hf
  exact ⟨Gr.refl, r⟩
theorem Out.int {i : Int} {p : Prim} : Out c Av H (p.makes && isCell (.int i)) (.int i) (.int i) H := Out.sh (by simp [isCell]) (by rw [Rep])
theorem Out.bl {b : Bool} {p : Prim} : Out c Av H (p.makes && isCell (.bl b)) (.bl b) (.bl b) H := Out.sh (by simp [isCell]) (by rw [Rep])
theorem Out.lst {ts : List T} {vs : List V} {p : Prim} {a : Addr} (hp : p.makes = true) (ha : H a = none) (r : RepL c H Av ts vs) : Out c Av H (p.makes && isCell (.lst ts)) (.lst ts) (.ref a) (upd H a (.lst vs)) := by
  rw [hp]
  refine ⟨Gr.upd ha, a, rfl, ha, vs, upd_same, RepL.mono (Kp.of_all (Gr.upd ha)) (fun b o e z => ?_) _ _ r⟩
  rcases z with z | z
  · exact z
  · subst z; rw [ha] at e; cases e
theorem Out.tup {ts : List T} {vs : List V} {p : Prim} {a : Addr} {u : HO} (ha : H a = none) (hu : HoT c.st u vs) (r : RepL c H Av ts vs) : Out c Av H (p.makes && isCell (.tup ts)) (.tup ts) (.ref a) (upd H a u) := by
  refine ⟨Gr.upd ha, ?_⟩
  rw [if_neg (by simp [isCell]), Rep]
  exact ⟨a, vs, rfl, ⟨u, upd_same, hu⟩, RepL.mono (Kp.of_all (Gr.upd ha)) (fun _ _ _ z => z) _ _ r⟩
end

/-! ### two-place operations -/
section
variable {c : Cn}
/-- + of ints, lists, tuples, texts -/
def rAddT (c : Cn) : R2 := fun x y H Q => rI0 (fun i j => .int (i + j)) x y H Q ∨ rCat x y H Q ∨ rCatS c.st c.K x y H Q ∨ ∃ i j, x = .str i ∧ y = .str j ∧ i.length + j.length ≤ sizeLine ∧ Q (.str (i ++ j)) H
theorem op_addT {X : Cx} (hK : X.K = c.K) : OpR X (binaryOp .Add) (rAddT c) := op_add.or (op_cat.or ((hK ▸ op_catS c.st).or op_add_str))
theorem p2_add : P2 c .add (rAddT c) := by
  intro Av H tx ty x y t Q hx hy h k
  replace h : sAdd tx ty = some t := h
  cases tx <;> cases ty <;> simp only [sAdd] at h <;> try contradiction
  case int.int i j =>
    cases h
    exact .inl ⟨i, j, hx.int, hy.int, k _ _ Out.int⟩
  case str.str i j =>
    split at h <;> cases h
    rename_i hl
    exact .inr (.inr (.inr ⟨i, j, hx.str, hy.str, by rw [← line_eq]; exact hl, k _ _ (Out.sh (by simp [isCell]) (by rw [Rep]))⟩))
  case tup.tup as bs =>
    split at h <;> cases h
    rename_i hl
    obtain ⟨a, vs, rfl, h1, h2⟩ := hx.tup
    obtain ⟨b, ws, rfl, h3, h4⟩ := hy.tup
    refine .inr (.inr (.inl ⟨a, b, vs, ws, rfl, rfl, h1.sq, h3.sq, by rw [← line_eq, ← h2.length, ← h4.length]; exact hl, fun e => ?_, fun _ e => ?_, fun _ _ p u hp hu => k _ _ (Out.tup hp hu (h2.append h4))⟩))
    · have e0 : as = [] := List.eq_nil_of_length_eq_zero (by rw [h2.length, e]; rfl)
      subst e0
      refine k _ _ (Out.sh (by simp [isCell]) ?_)
      exact hy.rep_tup
    · have e0 : bs = [] := List.eq_nil_of_length_eq_zero (by rw [h4.length, e]; rfl)
      subst e0
      refine k _ _ (Out.sh (by simp [isCell]) ?_)
      rw [List.append_nil]
      exact hx.rep_tup
  case lst.lst as bs =>
    split at h <;> cases h
    rename_i hl
    obtain ⟨a, vs, rfl, h1, h2⟩ := hx.lst
    obtain ⟨b, ws, rfl, h3, h4⟩ := hy.lst
    exact .inr (.inl ⟨a, b, vs, ws, rfl, rfl, h1, h3, by rw [← line_eq, ← h2.length, ← h4.length]; exact hl, fun p hp => k _ _ (Out.lst rfl hp (h2.append h4))⟩)
theorem p2_sub : P2 c .sub (rI0 fun i j => .int (i - j)) := by
  intro Av H tx ty x y t Q hx hy h k
  replace h : sSub tx ty = some t := h
  cases tx <;> cases ty <;> simp only [sSub] at h <;> try contradiction
  case int.int i j =>
    cases h
    exact ⟨i, j, hx.int, hy.int, k _ _ Out.int⟩
theorem small64_ok {i : Int} (h : small64 i = true) : -(2 ^ 64) < i ∧ i < 2 ^ 64 := by
  unfold small64 at h
  rw [Bool.and_eq_true] at h
  exact ⟨of_decide_eq_true h.1, of_decide_eq_true h.2⟩
def rMulT : R2 := fun x y H Q => rI CMul (fun i j => .int (i * j)) x y H Q ∨ rRep x y H Q
theorem op_mulT {X : Cx} : OpR X (binaryOp .Mult) rMulT := op_mul.or op_rep
/-- // by a positive divisor below 2 ** 256 -/
def CDivB (i j : Int) : Prop := 0 < j ∧ j < 115792089237316195423570985008687907853269984665640564039457584007913129639936
theorem log_lt {n : Nat} (h0 : n ≠ 0) (h : n < 115792089237316195423570985008687907853269984665640564039457584007913129639936) : n.log2 < 9000 := Nat.lt_of_lt_of_le ((Nat.log2_lt h0).mpr (show n < 2 ^ 256 by simpa using h)) (by decide)
theorem op_fdivB {X : Cx} : OpR X (binaryOp .FloorDiv) (rI CDivB fun i j => .int (i / j)) := opI fun i j _ _ _ _ _ hc q => by
  have h1 : (0 : Int) < j := hc.1
  have h2 : j < 115792089237316195423570985008687907853269984665640564039457584007913129639936 := hc.2
  exact PyProof.Rows.floordiv_int (by omega) (by rw [Int.fdiv_eq_ediv_of_nonneg i (by omega)]; exact q) (.inl (PyProof.noPylong_of_log2 (log_lt (by omega) (by omega))))
theorem p2_fdiv : P2 c .fdiv (rI CDivB fun i j => .int (i / j)) := by
  intro Av H tx ty x y t Q hx hy h k
  replace h : sFdiv tx ty = some t := h
  cases tx <;> cases ty <;> simp only [sFdiv] at h <;> try contradiction
  case int.int i j =>
    split at h <;> cases h
    rename_i hl
    exact ⟨i, j, hx.int, hy.int, hl, k _ _ Out.int⟩
theorem p2_mod : P2 c .mod (rI (fun _ j => 0 < j) fun i j => .int (i % j)) := by
  intro Av H tx ty x y t Q hx hy h k
  replace h : sMod tx ty = some t := h
  cases tx <;> cases ty <;> simp only [sMod] at h <;> try contradiction
  case int.int i j =>
    split at h <;> cases h
    rename_i hl
    exact ⟨i, j, hx.int, hy.int, hl, k _ _ Out.int⟩
theorem p2_pow : P2 c .pow (rI CPow fun i j => .int (i ^ j.toNat)) := by
  intro Av H tx ty x y t Q hx hy h k
  replace h : sPow tx ty = some t := h
  cases tx <;> cases ty <;> simp only [sPow] at h <;> try contradiction
  case int.int i j =>
    split at h <;> cases h
    rename_i hl
    exact ⟨i, j, hx.int, hy.int, hl, k _ _ Out.int⟩
theorem p1_neg : P1 c .neg (rU fun i => .int (-i)) := by
  intro Av H tx x t Q hx h k
  replace h : sNeg tx = some t := h
  cases tx <;> simp only [sNeg] at h <;> try contradiction
  case int i =>
    cases h
    exact ⟨i, hx.int, k _ _ Out.int⟩
theorem p2_eq : P2 c .eq (rEqD c.K) := by
  intro Av H tx ty x y t Q hx hy h k
  replace h : sEq tx ty = some t := h
  unfold sEq at h
  split at h <;> cases h
  rename_i hd
  rw [Bool.and_eq_true] at hd
  exact ⟨_, _, hx.dp 60 hd.1, hy.dp 60 hd.2, dat_shaped (by decide) hd.1, dat_shaped (by decide) hd.2, k _ _ Out.bl⟩
theorem p2_ne : P2 c .ne (rNeD c.K) := by
  intro Av H tx ty x y t Q hx hy h k
  replace h : sNe tx ty = some t := h
  unfold sNe at h
  split at h <;> cases h
  rename_i hd
  rw [Bool.and_eq_true] at hd
  exact ⟨_, _, hx.dp 60 hd.1, hy.dp 60 hd.2, dat_shaped (by decide) hd.1, dat_shaped (by decide) hd.2, k _ _ Out.bl⟩
theorem p2_lt : P2 c .lt (rI0 fun i j => .bl (decide (i < j))) := by
  intro Av H tx ty x y t Q hx hy h k
  replace h : sLt tx ty = some t := h
  cases tx <;> cases ty <;> simp only [sLt] at h <;> try contradiction
  case int.int i j => cases h; exact ⟨i, j, hx.int, hy.int, k _ _ Out.bl⟩
theorem p2_le : P2 c .le (rI0 fun i j => .bl (decide (i ≤ j))) := by
  intro Av H tx ty x y t Q hx hy h k
  replace h : sLe tx ty = some t := h
  cases tx <;> cases ty <;> simp only [sLe] at h <;> try contradiction
  case int.int i j => cases h; exact ⟨i, j, hx.int, hy.int, k _ _ Out.bl⟩
theorem p2_gt : P2 c .gt (rI0 fun i j => .bl (decide (j < i))) := by
  intro Av H tx ty x y t Q hx hy h k
  replace h : sGt tx ty = some t := h
  cases tx <;> cases ty <;> simp only [sGt] at h <;> try contradiction
  case int.int i j => cases h; exact ⟨i, j, hx.int, hy.int, k _ _ Out.bl⟩
theorem p2_ge : P2 c .ge (rI0 fun i j => .bl (decide (j ≤ i))) := by
  intro Av H tx ty x y t Q hx hy h k
  replace h : sGe tx ty = some t := h
  cases tx <;> cases ty <;> simp only [sGe] at h <;> try contradiction
  case int.int i j => cases h; exact ⟨i, j, hx.int, hy.int, k _ _ Out.bl⟩
theorem RepT.ne_non {H : Hp} {Av : Addr → Prop} {t : T} {v : V} (h : RepT c H Av t v) (n : t ≠ .non) : v ≠ .non := by
  intro e
  subst e
  cases t with
  | non => exact n rfl
  | bl b => cases h.bl
  | int i => cases h.int
  | str x => cases h.str
  | tup ts => obtain ⟨a, vs, e, _⟩ := h.tup; cases e
  | lst ts => obtain ⟨a, vs, e, _⟩ := h.lst; cases e
  | dct kvs =>
    rcases h with h | ⟨a, e, _⟩
    · rw [Rep] at h; obtain ⟨a, e, _⟩ := h; cases e
    · cases e
  | ins n fs =>
    rcases h with h | ⟨a, e, _⟩
    · rw [Rep] at h; obtain ⟨a, dx, fv, e, _⟩ := h; cases e
    · cases e
  | scr ns => obtain ⟨a, e, _⟩ := h.scr; cases e
def rIsN : R2 := fun x y H Q => y = .non ∧ Q (.bl (decide (x = .non))) H
def rNotN : R2 := fun x y H Q => y = .non ∧ Q (.bl (!decide (x = .non))) H
theorem non_dec {H : Hp} {Av : Addr → Prop} {t : T} {v : V} (h : RepT c H Av t v) : decide (v = .non) = isNon t := by
  by_cases e : t = .non
  · subst e; rw [h.non]; rfl
  · rw [decide_eq_false (h.ne_non e)]
    cases t <;> first | exact absurd rfl e | rfl
theorem p2_isN : P2 c .isN rIsN := by
  intro Av H tx ty x y t Q hx hy h k
  replace h : sIsN tx ty = some t := h
  unfold sIsN at h
  split at h <;> cases h
  rename_i hn
  have e : ty = .non := by cases ty <;> first | rfl | cases hn
  subst e
  refine ⟨hy.non, ?_⟩
  rw [non_dec hx]
  exact k _ _ Out.bl
theorem p2_notN : P2 c .notN rNotN := by
  intro Av H tx ty x y t Q hx hy h k
  replace h : sNotN tx ty = some t := h
  unfold sNotN at h
  split at h <;> cases h
  rename_i hn
  have e : ty = .non := by cases ty <;> first | rfl | cases hn
  subst e
  refine ⟨hy.non, ?_⟩
  rw [non_dec hx]
  exact k _ _ Out.bl
end
end DD
/-! DPrim2: built-in calls, subscripts, by values. -/
namespace DD
variable [Mode]
open PySem L2
section
variable {c : Cn}
/-! ### subscripts -/
theorem ixAt_get {H : Hp} {Av : Addr → Prop} {ts : List T} {vs : List V} {i : Int} {t : T} (r : RepL c H Av ts vs) (h : ixAt ts i = some t) : ∃ v, atI vs i = some v ∧ Rep c H Av t v := by
  unfold ixAt at h
  unfold atI ixN
  have hl := r.length
  by_cases h0 : 0 ≤ i
  · rw [if_pos h0] at h ⊢
    obtain ⟨v, h1, h2⟩ := r.get h
    have hi : i.toNat < vs.length := (List.getElem?_eq_some_iff.mp h1).1
    rw [if_pos (by omega)]
    exact ⟨v, h1, h2⟩
  · rw [if_neg h0] at h ⊢
    by_cases h1 : -(ts.length : Int) ≤ i
    · rw [if_pos h1] at h
      rw [if_pos (by rw [← hl]; exact h1)]
      obtain ⟨v, h2, h3⟩ := r.get h
      refine ⟨v, ?_, h3⟩
      rw [hl] at h2
      exact h2
    · rw [if_neg h1] at h; cases h
theorem p2_ixS : ∀ (Av : Addr → Prop) (H : Hp) (tx ty : T) (x y : V) (t : T) (Q : VK), RepT c H Av tx x → RepT c H Av ty y → sIx tx ty = some t → tyDict tx = false → (∀ v H', Out c Av H false t v H' → Q v H') → rIx c.K x y H Q := by
  intro Av H tx ty x y t Q hx hy h hd k
  cases tx <;> cases ty <;> simp only [sIx] at h <;> try contradiction
  case lst.int ts i =>
    obtain ⟨a, vs, rfl, h1, h2⟩ := hx.lst
    obtain ⟨v, q1, q2⟩ := ixAt_get h2 h
    exact .inl ⟨a, vs, i, v, rfl, hy.int, SqL.of h1, q1, k _ _ (Out.sh rfl q2)⟩
  case tup.int ts i =>
    obtain ⟨a, vs, rfl, h1, h2⟩ := hx.tup
    obtain ⟨v, q1, q2⟩ := ixAt_get h2 h
    exact .inr (.inl ⟨a, vs, i, v, rfl, hy.int, h1.sq, q1, k _ _ (Out.sh rfl q2)⟩)
/-! ### in -/
theorem any_toD (x : T) : ∀ ts : List T, ((T.toDs ts).any fun z => PyData.eqv z x.toD) = ts.any fun y => T.eqv y x
  | [] => rfl
  | t :: ts => by rw [T.toDs, List.any_cons, List.any_cons, any_toD x ts]; rfl
def rInS (K : PySem.W.Frag) (neg : Bool) : R2 := fun x y H Q => ∃ d ds, Dp K H x d ∧ (Dp K H y (.list ds) ∨ Dp K H y (.tuple ds)) ∧ PyData.canLay0 d = true ∧ PyData.canLayAll0 ds = true ∧ PyData.depth d ≤ 64 ∧ Q (.bl (if neg then !(ds.any fun z => PyData.eqv z d) else ds.any fun z => PyData.eqv z d)) H
theorem op_inS {X : Cx} (hK : X.K = c.K) (hu : X.A.units + 200 < cLine) : OpR X (compareOp .In) (rInS c.K false) := by
  intro pins s σ H x y v u Q I rx ry h
  obtain ⟨d, ds, hd, he, sd, se, hdp, q⟩ := h
  rw [← hK] at hd he
  obtain ⟨as, r1⟩ := Dp.reads I d x v hd rx
  have room : X.A.units + 1 + min (PyData.depthAll ds) d.depth < cLine := by omega
  rcases he with he | he
  · obtain ⟨bs, r2⟩ := Dp.reads I (.list ds) y u he ry
    exact SeqAt.in_list_reads r2 r1 se sd room ⟨.bl _, H, I, rfl, q⟩
  · obtain ⟨bs, r2⟩ := Dp.reads I (.tuple ds) y u he ry
    exact SeqAt.in_tuple_reads r2 r1 se sd room ⟨.bl _, H, I, rfl, q⟩
theorem op_notinS {X : Cx} (hK : X.K = c.K) (hu : X.A.units + 200 < cLine) : OpR X (compareOp .NotIn) (rInS c.K true) := by
  intro pins s σ H x y v u Q I rx ry h
  obtain ⟨d, ds, hd, he, sd, se, hdp, q⟩ := h
  rw [← hK] at hd he
  obtain ⟨as, r1⟩ := Dp.reads I d x v hd rx
  have room : X.A.units + 1 + min (PyData.depthAll ds) d.depth < cLine := by omega
  rcases he with he | he
  · obtain ⟨bs, r2⟩ := Dp.reads I (.list ds) y u he ry
    exact SeqAt.notIn_list_reads r2 r1 se sd room ⟨.bl _, H, I, rfl, q⟩
  · obtain ⟨bs, r2⟩ := Dp.reads I (.tuple ds) y u he ry
    exact SeqAt.notIn_tuple_reads r2 r1 se sd room ⟨.bl _, H, I, rfl, q⟩
theorem RepL.dpl {H : Hp} {Av : Addr → Prop} {n : Nat} {ts : List T} {vs : List V} (d : T.dats n ts = true) (h : RepL c H Av ts vs) : DpAll c.K H vs (T.toDs ts) := RepL.dp n ts vs d h
theorem in_core {neg : Bool} {Av : Addr → Prop} {H : Hp} {tx : T} {ts : List T} {x y : V} {t : T} {Q : VK} (hx : RepT c H Av tx x) (hy : (∃ a vs, y = .ref a ∧ H a = some (.lst vs) ∧ RepL c H Av ts vs) ∨ ∃ a vs, y = .ref a ∧ Tp c.st H a vs ∧ RepL c H Av ts vs)
    (h : (if T.dat 59 tx && T.dats 59 ts then some (T.bl (if neg then !(ts.any fun y => T.eqv y tx) else ts.any fun y => T.eqv y tx)) else none) = some t) (k : ∀ v H', Out c Av H false t v H' → Q v H') : rInS c.K neg x y H Q := by
  split at h <;> cases h
  rename_i hd
  rw [Bool.and_eq_true] at hd
  have l1 := dat_lay 59 tx hd.1
  have l2 := dats_lay 59 ts hd.2
  refine ⟨tx.toD, T.toDs ts, hx.dp 59 hd.1, ?_, l1.1, l2.1, by omega, ?_⟩
  · rcases hy with ⟨a, vs, rfl, h1, h2⟩ | ⟨a, vs, rfl, h1, h2⟩
    · exact .inl (.lst (SqL.of h1) (h2.dpl hd.2))
    · exact .inr (.tup h1.sq (h2.dpl hd.2))
  · rw [any_toD]
    exact k _ _ (Out.sh rfl (by rw [Rep]))
theorem p2_inS (Av : Addr → Prop) (H : Hp) (tx ty : T) (x y : V) (t : T) (Q : VK) (hx : RepT c H Av tx x) (hy : RepT c H Av ty y) (h : sIn tx ty = some t) (hd : tyDict ty = false) (k : ∀ v H', Out c Av H false t v H' → Q v H') : rInS c.K false x y H Q := by
  cases ty <;> simp only [sIn] at h <;> try contradiction
  case lst ts => exact in_core hx (.inl hy.lst) h k
  case tup ts => exact in_core hx (.inr hy.tup) h k
theorem p2_notinS (Av : Addr → Prop) (H : Hp) (tx ty : T) (x y : V) (t : T) (Q : VK) (hx : RepT c H Av tx x) (hy : RepT c H Av ty y) (h : sNotin tx ty = some t) (hd : tyDict ty = false) (k : ∀ v H', Out c Av H false t v H' → Q v H') : rInS c.K true x y H Q := by
  cases ty <;> simp only [sNotin] at h <;> try contradiction
  case lst ts => exact in_core (neg := true) hx (.inl hy.lst) h k
  case tup ts => exact in_core (neg := true) hx (.inr hy.tup) h k

/-! ### one argument -/
theorem RepTs.one {H : Hp} {Av : Addr → Prop} {p : Prim} {f : T → Option T} {ts : List T} {vs : List V} {t : T} (r : RepTs c H Av ts vs) (h : one f ts = some t) : ∃ tx x, ts = [tx] ∧ vs = [x] ∧ RepT c H Av tx x ∧ f tx = some t := by
  cases r with
  | nil => cases h
  | cons a r =>
    cases r with
    | nil => exact ⟨_, _, rfl, rfl, a, h⟩
    | cons b r => cases h
theorem RepTs.two {H : Hp} {Av : Addr → Prop} {p : Prim} {f : T → T → Option T} {ts : List T} {vs : List V} {t : T} (r : RepTs c H Av ts vs) (h : two f ts = some t) : ∃ tx ty x y, ts = [tx, ty] ∧ vs = [x, y] ∧ RepT c H Av tx x ∧ RepT c H Av ty y ∧ f tx ty = some t := by
  cases r with
  | nil => cases h
  | cons a r =>
    cases r with
    | nil => cases h
    | cons b r =>
      cases r with
      | nil => exact ⟨_, _, _, _, rfl, rfl, a, b, h⟩
      | cons _ _ => cases h
def rLenT (K : PySem.W.Frag) : List V → Hp → VK → Prop := fun xs H Q => ∃ x n, xs = [x] ∧ LenV K x H n ∧ Q (.int n) H
theorem pn_len (Av : Addr → Prop) (H : Hp) (ts : List T) (vs : List V) (t : T) (Q : VK) (r : RepTs c H Av ts vs) (h : one sLen ts = some t) (hd : ∀ a, ts = [a] → tyDict a = false) (k : ∀ v H', Out c Av H false t v H' → Q v H') : rLenT c.K vs H Q := by
  have q := r.one (p := .len) h
  clear h r
  obtain ⟨tx, x, rfl, rfl, hx, h⟩ := q
  replace hd := hd _ rfl
  cases tx <;> simp only [sLen] at h <;> try contradiction
  case lst ts =>
    cases h
    obtain ⟨a, ws, rfl, h1, h2⟩ := hx.lst
    exact ⟨_, ts.length, rfl, .inl ⟨ws, SqL.of h1, h2.length⟩, k _ _ (Out.sh rfl (by rw [Rep]))⟩
  case tup ts =>
    cases h
    obtain ⟨a, ws, rfl, h1, h2⟩ := hx.tup
    exact ⟨_, ts.length, rfl, .inr ⟨ws, h1.sq, h2.length⟩, k _ _ (Out.sh rfl (by rw [Rep]))⟩
  case str z =>
    split at h <;> cases h
    rename_i hl
    rw [hx.str]
    exact ⟨_, z.length, rfl, ⟨by rw [← line_eq]; exact hl, rfl⟩, k _ _ (Out.sh rfl (by rw [Rep]))⟩
theorem pn_abs : PN c .abs (fun xs H Q => ∃ i, xs = [.int i] ∧ Q (.int (if i < 0 then -i else i)) H) := by
  intro Av H ts vs t Q r h k
  have q := r.one (p := .abs) h
  clear h r
  obtain ⟨tx, x, rfl, rfl, hx, h⟩ := q
  cases tx <;> simp only [sAbs] at h <;> try contradiction
  case int i => cases h; rw [hx.int]; exact ⟨i, rfl, k _ _ Out.int⟩
theorem pn_int : PN c .int (fun xs H Q => (∃ i, xs = [.int i] ∧ Q (.int i) H) ∨ ∃ k, xs = [.bl k] ∧ Q (.int (if k then 1 else 0)) H) := by
  intro Av H ts vs t Q r h k
  have q := r.one (p := .int) h
  clear h r
  obtain ⟨tx, x, rfl, rfl, hx, h⟩ := q
  cases tx <;> simp only [sInt] at h <;> try contradiction
  case int i => cases h; rw [hx.int]; exact .inl ⟨i, rfl, k _ _ Out.int⟩
  case bl b => cases h; rw [hx.bl]; exact .inr ⟨b, rfl, k _ _ Out.int⟩
theorem seq_of {H : Hp} {Av : Addr → Prop} {t : T} {x : V} {ts : List T} (hx : RepT c H Av t x) (h : seqOf t = some ts) : (∃ a vs, x = .ref a ∧ H a = some (.lst vs) ∧ RepL c H Av ts vs ∧ t = .lst ts) ∨ ∃ a vs, x = .ref a ∧ Tp c.st H a vs ∧ RepL c H Av ts vs ∧ t = .tup ts := by
  cases t <;> simp only [seqOf] at h <;> try contradiction
  case tup ws => cases h; obtain ⟨a, vs, e, h1, h2⟩ := hx.tup; exact .inr ⟨a, vs, e, h1, h2, rfl⟩
  case lst ws => cases h; obtain ⟨a, vs, e, h1, h2⟩ := hx.lst; exact .inl ⟨a, vs, e, h1, h2, rfl⟩
theorem pn_tuple : PN c .tuple (fun xs H Q => ∃ p ys, xs = [.ref p] ∧ ((SqL c.K H p ys ∧ ∀ l u, H l = none → HoT c.st u ys → Q (.ref l) (upd H l u)) ∨ (SqT c.K H p ys ∧ Q (.ref p) H))) := by
  intro Av H ts vs t Q r h k
  have q := r.one (p := .tuple) h
  clear h r
  obtain ⟨tx, x, rfl, rfl, hx, h⟩ := q
  unfold sTuple at h
  cases e : seqOf tx with
  | none => rw [e] at h; cases h
  | some us =>
    rw [e] at h
    cases h
    rcases seq_of hx e with ⟨a, ws, rfl, h1, h2, rfl⟩ | ⟨a, ws, rfl, h1, h2, rfl⟩
    · exact ⟨a, ws, rfl, .inl ⟨SqL.of h1, fun l u hl hu => k _ _ (Out.tup hl hu h2)⟩⟩
    · exact ⟨a, ws, rfl, .inr ⟨h1.sq, k _ _ (Out.sh (by simp [isCell]) hx.rep_tup)⟩⟩
theorem pn_list : PN c .list (fun xs H Q => ∃ p ys, xs = [.ref p] ∧ (SqL c.K H p ys ∨ SqT c.K H p ys) ∧ ∀ l, H l = none → Q (.ref l) (upd H l (.lst ys))) := by
  intro Av H ts vs t Q r h k
  have q := r.one (p := .list) h
  clear h r
  obtain ⟨tx, x, rfl, rfl, hx, h⟩ := q
  unfold sList at h
  cases e : seqOf tx with
  | none => rw [e] at h; cases h
  | some us =>
    rw [e] at h
    cases h
    rcases seq_of hx e with ⟨a, ws, rfl, h1, h2, rfl⟩ | ⟨a, ws, rfl, h1, h2, rfl⟩
    · exact ⟨a, ws, rfl, .inl (SqL.of h1), fun l hl => k _ _ (Out.lst rfl hl h2)⟩
    · exact ⟨a, ws, rfl, .inr h1.sq, fun l hl => k _ _ (Out.lst rfl hl h2)⟩
theorem sumI_ints : ∀ {ts : List T} {n : Int}, sumI ts = some n → ∃ ns : List Int, ts = ns.map T.int ∧ n = ns.sum
  | [], n, h => by simp only [sumI] at h; cases h; exact ⟨[], rfl, rfl⟩
  | .int i :: r, n, h => by
    simp only [sumI] at h
    cases e : sumI r with
    | none => rw [e] at h; cases h
    | some m =>
      rw [e] at h
      cases h
      obtain ⟨ns, rfl, rfl⟩ := sumI_ints e
      exact ⟨i :: ns, rfl, by simp⟩
  | .non :: _, _, h | .bl _ :: _, _, h | .str _ :: _, _, h | .tup _ :: _, _, h | .lst _ :: _, _, h | .dct _ :: _, _, h | .ins _ _ :: _, _, h | .scr _ :: _, _, h => by simp only [sumI] at h; cases h
def rSumT (K : PySem.W.Frag) : List V → Hp → VK → Prop := fun vs H Q => ∃ (a : Addr) (ns : List Int), vs = [V.ref a] ∧ SqT K H a (ns.map V.int) ∧ Q (.int ns.sum) H
theorem cr_sumT {X : Cx} (hc : X.calm = true) : CallR X (.builtin "sum") (rSumT X.K) := by
  intro pins s σ H vs us Q I r h
  obtain ⟨a, ns, rfl, hs, q⟩ := h
  obtain ⟨its, rv, hl, _⟩ := I.tuple hs
  rw [Vals.ref1 r]
  have hi := rv.ints
  obtain ⟨xs, e⟩ := hi.allInts.items
  have hn : PySem.numsOf (intItems xs).toList = ns := by rw [← e]; exact hi.numsOf
  rw [PySem.nums_intItems] at hn
  have hl : s.heap.IsTuple a its.toArray := hl
  rw [e] at hl
  refine PySem.W.ktm_sumG (I.ok.hd hc) hl fun h' tk t' hk => ⟨.int ns.sum, H, I.kept hk, ⟨t', ?_⟩, q⟩
  rw [preSum_eq, List.take_of_length_le (by simp), hn]
theorem pn_sum : PN c .sum (fun vs H Q => rSum c.K vs H Q ∨ rSumT c.K vs H Q) := by
  intro Av H ts vs t Q r h k
  have q := r.one (p := .sum) h
  clear h r
  obtain ⟨tx, x, rfl, rfl, hx, h⟩ := q
  cases tx <;> simp only [sSum] at h <;> try contradiction
  case lst us =>
    cases e : sumI us with
    | none => rw [e] at h; cases h
    | some n =>
      rw [e] at h
      cases h
      obtain ⟨ns, rfl, rfl⟩ := sumI_ints e
      obtain ⟨a, ws, rfl, h1, h2⟩ := hx.lst
      rw [h2.ints] at h1
      exact .inl ⟨a, ns, rfl, SqL.of h1, k _ _ Out.int⟩
  case tup us =>
    cases e : sumI us with
    | none => rw [e] at h; cases h
    | some n =>
      rw [e] at h
      cases h
      obtain ⟨ns, rfl, rfl⟩ := sumI_ints e
      obtain ⟨a, ws, rfl, h1, h2⟩ := hx.tup
      rw [h2.ints] at h1
      exact .inr ⟨a, ns, rfl, h1.sq, k _ _ Out.int⟩
theorem blsT_bls : ∀ {ts : List T} {bs : List Bool}, blsT ts = some bs → ts = bs.map T.bl
  | [], n, h => by simp only [blsT] at h; cases h; rfl
  | .bl i :: r, n, h => by
    simp only [blsT] at h
    cases e : blsT r with
    | none => rw [e] at h; cases h
    | some m => rw [e] at h; cases h; rw [blsT_bls e]; rfl
  | .non :: _, _, h | .int _ :: _, _, h | .str _ :: _, _, h | .tup _ :: _, _, h | .lst _ :: _, _, h | .dct _ :: _, _, h | .ins _ _ :: _, _, h | .scr _ :: _, _, h => by simp only [blsT] at h; cases h
theorem RepL.bls {H : Hp} {Av : Addr → Prop} : ∀ {bs : List Bool} {vs : List V}, RepL c H Av (bs.map T.bl) vs → vs = bs.map V.bl
  | [], vs, h => h.inv_nil
  | n :: ns, vs, h => by
    obtain ⟨v, r, rfl, p, q⟩ := RepL.inv (t := .bl n) (ts := ns.map T.bl) h
    rw [Rep] at p
    rw [p, RepL.bls q]; rfl
theorem pn_all : PN c .all (rAll c.K) := by
  intro Av H ts vs t Q r h k
  have q := r.one (p := .all) h
  clear h r
  obtain ⟨tx, x, rfl, rfl, hx, h⟩ := q
  cases tx <;> simp only [sAll] at h <;> try contradiction
  case lst us =>
    cases e : blsT us with
    | none => rw [e] at h; cases h
    | some bs =>
      rw [e] at h
      cases h
      obtain ⟨a, ws, rfl, h1, h2⟩ := hx.lst
      rw [blsT_bls e] at h2
      rw [h2.bls] at h1
      exact ⟨a, bs, rfl, SqL.of h1, k _ _ Out.bl⟩
theorem pn_any : PN c .any (rAny c.K) := by
  intro Av H ts vs t Q r h k
  have q := r.one (p := .any) h
  clear h r
  obtain ⟨tx, x, rfl, rfl, hx, h⟩ := q
  cases tx <;> simp only [sAny] at h <;> try contradiction
  case lst us =>
    cases e : blsT us with
    | none => rw [e] at h; cases h
    | some bs =>
      rw [e] at h
      cases h
      obtain ⟨a, ws, rfl, h1, h2⟩ := hx.lst
      rw [blsT_bls e] at h2
      rw [h2.bls] at h1
      exact ⟨a, bs, rfl, SqL.of h1, k _ _ Out.bl⟩
theorem pn_min2 : PN c .min2 (fun xs H Q => ∃ i j, xs = [.int i, .int j] ∧ Q (.int (if j < i then j else i)) H) := by
  intro Av H ts vs t Q r h k
  have q := r.two (p := .min2) h
  clear h r
  obtain ⟨tx, ty, x, y, rfl, rfl, hx, hy, h⟩ := q
  cases tx <;> cases ty <;> simp only [sMin2] at h <;> try contradiction
  case int.int i j => cases h; rw [hx.int, hy.int]; exact ⟨i, j, rfl, k _ _ Out.int⟩
theorem pn_max2 : PN c .max2 (fun xs H Q => ∃ i j, xs = [.int i, .int j] ∧ Q (.int (if j > i then j else i)) H) := by
  intro Av H ts vs t Q r h k
  have q := r.two (p := .max2) h
  clear h r
  obtain ⟨tx, ty, x, y, rfl, rfl, hx, hy, h⟩ := q
  cases tx <;> cases ty <;> simp only [sMax2] at h <;> try contradiction
  case int.int i j => cases h; rw [hx.int, hy.int]; exact ⟨i, j, rfl, k _ _ Out.int⟩
/-! ### isinstance of a built-in type -/
def tyOfT : T → String
  | .non => "NoneType" | .bl _ => "bool" | .int _ => "int" | .str _ => "str" | .tup _ => "tuple" | .lst _ => "list" | .dct _ => "dict" | _ => ""
theorem tyOf_rep {H : Hp} {Av : Addr → Prop} {t : T} {v : V} (h : RepT c H Av t v) (hs : (isScr t || isIns t) = false) : TyX c.K H v (.type (tyOfT t)) := by
  cases t with
  | non => rw [h.non]; exact .base .non
  | bl b => rw [h.bl]; exact .base (.bl b)
  | int i => rw [h.int]; exact .base (.int i)
  | str x => rw [h.str]; exact .base (.str x)
  | tup ts =>
    obtain ⟨a, vs, rfl, h1, _⟩ := h.tup
    rcases h1.w with h1 | ⟨o, h1⟩
    · exact .base (.tup h1)
    · exact .fTuple h1
  | lst ts => obtain ⟨a, vs, rfl, h1, _⟩ := h.lst; exact .base (.lst h1)
  | dct kvs => cases hs
  | ins n fs => cases hs
  | scr ns => cases hs
/-- isinstance(x, T) -/
def rIsTy (K : PySem.W.Frag) (n : String) : List V → Hp → VK → Prop := fun xs H Q => ∃ x t b, xs = [x, .ty n] ∧ TyX K H x t ∧ PySem.W.kitOne K t (.type n) = some b ∧ Q (.bl b) H
theorem call_isTyB {X : Cx} {n : String} : CallR X (.builtin "isinstance") (rIsTy X.K n) := fun pins s σ H xs us Q I r h => call_isi pins s σ H xs us Q I r (by
  obtain ⟨x, t, b, rfl, ty, e, q⟩ := h
  exact ⟨x, .ty n, t, .type n, b, rfl, .ty n, ty, e, q⟩)
end
end DD
/-! DSeq: slices, sorting, least and greatest, count, index. -/
namespace DD
variable [Mode]
open PySem L2
section
variable {c : Cn}
/-! ### slices -/
theorem cutT_rep {H : Hp} {Av : Addr → Prop} {ts : List T} {vs : List V} (r : RepL c H Av ts vs) (lo hi : Option Int) : RepL c H Av (cutT ts lo hi) (cutV vs lo hi) := by
  have hl := r.length
  have e1 : ∀ (n d : Nat) (o : Option Int), clipO n d o = HT.sIx n d o := fun n d o => by cases o <;> rfl
  unfold cutT cutV
  rw [e1, e1, hl]
  exact (r.drop _).take _
def rSlT' (st : Bool) (K : PySem.W.Frag) : V → Option Int → Option Int → Hp → VK → Prop := fun x lo hi H Q => rSlL K x lo hi H Q ∨ rSlTS st K x lo hi H Q
theorem sl_all {X : Cx} (st : Bool) : SlR X (rSlT' st X.K) := sl_list.or (sl_tupS st)
theorem slice_core {Av : Addr → Prop} {H : Hp} {tx : T} {x : V} {lo hi : Option Int} {t : T} {Q : VK} (hx : RepT c H Av tx x) (h : sSlice tx lo hi = some t) (k : ∀ v H', Out c Av H (true && isCell t) t v H' → Q v H') : rSlT' c.st c.K x lo hi H Q := by
  unfold sSlice at h
  split at h
  · rename_i ts
    cases h
    obtain ⟨a, vs, rfl, h1, h2⟩ := hx.lst
    exact .inl ⟨a, vs, rfl, SqL.of h1, fun p hp => k _ _ (Out.lst (p := .list) rfl hp (cutT_rep h2 lo hi))⟩
  · rename_i ts
    cases h
    obtain ⟨a, vs, rfl, h1, h2⟩ := hx.tup
    refine .inr ⟨a, vs, rfl, h1.sq, fun e => ?_, fun _ p u hp hu => k _ _ (Out.tup (p := .list) hp hu (cutT_rep h2 lo hi))⟩
    have r := cutT_rep h2 lo hi
    have e0 : cutV vs lo hi = vs := by
      unfold cutV
      rw [e.1, e.2]
      simp
    rw [e0] at r
    refine k _ _ (Out.sh (by simp [isCell]) ?_)
    rw [Rep]
    exact ⟨a, vs, rfl, h1, r⟩
  · rename_i ns
    cases h
    obtain ⟨a, rfl, h1⟩ := hx.scr
    exact .inl ⟨a, _, rfl, h1, fun p hp => k _ _ (Out.lst (p := .list) rfl hp (cutT_rep (RepL.of_ints ns) lo hi))⟩
  · cases h
/-! ### sorting -/
theorem lt_le (rev : Bool) : PySem.W.dataLe rev T.toD = fun a b => cond rev (!T.ltv a b) (!T.ltv b a) := PySem.W.dataLe_eq rev T.toD
theorem ins_eq {α : Type} {le : α → α → Bool} {ins : α → List α → List α} (h0 : ∀ x, ins x [] = [x]) (h1 : ∀ x y ys, ins x (y :: ys) = if le x y then x :: y :: ys else y :: ins x ys) :
    ∀ (x : α) (l₁ l₂ : List α), (∀ b ∈ l₁, le x b = false) → (∀ b, l₂.head? = some b → le x b = true) → ins x (l₁ ++ l₂) = l₁ ++ x :: l₂
  | x, [], [], _, _ => h0 x
  | x, [], b :: l₂, _, g => by rw [List.nil_append, h1, if_pos (g b rfl)]; rfl
  | x, a :: l₁, l₂, h, g => by
    rw [List.cons_append, h1, if_neg (by rw [h a List.mem_cons_self]; exact Bool.false_ne_true), ins_eq h0 h1 x l₁ l₂ (fun b hb => h b (List.mem_cons_of_mem _ hb)) g]; rfl
theorem sort_eq {α : Type} {le : α → α → Bool} {ins : α → List α → List α} {srt : List α → List α} (tr : ∀ a b c, le a b = true → le b c = true → le a c = true) (tot : ∀ a b, (le a b || le b a) = true)
    (h0 : ∀ x, ins x [] = [x]) (h1 : ∀ x y ys, ins x (y :: ys) = if le x y then x :: y :: ys else y :: ins x ys) (s0 : srt [] = []) (s1 : ∀ x xs, srt (x :: xs) = ins x (srt xs)) : ∀ l : List α, l.mergeSort le = srt l
  | [] => by rw [s0]; simp
  | x :: xs => by
    obtain ⟨l₁, l₂, e1, e2, e3⟩ := List.mergeSort_cons tr tot x xs
    rw [s1, ← sort_eq tr tot h0 h1 s0 s1 xs, e2, e1]
    symm
    refine ins_eq h0 h1 x l₁ l₂ (fun b hb => ?_) fun b hb => ?_
    · have := e3 b hb
      simpa using this
    · cases l₂ with
      | nil => cases hb
      | cons d l₂ =>
        cases hb
        have p := List.pairwise_mergeSort tr tot (x :: xs)
        rw [e1, List.pairwise_append] at p
        exact (List.pairwise_cons.mp p.2.1).1 _ List.mem_cons_self
theorem le_tr (rev : Bool) : ∀ a b d : T, PySem.W.dataLe rev T.toD a b = true → PySem.W.dataLe rev T.toD b d = true → PySem.W.dataLe rev T.toD a d = true := (PySem.W.sortLe_total _ rev _).trans
theorem le_tot (rev : Bool) : ∀ a b : T, (PySem.W.dataLe rev T.toD a b || PySem.W.dataLe rev T.toD b a) = true := fun a b => by
  rw [Bool.or_eq_true]
  exact (PySem.W.sortLe_total _ rev _).total a b
theorem merge_up (l : List T) : l.mergeSort (PySem.W.dataLe false T.toD) = sortT l := by
  refine sort_eq (ins := insT) (le_tr false) (le_tot false) (fun x => rfl) (fun x y ys => ?_) rfl (fun x xs => rfl) l
  show (if T.ltv y x = true then _ else _) = _
  rw [lt_le]
  show _ = if (!T.ltv y x) = true then _ else _
  cases T.ltv y x <;> rfl
theorem merge_down (l : List T) : l.mergeSort (PySem.W.dataLe true T.toD) = sortTr l := by
  refine sort_eq (ins := insTr) (le_tr true) (le_tot true) (fun x => rfl) (fun x y ys => ?_) rfl (fun x xs => rfl) l
  show (if T.ltv x y = true then _ else _) = _
  rw [lt_le]
  show _ = if (!T.ltv x y) = true then _ else _
  cases T.ltv x y <;> rfl
theorem alk_all {xs : List T} (h : alkAll xs = true) : PySem.W.AllAlike (xs.map T.toD) := by
  intro d hd d' hd'
  obtain ⟨x, hx, rfl⟩ := List.mem_map.mp hd
  obtain ⟨y, hy, rfl⟩ := List.mem_map.mp hd'
  exact List.all_eq_true.mp (List.all_eq_true.mp h x hx) y hy
theorem dats_mem {n : Nat} : ∀ {xs : List T}, T.dats n xs = true → ∀ x ∈ xs, T.dat n x = true
  | [], _, x, hx => nomatch hx
  | y :: ys, h, x, hx => by
    rw [T.dats, Bool.and_eq_true] at h
    rcases List.mem_cons.mp hx with rfl | hx
    · exact h.1
    · exact dats_mem h.2 x hx
theorem srt_able {xs : List T} (hd : T.dats 40 xs = true) (h : (xs.all isTupC || xs.all noTupNon) = true) : PySem.W.Sortable (xs.map T.toD) := by
  rw [Bool.or_eq_true] at h
  rcases h with h | h
  · refine .inl fun d hd => ?_
    obtain ⟨x, hx, rfl⟩ := List.mem_map.mp hd
    have q := List.all_eq_true.mp h x hx
    cases x with
    | tup ts =>
      cases ts with
      | nil => cases q
      | cons t ts => exact ⟨t.toD, T.toDs ts, by rw [T.toD, T.toDs]⟩
    | _ => cases q
  · refine .inr fun d hd' => ?_
    obtain ⟨x, hx, rfl⟩ := List.mem_map.mp hd'
    have q := List.all_eq_true.mp h x hx
    have d' := dats_mem hd x hx
    cases x with
    | non => cases q
    | tup _ => cases q
    | bl _ => exact ⟨(fun e => by simp [T.toD] at e), fun ys e => by simp [T.toD] at e⟩
    | int _ => exact ⟨(fun e => by simp [T.toD] at e), fun ys e => by simp [T.toD] at e⟩
    | str _ => exact ⟨(fun e => by simp [T.toD] at e), fun ys e => by simp [T.toD] at e⟩
    | lst _ => exact ⟨(fun e => by simp [T.toD] at e), fun ys e => by simp [T.toD] at e⟩
    | dct _ => simp [T.dat] at d'
    | ins _ _ => simp [T.dat] at d'
    | scr _ => simp [T.dat] at d'
/-- values and what they stand for, one by one -/
def RV (c : Cn) (H : Hp) (Av : Addr → Prop) (u : Value) (t : T) : Prop := ∃ v, RelV v u ∧ Rep c H Av t v
theorem each_of {H : Hp} {Av : Addr → Prop} : ∀ {ts : List T} {vs : List V} {us : List Value}, RepL c H Av ts vs → Vals vs us → PySem.W.EachIs (RV c H Av) us ts
  | [], vs, us, r, q => by
    rw [r.inv_nil] at q
    cases q
    exact .nil
  | t :: ts, vs, us, r, q => by
    obtain ⟨v, rr, rfl, p, r'⟩ := r.inv
    cases q with
    | cons q1 q2 => exact .cons ⟨v, q1, p⟩ (each_of r' q2)
theorem of_each {H : Hp} {Av : Addr → Prop} : ∀ {us : List Value} {ts : List T}, PySem.W.EachIs (RV c H Av) us ts → ∃ vs, RepL c H Av ts vs ∧ Vals vs us
  | _, _, .nil => ⟨[], RepL.nil, .nil⟩
  | _, _, .cons ⟨v, h1, h2⟩ r => by
    obtain ⟨vs, q1, q2⟩ := of_each r
    exact ⟨v :: vs, RepL.cons h2 q1, .cons h1 q2⟩
theorem each_reads {X : Cx} {pins : List (Addr × Obj)} {s : Shared} {σ : St} {H : Hp} {Av : Addr → Prop} (hK : X.K = c.K) (I : Inv X pins σ H s) : ∀ {us : List Value} {ts : List T}, T.dats 40 ts = true → PySem.W.EachIs (RV c H Av) us ts → PySem.W.EachIs (fun v b => ∃ as, Reads s.heap v (T.toD b) as) us ts
  | _, _, _, .nil => .nil
  | _, _, d, .cons ⟨v, h1, h2⟩ r => by
    rw [T.dats, Bool.and_eq_true] at d
    have q := Rep.dp 40 _ v d.1 h2
    rw [← hK] at q
    exact .cons (Dp.reads I _ _ _ q h1) (each_reads hK I d.2 r)
/-- sorted(xs), sorted(xs, reverse=True): xs of the trees ts, which can be sorted -/
def rSortD (c : Cn) (Av : Addr → Prop) (srt : List T → List T) : V → Hp → VK → Prop := fun x H Q => ∃ a vs ts, x = .ref a ∧ H a = some (.lst vs) ∧ RepL c H Av ts vs ∧ srtOk ts = true ∧ ∀ p ws, H p = none → RepL c H Av (srt ts) ws → Q (.ref p) (upd H p (.lst ws))
theorem sort_len (ts : List T) : (ts.mergeSort (PySem.W.dataLe false T.toD)).length = ts.length := List.length_mergeSort ts
theorem sorted_run {X : Cx} {pins : List (Addr × Obj)} {s : Shared} {σ : St} {H : Hp} {Av : Addr → Prop} {x : V} {u : Value} {Q : VK} (hK : X.K = c.K) (hu : X.A.units + 200 < cLine) (I : Inv X pins σ H s) (rx : RelV x u) (h : rSortD c Av sortT x H Q) :
    wpAny (model X.prog X.w) X.A (call (.builtin "sorted") [u]) (EP X pins σ Q) X.xe s := by
  obtain ⟨a, vs, ts, rfl, hH, hr, hs, q⟩ := h
  cases rx
  obtain ⟨its, rv, hl, hz⟩ := I.list (SqL.of hH)
  unfold srtOk at hs
  rw [Bool.and_eq_true, Bool.and_eq_true] at hs
  obtain ⟨⟨s1, s2⟩, s3⟩ := hs
  have ea := each_of hr rv
  refine PySem.W.sorted_data (enc := T.toD) hl.isList ea (each_reads hK I s1 ea) (alk_all s2) (srt_able s1 s3) (by rw [hr.length]; exact hz) (fun b hb => ?_) fun out hlen eo => ?_
  · have := (dat_lay 40 b (dats_mem s1 b hb)).2
    omega
  rw [merge_up] at eo
  obtain ⟨ws, w1, w2⟩ := of_each eo
  obtain ⟨ep, he'⟩ := PyProof.Rows.sortedAll_at s.heap its out.toArray
  refine ⟨.ref _, upd H (s.heap.objs.size + 1) (.lst ws), I.laid (t' := s.toks) (fun _ _ => PyProof.Rows.sortedAll_old) (Nat.le_succ _) ⟨?_, out, ep, w2, he'⟩, rfl, q _ _ (I.hok.fresh (Nat.le_succ _)) w1⟩
  rw [w2.length, hlen, hr.length]; exact hz
theorem sorted_runR {X : Cx} {pins : List (Addr × Obj)} {s : Shared} {σ : St} {H : Hp} {Av : Addr → Prop} {x : V} {u : Value} {Q : VK} (hK : X.K = c.K) (hu : X.A.units + 200 < cLine) (I : Inv X pins σ H s) (rx : RelV x u) (h : rSortD c Av sortTr x H Q) :
    wpAny (model X.prog X.w) X.A (call (.builtin "sorted") [u] [(Str.ofString "reverse", .bool true)]) (EP X pins σ Q) X.xe s := by
  obtain ⟨a, vs, ts, rfl, hH, hr, hs, q⟩ := h
  cases rx
  obtain ⟨its, rv, hl, hz⟩ := I.list (SqL.of hH)
  unfold srtOk at hs
  rw [Bool.and_eq_true, Bool.and_eq_true] at hs
  obtain ⟨⟨s1, s2⟩, s3⟩ := hs
  have ea := each_of hr rv
  refine PySem.W.sorted_rev_data (enc := T.toD) hl.isList ea (each_reads hK I s1 ea) (alk_all s2) (srt_able s1 s3) (by rw [hr.length]; exact hz) (fun b hb => ?_) fun out hlen eo => ?_
  · have := (dat_lay 40 b (dats_mem s1 b hb)).2
    omega
  rw [merge_down] at eo
  obtain ⟨ws, w1, w2⟩ := of_each eo
  obtain ⟨ep, he'⟩ := PyProof.Rows.sortedAll_at s.heap its out.toArray
  refine ⟨.ref _, upd H (s.heap.objs.size + 1) (.lst ws), I.laid (t' := s.toks) (fun _ _ => PyProof.Rows.sortedAll_old) (Nat.le_succ _) ⟨?_, out, ep, w2, he'⟩, rfl, q _ _ (I.hok.fresh (Nat.le_succ _)) w1⟩
  rw [w2.length, hlen, hr.length]; exact hz
end
end DD
/-! DTup: tuple * int, any int. -/
namespace L2
open PySem PySem.Spec PyProof.Rows
theorem tuple_mul1 (l : Addr) (items : Array Value) (n : Nat) (dd : Option Addr) (sl : Array (Option Value)) (x : Int) (u : Tok) (c0 : (decide (x < -(2 ^ 63)) || decide (x ≥ 2 ^ 63)) = false) (c1 : (items.isEmpty || x == 1) = true) :
    Meets (Builtin.«tuple.__mul__» ⟨[.ref l, .int x u], []⟩) (fun _ R s => s.heap.get? l = some { cls := .type "tuple", dict := dd, data := .seq items n, slots := sl } ∧ R (.ok (.ret (Value.ref l))) s) :=
  .of_wp fun prog w A R s h => by
    obtain ⟨hp, g, d, tk, os⟩ := s
    obtain ⟨hl, h⟩ := h
    have f1 := AutoSeq1.idx_int
    wp_walk using wpAny_loadPart' hl
    repeat (first
      | (refine wpAny_ite_false (decide_eq_false (by rw [c0]; exact Bool.false_ne_true)) ?_; wp_walk using wpAny_loadPart' hl)
      | (refine wpAny_ite_true (decide_eq_true c1) ?_; wp_walk using wpAny_loadPart' hl))
    exact ⟨_, rfl, h⟩
theorem tuple_mul0 (l : Addr) (items : Array Value) (n : Nat) (dd : Option Addr) (sl : Array (Option Value)) (x : Int) (u : Tok) (c0 : (decide (x < -(2 ^ 63)) || decide (x ≥ 2 ^ 63)) = false) (c1 : (items.isEmpty || x == 1) = false) (c2 : (decide (x ≤ 0) || items.isEmpty) = true) :
    Meets (Builtin.«tuple.__mul__» ⟨[.ref l, .int x u], []⟩) (fun _ R s => s.heap.get? l = some { cls := .type "tuple", dict := dd, data := .seq items n, slots := sl } ∧
      R (.ok (.ret (Value.ref s.heap.objs.size))) { s with heap := s.heap.push { cls := Value.type "tuple", data := Data.seq #[] }, toks := s.toks }) :=
  .of_wp fun prog w A R s h => by
    obtain ⟨hp, g, d, tk, os⟩ := s
    obtain ⟨hl, h⟩ := h
    have f1 := AutoSeq1.idx_int
    wp_walk using wpAny_loadPart' hl
    repeat (first
      | (refine wpAny_ite_false (decide_eq_false (by rw [c0]; exact Bool.false_ne_true)) ?_; wp_walk using wpAny_loadPart' hl)
      | (refine wpAny_ite_false (decide_eq_false (by rw [c1]; exact Bool.false_ne_true)) ?_; wp_walk using wpAny_loadPart' hl)
      | (refine wpAny_ite_true (decide_eq_true c2) ?_; wp_walk using wpAny_loadPart' hl))
    exact ⟨_, rfl, h⟩

def rRepA (st : Bool) (K : PySem.W.Frag) : R2 := fun x y H Q => ∃ l k xs, x = .ref l ∧ y = .int k ∧ SqT K H l xs ∧ k ≤ 1000 ∧ -(2 ^ 63) ≤ k ∧ xs.length ≤ 1000 ∧
  ((xs = [] ∨ k = 1) → Q (.ref l) H) ∧ (¬(xs = [] ∨ k = 1) → ∀ p u, H p = none → DD.HoT st u (List.replicate k.toNat xs).flatten → Q (.ref p) (upd H p u))
theorem op_repA {X : Cx} (st : Bool) : OpR X (binaryOp .Mult) (rRepA st X.K) := by
  intro pins s σ H x y v u Q I rx ry h
  obtain ⟨l, k, xs, rfl, rfl, hT, h2, h1, hz, qa, qb⟩ := h
  by_cases hk2 : xs ≠ [] ∧ 2 ≤ k
  · exact op_repTS st pins s σ H _ _ v u Q I rx ry ⟨l, k, xs, rfl, rfl, hT, hk2.1, hk2.2, h2, hz, qb fun z => z.elim hk2.1 fun e => by omega⟩
  cases rx
  obtain ⟨t, rfl⟩ := ry
  obtain ⟨its, r, ⟨⟨cls, dd, data, sl⟩, ho, hc, n, hd⟩, hs⟩ := I.tuple hT
  simp only at hc hd
  subst hc hd
  have hle : its.length = xs.length := r.length.symm
  have c0 : (decide (k < -(2 ^ 63)) || decide (k ≥ 2 ^ 63)) = false := by
    rw [decide_eq_false (by omega), decide_eq_false (by omega)] <;> rfl
  refine wpAny_binaryOp_repeat_ref (T := "tuple") (U := "int") (by decide) ⟨_, ho, rfl⟩ (fun s' => typeIs_int s' k t) noFill_tuple_mul F.fills_int_mul F.slot_int_rmul repeat_tuple F.slot_int_index.lookup
    (call_meets F.slot_int_rmul (typeIs_int s k t) F.entry_int_rmul (F.args_int_rmul_2 _ _) (int_rmul_tuple k t l its.toArray n dd sl) ⟨ho, rfl, ⟨_, ho, rfl⟩, ?_⟩)
  by_cases hc : xs = [] ∨ k = 1
  · have c1 : (its.toArray.isEmpty || k == 1) = true := by
      rcases hc with e | e
      · have : its = [] := List.eq_nil_of_length_eq_zero (by rw [hle, e]; rfl)
        rw [this]; rfl
      · rw [e]; simp
    exact call_meets F.slot_tuple_mul ⟨_, ho, rfl⟩ F.entry_tuple_mul (F.args_tuple_mul_2 _ _) (tuple_mul1 l its.toArray n dd sl k t c0 c1) ⟨ho, .ref l, H, I, rfl, qa hc⟩
  · have hne : its ≠ [] := fun e => hc (.inl (List.eq_nil_of_length_eq_zero (by rw [← hle, e]; rfl)))
    have hi : its.toArray.isEmpty = false := by
      cases its with
      | nil => exact absurd rfl hne
      | cons a b => rfl
    have k0 : k ≤ 0 := by
      rcases Int.lt_or_le k 1 with z | z
      · omega
      · rcases Int.lt_or_le k 2 with w | w
        · exact absurd (.inr (by omega)) hc
        · exact absurd ⟨fun e => hc (.inl e), w⟩ hk2
    have c1 : (its.toArray.isEmpty || k == 1) = false := by
      rw [hi, Bool.false_or]
      exact beq_eq_false_iff_ne.mpr (by omega)
    have c2 : (decide (k ≤ 0) || its.toArray.isEmpty) = true := by rw [decide_eq_true k0]; rfl
    refine call_meets F.slot_tuple_mul ⟨_, ho, rfl⟩ F.entry_tuple_mul (F.args_tuple_mul_2 _ _) (tuple_mul0 l its.toArray n dd sl k t c0 c1 c2) ⟨ho, ?_⟩
    have e0 : (List.replicate k.toNat xs).flatten = [] := by rw [Int.toNat_of_nonpos k0]; rfl
    obtain ⟨u, hu, new⟩ := newT (P := X.prog) (w := X.w) (H := H) (xs := []) (its := []) st (Heap.get?_push_size s.heap rfl) rfl (Nat.zero_le _) .nil (IsTup.new _ _)
    have q := qb hc _ u (I.hok.fresh (Nat.le_refl s.heap.objs.size)) (by rw [e0]; exact hu)
    exact ⟨.ref s.heap.objs.size, _, I.laid (t' := s.toks) (o := u) (fun b ob q => Heap.get?_push_of_some _ q) (Nat.le_refl _) new, rfl, q⟩
end L2
namespace DD
variable [Mode]
open PySem L2
variable {c : Cn}
def rMulA (c : Cn) : R2 := fun x y H Q => rI CMul (fun i j => .int (i * j)) x y H Q ∨ rRep x y H Q ∨ rRepA c.st c.K x y H Q
theorem op_mulA {X : Cx} (hK : X.K = c.K) : OpR X (binaryOp .Mult) (rMulA c) := op_mul.or (op_rep.or (hK ▸ op_repA c.st))
theorem p2_mul : P2 c .mul (rMulA c) := by
  intro Av H tx ty x y t Q hx hy h k
  replace h : sMul tx ty = some t := h
  cases tx <;> cases ty <;> simp only [sMul] at h <;> try contradiction
  case int.int i j =>
    split at h <;> cases h
    rename_i hm
    refine .inl ⟨i, j, hx.int, hy.int, ?_, k _ _ Out.int⟩
    unfold mulOk at hm
    rw [Bool.or_eq_true] at hm
    exact hm.imp small64_ok small64_ok
  case lst.int ts i =>
    split at h <;> cases h
    rename_i hm
    obtain ⟨a, vs, rfl, h1, h2⟩ := hx.lst
    exact .inr (.inl ⟨a, i, vs, rfl, hy.int, h1, hm.1.1, hm.1.2, by rw [← line_eq, ← h2.length]; exact hm.2, fun p hp => k _ _ (Out.lst rfl hp (h2.rep _))⟩)
  case tup.int ts i =>
    split at h <;> cases h
    rename_i hm
    obtain ⟨a, vs, rfl, h1, h2⟩ := hx.tup
    refine .inr (.inr ⟨a, i, vs, rfl, hy.int, h1.sq, hm.2.1, hm.2.2, by rw [← h2.length]; exact hm.1, fun e => ?_, fun _ p u hp hu => k _ _ (Out.tup hp hu (h2.rep _))⟩)
    have e0 : (List.replicate i.toNat ts).flatten = ts := by
      rcases e with e | e
      · have : ts = [] := List.eq_nil_of_length_eq_zero (by rw [h2.length, e]; rfl)
        subst this
        simp
      · subst e; simp
    rw [e0] at k
    exact k _ _ (Out.sh (by simp [isCell]) hx.rep_tup)
end DD
/-! DEnum: enumerate of a tuple. -/
namespace L2
open PySem PySem.Spec PyProof.Rows Builtin
theorem meets_enum_newB1 {v : Value} {o : Obj} {H : Heap → Prop} (B : Begins v o H) :
    Meets (Builtin.«enumerate.__new__» ⟨[.type "enumerate", v], []⟩) (fun _ R s => H s.heap ∧
      R (.ok (.ret (.ref (s.heap.push o).objs.size))) { s with heap := (s.heap.push o).push { cls := .type "enumerate", data := .fields #[.none, .bool false, .ref s.heap.objs.size, rawInt 0, .none, .none] } }) :=
  .of_wp fun prog w A R s h => by
    obtain ⟨hp, g, d, tk, os⟩ := s; obtain ⟨h1, h⟩ := h
    have hsub := sub_enumerate
    have q1 : ∀ {A' : Around} {E : Value → Shared → Prop} {Q : Value → Shared → Prop}, Q (.ref hp.objs.size) ⟨hp.push o, g, d, tk, os⟩ → wpAny (model prog w) A' (pyIter v) Q E ⟨hp, g, d, tk, os⟩ :=
      fun q => B.iter prog w _ _ ⟨hp, g, d, tk, os⟩ _ h1 q
    wp_walk using q1
    refine wpAny_stack_any fun st => wpAny_pure ?_
    split
    · rename_i c _ _ _ _ _
      cases (c == Value.type "enumerate")
      · wp_walk using q1
        exact ⟨_, rfl, h⟩
      · wp_walk using q1
        exact ⟨_, rfl, h⟩
    · wp_walk using q1
      exact ⟨_, rfl, h⟩
section
variable {prog : Program} {w : World} {A : Around} {E : Value → Shared → Prop} {s : Shared}
theorem call_enum1 {v : Value} {o : Obj} {H : Heap → Prop} {Q : Value → Shared → Prop} (B : Begins v o H) (h1 : H s.heap)
    (h : ∀ h', IsEnum h' (s.heap.objs.size + 1) s.heap.objs.size 0 .none → h'.get? s.heap.objs.size = some o → h'.objs.size = s.heap.objs.size + 2 →
      (∀ b o, s.heap.get? b = some o → h'.get? b = some o) → Q (.ref (s.heap.objs.size + 1)) { s with heap := h' }) :
    wpAny (model prog w) A (call (.type "enumerate") [v]) Q E s := by
  refine callType_new F.called_enumerate (by decide) (F.typeCall_enumerate_1 _) (F.newCall_enumerate_1 _) (fun obj => F.args_object_init_2 obj _) F.entry_enumerate_new
    (meets_enum_newB1 B) ⟨h1, ?_⟩
  have hz : (s.heap.push o).objs.size = s.heap.objs.size + 1 := Heap.size_push ..
  show _ ∧ _
  rw [hz]
  have he : IsEnum ((s.heap.push o).push { cls := .type "enumerate", data := .fields #[.none, .bool false, .ref s.heap.objs.size, rawInt 0, .none, .none] }) (s.heap.objs.size + 1) s.heap.objs.size 0 .none := by
    have := Heap.get?_push_size (s.heap.push o) (o := { cls := .type "enumerate", data := .fields #[.none, .bool false, .ref s.heap.objs.size, rawInt 0, .none, .none] }) rfl
    rw [hz] at this; exact this
  refine ⟨⟨_, he, rfl⟩, h _ he (Heap.get?_push_of_some _ (Heap.get?_push_size _ B.free)) (by rw [Heap.size_push, hz]) fun b o x => Heap.get?_push_of_some _ (Heap.get?_push_of_some _ x)⟩
end
/-- the tuple at a, each item in a new pair -/
def IteT (K : PySem.W.Frag) (a : Addr) : It :=
  ⟨fun i H => ∃ (xs : List V) (x : V), SqT K H a xs ∧ xs[i]? = some x, fun i H v H' => ∃ T x, v = .ref T ∧ H T = none ∧ H' = upd H T (.tup [.int (i : Nat), x]) ∧ ∀ xs, SqT K H a xs → xs[i]? = some x, fun i H => ∃ xs : List V, SqT K H a xs ∧ xs.length = i⟩
theorem turn_enumT {P : Program} {w : World} {K : PySem.W.Frag} {elts : List Expr} {kk : Nat} {tpos : Pos} (a e it : Addr) :
    Turn P w K (.Tuple elts kk tpos) (IteT K a) [e, it] e (fun i h => (∃ old, IsEnum h e it ((i : Nat) : Int) old) ∧ h.IsTupleIter it a i ∧ e ≠ it) where
  mem := by simp
  obj := fun i h st b hb => by
    obtain ⟨⟨old, he⟩, ⟨o, ho, hc, hd⟩, _⟩ := st
    have e' : b = e ∨ b = it := by simpa using hb
    rcases e' with z | z
    · rw [z]; exact ⟨_, he, fun v q => nomatch q⟩
    · rw [z]; exact ⟨o, ho, fun v q => by rw [hd] at q; cases q⟩
  keep := fun i h h' st k => let ⟨⟨old, he⟩, hi, hne⟩ := st; ⟨⟨old, k e (by simp) _ he⟩, hi.at fun o q => k it (by simp) o q, hne⟩
  item := by
    intro X hP hw hK hc i pins s σ H E I hf st hg
    subst hP hw hK
    obtain ⟨⟨old, he⟩, hit, hne⟩ := st
    obtain ⟨xs, x, hq, hx⟩ := hg
    obtain ⟨its, rv, p, hz⟩ := I.tuple hq
    obtain ⟨u, hu, ru⟩ := rv.get hx
    have hel : e < s.heap.objs.size := Heap.lt_size he
    have hil : it < s.heap.objs.size := by obtain ⟨_, q, _⟩ := hit; exact Heap.lt_size q
    have pt : s.heap.IsTuple a its.toArray := p
    have hea : e ≠ a := fun z => by
      obtain ⟨o, ho, hc, _⟩ := pt
      rw [← z, he] at ho; cases ho; exact absurd (show Value.type "enumerate" = Value.type "tuple" from hc) (by decide)
    have hai : a ≠ it := fun z => by
      obtain ⟨o, ho, hc, _⟩ := pt
      obtain ⟨o2, ho2, hc2, _⟩ := hit
      rw [z, ho2] at ho; cases ho; rw [hc2] at hc; exact absurd hc (by decide)
    have hlt : i < its.toArray.size := by
      have := (List.getElem?_eq_some_iff.mp hu).1
      simpa using this
    refine wpAny_pyNext_enum_itemD (Draws.tuple (A := X.A.in1) (show X.A.in1.handled = none from I.ok.hd hc) it a hai its.toArray) he ⟨hit, pt⟩ hlt hne (by simpa using And.intro hne hea) fun x' h' tk hP' ho st' hT hsz hk => ?_
    have ex : x' = u := by
      have hP' : its.toArray[i]? = some x' := hP'
      rw [show its.toArray[i]? = its[i]? by simp, hu] at hP'
      exact (Option.some.inj hP').symm
    subst ex
    refine ⟨_, rfl, wpAny_letOwnedTupleGo_enum (s := { s with heap := h', toks := tk + 1 }) ho fun h'' he' sb => ?_⟩
    have hT2 : h''.get? s.heap.objs.size = some { cls := .type "tuple", data := .seq #[.int i tk, x'] } := (sb.2 _ (Nat.ne_of_gt hel)).trans hT
    have new : ObjOk X.prog X.w (upd H s.heap.objs.size (.tup [.int (i : Nat), x])) h'' s.heap.objs.size (.tup [.int (i : Nat), x]) :=
      ⟨by show 2 ≤ sizeLine; decide, [.int i tk, x'], .cons ⟨_, rfl⟩ (.cons ru .nil), ⟨_, hT2, rfl, _, rfl⟩⟩
    have I1 : Inv X pins σ (upd H s.heap.objs.size (.tup [.int (i : Nat), x])) { s with heap := h'', toks := tk + 1 } :=
      I.turnedNew (ch := [e, it]) (fun b ob hb q => (sb.2 b (fun z => hb (by simp [z]))).trans (hk b ob (fun z => hb (by simp [z])) (fun z => hb (by simp [z])) q)) hf (Nat.le_refl _) new
    refine ⟨.ref s.heap.objs.size, _, I1, rfl, ⟨_, x, rfl, I.hok.fresh (Nat.le_refl _), rfl, fun ys hy => by rw [I.tuple_inj hy hq]; exact hx⟩, ⟨⟨x', ?_⟩, st'.1.at fun o q => (sb.2 it (Ne.symm hne)).trans q, hne⟩, fun b hb => ?_⟩
    · have e1 : ((i + 1 : Nat) : Int) = (i : Int) + 1 := by omega
      rw [e1]; exact he'
    · have hb' : b < s.heap.objs.size := by
        have e' : b = e ∨ b = it := by simpa using hb
        rcases e' with z | z
        · rw [z]; exact hel
        · rw [z]; exact hil
      rw [upd_ne (Nat.ne_of_lt hb')]
      exact (hf b hb).1
  done := by
    intro X hP hw hK hc i pins s σ H E I hf st hg
    subst hP hw hK
    obtain ⟨⟨old, he⟩, hit, hne⟩ := st
    obtain ⟨xs, hq, hx⟩ := hg
    obtain ⟨its, rv, p, hz⟩ := I.tuple hq
    have pt : s.heap.IsTuple a its.toArray := p
    have hai : a ≠ it := fun z => by
      obtain ⟨o, ho, hc, _⟩ := pt
      obtain ⟨o2, ho2, hc2, _⟩ := hit
      rw [z, ho2] at ho; cases ho; rw [hc2] at hc; exact absurd hc (by decide)
    obtain ⟨f0, f1, f2, f3, f4, f5⟩ := hf it (by simp)
    have hl := rv.length
    have hn : its.toArray.size = i := by simp; omega
    subst hn
    exact wpAny_pyNext_enum_endD (Draws.tuple (A := X.A.in1) (show X.A.in1.handled = none from I.ok.hd hc) it a hai its.toArray) he ⟨hit, pt⟩ fun h' eb => ⟨rfl, I.turned (t' := s.toks) (fun b o hb q => eb b o hb q) f0 f1 f3 f4 f5⟩
  self := fun A i s Q E st h => let ⟨⟨_, he⟩, _⟩ := st; wpAny_pyIter_enum he h
def iEnumA (K : PySem.W.Frag) (ta : TA) : TI := fun σ H R => ta σ H fun vs H1 => ∃ a xs, vs = [.ref a] ∧ ((SqL K H1 a xs ∧ R (Ite K a) H1) ∨ (SqT K H1 a xs ∧ R (IteT K a) H1))
theorem pi_enumA {X : Cx} {e : Expr} {ta : TA} {p pos tpos : Pos} {elts : List Expr} {kk : Nat} (hg : Gl X "enumerate") (hm : X.mg "enumerate" = none) (ha : PA X [e] ta) (hs : starEach [e] X.env = [(false, eval e X.env)] := by rfl) :
    PI X (.Tuple elts kk tpos) (.Call (.Name "enumerate" p) [e] [] pos) (iEnumA X.K ta) := by
  refine ⟨fun pins s σ H R I h => ?_⟩
  refine Call_ (ld_blt I hg hm boot_enumerate (PyProof.Rows.callWith_type1 (thn (ha.run pos pins s σ H _ I h) fun us s1 ⟨vs, H1, I1, r1, q1⟩ => ?_) hs rfl))
  obtain ⟨a, xs, ex, q⟩ := q1
  subst ex
  cases r1 with
  | cons r rr =>
    cases rr
    cases r
    have fp : ∀ b, b ∈ [s1.heap.objs.size + 1, s1.heap.objs.size] → FpOk X pins H1 b := fun b hb => by
      have e' : b = s1.heap.objs.size + 1 ∨ b = s1.heap.objs.size := by simpa using hb
      have hle : s1.heap.objs.size ≤ b := by
        rcases e' with z | z
        · rw [z]; exact Nat.le_add_right _ _
        · rw [z]; exact Nat.le_refl _
      exact I1.fpOk hle (I1.hok.fresh hle)
    rcases q with ⟨hq, q⟩ | ⟨hq, q⟩
    · obtain ⟨its, rv, p', hz⟩ := I1.list hq
      refine call_enumerate_list p'.isList fun h' he hit hsz hk => wpAny_pyIter_enum he ?_
      have I2 : Inv X pins σ H1 { s1 with heap := h' } := I1.kept (t' := s1.toks) hk
      exact ⟨s1.heap.objs.size + 1, [s1.heap.objs.size + 1, s1.heap.objs.size], _, _, H1, rfl, I2, turn_enum a (s1.heap.objs.size + 1) s1.heap.objs.size, ⟨⟨.none, he⟩, hit, Nat.succ_ne_self _⟩, fp, q⟩
    · obtain ⟨its, rv, p', hz⟩ := I1.tuple hq
      refine call_enum1 (begins_tuple a its.toArray) (show s1.heap.IsTuple a its.toArray from p') fun h' he hit hsz hk => wpAny_pyIter_enum he ?_
      have I2 : Inv X pins σ H1 { s1 with heap := h' } := I1.kept (t' := s1.toks) hk
      exact ⟨s1.heap.objs.size + 1, [s1.heap.objs.size + 1, s1.heap.objs.size], _, _, H1, rfl, I2, turn_enumT a (s1.heap.objs.size + 1) s1.heap.objs.size, ⟨⟨.none, he⟩, ⟨_, hit, rfl, rfl⟩, Nat.succ_ne_self _⟩, fp, q⟩
theorem PI.or {X : Cx} {tg e : Expr} {w1 w2 : TI} (h1 : PI X tg e w1) (h2 : PI X tg e w2) : PI X tg e (fun σ H R => w1 σ H R ∨ w2 σ H R) :=
  ⟨fun pins s σ H R I h => h.elim (h1.run pins s σ H R I) (h2.run pins s σ H R I)⟩
theorem PI.wk {X : Cx} {tg e : Expr} {w1 w2 : TI} (h1 : PI X tg e w1) (k : ∀ σ H R, w2 σ H R → w1 σ H R) : PI X tg e w2 :=
  ⟨fun pins s σ H R I h => h1.run pins s σ H R I (k σ H R h)⟩
end L2
/-! DPrim3: sorted, isinstance, an index or slice by -1. -/
namespace DD
variable [Mode]
open PySem L2
variable {c : Cn}
/-! ### sorted -/
def rSort (c : Cn) : List V → Hp → VK → Prop := fun vs H Q => ∃ x Av, vs = [x] ∧ rSortD c Av sortT x H Q
theorem cr_sort {X : Cx} (hK : X.K = c.K) (hu : X.A.units + 200 < cLine) : CallR X (.builtin "sorted") (rSort c) := by
  intro pins s σ H xs us Q I r h
  obtain ⟨x, Av, rfl, h⟩ := h
  cases r with
  | cons r1 r => cases r; exact sorted_run hK hu I r1 h
theorem srt_cond {Av : Addr → Prop} {H : Hp} {p : Prim} (hp : p.makes = true) {tx : T} {x : V} {srt : List T → List T} {ts : List T} {Q : VK} (hx : RepT c H Av (.lst ts) x) (hs : srtOk ts = true) (k : ∀ v H', Out c Av H (p.makes && isCell (.lst (srt ts))) (.lst (srt ts)) v H' → Q v H') : rSortD c Av srt x H Q := by
  obtain ⟨a, vs, rfl, h1, h2⟩ := hx.lst
  exact ⟨a, vs, ts, rfl, h1, h2, hs, fun q ws hq hw => k _ _ (Out.lst hp hq hw)⟩
theorem pn_sorted : PN c .sorted (rSort c) := by
  intro Av H ts vs t Q r h k
  have q := r.one (p := .sorted) h
  clear h r
  obtain ⟨tx, x, rfl, rfl, hx, h⟩ := q
  cases tx <;> simp only [sSorted] at h <;> try contradiction
  case lst us =>
    split at h
    · cases h; exact ⟨x, Av, rfl, srt_cond (p := .sorted) (tx := .lst us) rfl hx (by assumption) k⟩
    · cases h
def rSortR (c : Cn) : List V → List V → Hp → VK → Prop := fun vs zs H Q => ∃ x Av, vs = [x] ∧ zs = [.bl true] ∧ rSortD c Av sortTr x H Q
theorem cr_sortR {X : Cx} (hK : X.K = c.K) (hu : X.A.units + 200 < cLine) : CallRK X (.builtin "sorted") [Str.ofString "reverse"] (rSortR c) := by
  intro pins s σ H xs zs us ws Q I r r2 h
  obtain ⟨x, Av, rfl, rfl, h⟩ := h
  cases r with
  | cons r1 r =>
    cases r
    cases r2 with
    | cons r2 r =>
      cases r
      cases (show _ = Value.bool true from r2)
      exact sorted_runR hK hu I r1 h
theorem p1_sortR : P1 c .sortedRev (fun x H Q => rSortR c [x] [.bl true] H Q) := by
  intro Av H tx x t Q hx h k
  replace h : sSortedRev tx = some t := h
  cases tx <;> simp only [sSortedRev] at h <;> try contradiction
  case lst us =>
    split at h
    · cases h; exact ⟨x, Av, rfl, rfl, srt_cond (p := .sortedRev) (tx := .lst us) rfl hx (by assumption) k⟩
    · cases h
/-! ### isinstance -/
def tyNm : Prim → Option (Str × String)
  | .isInt => some ("int", "int") | .isBool => some ("bool", "bool") | .isTup => some ("tuple", "tuple") | .isList => some ("list", "list") | .isStr => some ("str", "str") | .isDict => some ("dict", "dict")
  | _ => none
theorem tyNm_boot {p : Prim} {x : Str} {n : String} (h : tyNm p = some (x, n)) : bootBuiltins x = some (.type n) := by
  cases p <;> simp only [tyNm, Option.some.injEq, reduceCtorEq, Prod.mk.injEq] at h <;> (obtain ⟨rfl, rfl⟩ := h; rfl)
theorem p1_isTy {p : Prim} {x : Str} {n : String} (h : tyNm p = some (x, n)) : P1 c p (fun x H Q => rIsTy c.K n [x, .ty n] H Q) := by
  intro Av H tx x t Q hx hs k
  cases p <;> simp only [tyNm, Option.some.injEq, reduceCtorEq, Prod.mk.injEq] at h <;> (
    obtain ⟨rfl, rfl⟩ := h
    simp only [Prim.sem, one, sTy] at hs
    split at hs
    · cases hs
    · rename_i hn
      cases hs
      have hn : (isScr tx || isIns tx) = false := (Bool.not_eq_true _).mp hn
      refine ⟨x, _, _, rfl, tyOf_rep hx hn, ?_, k _ _ Out.bl⟩
      cases tx <;> first | (simp only [tyOfT, tyInt, tyBool, tyTup, tyList, tyStr, tyDict]; exact kit_ty (by decide +kernel)) | (exact absurd hn (by simp [isScr, isIns])))
def tyTL : List V := [.ty "tuple", .ty "list"]
def rIsSq (K : PySem.W.Frag) : V → Hp → VK → Prop := fun x H Q => ∀ p, H p = none → rIsiT K [x, .ref p] (upd H p (.tup tyTL)) Q
theorem TyX.upd {K : PySem.W.Frag} {H : Hp} {x : V} {t : Value} {p : Addr} {o : HO} (h : TyX K H x t) (hp : H p = none) : TyX K (upd H p o) x t := by
  have g : ∀ a u, H a = some u → L2.upd H p o a = some u := fun a u e => Gr.upd hp a u e
  cases h with
  | base h =>
    cases h with
    | non => exact .base .non
    | bl b => exact .base (.bl b)
    | int i => exact .base (.int i)
    | str x => exact .base (.str x)
    | flt x => exact .base (.flt x)
    | lst e => exact .base (.lst (g _ _ e))
    | frz e => exact .base (.frz (g _ _ e))
    | tup e => exact .base (.tup (g _ _ e))
    | dK e => exact .base (.dK (g _ _ e))
    | dT e => exact .base (.dT (g _ _ e))
    | ins e => exact .base (.ins (g _ _ e) (by assumption) (by assumption) (by assumption) (by assumption) (by assumption))
  | byt b => exact .byt b
  | set e => exact .set (g _ _ e)
  | kList e c => exact .kList e c
  | kTuple e c => exact .kTuple e c
  | kDict e c => exact .kDict e c
  | fTuple e => exact .fTuple (g _ _ e)
  | fDict e => exact .fDict (g _ _ e)
theorem p1_isSq : P1 c .isSeq (rIsSq c.K) := by
  intro Av H tx x t Q hx hs k p hp
  simp only [Prim.sem, one, sTy] at hs
  split at hs
  · cases hs
  · rename_i hn
    cases hs
    have hn : (isScr tx || isIns tx) = false := (Bool.not_eq_true _).mp hn
    refine ⟨x, p, tyTL, _, [.type "tuple", .type "list"], tySeq tx, rfl, if_pos rfl, .cons (.ty _) (.cons (.ty _) .nil), TyX.upd (tyOf_rep hx hn) hp, ?_, k _ _ ⟨Gr.upd hp, by rw [if_neg (by simp [isCell, Prim.makes])]; rw [Rep]⟩⟩
    cases tx <;> first | rfl | (exact absurd hn (by simp [isScr, isIns]))
/-! ### list(range(..)), tuple(range(..)) -/
theorem rangeT_map : ∀ (n : Nat) (lo : Int), rangeT lo n = ((List.range n).map fun (i : Nat) => lo + (i : Int)).map T.int
  | 0, lo => rfl
  | n + 1, lo => by
    rw [rangeT, rangeT_map n (lo + 1), List.range_succ_eq_map]
    simp only [List.map_cons, List.map_map]
    congr 1
    · simp
    · refine List.map_congr_left fun i _ => ?_
      simp only [Function.comp]
      congr 1
      push_cast
      omega
theorem rep_rg {H : Hp} {Av : Addr → Prop} (a b : Int) : RepL c H Av (rangeT a (b - a).toNat) (rgV a b) := by
  rw [rangeT_map]
  have := RepL.of_ints (c := c) (H := H) (Av := Av) ((List.range (b - a).toNat).map fun (i : Nat) => a + (i : Int))
  have e : rgV a b = ((List.range (b - a).toNat).map fun (i : Nat) => a + (i : Int)).map V.int := by unfold rgV; rw [List.map_map]; rfl
  rw [e]
  exact this
theorem rng_ok {a b : Int} (h : rngOk a b = true) : RgOk a b := by
  unfold rngOk in62 at h
  simp only [Bool.and_eq_true, decide_eq_true_eq] at h
  refine ⟨h.1.1.1, h.1.1.2, h.1.2.1, h.1.2.2, ?_⟩
  have := h.2
  unfold line at this
  omega
theorem p1_lr1 : P1 c .lrng1 (fun x H Q => ∃ n, x = .int n ∧ RgOk 0 n ∧ ∀ q, H q = none → Q (.ref q) (upd H q (.lst (rgV 0 n)))) := by
  intro Av H tx x t Q hx h k
  replace h : sLr1 tx = some t := h
  cases tx <;> simp only [sLr1, reduceCtorEq] at h
  split at h <;> cases h
  rename_i j hz
  exact ⟨j, hx.int, rng_ok hz, fun p hp => k _ _ (Out.lst (p := .lrng1) rfl hp (rep_rg 0 j))⟩
theorem p1_tr1 (hst : c.st = false) : P1 c .trng1 (fun x H Q => ∃ n, x = .int n ∧ RgOk 0 n ∧ ∀ q, H q = none → Q (.ref q) (upd H q (.tup (rgV 0 n)))) := by
  intro Av H tx x t Q hx h k
  replace h : sTr1 tx = some t := h
  cases tx <;> simp only [sTr1, reduceCtorEq] at h
  split at h <;> cases h
  rename_i j hz
  exact ⟨j, hx.int, rng_ok hz, fun p hp => k _ _ (Out.tup (p := .trng1) hp (by rw [hst]; exact rfl) (rep_rg 0 j))⟩
theorem p2_lr2 : P2 c .lrng2 (fun x y H Q => ∃ i j, x = .int i ∧ y = .int j ∧ RgOk i j ∧ ∀ q, H q = none → Q (.ref q) (upd H q (.lst (rgV i j)))) := by
  intro Av H tx ty x y t Q hx hy h k
  replace h : sLr2 tx ty = some t := h
  cases tx <;> cases ty <;> simp only [sLr2, reduceCtorEq] at h
  split at h <;> cases h
  rename_i i j hz
  exact ⟨i, j, hx.int, hy.int, rng_ok hz, fun p hp => k _ _ (Out.lst (p := .lrng2) rfl hp (rep_rg i j))⟩
theorem p2_tr2 (hst : c.st = false) : P2 c .trng2 (fun x y H Q => ∃ i j, x = .int i ∧ y = .int j ∧ RgOk i j ∧ ∀ q, H q = none → Q (.ref q) (upd H q (.tup (rgV i j)))) := by
  intro Av H tx ty x y t Q hx hy h k
  replace h : sTr2 tx ty = some t := h
  cases tx <;> cases ty <;> simp only [sTr2, reduceCtorEq] at h
  split at h <;> cases h
  rename_i i j hz
  exact ⟨i, j, hx.int, hy.int, rng_ok hz, fun p hp => k _ _ (Out.tup (p := .trng2) hp (by rw [hst]; exact rfl) (rep_rg i j))⟩
end DD
/-! DDictN: dicts whose keys are tuples of any depth. -/
namespace L2
open PySem PyProof.Rows
mutual
/-- the value is the key -/
inductive KeyH (H : Hp) : NestedKey → V → Prop where
  | none : KeyH H .none .non
  | num (i : Int) : KeyH H (.num i) (.int i)
  | text (x : Str) : KeyH H (.text x) (.str x)
  | tup {a : Addr} {vs : List V} {ks : List NestedKey} : (H a = some (.tup vs) ∨ ∃ od, H a = some (.frz od (.tup vs))) → KeysH H ks vs → KeyH H (.tup ks) (.ref a)
inductive KeysH (H : Hp) : List NestedKey → List V → Prop where
  | nil : KeysH H [] []
  | cons {k : NestedKey} {v : V} {ks : List NestedKey} {vs : List V} : KeyH H k v → KeysH H ks vs → KeysH H (k :: ks) (v :: vs)
end
section
variable {P : Program} {w : World} {H : Hp} {h : Heap} {a : Addr}
theorem tup_at {vs : List V} (ok : HOk P w H h) (e : H a = some (.tup vs) ∨ ∃ od, H a = some (.frz od (.tup vs))) : ∃ its o n, Vals vs its ∧ h.get? a = some o ∧ o.cls = .type "tuple" ∧ o.data = .seq its.toArray n := by
  rcases e with e | ⟨od, e⟩
  · obtain ⟨_, its, r, o, h1, h2, n, h3⟩ := (show ObjOk P w H h a (.tup vs) from ok a _ e)
    exact ⟨its, o, n, r, h1, h2, h3⟩
  · obtain ⟨_, _, its, r, o, h1, h2, n, h3⟩ := (show ObjOk P w H h a (.frz od (.tup vs)) from ok a _ e)
    exact ⟨its, o, n, r, h1, h2, h3⟩
mutual
theorem KeyH.is (ok : HOk P w H h) : ∀ (k : NestedKey) (v : V) (u : Value), KeyH H k v → RelV v u → NestedIs h k u
  | .none, _, u, x, r => by cases x; obtain rfl : u = .none := r; exact .none
  | .num i, _, u, x, r => by cases x; obtain ⟨t, rfl⟩ : ∃ t, u = Value.int i t := r; exact .int _ _
  | .text y, _, u, x, r => by cases x; obtain ⟨t, rfl⟩ : ∃ t, u = Value.str y t := r; exact .text _ _
  | .tup ks, _, u, x, r => by
    cases x with
    | @tup a vs _ e xs =>
      obtain rfl : u = .ref a := r
      obtain ⟨its, o, n, rel, h1, h2, h3⟩ := tup_at ok e
      exact .tup h1 h2 h3 (by simpa using KeysH.is ok ks vs its xs rel)
theorem KeysH.is (ok : HOk P w H h) : ∀ (ks : List NestedKey) (vs : List V) (us : List Value), KeysH H ks vs → Vals vs us → NestedAll h ks us
  | [], _, us, x, r => by cases x; cases r; exact .nil
  | k :: ks, _, us, x, r => by
    cases x with
    | cons x1 x2 =>
      cases r with
      | cons r1 r2 => exact .cons (KeyH.is ok k _ _ x1 r1) (KeysH.is ok ks _ _ x2 r2)
end
/-- the tuple at q is the key -/
def KeyN (H : Hp) (k : NestedKey) (q : Addr) : Prop := KeyH H k (.ref q) ∧ k.depth ≤ 8
theorem KeyN.kind {k : NestedKey} {q : Addr} (ok : HOk P w H h) (x : KeyN H k q) : (nestedKind P w).is h k q := ⟨KeyH.is ok _ _ _ x.1 rfl, x.2⟩
def valE (xs : List KEnt) (k : NestedKey) : Option V := (xs.find? fun x => decide (x.1 = k)).map (·.2.2)
def putE (xs : List KEnt) (k : NestedKey) (q : Addr) (v : V) : List KEnt := if (valE xs k).isSome then xs.map fun x => if x.1 = k then (x.1, x.2.1, v) else x else xs ++ [(k, q, v)]
abbrev EntL : List KEnt → List (NestedKey × Addr × Value) → Prop := Paired EntV
theorem EntL.val {xs : List KEnt} {ys : List (NestedKey × Addr × Value)} (r : EntL xs ys) (k : NestedKey) : RelO (valE xs k) ((atKey ys k).map (·.2)) := by
  induction r with
  | nil => exact True.intro
  | @cons p q ps qs h t ih =>
    obtain ⟨h1, _, h2⟩ := h
    by_cases e : p.1 = k
    · have e' : q.1 = k := h1.symm.trans e
      have a : valE (p :: ps) k = some p.2.2 := by simp [valE, List.find?_cons, e]
      have b : atKey (q :: qs) k = some q.2 := by simp [atKey, List.find?_cons, e']
      rw [a, b]; exact h2
    · have e' : ¬ q.1 = k := fun z => e (h1.trans z)
      have a : valE (p :: ps) k = valE ps k := by simp [valE, List.find?_cons, e]
      have b : atKey (q :: qs) k = atKey qs k := by simp [atKey, List.find?_cons, e']
      rw [a, b]; exact ih
theorem EntL.repl {xs : List KEnt} {ys : List (NestedKey × Addr × Value)} (r : EntL xs ys) (k : NestedKey) {y : V} {u : Value} (ry : RelV y u) : EntL (xs.map fun x => if x.1 = k then (x.1, x.2.1, y) else x) (ys.map (putAt k u)) := by
  induction r with
  | nil => exact .nil
  | @cons p q ps qs h t ih =>
    rw [List.map_cons, List.map_cons]
    refine .cons ?_ ih
    obtain ⟨h1, h2, h3⟩ := h
    unfold putAt
    by_cases e : p.1 = k
    · rw [if_pos e, if_pos (h1.symm.trans e)]; exact ⟨h1, h2, ry⟩
    · rw [if_neg e, if_neg (fun z => e (h1.trans z))]; exact ⟨h1, h2, h3⟩
theorem EntL.put {xs : List KEnt} {ys : List (NestedKey × Addr × Value)} (r : EntL xs ys) (k : NestedKey) {b : Addr} {y : V} {u : Value} (ry : RelV y u) : EntL (putE xs k b y) (storedH ys k b u) := by
  have e : (valE xs k).isSome = (atKey ys k).isSome := by rw [(r.val k).isSome_eq, Option.isSome_map]
  unfold putE storedH
  rw [e]
  by_cases q : (atKey ys k).isSome = true
  · rw [if_pos q, if_pos q]; exact r.repl k ry
  · rw [if_neg q, if_neg q]; exact Paired.snoc r ⟨rfl, rfl, ry⟩
theorem putE_len (xs : List KEnt) (k : NestedKey) (q : Addr) (v : V) : (putE xs k q v).length ≤ xs.length + 1 := by
  unfold putE
  split <;> simp
/-- all keys stand -/
def KeysN (H : Hp) (xs : List KEnt) : Prop := ∀ x ∈ xs, KeyN H x.1 x.2.1
theorem dn_rd {xs : List KEnt} (ok : HOk P w H h) (e : Rd H a (dN P w a xs)) (kn : KeysN H xs) : xs.length ≤ sizeLine ∧ (a == sysModules) = false ∧ ∃ ys, EntL xs ys ∧ h.DictOfH (nestedKind P w) a ys := by
  have x : DNP P w a xs h := by
    rcases e with e | ⟨od, e⟩
    · exact (show ObjOk P w H h a (dN P w a xs) from ok a _ e).1
    · exact (show ObjOk P w H h a (.frz od (dN P w a xs)) from ok a _ e).2.1
  obtain ⟨z, y, ys, r, o, es, ep, h1, h2, h3, h4, h5⟩ := x
  refine ⟨z, y, ys, r, o, es, ep, h1, h2, h3, h4, fun x hx => ?_, h5⟩
  have all : ∀ {l : List KEnt} {m : List (NestedKey × Addr × Value)}, EntL l m → (∀ x ∈ l, KeyN H x.1 x.2.1) → ∀ x ∈ m, (nestedKind P w).is h x.1 x.2.1 := by
    intro l m q
    induction q with
    | nil => intro _ x hx; exact nomatch hx
    | @cons p q ps qs hq t ih =>
      intro hl x hx
      rcases List.mem_cons.mp hx with e | hx
      · subst e
        have := hl p List.mem_cons_self
        rw [hq.1, hq.2.1] at this
        exact this.kind ok
      · exact ih (fun x hx => hl x (List.mem_cons_of_mem _ hx)) x hx
  exact all r kn x hx
/-- an empty dict of the plain kind serves for tuple keys -/
theorem dn_empty (ok : HOk P w H h) (e : Rd H a (.dK [])) : (a == sysModules) = false ∧ h.DictOfH (nestedKind P w) a [] := by
  obtain ⟨z, hS, vs, rel, o, es, ep, e1, e2, e3, e4, e5, e6⟩ := dk_rd ok e
  cases rel
  have hes : es = #[] := by
    cases q : es.toList with
    | nil => exact Array.toList_eq_nil_iff.mp q
    | cons x xs => rw [q] at e5; cases e5
  subst hes
  exact ⟨hS, o, #[], ep, e1, e2, e3, rfl, (fun x hx => nomatch hx), List.nodup_nil⟩
/-- a dict that is read by tuple keys -/
def DNRd (P : Program) (w : World) (H : Hp) (a : Addr) (xs : List KEnt) : Prop := Rd H a (dN P w a xs) ∨ (xs = [] ∧ Rd H a (.dK []))
theorem DNRd.rd {xs : List KEnt} (ok : HOk P w H h) (e : DNRd P w H a xs) (kn : KeysN H xs) : xs.length ≤ sizeLine ∧ (a == sysModules) = false ∧ ∃ ys, EntL xs ys ∧ h.DictOfH (nestedKind P w) a ys := by
  rcases e with e | ⟨rfl, e⟩
  · exact dn_rd ok e kn
  · obtain ⟨h1, h2⟩ := dn_empty ok e
    exact ⟨Nat.zero_le _, h1, [], .nil, h2⟩
theorem dn_obj {h' : Heap} {H' : Hp} {xs : List KEnt} {ys : List (NestedKey × Addr × Value)} (z : xs.length ≤ sizeLine) (hd : (a == sysModules) = false) (r : EntL xs ys) (dd : h'.DictOfH (nestedKind P w) a ys) : ObjOk P w H' h' a (dN P w a xs) := by
  obtain ⟨o, es, ep, h1, h2, h3, h4, _, h5⟩ := dd
  refine ⟨⟨z, hd, ys, r, o, es, ep, h1, h2, h3, h4, h5⟩, ⟨o, h1⟩, fun g1 g2 ⟨z, hd, ys, r, o, es, ep, h1, h2, h3, h4, h5⟩ k => ⟨z, hd, ys, r, o, es, ep, k o h1, h2, h3, h4, h5⟩⟩
theorem nk_room {A : Around} (hu : A.units + 9 < cLine) : (nestedKind P w).room A.in1 := by
  show A.in1.units + 8 < cLine
  simp only [Around.in1_units]
  omega
end
section
variable {X : Cx} {pins : List (Addr × Obj)} {σ : St} {H : Hp} {s : Shared} {a q : Addr} {v d : V} {u r : Value} {o : Option V} {k : NestedKey} {xs : List KEnt} {A : Around} {E : Value → Shared → Prop}
theorem dn_getItem {Q : Value → Shared → Prop} (hu : A.units + 9 < cLine) (I : Inv X pins σ H s) (e : DNRd X.prog X.w H a xs) (kn : KeysN H xs) (kq : KeyN H k q) (l : valE xs k = some v) (h : ∀ w' s', Inv X pins σ H s' → RelV v w' → Q w' s') :
    wpAny (model X.prog X.w) A (getItem (.ref a) (.ref q)) Q E s := by
  obtain ⟨z, hd, ys, rel, dd⟩ := e.rd I.hok kn
  obtain ⟨w', hw, rw'⟩ := RelO.some_of (v := v) (o := (atKey ys k).map (·.2)) (by rw [← l]; exact rel.val k)
  obtain ⟨p, hp, hp2⟩ := Option.map_eq_some_iff.mp hw
  refine wpAny_getItem_heap (nk_room hu) (kq.kind I.hok) dd hp ?_
  rw [hp2]
  exact h w' _ (I.tok _) rw'
theorem dn_in {Q : Value → Shared → Prop} (hu : A.units + 9 < cLine) (I : Inv X pins σ H s) (e : DNRd X.prog X.w H a xs) (kn : KeysN H xs) (kq : KeyN H k q) (h : ∀ s', Inv X pins σ H s' → Q (.bool (valE xs k).isSome) s') :
    wpAny (model X.prog X.w) A (compareOp .In (.ref q) (.ref a)) Q E s := by
  obtain ⟨z, hd, ys, rel, dd⟩ := e.rd I.hok kn
  refine wpAny_in_heap (nk_room hu) (kq.kind I.hok) hd dd ?_
  have e := (rel.val k).isSome_eq
  rw [Option.isSome_map] at e
  rw [← e]
  exact h _ (I.tok _)
theorem dn_notIn {Q : Value → Shared → Prop} (hu : A.units + 9 < cLine) (I : Inv X pins σ H s) (e : DNRd X.prog X.w H a xs) (kn : KeysN H xs) (kq : KeyN H k q) (h : ∀ s', Inv X pins σ H s' → Q (.bool (!(valE xs k).isSome)) s') :
    wpAny (model X.prog X.w) A (compareOp .NotIn (.ref q) (.ref a)) Q E s := by
  obtain ⟨z, hd, ys, rel, dd⟩ := e.rd I.hok kn
  refine wpAny_notIn_heap (nk_room hu) (kq.kind I.hok) hd dd ?_
  have e := (rel.val k).isSome_eq
  rw [Option.isSome_map] at e
  rw [← e]
  exact h _ (I.tok _)
theorem dn_get2 {Q : Value → Shared → Prop} (hu : A.units + 9 < cLine) (I : Inv X pins σ H s) (e : DNRd X.prog X.w H a xs) (kn : KeysN H xs) (kq : KeyN H k q) (rd : RelV d r) (h : ∀ w' s', Inv X pins σ H s' → RelV ((valE xs k).getD d) w' → Q w' s') :
    wpAny (model X.prog X.w) A (call (.builtin "dict.get") [.ref a, .ref q, r]) Q E s := by
  obtain ⟨z, hd, ys, rel, dd⟩ := e.rd I.hok kn
  exact call_meetsIn PySem.F.slot_dict_get dd.typeIs PySem.F.entry_dict_get (PySem.F.args_dict_get_3 _ _ _) (meetsH_dict_get_default (nestedKind X.prog X.w) a q hd r) ⟨nk_room hu, k, ys, kq.kind I.hok, dd, h _ _ (I.tok _) ((rel.val k).getD rd)⟩
/-- what the dict at a, with tuple keys, holds -/
def DNAt (P : Program) (w : World) (H : Hp) (a : Addr) (xs : List KEnt) : Prop := H a = some (dN P w a xs) ∨ (xs = [] ∧ H a = some (.dK []))
theorem DNAt.mut {P : Program} {w : World} (e : DNAt P w H a xs) : Mut (H a) := by
  rcases e with e | ⟨_, e⟩ <;> (rw [e]; exact True.intro)
theorem DNAt.rd (ok : HOk X.prog X.w H s.heap) (e : DNAt X.prog X.w H a xs) (kn : KeysN H xs) : xs.length ≤ sizeLine ∧ (a == sysModules) = false ∧ ∃ ys, EntL xs ys ∧ s.heap.DictOfH (nestedKind X.prog X.w) a ys := by
  exact DNRd.rd ok (e.imp .inl fun ⟨e, h⟩ => ⟨e, .inl h⟩) kn
theorem dn_setItem {Q : Unit → Shared → Prop} (hu : A.units + 9 < cLine) (I : Inv X pins σ H s) (e : DNAt X.prog X.w H a xs) (kn : KeysN H xs) (kq : KeyN H k q) (l : xs.length < sizeLine) (rv : RelV v r) (h : ∀ s', Inv X pins σ (upd H a (dN X.prog X.w a (putE xs k q v))) s' → Q () s') :
    wpAny (model X.prog X.w) A (setItem (.ref a) (.ref q) r) Q E s := by
  obtain ⟨z, hd, ys, rel, dd⟩ := e.rd I.hok kn
  have hz : ys.length ≤ sizeLine := by rw [← Paired.length rel]; exact z
  have hl : (putE xs k q v).length ≤ sizeLine := by have := putE_len xs k q v; omega
  refine wpAny_setItem_heap (hsz := hz) (nk_room hu) (kq.kind I.hok) dd fun h' dd' hs => h _ ?_
  exact d_write I e.mut hs (let ⟨o, _, _, h1, _⟩ := dd'; ⟨o, h1⟩) (dn_obj hl hd (rel.put k rv) dd')
theorem dn_dictSet {Q : Unit → Shared → Prop} (hu : A.units + 9 < cLine) (I : Inv X pins σ H s) (e : DNAt X.prog X.w H a xs) (kn : KeysN H xs) (kq : KeyN H k q) (l : xs.length < sizeLine) (rv : RelV v r) (h : ∀ s', Inv X pins σ (upd H a (dN X.prog X.w a (putE xs k q v))) s' → Q () s') :
    wpAny (model X.prog X.w) A (dictSet a (.ref q) r) Q E s := by
  obtain ⟨z, hd, ys, rel, dd⟩ := e.rd I.hok kn
  have hz : ys.length ≤ sizeLine := by rw [← Paired.length rel]; exact z
  have hl : (putE xs k q v).length ≤ sizeLine := by have := putE_len xs k q v; omega
  refine wpAny_dictSet_heap (hsz := hz) (knd := nestedKind X.prog X.w) (show A.units + 8 < cLine by omega) (kq.kind I.hok) dd fun h' dd' hs => h _ ?_
  exact d_write I e.mut hs (let ⟨o, _, _, h1, _⟩ := dd'; ⟨o, h1⟩) (dn_obj hl hd (rel.put k rv) dd')
end
end L2
/-! DDict: dicts with keys ints, texts, or tuples; an empty one is of both kinds. -/
namespace L2
open PySem
section
variable {X : Cx} {pins : List (Addr × Obj)} {σ : St} {H : Hp} {s : Shared} {a : Addr}
/-- what the dict at a holds at y -/
def DGetE (P : Program) (w : World) (H : Hp) (a : Addr) (y : V) (r : Option V) : Prop := (∃ kvs k, Rd H a (.dK kvs) ∧ y = kV k ∧ r = valV kvs k) ∨ ∃ xs k q, DNRd P w H a xs ∧ KeysN H xs ∧ y = .ref q ∧ KeyN H k q ∧ r = valE xs k
theorem DGetE.dget {P : Program} {w : World} {y : V} {r : Option V} {kvs : List (Key × V)} {k : Key} (h : Rd H a (.dK kvs)) (e : y = kV k) (e2 : r = valV kvs k) : DGet H a y r := .inl ⟨kvs, k, h, e, e2⟩
section
variable {y v d : V} {u r : Value} {o : Option V} {A : Around} {E : Value → Shared → Prop}
theorem de_in {Q : Value → Shared → Prop} (hu : A.units + 9 < cLine) (I : Inv X pins σ H s) (g : DGetE X.prog X.w H a y o) (ry : RelV y u) (h : ∀ s', Inv X pins σ H s' → Q (.bool o.isSome) s') : wpAny (model X.prog X.w) A (compareOp .In u (.ref a)) Q E s := by
  rcases g with ⟨kvs, k, e1, e2, e3⟩ | ⟨xs, k, q, e, kn, rfl, kq, rfl⟩
  · exact d_in (by omega) I (.inl ⟨kvs, k, e1, e2, e3⟩) ry h
  · obtain rfl : u = Value.ref q := ry
    exact dn_in hu I e kn kq h
theorem de_notIn {Q : Value → Shared → Prop} (hu : A.units + 9 < cLine) (I : Inv X pins σ H s) (g : DGetE X.prog X.w H a y o) (ry : RelV y u) (h : ∀ s', Inv X pins σ H s' → Q (.bool (!o.isSome)) s') : wpAny (model X.prog X.w) A (compareOp .NotIn u (.ref a)) Q E s := by
  rcases g with ⟨kvs, k, e1, e2, e3⟩ | ⟨xs, k, q, e, kn, rfl, kq, rfl⟩
  · exact d_notIn (by omega) I (.inl ⟨kvs, k, e1, e2, e3⟩) ry h
  · obtain rfl : u = Value.ref q := ry
    exact dn_notIn hu I e kn kq h
theorem de_getItem {Q : Value → Shared → Prop} (hu : A.units + 9 < cLine) (I : Inv X pins σ H s) (g : DGetE X.prog X.w H a y (some v)) (ry : RelV y u) (h : ∀ w' s', Inv X pins σ H s' → RelV v w' → Q w' s') : wpAny (model X.prog X.w) A (getItem (.ref a) u) Q E s := by
  rcases g with ⟨kvs, k, e1, e2, e3⟩ | ⟨xs, k, q, e, kn, rfl, kq, l⟩
  · exact d_getItem (by omega) I (.inl ⟨kvs, k, e1, e2, e3⟩) ry h
  · obtain rfl : u = Value.ref q := ry
    exact dn_getItem hu I e kn kq l.symm h
theorem de_get2 {Q : Value → Shared → Prop} (hu : A.units + 9 < cLine) (I : Inv X pins σ H s) (g : DGetE X.prog X.w H a y o) (ry : RelV y u) (rd : RelV d r) (h : ∀ w' s', Inv X pins σ H s' → RelV (o.getD d) w' → Q w' s') : wpAny (model X.prog X.w) A (call (.builtin "dict.get") [.ref a, u, r]) Q E s := by
  rcases g with ⟨kvs, k, e1, e2, e3⟩ | ⟨xs, k, q, e, kn, rfl, kq, rfl⟩
  · exact d_get2 (by omega) I (.inl ⟨kvs, k, e1, e2, e3⟩) ry rd h
  · obtain rfl : u = Value.ref q := ry
    exact dn_get2 hu I e kn kq rd h
theorem de_typeIs (I : Inv X pins σ H s) (g : DGetE X.prog X.w H a y o) : s.TypeIs (.ref a) "dict" := by
  rcases g with ⟨kvs, k, e1, e2, e3⟩ | ⟨xs, k, q, e, kn, rfl, kq, rfl⟩
  · obtain ⟨_, _, vs, _, dd⟩ := dk_rd I.hok e1
    exact dd.typeIs
  · obtain ⟨_, _, ys, _, dd⟩ := e.rd I.hok kn
    exact dd.typeIs
theorem de_noDict (I : Inv X pins σ H s) (g : DGetE X.prog X.w H a y o) : ∀ b, Value.ref a = .ref b → ∃ ob, s.heap.get? b = some ob ∧ ob.dict = none := fun b q => by
  cases q
  rcases g with ⟨kvs, k, e1, e2, e3⟩ | ⟨xs, k, q, e, kn, rfl, kq, rfl⟩
  · obtain ⟨_, _, vs, _, ob, _, _, h1, h2, _⟩ := dk_rd I.hok e1
    exact ⟨ob, h1, h2.2.1⟩
  · obtain ⟨_, _, ys, _, ob, _, _, h1, h2, _⟩ := e.rd I.hok kn
    exact ⟨ob, h1, h2.2.1⟩
end
end
end L2
/-! DDict2: what a dict of trees holds, the heap's dict holds. -/
namespace DD
variable [Mode]
open PySem L2
theorem kT_beq (a k : Key) : T.beq (kT a) (kT k) = decide (a = k) := by
  cases a with
  | inl i =>
    cases k with
    | inl j =>
      simp only [kT, T.beq]
      by_cases h : i = j
      · subst h; simp
      · rw [decide_eq_false (fun z => h (Sum.inl.inj z)), beq_eq_false_iff_ne]; exact h
    | inr y => simp [kT, T.beq]
  | inr x =>
    cases k with
    | inl j => simp [kT, T.beq]
    | inr y =>
      simp only [kT, T.beq]
      by_cases h : x = y
      · subst h; simp
      · rw [decide_eq_false (fun z => h (Sum.inr.inj z)), beq_eq_false_iff_ne]; exact h
theorem isKeyI_cases : ∀ {n : Nat} {t : T}, isKeyI n t = true → isKey0 t = true ∨ t = .non ∨ ∃ m xs, n = m + 1 ∧ t = .tup xs ∧ xs.all (isKeyI m) = true
  | 0, t, h => by
    cases t <;> first | exact .inl rfl | exact .inr (.inl rfl) | (simp [isKeyI, isKey0] at h)
  | n + 1, t, h => by
    cases t <;> first | exact .inl rfl | exact .inr (.inl rfl) | exact .inr (.inr ⟨n, _, rfl, rfl, h⟩) | (simp [isKeyI, isKey0] at h)
theorem beq_nk : ∀ (n m : Nat) (t k : T), isKeyI n t = true → isKeyI m k = true → T.beq t k = NestedKey.beq (toNK t) (toNK k) := by
  intro n
  induction n with
  | zero =>
    intro m t k h1 h2
    rcases isKeyI_cases h1 with h1 | rfl | ⟨_, _, e, _⟩
    · rcases isKeyI_cases h2 with h2 | rfl | ⟨_, ys, _, rfl, _⟩
      · cases t <;> cases k <;> simp [isKey0] at h1 h2 <;> simp [T.beq, toNK, NestedKey.beq] <;> rfl
      · cases t <;> simp [isKey0] at h1 <;> simp [T.beq, toNK, NestedKey.beq]
      · cases t <;> simp [isKey0] at h1 <;> simp [T.beq, toNK, NestedKey.beq]
    · rcases isKeyI_cases h2 with h2 | rfl | ⟨_, ys, _, rfl, _⟩
      · cases k <;> simp [isKey0] at h2 <;> simp [T.beq, toNK, NestedKey.beq]
      · simp [T.beq, toNK, NestedKey.beq]
      · simp [T.beq, toNK, NestedKey.beq]
    · cases e
  | succ n ih =>
    intro m t k h1 h2
    rcases isKeyI_cases h1 with h1 | rfl | ⟨n', xs, e, rfl, hx⟩
    · rcases isKeyI_cases h2 with h2 | rfl | ⟨_, ys, _, rfl, _⟩
      · cases t <;> cases k <;> simp [isKey0] at h1 h2 <;> simp [T.beq, toNK, NestedKey.beq] <;> rfl
      · cases t <;> simp [isKey0] at h1 <;> simp [T.beq, toNK, NestedKey.beq]
      · cases t <;> simp [isKey0] at h1 <;> simp [T.beq, toNK, NestedKey.beq]
    · rcases isKeyI_cases h2 with h2 | rfl | ⟨_, ys, _, rfl, _⟩
      · cases k <;> simp [isKey0] at h2 <;> simp [T.beq, toNK, NestedKey.beq]
      · simp [T.beq, toNK, NestedKey.beq]
      · simp [T.beq, toNK, NestedKey.beq]
    · obtain rfl : n' = n := by omega
      rcases isKeyI_cases h2 with h2 | rfl | ⟨m', ys, _, rfl, hy⟩
      · cases k <;> simp [isKey0] at h2 <;> simp [T.beq, toNK, NestedKey.beq]
      · simp [T.beq, toNK, NestedKey.beq]
      · rw [T.beq, toNK, toNK, NestedKey.beq]
        have all : ∀ (xs ys : List T), xs.all (isKeyI n') = true → ys.all (isKeyI m') = true → T.beqs xs ys = NestedKey.beqAll (toNK.toNKs xs) (toNK.toNKs ys) := by
          intro xs
          induction xs with
          | nil => intro ys _ _; cases ys <;> simp [T.beqs, toNK.toNKs, NestedKey.beqAll]
          | cons x xs ihx =>
            intro ys h1 h2
            cases ys with
            | nil => simp [T.beqs, toNK.toNKs, NestedKey.beqAll]
            | cons y ys =>
              rw [List.all_cons, Bool.and_eq_true] at h1 h2
              rw [T.beqs, toNK.toNKs, toNK.toNKs, NestedKey.beqAll, ih m' x y h1.1 h2.1, ihx ys h1.2 h2.2]
        exact all xs ys hx hy
theorem key1_I {t : T} (h : isKey1 t = true) : isKeyI 8 t = true := by
  cases t <;> first | exact h | (simp [isKey1] at h)
theorem key1_beq {a k : T} (h1 : isKey1 a = true) (h2 : isKey1 k = true) : T.beq a k = decide (toNK a = toNK k) := by
  rw [beq_nk 8 8 a k (key1_I h1) (key1_I h2), NestedKey.decide_eq]
theorem nk_depth : ∀ (n : Nat) (t : T), isKeyI n t = true → (toNK t).depth ≤ n := by
  intro n
  induction n with
  | zero =>
    intro t h
    rcases isKeyI_cases h with h | rfl | ⟨_, _, e, _⟩
    · cases t <;> simp [isKey0] at h <;> simp [toNK, NestedKey.depth]
    · simp [toNK, NestedKey.depth]
    · cases e
  | succ n ih =>
    intro t h
    rcases isKeyI_cases h with h | rfl | ⟨n', xs, e, rfl, hx⟩
    · cases t <;> simp [isKey0] at h <;> simp [toNK, NestedKey.depth]
    · simp [toNK, NestedKey.depth]
    · obtain rfl : n' = n := by omega
      rw [toNK, NestedKey.depth]
      have all : ∀ (xs : List T), xs.all (isKeyI n') = true → NestedKey.depthAll (toNK.toNKs xs) ≤ n' := by
        intro xs
        induction xs with
        | nil => intro _; simp [toNK.toNKs, NestedKey.depthAll]
        | cons x xs ihx =>
          intro h
          rw [List.all_cons, Bool.and_eq_true] at h
          rw [toNK.toNKs, NestedKey.depthAll]
          have := ih x h.1
          have := ihx h.2
          omega
      have := all xs hx
      omega
variable {c : Cn} {H : Hp} {Av : Addr → Prop}
theorem key0 {t : T} {v : V} (h : isKey0 t = true) (r : RepT c H Av t v) : ∃ k : Key, t = kT k ∧ v = kV k := by
  cases t <;> simp only [isKey0, Bool.false_eq_true] at h
  case int i => exact ⟨.inl i, rfl, r.int⟩
  case str x => exact ⟨.inr x, rfl, r.str⟩
theorem keys0 : ∀ {ts : List T} {vs : List V}, ts.all isKey0 = true → RepL c H Av ts vs → ∃ ks : List Key, ts = ks.map kT ∧ vs = ks.map kV
  | [], vs, _, r => ⟨[], rfl, r.inv_nil⟩
  | t :: ts, vs, h, r => by
    rw [List.all_cons, Bool.and_eq_true] at h
    obtain ⟨v, w, rfl, r1, r2⟩ := r.inv
    obtain ⟨k, rfl, rfl⟩ := key0 h.1 (.inl r1)
    obtain ⟨ks, rfl, rfl⟩ := keys0 h.2 r2
    exact ⟨k :: ks, rfl, rfl⟩
theorem Tp.keyt {st : Bool} {a : Addr} {vs : List V} (h : Tp st H a vs) : H a = some (.tup vs) ∨ ∃ od, H a = some (.frz od (.tup vs)) := h.w
theorem rep_key : ∀ (n : Nat) (t : T) (v : V), isKeyI n t = true → Rep c H Av t v → KeyH H (toNK t) v := by
  intro n
  induction n with
  | zero =>
    intro t v h r
    rcases isKeyI_cases h with h | rfl | ⟨_, _, e, _⟩
    · cases t <;> simp [isKey0] at h
      · rw [Rep] at r; subst r; exact .num _
      · rw [Rep] at r; subst r; exact .text _
    · rw [Rep] at r; subst r; exact .none
    · cases e
  | succ n ih =>
    intro t v h r
    rcases isKeyI_cases h with h | rfl | ⟨n', xs, e, rfl, hx⟩
    · cases t <;> simp [isKey0] at h
      · rw [Rep] at r; subst r; exact .num _
      · rw [Rep] at r; subst r; exact .text _
    · rw [Rep] at r; subst r; exact .none
    · obtain rfl : n' = n := by omega
      rw [Rep] at r
      obtain ⟨a, vs, rfl, hT, hr⟩ := r
      have all : ∀ (xs : List T) (vs : List V), xs.all (isKeyI n') = true → RepL c H Av xs vs → KeysH H (toNK.toNKs xs) vs := by
        intro xs
        induction xs with
        | nil => intro vs _ r; rw [RepL] at r; subst r; exact .nil
        | cons x xs ihx =>
          intro vs h r
          rw [List.all_cons, Bool.and_eq_true] at h
          rw [RepL] at r
          obtain ⟨v, r', rfl, h1, h2⟩ := r
          exact .cons (ih x v h.1 h1) (ihx r' h.2 h2)
      exact .tup (hT.keyt) (all xs vs hx hr)
theorem key1 {t : T} {v : V} (h : isKey1 t = true) (r : RepT c H Av t v) : ∃ q, v = .ref q ∧ KeyN H (toNK t) q := by
  have h8 := key1_I h
  have hr : Rep c H Av t v := by
    rcases r with r | ⟨a, rfl, r⟩
    · exact r
    · cases t <;> first | exact r.elim | (simp [isKey1] at h)
  have hk := rep_key 8 t v h8 hr
  cases t <;> simp only [isKey1, Bool.false_eq_true] at h
  obtain ⟨a, vs, rfl, _⟩ := RepT.tup (.inl hr)
  exact ⟨a, rfl, hk, nk_depth 8 _ h8⟩
theorem repK1_keys : ∀ {kvs : List (T × T)} {ks : List KEnt}, RepK1 c H Av kvs ks → KeysN H ks
  | [], ks, r => by rw [RepK1] at r; subst r; exact fun _ z => nomatch z
  | (a, t) :: kvs, ks, r => by
    rw [RepK1] at r
    obtain ⟨q, v, r', rfl, hk, h0, h1, h2⟩ := r
    intro x hx
    rcases List.mem_cons.mp hx with e | hx
    · subst e
      obtain ⟨q', e, h⟩ := key1 hk (.inl h0)
      cases e
      exact h
    · exact repK1_keys h2 x hx
theorem look0 (k : Key) : ∀ {kvs : List (T × T)} {ks : List (Key × V)}, RepK0 c H Av kvs ks → (valV ks k = none ∧ lookT (kT k) kvs = none) ∨ ∃ v t, valV ks k = some v ∧ lookT (kT k) kvs = some t ∧ Rep c H Av t v
  | [], ks, r => by
    rw [RepK0] at r
    subst r
    exact .inl ⟨rfl, rfl⟩
  | (a, t) :: kvs, ks, r => by
    rw [RepK0] at r
    obtain ⟨k', v, r', rfl, rfl, h1, h2⟩ := r
    rw [lookT, kT_beq]
    by_cases e : k' = k
    · rw [valV_pos e, decide_eq_true e]
      exact .inr ⟨v, t, rfl, rfl, h1⟩
    · rw [valV_neg e, decide_eq_false e]
      exact look0 k h2
theorem look1 {kt : T} (hk : isKey1 kt = true) : ∀ {kvs : List (T × T)} {ks : List KEnt}, RepK1 c H Av kvs ks → (valE ks (toNK kt) = none ∧ lookT kt kvs = none) ∨ ∃ v t, valE ks (toNK kt) = some v ∧ lookT kt kvs = some t ∧ Rep c H Av t v
  | [], ks, r => by
    rw [RepK1] at r
    subst r
    exact .inl ⟨rfl, rfl⟩
  | (a, t) :: kvs, ks, r => by
    rw [RepK1] at r
    obtain ⟨q, v, r', rfl, ha, h0, h1, h2⟩ := r
    rw [lookT, key1_beq ha hk]
    by_cases e : toNK a = toNK kt
    · have b : valE ((toNK a, q, v) :: r') (toNK kt) = some v := by simp [valE, List.find?_cons, e]
      rw [b, decide_eq_true e]
      exact .inr ⟨v, t, rfl, rfl, h1⟩
    · have b : valE ((toNK a, q, v) :: r') (toNK kt) = valE r' (toNK kt) := by simp [valE, List.find?_cons, e]
      rw [b, decide_eq_false e]
      exact look1 hk h2
/-- a dict of trees in the heap, either kind -/
theorem RepT.dct {kvs : List (T × T)} {v : V} (h : RepT c H Av (.dct kvs) v) : ∃ a, v = .ref a ∧ ((∃ ks, Rd H a (.dK ks) ∧ RepK0 c H Av kvs ks) ∨ ∃ ks, Rd H a (dN c.P c.w a ks) ∧ RepK1 c H Av kvs ks ∧ kvs ≠ []) := by
  rcases h with h | ⟨a, rfl, h⟩
  · rw [Rep] at h
    obtain ⟨a, rfl, _, h⟩ := h
    exact ⟨a, rfl, h⟩
  · exact ⟨a, rfl, h.imp (fun ⟨ks, x, y⟩ => ⟨ks, .inl x, y⟩) fun ⟨ks, x, y, z⟩ => ⟨ks, .inl x, y, z⟩⟩
theorem notBoth {t : T} (h : isKey0 t = true) : isKey1 t = false := by cases t <;> first | rfl | cases h
/-- what is held at a fitting key -/
theorem dget {kvs : List (T × T)} {kt : T} {x y : V} (hx : RepT c H Av (.dct kvs) x) (hy : RepT c H Av kt y) (hf : fitK kt kvs = true) :
    ∃ a o, x = .ref a ∧ DGetE c.P c.w H a y o ∧ ((o = none ∧ lookT kt kvs = none) ∨ ∃ v t, o = some v ∧ lookT kt kvs = some t ∧ Rep c H Av t v) := by
  obtain ⟨a, rfl, hd⟩ := hx.dct
  unfold fitK at hf
  rw [Bool.or_eq_true, Bool.and_eq_true, Bool.and_eq_true] at hf
  rcases hf with ⟨h1, h2⟩ | ⟨h1, h2⟩
  · obtain ⟨k, rfl, rfl⟩ := key0 h1 hy
    rcases hd with ⟨ks, hH, hr⟩ | ⟨ks, hH, hr, hne⟩
    · exact ⟨a, valV ks k, rfl, .inl ⟨ks, k, hH, rfl, rfl⟩, look0 k hr |>.imp id fun ⟨v, t, h⟩ => ⟨v, t, h⟩⟩
    · cases kvs with
      | nil => exact absurd rfl hne
      | cons p kvs =>
        obtain ⟨p1, p2⟩ := p
        rw [RepK1] at hr
        obtain ⟨q, v, r', rfl, hk, _⟩ := hr
        have h2 : isKey0 p1 = true := h2
        rw [notBoth h2] at hk
        cases hk
  · obtain ⟨q, rfl, kq⟩ := key1 h1 hy
    rcases hd with ⟨ks, hH, hr⟩ | ⟨ks, hH, hr, hne⟩
    · cases kvs with
      | nil =>
        rw [RepK0] at hr
        subst hr
        exact ⟨a, none, rfl, .inr ⟨[], _, q, .inr ⟨rfl, hH⟩, (fun _ z => nomatch z), rfl, kq, rfl⟩, .inl ⟨rfl, rfl⟩⟩
      | cons p kvs =>
        obtain ⟨p1, p2⟩ := p
        rw [RepK0] at hr
        obtain ⟨k', v, r', rfl, rfl, _, _⟩ := hr
        cases k' <;> simp [headK, isKey1, kT] at h2
    · exact ⟨a, valE ks (toNK kt), rfl, .inr ⟨ks, _, q, .inl hH, repK1_keys hr, rfl, kq, rfl⟩, look1 h1 hr |>.imp id fun ⟨v, t, h⟩ => ⟨v, t, h⟩⟩
end DD
/-! DDict3: rules of dicts, by values. -/
namespace DD
variable [Mode]
open PySem L2
section
variable {X : Cx}
def rInE (P : Program) (w : World) : R2 := fun y x H Q => ∃ a o, x = .ref a ∧ DGetE P w H a y o ∧ Q (.bl o.isSome) H
def rNotinE (P : Program) (w : World) : R2 := fun y x H Q => ∃ a o, x = .ref a ∧ DGetE P w H a y o ∧ Q (.bl (!o.isSome)) H
theorem op_inE {P : Program} {w : World} (hP : X.prog = P) (hW : X.w = w) (hu : X.A.units + 9 < cLine) : OpR X (compareOp .In) (rInE P w) := by
  subst hP hW
  intro pins s σ H y x u v Q I ry rx h
  obtain ⟨a, o, rfl, g, q⟩ := h
  cases rx
  exact de_in hu I g ry fun s' I' => ⟨.bl _, H, I', rfl, q⟩
theorem op_notinE {P : Program} {w : World} (hP : X.prog = P) (hW : X.w = w) (hu : X.A.units + 9 < cLine) : OpR X (compareOp .NotIn) (rNotinE P w) := by
  subst hP hW
  intro pins s σ H y x u v Q I ry rx h
  obtain ⟨a, o, rfl, g, q⟩ := h
  cases rx
  exact de_notIn hu I g ry fun s' I' => ⟨.bl _, H, I', rfl, q⟩
def rIxE (P : Program) (w : World) : R2 := fun x y H Q => ∃ a v, x = .ref a ∧ DGetE P w H a y (some v) ∧ Q v H
theorem ix_dictE {P : Program} {w : World} (hP : X.prog = P) (hW : X.w = w) (hu : X.A.units + 9 < cLine) : IxR X (rIxE P w) := by
  subst hP hW
  intro value slice pins s σ H x y v u Q I rx ry h hs
  obtain ⟨a, r, rfl, g, q⟩ := h
  cases rx
  exact PyProof.Rows.tail_any (de_typeIs I g) PySem.F.slot_dict_getitem.lookup (de_getItem hu I g ry fun w' s' I' rw' => ⟨r, H, I', rw', q⟩) hs
def rGetE (P : Program) (w : World) : V → List V → Hp → VK → Prop := fun x xs H Q => ∃ a y d o, x = .ref a ∧ xs = [y, d] ∧ DGetE P w H a y o ∧ Q (o.getD d) H
theorem mt_getE {P : Program} {w : World} (hP : X.prog = P) (hW : X.w = w) (hu : X.A.units + 9 < cLine) : MtR X "dict.get" (rGetE P w) := by
  subst hP hW
  intro pins s σ H x xs v us Q I rx rs h
  obtain ⟨a, y, d, o, rfl, rfl, g, q⟩ := h
  cases rx
  cases rs with
  | cons r1 rs =>
    cases rs with
    | cons r2 rs =>
      cases rs
      exact de_get2 hu I g r1 r2 fun w' s' I' rw' => ⟨_, H, I', rw', q⟩
end
variable {c : Cn} {H : Hp} {Av : Addr → Prop}
theorem in_dct {kvs : List (T × T)} {kt : T} {x y : V} {Q : VK} (hx : RepT c H Av (.dct kvs) x) (hy : RepT c H Av kt y) (hf : fitK kt kvs = true) (k : Q (.bl (lookT kt kvs).isSome) H) : rInE c.P c.w y x H Q := by
  obtain ⟨a, o, rfl, g, h⟩ := dget hx hy hf
  refine ⟨a, o, rfl, g, ?_⟩
  rcases h with ⟨rfl, e⟩ | ⟨v, t, rfl, e, _⟩
  · rw [e] at k; exact k
  · rw [e] at k; exact k
theorem notin_dct {kvs : List (T × T)} {kt : T} {x y : V} {Q : VK} (hx : RepT c H Av (.dct kvs) x) (hy : RepT c H Av kt y) (hf : fitK kt kvs = true) (k : Q (.bl (!(lookT kt kvs).isSome)) H) : rNotinE c.P c.w y x H Q := by
  obtain ⟨a, o, rfl, g, h⟩ := dget hx hy hf
  refine ⟨a, o, rfl, g, ?_⟩
  rcases h with ⟨rfl, e⟩ | ⟨v, t, rfl, e, _⟩
  · rw [e] at k; exact k
  · rw [e] at k; exact k
theorem ix_dct {kvs : List (T × T)} {kt t : T} {x y : V} {Q : VK} (hx : RepT c H Av (.dct kvs) x) (hy : RepT c H Av kt y) (hf : fitK kt kvs = true) (hl : lookT kt kvs = some t) (k : ∀ v, Rep c H Av t v → Q v H) : rIxE c.P c.w x y H Q := by
  obtain ⟨a, o, rfl, g, h⟩ := dget hx hy hf
  rcases h with ⟨rfl, e⟩ | ⟨v, t', rfl, e, r⟩
  · rw [e] at hl; cases hl
  · rw [e] at hl
    cases hl
    exact ⟨a, v, rfl, g, k v r⟩
theorem repK0_len : ∀ {kvs : List (T × T)} {ks : List (Key × V)}, RepK0 c H Av kvs ks → kvs.length = ks.length
  | [], ks, r => by rw [RepK0] at r; subst r; rfl
  | (a, t) :: kvs, ks, r => by
    rw [RepK0] at r
    obtain ⟨k', v, r', rfl, rfl, h1, h2⟩ := r
    simp [repK0_len h2]
theorem repK1_len : ∀ {kvs : List (T × T)} {ks : List KEnt}, RepK1 c H Av kvs ks → kvs.length = ks.length
  | [], ks, r => by rw [RepK1] at r; subst r; rfl
  | (a, t) :: kvs, ks, r => by
    rw [RepK1] at r
    obtain ⟨q, v, r', rfl, _, _, h1, h2⟩ := r
    simp [repK1_len h2]
/-- a value that is no list or dict is a value as it stands -/
theorem RepT.plain {t : T} {v : V} (h : RepT c H Av t v) (hc : isCell t = false) : Rep c H Av t v := by
  rcases h with h | ⟨a, rfl, h⟩
  · exact h
  · cases t <;> first | exact h.elim | (exact absurd hc (by simp [isCell]))
theorem get_dct {kvs : List (T × T)} {kt d : T} {x y z : V} {Q : VK} (hx : RepT c H Av (.dct kvs) x) (hy : RepT c H Av kt y) (hz : RepT c H Av d z) (hc : isCell d = false) (hf : fitK kt kvs = true) (k : ∀ v, Rep c H Av ((lookT kt kvs).getD d) v → Q v H) : rGetE c.P c.w x [y, z] H Q := by
  obtain ⟨a, o, rfl, g, h⟩ := dget hx hy hf
  refine ⟨a, y, z, o, rfl, rfl, g, ?_⟩
  rcases h with ⟨rfl, e⟩ | ⟨v, t', rfl, e, r⟩
  · exact k z (by rw [e]; exact hz.plain hc)
  · exact k v (by rw [e]; exact r)
end DD
/-! DDict4: what is put into dicts; displays. -/
namespace L2
open PySem PyProof.Rows
/-- the heap behind a[y] = v; an empty dict takes the kind that its first key asks for -/
def DPutE (P : Program) (w : World) (H : Hp) (a : Addr) (y v : V) (H' : Hp) : Prop :=
  (∃ kvs k, H a = some (.dK kvs) ∧ y = kV k ∧ kvs.length < sizeLine ∧ H' = upd H a (.dK (putK kvs k v))) ∨
  ∃ xs k q, DNAt P w H a xs ∧ KeysN H xs ∧ y = .ref q ∧ KeyN H k q ∧ xs.length < sizeLine ∧ H' = upd H a (dN P w a (putE xs k q v))
section
variable {X : Cx} {pins : List (Addr × Obj)} {σ : St} {H H' : Hp} {s : Shared} {a : Addr} {y v : V}
theorem de_setItem {A : Around} {E : Value → Shared → Prop} {u r : Value} {Q : Unit → Shared → Prop} (hu : A.units + 9 < cLine) (I : Inv X pins σ H s) (g : DPutE X.prog X.w H a y v H') (ry : RelV y u) (rv : RelV v r) (h : ∀ s', Inv X pins σ H' s' → Q () s') :
    wpAny (model X.prog X.w) A (setItem (.ref a) u r) Q E s := by
  rcases g with ⟨kvs, k, e, ey, l, eH⟩ | ⟨xs, k, q, e, kn, rfl, kq, l, rfl⟩
  · exact d_setItem (by omega) I (.inl ⟨kvs, k, e, ey, l, eH⟩) ry rv h
  · obtain rfl : u = Value.ref q := ry
    exact dn_setItem hu I e kn kq l rv h
theorem de_dictSet {A : Around} {E : Value → Shared → Prop} {u r : Value} {Q : Unit → Shared → Prop} (hu : A.units + 9 < cLine) (I : Inv X pins σ H s) (g : DPutE X.prog X.w H a y v H') (ry : RelV y u) (rv : RelV v r) (h : ∀ s', Inv X pins σ H' s' → Q () s') :
    wpAny (model X.prog X.w) A (dictSet a u r) Q E s := by
  rcases g with ⟨kvs, k, e, ey, l, eH⟩ | ⟨xs, k, q, e, kn, rfl, kq, l, rfl⟩
  · subst ey eH
    obtain ⟨z, hd, vs, rel, dd⟩ := dk_of I.hok e
    have hz : vs.length ≤ sizeLine := by rw [← rel.length]; exact z
    have hl : (putK kvs k v).length ≤ sizeLine := by have := length_putK kvs k v; omega
    refine wpAny_dictSet_pairs (hsz := hz) (kV_is ry) dd fun h' dd' hs => h _ ?_
    obtain ⟨q, es, ep, hq, rest⟩ := id dd'
    exact d_write I (by rw [e]; exact True.intro) hs ⟨q, hq⟩ (dk_new hl hd (rel.put k rv) dd')
  · obtain rfl : u = Value.ref q := ry
    exact dn_dictSet hu I e kn kq l rv h
end
def rSetDE (P : Program) (w : World) : V → V → V → Hp → (Hp → Prop) → Prop := fun o i v H Q => ∃ a H', o = .ref a ∧ DPutE P w H a i v H' ∧ Q H'
theorem set_dictE {X : Cx} {P : Program} {w : World} (hP : X.prog = P) (hW : X.w = w) (hu : X.A.units + 9 < cLine) : PSet X (rSetDE P w) := by
  subst hP hW
  intro pins s σ H o i v ov iv u Q I ro ri rv h
  obtain ⟨a, H', rfl, g, q⟩ := h
  cases ro
  exact de_setItem hu I g ri rv fun s' I' => ⟨H', I', q⟩
theorem PSet.or {X : Cx} {r r' : V → V → V → Hp → (Hp → Prop) → Prop} (h : PSet X r) (h' : PSet X r') : PSet X (fun o i v H Q => r o i v H Q ∨ r' o i v H Q) := by
  intro pins s σ H o i v ov iv u Q I ro ri rv q
  exact q.elim (h pins s σ H o i v ov iv u Q I ro ri rv) (h' pins s σ H o i v ov iv u Q I ro ri rv)
/-- {k: v}, whatever the key -/
def tDisp1 (P : Program) (w : World) (tk tv : TE) : TE := fun σ H Q => ∀ p, H p = none → tk σ (upd H p (.dK [])) fun x H1 => tv σ H1 fun y H2 => ∃ H3, DPutE P w H2 p x y H3 ∧ Q (.ref p) H3
theorem pe_disp1 {X : Cx} {P : Program} {w : World} {pos : Pos} {k v : Expr} {tk tv : TE} (hP : X.prog = P) (hW : X.w = w) (hu : X.A.units + 9 < cLine) (hk : PE X k tk) (hv : PE X v tv) : PE X (.Dict [some k] [v] pos) (tDisp1 P w tk tv) := by
  subst hP hW
  refine ⟨fun pins s σ H Q I q => ?_⟩
  have hn := I.hok.fresh (Nat.le_refl s.heap.objs.size)
  have I1 := I.laid (a := s.heap.objs.size) (o := .dK []) (h' := s.heap.push { cls := .type "dict", data := .dict #[] }) (t' := s.toks) (fun _ _ q => Heap.get?_push_of_some _ q) (Nat.le_refl _) (dk_empty s.heap I.big)
  refine wpAny_Dict_any rfl rfl (by simp) (by simp) ?_
  refine pairTrees_cons_walk (thn (hk.run pins _ σ _ _ I1 (q _ hn)) fun u s1 ⟨x, H1, I2, rx, q1⟩ => thn (hv.run pins s1 σ H1 _ I2 q1) fun w2 s2 ⟨y, H2, I3, ry, H3, g, q2⟩ => pairTrees_nil_walk ?_)
  unfold storeAll
  rw [List.forIn_cons]
  refine wpAny_bind (wpAny_bind (de_dictSet hu I3 g rx ry fun s' I4 => wpAny_pure ?_))
  dsimp only
  rw [List.forIn_nil]
  exact wpAny_pure ⟨.ref s.heap.objs.size, H3, I4, rfl, q2⟩
end L2
namespace DD
variable [Mode]
open PySem L2
section
variable {c : Cn} {H : Hp} {Av : Addr → Prop}
theorem putT_nil {k v : T} : putT k v [] = [(k, v)] := rfl
theorem any0 (k : Key) : ∀ {kvs : List (T × T)} {ks : List (Key × V)}, RepK0 c H Av kvs ks → (kvs.any fun p => T.beq p.1 (kT k)) = ks.any fun p => decide (p.1 = k)
  | [], ks, r => by rw [RepK0] at r; subst r; rfl
  | (a, t) :: kvs, ks, r => by
    rw [RepK0] at r
    obtain ⟨k', v, r', rfl, rfl, h1, h2⟩ := r
    rw [List.any_cons, List.any_cons, kT_beq, any0 k h2]
theorem map0 {k : Key} {t : T} {v : V} (hr : Rep c H Av t v) : ∀ {kvs : List (T × T)} {ks : List (Key × V)}, RepK0 c H Av kvs ks → RepK0 c H Av (kvs.map fun p => if T.beq p.1 (kT k) then (p.1, t) else p) (ks.map fun p => if p.1 = k then (p.1, v) else p)
  | [], ks, r => by rw [RepK0] at r; subst r; rw [List.map_nil, List.map_nil, RepK0]
  | (a, u) :: kvs, ks, r => by
    rw [RepK0] at r
    obtain ⟨k', w, r', rfl, rfl, h1, h2⟩ := r
    rw [List.map_cons, List.map_cons]
    simp only [kT_beq]
    by_cases e : k' = k
    · subst e
      simp only [decide_true, if_true]
      rw [RepK0]
      exact ⟨_, _, _, rfl, rfl, hr, map0 hr h2⟩
    · simp only [decide_eq_false e, if_neg e, Bool.false_eq_true, if_false]
      rw [RepK0]
      exact ⟨_, _, _, rfl, rfl, h1, map0 hr h2⟩
theorem RepK0.append : ∀ {a b : List (T × T)} {x y : List (Key × V)}, RepK0 c H Av a x → RepK0 c H Av b y → RepK0 c H Av (a ++ b) (x ++ y)
  | [], b, x, y, h, h' => by rw [RepK0] at h; subst h; exact h'
  | (k, t) :: a, b, x, y, h, h' => by
    rw [RepK0] at h
    obtain ⟨k', v, r, rfl, rfl, h1, h2⟩ := h
    rw [List.cons_append, List.cons_append, RepK0]
    exact ⟨_, _, _, rfl, rfl, h1, RepK0.append h2 h'⟩
theorem RepK0.put {k : Key} {t : T} {v : V} {kvs : List (T × T)} {ks : List (Key × V)} (r : RepK0 c H Av kvs ks) (hr : Rep c H Av t v) : RepK0 c H Av (putT (kT k) t kvs) (putK ks k v) := by
  unfold putT putK
  rw [any0 k r]
  by_cases e : (ks.any fun p => decide (p.1 = k)) = true
  · rw [if_pos e, if_pos e]; exact map0 hr r
  · rw [if_neg e, if_neg e]
    refine r.append ?_
    rw [RepK0]
    exact ⟨k, v, [], rfl, rfl, hr, by rw [RepK0]⟩
theorem any1 {kt : T} (hk : isKey1 kt = true) : ∀ {kvs : List (T × T)} {ks : List KEnt}, RepK1 c H Av kvs ks → (kvs.any fun p => T.beq p.1 kt) = (valE ks (toNK kt)).isSome
  | [], ks, r => by rw [RepK1] at r; subst r; rfl
  | (a, t) :: kvs, ks, r => by
    rw [RepK1] at r
    obtain ⟨q, v, r', rfl, ha, h0, h1, h2⟩ := r
    rw [List.any_cons, key1_beq ha hk, any1 hk h2]
    by_cases e : toNK a = toNK kt
    · have b : valE ((toNK a, q, v) :: r') (toNK kt) = some v := by simp [valE, List.find?_cons, e]
      rw [b, decide_eq_true e]; rfl
    · have b : valE ((toNK a, q, v) :: r') (toNK kt) = valE r' (toNK kt) := by simp [valE, List.find?_cons, e]
      rw [b, decide_eq_false e]; rfl
theorem map1 {kt : T} (hk : isKey1 kt = true) {t : T} {v : V} (hr : Rep c H Av t v) : ∀ {kvs : List (T × T)} {ks : List KEnt}, RepK1 c H Av kvs ks → RepK1 c H Av (kvs.map fun p => if T.beq p.1 kt then (p.1, t) else p) (ks.map fun x => if x.1 = toNK kt then (x.1, x.2.1, v) else x)
  | [], ks, r => by rw [RepK1] at r; subst r; rw [List.map_nil, List.map_nil, RepK1]
  | (a, u) :: kvs, ks, r => by
    rw [RepK1] at r
    obtain ⟨q, w, r', rfl, ha, h0, h1, h2⟩ := r
    rw [List.map_cons, List.map_cons]
    simp only [key1_beq ha hk]
    by_cases e : toNK a = toNK kt
    · simp only [decide_eq_true e, if_true, if_pos e]
      rw [RepK1]
      exact ⟨_, _, _, rfl, ha, h0, hr, map1 hk hr h2⟩
    · simp only [decide_eq_false e, if_neg e, Bool.false_eq_true, if_false]
      rw [RepK1]
      exact ⟨_, _, _, rfl, ha, h0, h1, map1 hk hr h2⟩
theorem RepK1.append : ∀ {a b : List (T × T)} {x y : List KEnt}, RepK1 c H Av a x → RepK1 c H Av b y → RepK1 c H Av (a ++ b) (x ++ y)
  | [], b, x, y, h, h' => by rw [RepK1] at h; subst h; exact h'
  | (k, t) :: a, b, x, y, h, h' => by
    rw [RepK1] at h
    obtain ⟨q, v, r, rfl, hk, h0, h1, h2⟩ := h
    rw [List.cons_append, List.cons_append, RepK1]
    exact ⟨_, _, _, rfl, hk, h0, h1, RepK1.append h2 h'⟩
theorem RepK1.put {kt t : T} {q : Addr} {v : V} {kvs : List (T × T)} {ks : List KEnt} (hk : isKey1 kt = true) (h0 : Rep c H Av kt (.ref q)) (r : RepK1 c H Av kvs ks) (hr : Rep c H Av t v) : RepK1 c H Av (putT kt t kvs) (putE ks (toNK kt) q v) := by
  unfold putT putE
  rw [any1 hk r]
  by_cases e : (valE ks (toNK kt)).isSome = true
  · rw [if_pos e, if_pos e]; exact map1 hk hr r
  · rw [if_neg e, if_neg e]
    refine r.append ?_
    rw [RepK1]
    exact ⟨q, v, [], rfl, hk, h0, hr, by rw [RepK1]⟩
theorem putT_ne {k v : T} {kvs : List (T × T)} : putT k v kvs ≠ [] := by
  unfold putT
  split
  · rename_i h
    cases kvs with
    | nil => cases h
    | cons p r => simp
  · simp
theorem putT_keys0 {k v : T} {kvs : List (T × T)} (hk : isKey0 k = true) (h : (kvs.all fun p => isKey0 p.1) = true) : ((putT k v kvs).all fun p => isKey0 p.1) = true := by
  unfold putT
  split
  · rw [List.all_map]
    refine List.all_eq_true.mpr fun p hp => ?_
    have := List.all_eq_true.mp h p hp
    show isKey0 (if T.beq p.1 k = true then (p.1, v) else p).1 = true
    split <;> exact this
  · rw [List.all_append, h]
    simp [hk]
theorem putT_len {k v : T} {kvs : List (T × T)} : (putT k v kvs).length ≤ kvs.length + 1 := by
  unfold putT
  split <;> simp
/-- a dict's cell takes a pair: what stands behind it -/
theorem CellOk.put {a : Addr} {kvs : List (T × T)} {k t : T} {y v : V} (hc : CellOk c H Av (.dct kvs) a) (hav : Av a) (hy : Rep c H Av k y) (hv : Rep c H Av t v) (hf : fitK k kvs = true) (hl : kvs.length < sizeLine) :
    ∃ ob, DPutE c.P c.w H a y v (upd H a ob) ∧ MutO ob ∧ (Kp Av H (upd H a ob) → CellOk c (upd H a ob) Av (.dct (putT k t kvs)) a) := by
  have hm : ∃ o, H a = some o ∧ MutO o := hc.dom
  unfold fitK at hf
  rw [Bool.or_eq_true, Bool.and_eq_true, Bool.and_eq_true] at hf
  rcases hf with ⟨h1, h2⟩ | ⟨h1, h2⟩
  · obtain ⟨ky, rfl, rfl⟩ := key0 h1 (.inl hy)
    obtain ⟨ks, hH, hr⟩ : ∃ ks, H a = some (.dK ks) ∧ RepK0 c H Av kvs ks := by
      rcases hc with h | ⟨ks, hH, hr, hne⟩
      · exact h
      · exfalso
        cases kvs with
        | nil => exact hne rfl
        | cons p kvs =>
          obtain ⟨p1, p2⟩ := p
          rw [RepK1] at hr
          obtain ⟨q, w, r', rfl, hk, _⟩ := hr
          have h2 : isKey0 p1 = true := h2
          rw [notBoth h2] at hk
          cases hk
    have hlk : ks.length < sizeLine := by rw [← repK0_len hr]; exact hl
    refine ⟨.dK (putK ks ky v), .inl ⟨ks, ky, hH, rfl, hlk, rfl⟩, trivial, fun kp => .inl ⟨_, upd_same, ?_⟩⟩
    exact RepK0.mono kp (fun _ _ _ z => z) _ _ (hr.put hv)
  · obtain ⟨q, rfl, kq⟩ := key1 h1 (.inl hy)
    have fin : ∀ {ks : List KEnt}, RepK1 c H Av kvs ks → DPutE c.P c.w H a (.ref q) v (upd H a (dN c.P c.w a (putE ks (toNK k) q v))) → ∃ ob, DPutE c.P c.w H a (.ref q) v (upd H a ob) ∧ MutO ob ∧ (Kp Av H (upd H a ob) → CellOk c (upd H a ob) Av (.dct (putT k t kvs)) a) := fun {ks} hr hp =>
      ⟨_, hp, trivial, fun kp => .inr ⟨_, upd_same, RepK1.mono kp (fun _ _ _ z => z) _ _ (hr.put h1 hy hv), putT_ne⟩⟩
    rcases hc with ⟨ks, hH, hr⟩ | ⟨ks, hH, hr, _⟩
    · cases kvs with
      | cons p kvs =>
        exfalso
        rw [RepK0] at hr
        obtain ⟨k', w, r', rfl, e, _, _⟩ := hr
        cases k' <;> simp [headK, isKey1, kT, e] at h2
      | nil =>
        rw [RepK0] at hr
        subst hr
        exact fin (ks := []) (by rw [RepK1]) (.inr ⟨[], _, q, .inr ⟨rfl, hH⟩, (fun _ z => nomatch z), rfl, kq, by rw [sizeLine_eq]; decide, rfl⟩)
    · exact fin hr (.inr ⟨ks, _, q, .inl hH, repK1_keys hr, rfl, kq, by rw [← repK1_len hr]; exact hl, rfl⟩)
end
end DD
/-! DDc: dict comprehensions whose keys may be tuples (after the library's own rule for plain keys). -/
namespace L2
open PySem PySem.Spec PyProof.Rows
section
variable {X : Cx}
def tDcE (P : Program) (w : World) (wi : TI) (g : TG) (tt : TT) (tk tv : TE) (vs : List Nat) : TE := fun σ H Q => wi σ H fun J H1 => ∀ D, H1 D = none → ∃ W : Nat → Nat → Hp → Prop, (∃ m, W 0 m (upd H1 D (.dK []))) ∧ ∀ i m H, W i m H →
  (J.stop i H ∧ Q (.ref D) H) ∨ (J.go i H ∧ ∃ Nx : Hp → Prop, (∀ H', Nx H' → ∃ m', m' < m ∧ W (i + 1) m' H') ∧ ∀ x H', J.yld i H x H' → g x (wipe σ vs) H' fun σ2 H2 => wipe σ2 vs = wipe σ vs ∧ tt σ2 H2 fun b H3 =>
    if b = true then tk σ2 H3 fun y H4 => tv σ2 H4 fun z H5 => ∃ H6, DPutE P w H5 D y z H6 ∧ Nx H6 else Nx H3)
theorem dc_coreE {P : Program} {w : World} (hP : X.prog = P) (hW : X.w = w) (hu : X.A.units + 9 < cLine) {pins : List (Addr × Obj)} {s : Shared} {σ : St} {H : Hp} {Q : VK} {kx vx tg iter : Expr} {ifs : List Expr} {scope : Scope} {own : List (Str × Nat)} {pos pos' : Pos} {wi : TI} {g : TG} {tt : TT} {tk tv : TE} {use : Option (Value → Sem Unit)} {Qf : Value → Shared → Prop}
    (hc : X.calm = true) (hN : X.N.Nodup) (I : Inv X pins σ H s) (hi : PI X tg iter wi) (ok : BlkOk X.N X.env.scope scope own)
    (hg : ∀ (s : Shared) (H : Hp) (C : Addr) (cl : List (Str × Addr)) (fp : List Addr), PG (X.blk s H scope (compEnvC scope cl C X.env) fp) tg g) (ht : ∀ (s : Shared) (H : Hp) (C : Addr) (cl : List (Str × Addr)) (fp : List Addr), PTs (X.blk s H scope (compEnvC scope cl C X.env) fp) ifs tt)
    (hk : ∀ (s : Shared) (H : Hp) (C : Addr) (cl : List (Str × Addr)) (fp : List Addr), PE (X.blk s H scope (compEnvC scope cl C X.env) fp) kx tk)
    (he : ∀ (s : Shared) (H : Hp) (C : Addr) (cl : List (Str × Addr)) (fp : List Addr), PE (X.blk s H scope (compEnvC scope cl C X.env) fp) vx tv) (hs : ∀ x, foldedSetIterable iter X.env x = pure x)
    (h : tDcE P w wi g tt tk tv (own.map (·.2)) σ H Q)
    (hRR : ∀ D C s' m H', Inv X pins σ H' s' → Q (.ref D) H' → s'.heap.Ns C m → FpOk X pins H' C → compPost (model X.prog X.w) X.A X.xe use Qf (.ref D) C (.ok .next) s') :
    wpAny (model X.prog X.w) X.A (comprehension (.DictComp kx vx [⟨tg, iter, ifs, 0⟩] scope pos) scope X.env pos' newDict false (eval iter X.env) use) Qf X.xe s := by
  subst hP hW
  have hfree : ∀ y ∈ scope.names, y.2 = .free → ∃ c, X.env.cells.lookup y.1 = some c := fun y hy e => by
    rcases ok.free y hy e with k | k
    · exact I.ok.has _ (.inl k)
    · exact I.ok.has _ (.inr k)
  refine wpAny_comprehension_free (use := use) rfl hs (closure_ok hfree) ok.kind (fun y hy e => by rw [ok.uniq y hy, e])
    (thn (hi.run pins s σ H _ I h) fun xv s1 hx => thn hx fun itv s2 h2 => ?_)
  obtain ⟨it, fp, tn, J, H2, e, I2, T, st2, f2, q⟩ := h2
  subst e
  refine wpAny_newObj_type (newEnv_comp ?_)
  generalize hD : s2.heap.objs.size = D
  have hDn : H2 D = none := I2.hok.fresh (Nat.le_of_eq hD)
  obtain ⟨W, ⟨m0, w0⟩, turn⟩ := q D hDn
  -- the new list
  generalize hs3 : ({ s2 with heap := s2.heap.push { cls := .type "dict", data := .dict #[] } } : Shared) = s3
  have I3 : Inv X pins σ (upd H2 D (.dK [])) s3 := by
    rw [← hs3]
    refine I2.laid (t' := s2.toks) (fun b o e => Heap.get?_push_of_some _ e) (Nat.le_of_eq hD) ?_
    rw [← hD]
    exact dk_empty s2.heap I2.big
  have h3 : s3.heap = s2.heap.push { cls := .type "dict", data := .dict #[] } := by rw [← hs3]
  have sz : ∀ b ∈ fp, b < s2.heap.objs.size := fun b hb => by
    obtain ⟨o, e, _⟩ := T.obj _ _ st2 b hb
    exact Heap.lt_size e
  have f3 : ∀ b ∈ fp, FpOk X pins (upd H2 D (.dK [])) b ∧ b < s3.heap.objs.size := fun b hb => by
    have hlt := sz b hb
    refine ⟨⟨?_, (f2 b hb).2⟩, by rw [h3, Heap.size_push]; exact Nat.lt_succ_of_lt hlt⟩
    rw [upd_ne (by rw [← hD]; exact Nat.ne_of_lt hlt)]
    exact (f2 b hb).1
  have st3 : tn 0 s3.heap := T.keep _ _ _ st2 fun b _ o e => by rw [h3]; exact Heap.get?_push_of_some _ e
  have I4 := block_start I3 ok hN f3
  have pg := hg s3 (upd H2 D (.dK [])) s3.heap.objs.size (cellsFrom (s3.heap.objs.size + 1) scope.names (cloFrom X.env.cells scope.names [])) fp
  have pt := ht s3 (upd H2 D (.dK [])) s3.heap.objs.size (cellsFrom (s3.heap.objs.size + 1) scope.names (cloFrom X.env.cells scope.names [])) fp
  have pk := hk s3 (upd H2 D (.dK [])) s3.heap.objs.size (cellsFrom (s3.heap.objs.size + 1) scope.names (cloFrom X.env.cells scope.names [])) fp
  have pe := he s3 (upd H2 D (.dK [])) s3.heap.objs.size (cellsFrom (s3.heap.objs.size + 1) scope.names (cloFrom X.env.cells scope.names [])) fp
  show codeAny _ _ (.compStart (.DictComp kx vx [⟨tg, iter, ifs, 0⟩] scope pos) 0 (.ref it) (.ref D) (compEnvC scope (cellsFrom (s3.heap.objs.size + 1) scope.names (cloFrom X.env.cells scope.names [])) s3.heap.objs.size X.env)) (compPost (model X.prog X.w) X.A X.xe use Qf (.ref D) s3.heap.objs.size) { s3 with heap := pushCells (s3.heap.push { cls := .type "dict", data := .dict #[] }) scope.names }
  have nfp : ∀ b ∈ fp, (upd H2 D (.dK [])) b = none := fun b hb => (f3 b hb).1.1
  generalize hce : compEnvC scope (cellsFrom (s3.heap.objs.size + 1) scope.names (cloFrom X.env.cells scope.names [])) s3.heap.objs.size X.env = ce at I4 pg pt pk pe ⊢
  have cL : ce.locals = s3.heap.objs.size := by subst hce; rfl
  generalize hH3 : upd H2 D (.dK []) = H3 at I3 I4 pg pt pk pe w0 nfp f3
  generalize hs4 : ({ s3 with heap := pushCells (s3.heap.push { cls := .type "dict", data := .dict #[] }) scope.names } : Shared) = s4 at I4 ⊢
  have st4 : tn 0 s4.heap := T.keep _ _ _ st3 fun b _ o e => by rw [← hs4]; exact pushCells_keeps _ _ _ _ (Heap.get?_push_of_some _ e)
  have stat : ∀ {σ' : St} {H' : Hp} {s' : Shared}, Inv (X.blk s3 H3 scope ce fp) [] σ' H' s' → (∀ b ∈ fp, H' b = none) → ∀ b ∈ fp, FpOk (X.blk s3 H3 scope ce fp) [] H' b := fun {σ' H' s'} I' hn b hb =>
    ⟨hn b hb, (I'.ok.exf b hb).1, I'.ok.exfs b hb, .inl hb, fun x c e => (I'.ok.exf b hb).2 x c e, fun p hp => absurd (show p ∈ ([] : List (Addr × Obj)) ++ [] from hp) (by simp)⟩
  have loop : codeAny (model X.prog X.w) X.A (.compLoop (.DictComp kx vx [⟨tg, iter, ifs, 0⟩] scope pos) 0 (.ref it) (.ref D) ce) (compPost (model X.prog X.w) X.A X.xe use Qf (.ref D) s3.heap.objs.size) s4 := by
    refine compLoop_anyD (fun n s' => ∃ i H', Inv (X.blk s3 H3 scope ce fp) [] (wipe σ (own.map (·.2))) H' s' ∧ tn i s'.heap ∧ (∀ b ∈ fp, H' b = none) ∧ W i n H') ?_ m0 ⟨0, H3, I4, st4, nfp, w0⟩
    rintro n s5 ⟨i, H5, I5, st5, n5, w5⟩
    rcases turn i n H5 w5 with ⟨stop, qq⟩ | ⟨go, Nx, hNx, step⟩
    · have td := T.done (X.blk s3 H3 scope ce fp) rfl rfl rfl hc i [] s5 _ H5 (fun _ _ => False) I5 (stat I5 n5) st5 stop
      refine thnF td fun r s6 ⟨hr, I6⟩ => ?_
      subst hr
      -- back in the def's context
      have I7 : Inv X pins σ H5 s6 := I3.call' (ch := fp) I6.os I6.base I6.hok I6.bare fun b hb => ⟨(f3 b hb).1.2.2.2.1, (f3 b hb).1.2.1, (f3 b hb).1.2.2.2.2.1, (f3 b hb).1.2.2.2.2.2⟩
      have nC : H5 s3.heap.objs.size = none := by
        have z : H5 ce.locals = none := I6.free
        rw [cL] at z
        exact z
      obtain ⟨m, hn, _⟩ := I6.loc
      have hn : s6.heap.Ns ce.locals m := hn
      rw [cL] at hn
      exact hRR D s3.heap.objs.size s6 m H5 I7 qq hn (I3.fpOk (Nat.le_refl _) nC)
    · have ti := T.item (X.blk s3 H3 scope ce fp) rfl rfl rfl hc i [] s5 _ H5 (fun _ _ => False) I5 (stat I5 n5) st5 go
      refine thnF ti fun r s6 ⟨u, hr, h6⟩ => ?_
      subst hr
      refine thnF h6 fun _ s7 ⟨x, H7, I7, r7, y7, st7, n7⟩ => ?_
      have I7' := I7.pinned (stat I7 n7) (T.obj _ _ st7)
      refine thnF (pg.run _ s7 _ H7 x u _ I7' r7 (step x H7 y7)) fun _ s8 ⟨σ8, H8, I8, hw8, q8⟩ => ?_
      refine thnF (pt.run _ s8 σ8 H8 _ I8 q8) fun b s9 ⟨H9, I9, q9⟩ => ?_
      -- the turn's end
      have fin : ∀ {s' : Shared} {H' : Hp}, Inv (X.blk s3 H3 scope ce fp) ([] ++ pinsAt fp s7.heap) σ8 H' s' → Nx H' → ∃ m, m < n ∧ ∃ i H', Inv (X.blk s3 H3 scope ce fp) [] (wipe σ (own.map (·.2))) H' s' ∧ tn i s'.heap ∧ (∀ b ∈ fp, H' b = none) ∧ W i m H' := fun {s' H'} I' nx => by
        obtain ⟨m', hm, w'⟩ := hNx H' nx
        have pin' : ∀ b ∈ fp, ∀ o, s7.heap.get? b = some o → s'.heap.get? b = some o ∧ H' b = none := fun b hb o e =>
          let z := I'.pin (b, o) (List.mem_append_right _ (List.mem_append_right _ (mem_pinsAt hb e)))
          ⟨z.1, z.2.1⟩
        have hl : (wipe σ (own.map (·.2))).length = σ8.length := by rw [← hw8, wipe_length]
        refine ⟨m', hm, i + 1, H', (I'.unpinned (pins := [])).weak hl (fun j v e => ?_), T.keep _ _ _ st7 fun b hb o e => (pin' b hb o e).1, fun b hb => ?_, w'⟩
        · rw [← hw8] at e
          exact (wipe_some e).1
        · obtain ⟨o, e, _⟩ := T.obj _ _ st7 b hb
          exact (pin' b hb o e).2
      cases b with
      | false =>
        simp only [Bool.false_eq_true, if_false] at q9 ⊢
        exact fin I9 q9
      | true =>
        simp only [if_true] at q9 ⊢
        refine thnF (pk.run _ s9 σ8 H9 _ I9 q9) fun z s10 ⟨yk, H10, I10, r10, q10⟩ => ?_
        refine thnF (pe.run _ s10 σ8 H10 _ I10 q10) fun z2 s11 ⟨yv, H11, I11, r11, H12, dp, nx⟩ => ?_
        exact de_dictSet (X := X.blk s3 H3 scope ce fp) hu I11 dp r10 r11 fun s12 I12 => fin I12 nx
  exact codeAny_compStart_dict loop (T.self X.A 0 _ _ _ st4 loop)
/-- as a value -/
theorem pe_dcE {P : Program} {w : World} (hP : X.prog = P) (hW : X.w = w) (hu : X.A.units + 9 < cLine) {kx vx tg iter : Expr} {ifs : List Expr} {scope : Scope} {own : List (Str × Nat)} {pos : Pos} {wi : TI} {g : TG} {tt : TT} {tk tv : TE} (hc : X.calm = true) (hN : X.N.Nodup) (hi : PI X tg iter wi) (ok : BlkOk X.N X.env.scope scope own)
    (hg : ∀ (s : Shared) (H : Hp) (C : Addr) (cl : List (Str × Addr)) (fp : List Addr), PG (X.blk s H scope (compEnvC scope cl C X.env) fp) tg g) (ht : ∀ (s : Shared) (H : Hp) (C : Addr) (cl : List (Str × Addr)) (fp : List Addr), PTs (X.blk s H scope (compEnvC scope cl C X.env) fp) ifs tt)
    (hk : ∀ (s : Shared) (H : Hp) (C : Addr) (cl : List (Str × Addr)) (fp : List Addr), PE (X.blk s H scope (compEnvC scope cl C X.env) fp) kx tk)
    (he : ∀ (s : Shared) (H : Hp) (C : Addr) (cl : List (Str × Addr)) (fp : List Addr), PE (X.blk s H scope (compEnvC scope cl C X.env) fp) vx tv) (hs : ∀ x, foldedSetIterable iter X.env x = pure x := by intro _; rfl) :
    PE X (.DictComp kx vx [⟨tg, iter, ifs, 0⟩] scope pos) (tDcE P w wi g tt tk tv (own.map (·.2))) := by
  refine ⟨fun pins s σ H Q I h => ?_⟩
  rw [arm_eval_DictComp]
  refine dc_coreE hP hW hu hc hN I hi ok hg ht hk he hs h fun D C s' m H' I' q hn f => ⟨m, hn, fun h'' sb => ?_⟩
  obtain ⟨f0, f1, f2, f3, f4, f5⟩ := f
  exact ⟨.ref D, H', I'.turned (t' := s'.toks) (fun b o hb e => (sb.2 b hb).trans e) f0 f1 f3 f4 f5, rfl, q⟩
end
end L2
/-! DPrim4: count; sorted(set(t)). -/
namespace L2
open PySem PySem.Spec PyProof.Rows
section
variable {X : Cx}
/-- s.count(y), s a list or a tuple of data -/
def rCntD (K : PySem.W.Frag) : V → List V → Hp → VK → Prop := fun x xs H Q => ∃ (a : Addr) (y : V) (d : PyData) (ds : List PyData), x = V.ref a ∧ xs = [y] ∧ (Dp K H (V.ref a) (.list ds) ∨ Dp K H (V.ref a) (.tuple ds)) ∧ Dp K H y d ∧
  PyData.canLayAll0 ds = true ∧ PyData.canLay0 d = true ∧ PyData.depth d ≤ 64 ∧ Q (.int ((ds.countP fun z => PyData.eqv z d : Nat) : Int)) H
def rCntL (K : PySem.W.Frag) : V → List V → Hp → VK → Prop := fun x xs H Q => ∃ (a : Addr) (y : V) (d : PyData) (ds : List PyData), x = V.ref a ∧ xs = [y] ∧ Dp K H (V.ref a) (.list ds) ∧ Dp K H y d ∧
  PyData.canLayAll0 ds = true ∧ PyData.canLay0 d = true ∧ PyData.depth d ≤ 64 ∧ Q (.int ((ds.countP fun z => PyData.eqv z d : Nat) : Int)) H
def rCntT (K : PySem.W.Frag) : V → List V → Hp → VK → Prop := fun x xs H Q => ∃ (a : Addr) (y : V) (d : PyData) (ds : List PyData), x = V.ref a ∧ xs = [y] ∧ Dp K H (V.ref a) (.tuple ds) ∧ Dp K H y d ∧
  PyData.canLayAll0 ds = true ∧ PyData.canLay0 d = true ∧ PyData.depth d ≤ 64 ∧ Q (.int ((ds.countP fun z => PyData.eqv z d : Nat) : Int)) H
theorem count_map {h : Heap} {ds : List PyData} {its : List Value} (hm : its.map (SeqAt.readOf h) = ds) (d : PyData) : its.countP (fun u => PyData.eqv (SeqAt.readOf h u) d) = ds.countP fun z => PyData.eqv z d := by
  rw [← hm, List.countP_map]
  rfl
theorem mt_cntL (hu : X.A.units + 200 < cLine) : MtR X "list.count" (rCntL X.K) := by
  intro pins s σ H x xs v us Q I rx rxs h
  obtain ⟨a, y, d, ds, rfl, rfl, hl, hy, lx, ld, dep, q⟩ := h
  cases rx
  cases rxs with
  | cons ry rt =>
    rename_i uy ut
    cases rt
    obtain ⟨bs, r1⟩ := Dp.reads I d y uy hy ry
    have room : X.A.units + 1 + min (PyData.depthAll ds) d.depth < cLine := by omega
    cases hl with
    | lst hs ha =>
      obtain ⟨its, rv, ⟨⟨cls, dd, data, sls⟩, n, ho, hc, hdn, hdt⟩, hlen⟩ := I.list hs
      simp only at hc hdt
      subst hc hdt
      obtain ⟨as, h4⟩ := Dp.readsAll I ds _ its ha rv
      rw [← count_map (SeqAt.readsAll_map ds its as lx h4) d] at q
      exact call_meets PySem.F.slot_list_count ⟨_, ho, rfl⟩ PySem.F.entry_list_count (PySem.F.args_list_count_2 _ _) (SeqAt.list_countAt a its.toArray n dd sls uy (fun u => PyData.eqv (SeqAt.readOf s.heap u) d))
        ⟨ho, SeqAt.items_eqAt (vs := its.toArray) (show ReadsAll s.heap its.toArray.toList ds as from h4) r1 lx ld room, ⟨.int _, H, I.tok _, ⟨_, rfl⟩, q⟩⟩
theorem mt_cntT (hu : X.A.units + 200 < cLine) : MtR X "tuple.count" (rCntT X.K) := by
  intro pins s σ H x xs v us Q I rx rxs h
  obtain ⟨a, y, d, ds, rfl, rfl, hl, hy, lx, ld, dep, q⟩ := h
  cases rx
  cases rxs with
  | cons ry rt =>
    rename_i uy ut
    cases rt
    obtain ⟨bs, r1⟩ := Dp.reads I d y uy hy ry
    have room : X.A.units + 1 + min (PyData.depthAll ds) d.depth < cLine := by omega
    cases hl with
    | tup hs ha =>
      obtain ⟨its, rv, ⟨⟨cls, dd, data, sls⟩, ho, hc, n, hdt⟩, hlen⟩ := I.tuple hs
      simp only at hc hdt
      subst hc hdt
      obtain ⟨as, h4⟩ := Dp.readsAll I ds _ its ha rv
      rw [← count_map (SeqAt.readsAll_map ds its as lx h4) d] at q
      exact call_meets PySem.F.slot_tuple_count ⟨_, ho, rfl⟩ PySem.F.entry_tuple_count (PySem.F.args_tuple_count_2 _ _) (SeqAt.tuple_countAt a its.toArray n dd sls uy (fun u => PyData.eqv (SeqAt.readOf s.heap u) d))
        ⟨ho, SeqAt.items_eqAt (vs := its.toArray) (show ReadsAll s.heap its.toArray.toList ds as from h4) r1 lx ld room, ⟨.int _, H, I.tok _, ⟨_, rfl⟩, q⟩⟩
/-- o.count(e): o a list or a tuple that is laid with its object -/
def tCntM (K : PySem.W.Frag) (to : TE) (t : TA) : TE := fun σ H Q => to σ H fun x H1 => ∃ (a : Addr) (zs : List V), x = .ref a ∧ ((SqL K H1 a zs ∧ t σ H1 fun xs H2 => rCntL K x xs H2 Q) ∨ ((∃ od : Obj, H1 a = some (.frz od (.tup zs)) ∧ od.dict = none) ∧ t σ H1 fun xs H2 => rCntT K x xs H2 Q))
theorem pe_cntM {o e : Expr} {to : TE} {t : TA} {apos cpos : Pos} (hu : X.A.units + 200 < cLine) (ho : PE X o to) (ha : PA X [e] t) (hbase : attributeBase o "count" X.env (eval o X.env) = eval o X.env)
    (hline : (apos.endLine == cpos.line) = true) (hs : starEach [e] X.env = [(false, eval e X.env)]) : PE X (.Call (.Attribute o "count" apos) [e] [] cpos) (tCntM X.K to t) := by
  refine ⟨fun pins s σ H Q I h => ?_⟩
  refine wpAny_Call_method_late hbase (by rw [hs]; rfl) hline rfl (thn (ho.run pins s σ H _ I h) fun v s1 ⟨x, H1, I1, r1, a, zs, ex, q1⟩ => ?_)
  subst ex
  obtain rfl : v = Value.ref a := r1
  rcases q1 with ⟨hq, q1⟩ | ⟨⟨od, hq, hdn⟩, q1⟩
  · obtain ⟨its, rv, pl, hz⟩ := I1.list hq
    obtain ⟨ob, n, hob, hcl, hdn, _⟩ := id pl
    refine ⟨"list", "list.count", F.plainAttrs_list, F.slot_list_count, F.type_list_count, ⟨ob, hob, hcl⟩, fun b e => by cases e; exact ⟨ob, hob, hdn⟩, ?_⟩
    have hA := ha.run cpos pins s1 σ H1 _ I1 q1
    rw [hs] at hA ⊢
    refine Calls.callWith_builtin rfl (Calls.evalArgs_plain ?_)
    exact thn hA fun us s2 ⟨vs, H2, I2, r2, q2⟩ => mt_cntL hu pins s2 σ H2 (.ref a) vs _ us Q I2 rfl r2 q2
  · obtain ⟨hob, hz, its, rv, ⟨o', ho', hcl, _⟩⟩ := (show ObjOk X.prog X.w H1 s1.heap a (.frz od (.tup zs)) from I1.hok a _ hq)
    have e0 : o' = od := Option.some.inj (ho'.symm.trans hob)
    subst e0
    refine ⟨"tuple", "tuple.count", F.plainAttrs_tuple, F.slot_tuple_count, F.type_tuple_count, ⟨o', hob, hcl⟩, fun b e => by cases e; exact ⟨o', hob, hdn⟩, ?_⟩
    have hA := ha.run cpos pins s1 σ H1 _ I1 q1
    rw [hs] at hA ⊢
    refine Calls.callWith_builtin rfl (Calls.evalArgs_plain ?_)
    exact thn hA fun us s2 ⟨vs, H2, I2, r2, q2⟩ => mt_cntT hu pins s2 σ H2 (.ref a) vs _ us Q I2 rfl r2 q2
/-- sorted(set(t)), t a tuple of ints -/
def tSortSet (K : PySem.W.Frag) (ta : TE) : TE := fun σ H Q => ta σ H fun x H1 => ∃ (p : Addr) (ns : List Int), x = .ref p ∧ SqT K H1 p (ns.map V.int) ∧ ns.length < 63 ∧ ∀ (out : List Int) (q : Addr), out.Pairwise (· < ·) → (∀ k, k ∈ out ↔ k ∈ ns) → H1 q = none → Q (.ref q) (upd H1 q (.lst (out.map V.int)))
theorem pe_sortSet {a : Expr} {ta : TE} {p p2 q pos : Pos} (hc : X.calm = true) (hg : Gl X "sorted") (hm : X.mg "sorted" = none) (hg2 : Gl X "set") (hm2 : X.mg "set" = none) (ha : PE X a ta)
    (na : starEach [a] X.env = (false, eval a X.env) :: starEach [] X.env) : PE X (.Call (.Name "sorted" p) [.Call (.Name "set" p2) [a] [] q] [] pos) (tSortSet X.K ta) := by
  refine ⟨fun pins s σ H Q I h => ?_⟩
  refine Call_ (ld_blt I hg hm boot_sorted ?_)
  refine PyProof.Rows.callWith_builtin1 (PyProof.Rows.args_cons ?_ rfl) rfl rfl
  refine Call_ (ld_blt I hg2 hm2 boot_set ?_)
  refine PyProof.Rows.callWith_type1 (PyProof.Rows.args_cons (thn (ha.run pins s σ H _ I h) fun v s1 ⟨x, H1, I1, r1, q1⟩ => PyProof.Rows.args_nil ?_) na) na rfl
  obtain ⟨l, ns, rfl, hq, hl, q1⟩ := q1
  cases r1
  obtain ⟨its, r, pl, hz⟩ := I1.tuple hq
  refine call_set_tupI ns (I1.ok.hd hc) (show s1.heap.IsTuple l its.toArray from pl) (by simpa using ints_of_vals r) (by unfold scanBound; omega) fun h' tk n R1 hn k1 => ?_
  refine PyProof.Rows.args_nil ?_
  have I2 : Inv X pins σ H1 { s1 with heap := h', toks := tk } := I1.kept k1
  refine sorted_set (s := { s1 with heap := h', toks := tk }) R1 (I1.ok.hd hc) (by omega) fun s' p' out c' ms k g o hp hg' hi hs hm' hl' => ?_
  have hlen : (ms.map V.int).length ≤ sizeLine := by rw [List.length_map, hl', sizeLine_eq]; omega
  have hno : H1 p' = none := I2.hok.fresh hp
  have J : Inv X pins σ (upd H1 p' (.lst (ms.map V.int))) s' :=
    I2.call' (ch := []) o (Un.laid k hp hno) (I2.hok.laid k hp ⟨hlen, out.toList, c', vals_of_ints hi, hg'⟩) (by rw [g]; exact I2.bare) (fun _ z => nomatch z)
  exact ⟨.ref p', _, J, rfl, q1 ms p' hs (fun j => by rw [hm' j, decide_eq_true_eq]) hno⟩
end
end L2
namespace DD
variable [Mode]
open PySem L2
theorem insU_mem {x k : Int} : ∀ {ys : List Int}, k ∈ insU x ys ↔ k = x ∨ k ∈ ys
  | [] => by simp [insU]
  | y :: ys => by
    rw [insU]
    split
    · simp
    · split
      · rename_i h; subst h; simp
      · rw [List.mem_cons, insU_mem, List.mem_cons]
        exact ⟨fun h => h.elim (fun e => .inr (.inl e)) (fun h => h.elim .inl fun h => .inr (.inr h)), fun h => h.elim (fun e => .inr (.inl e)) fun h => h.elim .inl fun h => .inr (.inr h)⟩
theorem insU_sorted {x : Int} : ∀ {ys : List Int}, ys.Pairwise (· < ·) → (insU x ys).Pairwise (· < ·)
  | [], _ => by simp [insU]
  | y :: ys, h => by
    rw [List.pairwise_cons] at h
    rw [insU]
    split
    · rename_i hx
      refine List.pairwise_cons.mpr ⟨fun z hz => ?_, List.pairwise_cons.mpr h⟩
      rcases List.mem_cons.mp hz with e | e
      · rw [e]; exact hx
      · have := h.1 z e; omega
    · split
      · exact List.pairwise_cons.mpr h
      · refine List.pairwise_cons.mpr ⟨fun z hz => ?_, insU_sorted h.2⟩
        rcases insU_mem.mp hz with e | e
        · omega
        · exact h.1 z e
theorem sortU_mem {k : Int} : ∀ {xs : List Int}, k ∈ sortU xs ↔ k ∈ xs
  | [] => by simp [sortU]
  | x :: xs => by rw [sortU, insU_mem, sortU_mem, List.mem_cons]
theorem sortU_sorted : ∀ xs : List Int, (sortU xs).Pairwise (· < ·)
  | [] => by simp [sortU]
  | x :: xs => insU_sorted (sortU_sorted xs)
theorem sorted_unique : ∀ {a b : List Int}, a.Pairwise (· < ·) → b.Pairwise (· < ·) → (∀ k, k ∈ a ↔ k ∈ b) → a = b
  | [], [], _, _, _ => rfl
  | [], y :: b, _, _, h => by have := (h y).mpr List.mem_cons_self; cases this
  | x :: a, [], _, _, h => by have := (h x).mp List.mem_cons_self; cases this
  | x :: a, y :: b, ha, hb, h => by
    rw [List.pairwise_cons] at ha hb
    have e : x = y := by
      rcases List.mem_cons.mp ((h x).mp List.mem_cons_self) with e | e
      · exact e
      · rcases List.mem_cons.mp ((h y).mpr List.mem_cons_self) with e' | e'
        · exact e'.symm
        · have := hb.1 x e; have := ha.1 y e'; omega
    subst e
    congr 1
    refine sorted_unique ha.2 hb.2 fun k => ⟨fun hk => ?_, fun hk => ?_⟩
    · rcases List.mem_cons.mp ((h k).mp (List.mem_cons_of_mem _ hk)) with e | e
      · have := ha.1 k hk; omega
      · exact e
    · rcases List.mem_cons.mp ((h k).mpr (List.mem_cons_of_mem _ hk)) with e | e
      · have := hb.1 k hk; omega
      · exact e
theorem intsOf_map : ∀ {xs : List T} {ns : List Int}, intsOf xs = some ns → xs = ns.map .int
  | [], ns, h => by cases h; rfl
  | t :: xs, ns, h => by
    cases t <;> simp only [intsOf, reduceCtorEq, Option.map_eq_some_iff] at h
    obtain ⟨ms, h1, rfl⟩ := h
    rw [intsOf_map h1]
    rfl
section
variable {c : Cn} {Φ Ψ : Nat → Fn}
theorem RepL.intsOf' {H : Hp} {Av : Addr → Prop} : ∀ {ns : List Int} {vs : List V}, RepL c H Av (ns.map T.int) vs → vs = ns.map V.int
  | [], vs, h => h.inv_nil
  | n :: ns, vs, h => by
    obtain ⟨v, r, rfl, p, q⟩ := RepL.inv (t := .int n) (ts := ns.map T.int) h
    rw [Rep] at p
    rw [p, RepL.intsOf' q]
    rfl
theorem p1_sortSet : P1 c .sortedSet (fun x H Q => ∃ (p : Addr) (ns : List Int), x = .ref p ∧ SqT c.K H p (ns.map V.int) ∧ ns.length < 63 ∧ ∀ (out : List Int) (q : Addr), out.Pairwise (· < ·) → (∀ k, k ∈ out ↔ k ∈ ns) → H q = none → Q (.ref q) (upd H q (.lst (out.map V.int)))) := by
  intro Av H tx x t Q hx h k
  replace h : sSortedSet tx = some t := h
  cases tx <;> simp only [sSortedSet, reduceCtorEq, Option.bind_eq_some_iff] at h
  obtain ⟨ns, h1, h2⟩ := h
  split at h2 <;> cases h2
  rename_i hz
  have e := intsOf_map h1
  subst e
  obtain ⟨a, vs, rfl, q1, q2⟩ := hx.tup
  have q3 := q2.intsOf'
  subst q3
  refine ⟨a, ns, rfl, q1.sq, hz, fun out q ho hm hq => ?_⟩
  have e := sorted_unique ho (sortU_sorted ns) fun j => (hm j).trans sortU_mem.symm
  subst e
  exact k _ _ (Out.lst (p := .sortedSet) rfl hq (RepL.of_ints _))
theorem countP_toD (x : T) : ∀ ts : List T, ((T.toDs ts).countP fun z => PyData.eqv z x.toD) = ts.countP fun y => T.eqv y x
  | [] => rfl
  | t :: ts => by rw [T.toDs, List.countP_cons, List.countP_cons, countP_toD x ts]; rfl
theorem sCount_ok {t k r : T} {xs : List T} (hs : lstOf t = some xs) (h : sCount t k = some r) : T.dats 40 xs = true ∧ T.dat 40 k = true ∧ r = .int ((xs.countP fun y => T.eqv y k : Nat) : Int) := by
  unfold sCount at h
  rw [hs] at h
  dsimp only at h
  split at h
  · rename_i hd
    rw [Bool.and_eq_true] at hd
    cases h
    exact ⟨hd.1, hd.2, rfl⟩
  · cases h
theorem rd_cnt (hst : c.st = true) {o a : E} : ∀ σ H Q, rdE c Φ Ψ (.cnt o a) σ H Q → tCntM c.K (rdE c Φ Ψ o) (tCons (rdE c Φ Ψ a) tNil) σ H Q := by
  intro σ H Q ⟨F, env, stk, ws, A, ov, env', h, k⟩
  rw [ev] at h
  obtain ⟨⟨x, e1⟩, h1, h⟩ := R.bind_ok h
  dsimp only at h
  cases x with
  | s i => cases h
  | v t fr =>
    dsimp only at h
    split at h
    · rename_i hs0
      obtain ⟨⟨y, e2⟩, h2, h⟩ := R.bind_ok h
      obtain ⟨kt, h4, h⟩ := R.bind_ok h
      obtain ⟨r, h5, h⟩ := R.bind_ok h
      cases h
      replace h4 := R.opt_ok h4
      replace h5 := R.opt_ok h5
      obtain ⟨xs, hs⟩ := Option.isSome_iff_exists.mp hs0
      obtain ⟨d1, d2, rfl⟩ := sCount_ok hs h5
      have l1 := dat_lay 40 kt d2
      have l2 := dats_lay 40 xs d1
      refine ⟨F, env, stk, ws, A, _, e1, h1, fun v H1 A1 ok1 => ?_⟩
      have fin : ∀ (w : V) (H2 : Hp), At c F e2 (stk ++ [(OV.v t fr).sl] ++ [y.sl]) σ (ws ++ [some v] ++ [some w]) H2 → OVok σ y w → (∃ Av, RepT c H2 Av t v) ∧ Dp c.K H2 w kt.toD ∧ Q (.int ((T.toDs xs).countP fun z => PyData.eqv z kt.toD : Nat)) H2 := by
        intro w H2 A2 ok2
        have A3 : At c F e2 (stk ++ [OV.v t fr, y].map OV.sl) σ (ws ++ [v, w].map some) H2 := by
          rw [List.append_assoc, List.append_assoc] at A2
          exact A2
        obtain ⟨O3, S3, rt3⟩ := A3.ops (ts := [t, kt]) A.hw (.cons trivial (.cons ok2 .nil)) (by rw [vals, vals, vals, h4]; rfl)
        cases rt3 with
        | cons p1 rt3 =>
          cases rt3 with
          | cons p2 _ =>
            refine ⟨⟨_, p1⟩, p2.dp 40 d2, ?_⟩
            rw [countP_toD]
            exact k _ _ (At.out (fr := false) S3 A3.hl A.hw ⟨Gr.refl, by rw [if_neg Bool.false_ne_true]; rw [Rep]⟩) trivial
      obtain ⟨O1, S1, rt1⟩ := At.ops (os := [.v t fr]) (vs := [v]) (ts := [t]) A1 A.hw (.cons trivial .nil) rfl
      cases rt1 with
      | cons p _ =>
        cases t <;> simp only [lstOf, reduceCtorEq, Option.some.injEq] at hs
        · subst hs
          obtain ⟨b, zs, rfl, ⟨u, z1, hu⟩, z2⟩ := p.tup
          rw [hst] at hu
          obtain ⟨od, rfl, hod⟩ := hu
          refine ⟨b, zs, rfl, .inr ⟨⟨od, z1, hod⟩, F, e1, _, _, A1, y, e2, h2, fun w H2 A2 ok2 => ?_⟩⟩
          obtain ⟨⟨Av, p1⟩, q1, q2⟩ := fin w H2 A2 ok2
          obtain ⟨b', zs', e, z3, z4⟩ := p1.tup
          cases e
          exact ⟨b, w, _, _, rfl, rfl, .tup z3.sq (z4.dpl d1), q1, l2.1, l1.1, by omega, q2⟩
        · subst hs
          obtain ⟨b, zs, rfl, z1, z2⟩ := p.lst
          refine ⟨b, zs, rfl, .inl ⟨SqL.of z1, F, e1, _, _, A1, y, e2, h2, fun w H2 A2 ok2 => ?_⟩⟩
          obtain ⟨⟨Av, p1⟩, q1, q2⟩ := fin w H2 A2 ok2
          obtain ⟨b', zs', e, z3, z4⟩ := p1.lst
          cases e
          exact ⟨b, w, _, _, rfl, rfl, .lst (SqL.of z3) (z4.dpl d1), q1, l2.1, l1.1, by omega, q2⟩
    · cases h
end
end DD
/-! DChk: does a piece of the language say what a piece of the text says? -/
namespace DD
variable [Mode]
open PySem L2

inductive GE where
  | fn (i : Nat) (np : Nat) (io : Option Nat)
  | cst (t : T)
  | free
structure Gm where
  N : List Str
  names : List (Str × NameKind)
  own : Option (List Str)
  G : List (Str × GE)
  stg : Bool

def Gm.vis (Γ : Gm) (x : Str) : Bool := match Γ.names.lookup x with
  | some .local => true
  | some .cell => true
  | some .free => true
  | _ => false
def Gm.lcl (Γ : Gm) (x : Str) : Bool := match Γ.names.lookup x with
  | some .local => true
  | _ => false
def Gm.cel (Γ : Gm) (x : Str) : Bool := match Γ.names.lookup x with
  | some .cell => true
  | _ => false
/-- a name that may be stored to -/
def Gm.st (Γ : Gm) (x : Str) : Bool := Γ.lcl x || (Γ.cel x && match Γ.own with
  | none => true
  | some l => l.contains x)
def Gm.gl (Γ : Gm) (x : Str) : Bool := match Γ.names.lookup x with
  | some .globalImplicit => true
  | _ => false
def Gm.at_ (Γ : Gm) (i : Nat) (x : Str) : Bool := decide (Γ.N[i]? = some x)
def plainName (x : Str) : Bool := !(x == ("__debug__" : Str)) && !(x == ("__classdict__" : Str)) && !(x == ("__name__" : Str))
/-- a name that is read -/
def Gm.rd (Γ : Gm) (i : Nat) (x : Str) : Bool := Γ.at_ i x && Γ.vis x && plainName x
/-- a built-in name -/
def Gm.free (Γ : Gm) (x : Str) : Bool := Γ.gl x && plainName x && (match Γ.G.lookup x with
  | some .free => true
  | _ => false)

def noStar : Expr → Bool
  | .Starred _ _ => false
  | _ => true
def binO : Prim → Option Operator
  | .add => some .Add | .sub => some .Sub | .mul => some .Mult | .fdiv => some .FloorDiv | .mod => some .Mod | .pow => some .Pow
  | _ => none
def cmpO : Prim → Option CmpOp
  | .eq => some .Eq | .ne => some .NotEq | .lt => some .Lt | .le => some .LtE | .gt => some .Gt | .ge => some .GtE
  | .isN => some .Is | .notN => some .IsNot | .inn => some .In | .notin => some .NotIn
  | _ => none
/-- what is behind in or not in, what is walked: no display of a set -/
def noSet : Expr → Bool
  | .Set _ _ _ => false
  | _ => true
def ordO : Prim → Option CmpOp
  | .eq => some .Eq | .lt => some .Lt | .le => some .LtE | .gt => some .Gt | .ge => some .GtE
  | _ => none
/-- built-in functions and types that are called -/
def callee : Prim → Option (Str × Value)
  | .len => some ("len", .builtin "len") | .sum => some ("sum", .builtin "sum") | .abs => some ("abs", .builtin "abs")
  | .int => some ("int", .type "int") | .tuple => some ("tuple", .type "tuple") | .list => some ("list", .type "list")
  | .sorted => some ("sorted", .builtin "sorted")
  | .min2 => some ("min", .builtin "min") | .max2 => some ("max", .builtin "max") | .all => some ("all", .builtin "all") | .any => some ("any", .builtin "any")
  | _ => none
/-- list(range(..)), tuple(range(..)) -/
def rngOf : Prim → Option (Str × Nat)
  | .lrng1 => some ("list", 1) | .lrng2 => some ("list", 2) | .trng1 => some ("tuple", 1) | .trng2 => some ("tuple", 2)
  | _ => none
/-- an index that is no slice -/
def plainIxE : Expr → Bool
  | .Slice _ _ _ _ => false
  | _ => true
/-- an expression whose value is never read in place -/
def notPeek : E → Bool
  | .var _ => true
  | .cst _ => true
  | .mv _ => true
  | .prim _ _ => true
  | .call _ _ => true
  | _ => false
def cstOk : T → Const → Bool
  | .non, .none => true
  | .bl a, .bool b => a == b
  | .int i, .int j => i == j
  | .str x, .str y => x == y
  | _, _ => false
def isIo : E → Bool
  | .io _ => true
  | _ => false
/-- the one argument that may be changed stands where it must, no other is read in place -/
def chkArgs (io : Option Nat) (es : List E) : Bool := (match io with
  | none => es.all fun e => !isIo e
  | some p => (match es[p]? with
    | some e => isIo e
    | none => false) && ((es.take p).all fun e => !isIo e) && (es.drop (p + 1)).all fun e => !isIo e)
/-- a receiver that is no call without arguments -/
def noBare : Expr → Bool
  | .Call _ [] _ _ => false
  | _ => true
def isTupE : Expr → Bool
  | .Tuple _ _ _ => true
  | _ => false
/-- what is walked: the expressions that are run first -/
def iterArgs (Γ : Gm) (k : ItK) (tg it : Expr) : Option (List Expr) := match k with
  | .val => some [it]
  | .range1 => match it with
    | .Call (.Name f _) [a] [] _ => if f == ("range" : Str) && Γ.free f then some [a] else none
    | _ => none
  | .range2 => match it with
    | .Call (.Name f _) [a, b] [] _ => if f == ("range" : Str) && Γ.free f then some [a, b] else none
    | _ => none
  | .enum => match it with
    | .Call (.Name f _) [a] [] _ => if f == ("enumerate" : Str) && Γ.free f && isTupE tg then some [a] else none
    | _ => none
  | .zip => match it with
    | .Call (.Name f _) [a, b] [] _ => if f == ("zip" : Str) && Γ.free f && isTupE tg then some [a, b] else none
    | _ => none
  | .keys => some [it]
  | .items => match it with
    | .Call (.Attribute (.Name f p) m ap) [] [] cp => if m == ("items" : Str) && (ap.endLine == cp.line) && isTupE tg then some [.Name f p] else none
    | _ => none
  | _ => none
mutual
def chkP (Γ : Gm) : P → Expr → Bool
  | .s i, x => match x with
    | .Name f _ => Γ.at_ i f && Γ.st f
    | _ => false
  | .t ps, x => match x with
    | .Tuple xs _ _ => chkPs Γ ps xs
    | _ => false
def chkPs (Γ : Gm) : List P → List Expr → Bool
  | [], xs => xs.isEmpty
  | p :: ps, xs => match xs with
    | x :: xs => noStar x && chkP Γ p x && chkPs Γ ps xs
    | [] => false
end
mutual
def slotsP : P → List Nat
  | .s i => [i]
  | .t ps => slotsPs ps
def slotsPs : List P → List Nat
  | [] => []
  | p :: ps => slotsP p ++ slotsPs ps
end
/-- the names of a block -/
def relN (outer names : List (Str × NameKind)) : List (Str × NameKind) := names.map fun (n, k) => if (k == .free && outer.lookup n == some .cell) then (n, .cell) else (n, k)
def ownOf (Γ : Gm) (own : List Nat) : List (Str × Nat) := own.map fun i => (Γ.N.getD i default, i)
def dumScope (names : List (Str × NameKind)) (scope : Scope) : Scope := { scope with names := names }
def Gm.blk (Γ : Gm) (scope : Scope) : Gm := { N := Γ.N, names := relN Γ.names scope.names, own := some ((scope.names.filter fun p => match p.2 with | .cell => true | _ => false).map (·.1)), G := Γ.G, stg := Γ.stg }
def celOk (scope : Scope) : Bool := (scope.names.filter fun p => match p.2 with | .cell => true | _ => false).all fun p => scope.names.lookup p.1 == some .cell
def Gm.blkOk (Γ : Gm) (scope : Scope) (own : List Nat) : Bool := blkC Γ.N (dumScope Γ.names scope) scope (ownOf Γ own) && decide own.Nodup && own.all (fun i => decide (i < Γ.N.length)) && celOk scope
mutual
def chkE (Γ : Gm) : E → Expr → Bool
  | .cst t, x => match x with
    | .Constant k _ _ => cstOk t k
    | .Name f _ => Γ.gl f && plainName f && (match Γ.G.lookup f with
      | some (.cst t') => T.beq t t'
      | _ => false)
    | _ => false
  | .var i, x => match x with
    | .Name f _ => Γ.rd i f
    | _ => false
  | .mv i, x => match x with
    | .Name f _ => Γ.rd i f
    | _ => false
  | .peek i, x => match x with
    | .Name f _ => Γ.rd i f
    | _ => false
  | .io i, x => match x with
    | .Name f _ => Γ.rd i f
    | _ => false
  | .tup es, x => match x with
    | .Tuple xs _ _ => chkEs Γ es xs
    | _ => false
  | .lst es, x => match x with
    | .List xs _ => chkEs Γ es xs
    | _ => false
  | .prim p es, x => match x with
    | .BinOp l o r _ => decide (binO p = some o) && chkEs Γ es [l, r]
    | .Compare l [o] [r] _ => decide (cmpO p = some o) && noSet r && chkEs Γ es [l, r]
    | .UnaryOp .USub y _ => decide (p = .neg) && chkEs Γ es [y]
    | .Subscript l r _ => (match r with
      | .Slice none (some u) none _ => decide (p = .slU) && chkEs Γ es [l, u]
      | .Slice (some u) none none _ => decide (p = .slL) && chkEs Γ es [l, u]
      | .Slice (some u) (some w) none _ => decide (p = .slLU) && (match es with
        | [_, b, _] => notPeek b
        | _ => false) && chkEs Γ es [l, u, w]
      | .Slice none none (some (.UnaryOp .USub (.Constant (.int 1) _ _) _)) _ => decide (p = .slRev) && chkEs Γ es [l]
      | r => decide (p = .ix) && plainIxE r && chkEs Γ es [l, r])
    | .Call (.Name f _) xs [] _ => (match callee p with
      | some (nm, _) => f == nm && Γ.free f && !xs.isEmpty && chkEs Γ es xs
      | none => match tyNm p, xs with
        | some (nm, _), [y, .Name z _] => f == ("isinstance" : Str) && Γ.free f && z == nm && Γ.free z && chkEs Γ es [y]
        | none, [y, .Tuple [.Name z1 _, .Name z2 _] _ _] => decide (p = .isSeq) && f == ("isinstance" : Str) && Γ.free f && z1 == ("tuple" : Str) && Γ.free z1 && z2 == ("list" : Str) && Γ.free z2 && chkEs Γ es [y]
        | none, [.Call (.Name g _) ys [] _] => (match rngOf p with
          | some (nm, k) => f == nm && Γ.free f && g == ("range" : Str) && Γ.free g && decide (ys.length = k) && chkEs Γ es ys && (!Γ.stg || nm == ("list" : Str))
          | none => decide (p = .sortedSet) && f == ("sorted" : Str) && Γ.free f && g == ("set" : Str) && Γ.free g && chkEs Γ es ys && decide (ys.length = 1))
        | _, _ => false)
    | .Call (.Name f _) [y] [⟨some kw, .Constant (.bool true) _ _, _⟩] _ => decide (p = .sortedRev) && f == ("sorted" : Str) && Γ.free f && kw == ("reverse" : Str) && chkEs Γ es [y]
    | _ => false
  | .and a b, x => match x with
    | .BoolOp .And (y :: z :: rest) pos => chkE Γ a y && (match rest with
      | [] => chkE Γ b z
      | _ :: _ => chkE Γ b (.BoolOp .And (z :: rest) pos))
    | _ => false
  | .or a b, x => match x with
    | .BoolOp .Or (y :: z :: rest) pos => chkE Γ a y && (match rest with
      | [] => chkE Γ b z
      | _ :: _ => chkE Γ b (.BoolOp .Or (z :: rest) pos))
    | _ => false
  | .not a, x => match x with
    | .UnaryOp .Not y _ => chkE Γ a y
    | _ => false
  | .ite c a b, x => match x with
    | .IfExp t y z _ => chkE Γ c t && chkE Γ a y && chkE Γ b z
    | _ => false
  | .chain o1 o2 a b c, x => match x with
    | .Compare l [p1, p2] [m, r] _ => decide (ordO o1 = some p1) && decide (ordO o2 = some p2) && noSet m && noSet r && chkE Γ a l && chkE Γ b m && chkE Γ c r
    | _ => false
  | .call f es, x => match x with
    | .Call (.Name g _) xs [] _ => Γ.gl g && plainName g && !xs.isEmpty && (match Γ.G.lookup g with
      | some (.fn i np io) => i == f && decide (es.length = np) && chkArgs io es && chkEs Γ es xs
      | _ => false)
    | _ => false
  | .comp own g k es cond elt, x => match x with
    | .ListComp elt' [⟨tg, it, ifs, 0⟩] scope _ => noSet it && (slotsP g).all (fun i => own.contains i) && Γ.blkOk scope own && (match iterArgs Γ k tg it with
      | some xs => chkEs Γ es xs
      | none => false) && chkP (Γ.blk scope) g tg && (match ifs with
      | [] => chkO (Γ.blk scope) cond none
      | [y] => chkO (Γ.blk scope) cond (some y)
      | _ => false) && chkE (Γ.blk scope) elt elt'
    | _ => false
  | .comp2 own g k es g2 k2 es2 own2 cond elt, x => match x with
    | .ListComp elt' [⟨tg, it, [], 0⟩, ⟨tg1, it1, ifs, 0⟩] scope _ => noSet it && noSet it1 && (slotsP g).all (fun i => own.contains i) && (slotsP g2).all (fun i => own2.contains i) && Γ.blkOk scope own && own2.all (fun i => own.contains i) && decide own2.Nodup && !k2.isD && (match iterArgs Γ k tg it with
      | some xs => chkEs Γ es xs
      | none => false) && chkP (Γ.blk scope) g tg && (match iterArgs (Γ.blk scope) k2 tg1 it1 with
      | some xs => chkEs (Γ.blk scope) es2 xs
      | none => false) && chkP (Γ.blk scope) g2 tg1 && (match ifs with
      | [] => chkO (Γ.blk scope) cond none
      | [y] => chkO (Γ.blk scope) cond (some y)
      | _ => false) && chkE (Γ.blk scope) elt elt'
    | _ => false
  | .mk _ _, _ => false
  | .fld _ _, _ => false
  | .pop i, x => match x with
    | .Call (.Attribute (.Name f _) m ap) [] [] cp => Γ.rd i f && m == ("pop" : Str) && (ap.endLine == cp.line)
    | _ => false
  | .popAt i e, x => match x with
    | .Call (.Attribute (.Name f _) m ap) [y] [] cp => Γ.rd i f && m == ("pop" : Str) && (ap.endLine == cp.line) && noStar y && chkE Γ e y
    | _ => false
  | .dcomp own g k es key val, x => match x with
    | .DictComp key' val' [⟨tg, it, ifs, 0⟩] scope _ => noSet it && (slotsP g).all (fun i => own.contains i) && Γ.blkOk scope own && (match iterArgs Γ k tg it with
      | some xs => chkEs Γ es xs
      | none => false) && chkP (Γ.blk scope) g tg && ifs.isEmpty && chkE (Γ.blk scope) key key' && chkE (Γ.blk scope) val val'
    | _ => false
  | .dct kvs, x => match x with
    | .Dict keys vals _ => (match kvs with
      | [] => keys.isEmpty && vals.isEmpty
      | (k, v) :: r => match keys, vals with
        | [some y], [z] => r.isEmpty && chkE Γ k y && chkE Γ v z
        | _, _ => false)
    | _ => false
  | .cnt o a, x => match x with
    | .Call (.Attribute o' m ap) [y] [] cp => m == ("count" : Str) && (ap.endLine == cp.line) && noBare o' && noStar y && chkE Γ o o' && chkE Γ a y && Γ.stg
    | _ => false
  | .get o a d, x => match x with
    | .Call (.Attribute o' m ap) [y, z] [] cp => m == ("get" : Str) && (ap.endLine == cp.line) && noBare o' && noStar y && noStar z && chkE Γ o o' && chkE Γ a y && chkE Γ d z
    | _ => false
def chkEs (Γ : Gm) : List E → List Expr → Bool
  | [], xs => xs.isEmpty
  | e :: es, xs => match xs with
    | x :: xs => noStar x && chkE Γ e x && chkEs Γ es xs
    | [] => false
def chkO (Γ : Gm) : Option E → Option Expr → Bool
  | none, x => x.isNone
  | some e, x => match x with
    | some x => chkE Γ e x
    | none => false
end
end DD
/-! DSnd: what the evaluator says of an expression, the model's run gives. -/
namespace DD
variable [Mode]
open PySem L2

def badF : Nat → Fn := fun _ _ => .bad

/-! ### the promise of a def -/
/-- where the changed argument stands -/
def ioAt (io : Option Nat) (vs : List V) (a : Addr) : Prop := ∃ p, io = some p ∧ vs[p]? = some (.ref a)
structure PreF (c : Cn) (io : Option Nat) (A : Addr → Prop) (H : Hp) (ts : List T) (vs : List V) : Prop where
  ad : ∀ a, A a → H a ≠ none
  len : vs.length = ts.length
  nio : ∀ a, ioAt io vs a → ¬A a
  par : ∀ i t, ts[i]? = some t → ∃ v, vs[i]? = some v ∧ if io = some i then ∃ a, v = .ref a ∧ CellOk c H (fun b => A b ∨ ioAt io vs b) t a else Rep c H (fun b => A b ∨ ioAt io vs b) t v
structure PostF (c : Cn) (io : Option Nat) (A : Addr → Prop) (H : Hp) (vs : List V) (t : T) (fr : Bool) (out : Option T) (v : V) (H' : Hp) : Prop where
  keep : ∀ b o, H b = some o → ¬ioAt io vs b → H' b = some o
  dom : ∀ b, H b ≠ none → H' b ≠ none
  res : if fr = true then ∃ p, v = .ref p ∧ H p = none ∧ CellOk c H' (fun b => (A b ∨ ioAt io vs b) ∨ b = p) t p else Rep c H' (fun b => A b ∨ ioAt io vs b) t v
  outs : ∀ p, io = some p → ∃ a t', vs[p]? = some (.ref a) ∧ out = some t' ∧ CellOk c H' (fun b => (A b ∨ ioAt io vs b) ∨ (fr = true ∧ v = .ref b)) t' a
  outN : io = none → out = none
def spF (c : Cn) (Φ : Fn) (np : Nat) (io : Option Nat) : Sp := fun vs H Q _ => vs.length = np ∧ ∃ A ts t fr out, PreF c io A H ts vs ∧ Φ ts = .ok (t, fr, out) ∧ ∀ v H', PostF c io A H vs t fr out v H' → Q v H'

/-! ### where one stands -/
def GOk (c : Cn) (W : Nat) (D : Nat → Option Df) (n : Nat) (X : Cx) (x : Str) : GE → Prop
  | .fn i np io => ∃ (fa : Addr) (fd : FuncData) (ps : List Str), X.mg x = some (.ref fa) ∧ PySem.W.keepIn X.K (.ref fa) = true ∧ Binds X.K fd ps [] ∧ FnOk X.prog X.w X.K X.mg X.base CX0 n fa fd ps (spF c (fnS W D n i) np io)
  | .cst t => ∃ u v, X.mg x = some u ∧ RelV v u ∧ ∀ H Av, Rep c H Av t v
  | .free => X.mg x = none
structure Good (c : Cn) (W : Nat) (D : Nat → Option Df) (Γ : Gm) (n : Nat) (X : Cx) : Prop where
  K : X.K = c.K
  N : X.N = Γ.N
  nd : X.N.Nodup
  names : X.env.scope.names = Γ.names
  kind : X.env.scope.kind = .function
  calm : X.calm = true
  room : Room n X.A
  fn : ∀ x, Γ.st x = true → Loc X.env.scope x ∧ (X.fn x = true ∨ X.env.scope.names.lookup x = some .local)
  glob : ∀ x g, Γ.G.lookup x = some g → GOk c W D n X x g
  stc : Γ.stg = c.st
  pg : X.prog = c.P
  wd : X.w = c.w

section
variable {c : Cn} {W : Nat} {D : Nat → Option Df} {Γ : Gm} {n : Nat} {X : Cx}

theorem Good.vis (g : Good c W D Γ n X) {x : Str} (h : Γ.vis x = true) : Vis X.env.scope x := by
  unfold Gm.vis at h
  rw [← g.names] at h
  unfold Vis
  split at h
  · exact .inl (by assumption)
  · exact .inr (.inl (by assumption))
  · exact .inr (.inr (by assumption))
  · cases h
theorem Good.gl (g : Good c W D Γ n X) {x : Str} (h : Γ.gl x = true) : Gl X x := by
  unfold Gm.gl at h
  rw [← g.names] at h
  unfold Gl Env.kindOf
  split at h
  · assumption
  · cases h
theorem plainName_ok {x : Str} (h : plainName x = true) : (x == ("__debug__" : Str)) = false ∧ (x == ("__classdict__" : Str)) = false ∧ x ≠ "__name__" := by
  unfold plainName at h
  rw [Bool.and_eq_true, Bool.and_eq_true, Bool.not_eq_true', Bool.not_eq_true', Bool.not_eq_true'] at h
  exact ⟨h.1.1, h.1.2, fun e => by rw [e] at h; have := h.2; simp at this⟩
theorem Good.free (g : Good c W D Γ n X) {x : Str} (h : Γ.free x = true) : Gl X x ∧ X.mg x = none ∧ x ≠ "__name__" ∧ (x == ("__debug__" : Str)) = false := by
  unfold Gm.free at h
  rw [Bool.and_eq_true, Bool.and_eq_true] at h
  obtain ⟨⟨h1, h2⟩, h3⟩ := h
  have p := plainName_ok h2
  refine ⟨g.gl h1, ?_, p.2.2, p.1⟩
  split at h3
  · rename_i e
    exact g.glob _ _ e
  · cases h3
theorem Good.rd (g : Good c W D Γ n X) {i : Nat} {x : Str} {pos : Pos} (h : Γ.rd i x = true) : PE X (.Name x pos) (tVar i) := by
  unfold Gm.rd at h
  rw [Bool.and_eq_true, Bool.and_eq_true] at h
  obtain ⟨⟨h1, h2⟩, h3⟩ := h
  have p := plainName_ok h3
  refine pe_var ?_ (g.vis h2) p.1 p.2.1
  rw [g.N]
  exact of_decide_eq_true h1
theorem Good.un (g : Good c W D Γ n X) : X.A.units + 200 < cLine := by
  have := g.room.un
  omega

/-! ### blocks -/
theorem Good.relN (g : Good c W D Γ n X) (scope : Scope) : (relabel scope X.env).names = relN Γ.names scope.names := by
  unfold relabel DD.relN
  refine List.map_congr_left fun p _ => ?_
  have e1 : (X.env.scope.kind == ScopeKind.function) = true := by rw [g.kind]; rfl
  have e2 : X.env.kindOf p.1 = Γ.names.lookup p.1 := by rw [← g.names]; rfl
  simp only [e1, e2, Bool.and_true]
theorem Good.blk (g : Good c W D Γ n X) {scope : Scope} {own : List Nat} (h : Γ.blkOk scope own = true) : BlkOk X.N X.env.scope scope (ownOf Γ own) ∧ own.Nodup ∧ (∀ i ∈ own, i < X.N.length) ∧
    ∀ (s : Shared) (H : Hp) (C : Addr) (cl : List (Str × Addr)) (fp : List Addr), Good c W D (Γ.blk scope) n (X.blk s H scope (compEnvC scope cl C X.env) fp) := by
  unfold Gm.blkOk at h
  simp only [Bool.and_eq_true, decide_eq_true_eq] at h
  obtain ⟨⟨⟨h1, h2⟩, h3⟩, h4⟩ := h
  have b := blkOk_by h1
  refine ⟨?_, h2, fun i hi => ?_, fun s H C cl fp => ?_⟩
  · rw [g.N]
    exact ⟨b.kind, b.uniq, b.ix, fun y hy e => by have := b.free y hy e; rw [g.names]; exact this, b.own⟩
  · rw [g.N]
    have := List.all_eq_true.mp h3 i hi
    simpa using this
  · refine ⟨g.K, g.N, g.nd, g.relN scope, ?_, g.calm, g.room, fun x hx => ?_, g.glob, g.stc, g.pg, g.wd⟩
    · exact b.kind
    · have el : ∀ y, (relabel scope X.env).names.lookup y = (DD.relN Γ.names scope.names).lookup y := fun y => by rw [g.relN scope]
      unfold Gm.st at hx
      rw [Bool.or_eq_true, Bool.and_eq_true] at hx
      rcases hx with hx | ⟨hx, hy⟩
      · unfold Gm.lcl at hx
        split at hx
        · rename_i e
          have e : (relabel scope X.env).names.lookup x = some .local := (el x).trans e
          exact ⟨.inl e, .inr e⟩
        · cases hx
      · unfold Gm.cel at hx
        split at hx
        · rename_i e
          have e : (relabel scope X.env).names.lookup x = some .cell := (el x).trans e
          refine ⟨.inr e, .inl ?_⟩
          have hy : ((scope.names.filter fun p => match p.2 with | .cell => true | _ => false).map (·.1)).contains x = true := hy
          rw [List.contains_iff_mem] at hy
          obtain ⟨p, hp, rfl⟩ := List.mem_map.mp hy
          have := List.all_eq_true.mp h4 p hp
          exact this
        · cases hx
theorem ownOf_snd {own : List Nat} : (ownOf Γ own).map (·.2) = own := by
  unfold ownOf
  rw [List.map_map]
  exact (List.map_congr_left fun _ _ => rfl).trans (List.map_id own)

/-! ### argument lists -/
theorem star_cons {x : Expr} {xs : List Expr} {env : Env} (h : noStar x = true) : starEach (x :: xs) env = (false, eval x env) :: starEach xs env := by
  cases x <;> first | rfl | cases h
theorem star_any {pos : Pos} {env : Env} : ∀ {xs : List Expr}, xs.all noStar = true → (backTo pos (starEach xs env)).any (·.1) = false
  | [], _ => rfl
  | x :: xs, h => by
    rw [List.all_cons, Bool.and_eq_true] at h
    rw [star_cons h.1]
    show (false || (backTo pos (starEach xs env)).any (·.1)) = false
    rw [star_any h.2]; rfl
theorem chkEs_star : ∀ {es : List E} {xs : List Expr}, chkEs Γ es xs = true → xs.all noStar = true
  | [], [], _ => rfl
  | [], x :: xs, h => by rw [chkEs] at h; cases h
  | e :: es, [], h => by rw [chkEs] at h; cases h
  | e :: es, x :: xs, h => by
    rw [chkEs, Bool.and_eq_true, Bool.and_eq_true] at h
    rw [List.all_cons, h.1.1, chkEs_star h.2]; rfl
theorem chkEs_len : ∀ {es : List E} {xs : List Expr}, chkEs Γ es xs = true → xs.length = es.length
  | [], [], _ => rfl
  | [], x :: xs, h => by rw [chkEs] at h; cases h
  | e :: es, [], h => by rw [chkEs] at h; cases h
  | e :: es, x :: xs, h => by
    rw [chkEs, Bool.and_eq_true, Bool.and_eq_true] at h
    simp [chkEs_len h.2]

/-! ### names -/
theorem At.entV {F : Fr} {env stk : En} {σ : St} {ws : List (Option V)} {H : Hp} (A : At c F env stk σ ws H) {i : Nat} {sl : Sl} (h : getS env i = some sl) : ∃ v, σ[i]? = some (some v) := by
  obtain ⟨O, S⟩ := A.sim
  have h1 := getS_some h
  have hi : i < env.length := (List.getElem?_eq_some_iff.mp h1).1
  obtain ⟨v, q1, _⟩ := S.ent i sl (by rw [List.getElem?_append_left hi]; exact h1)
  rw [List.getElem?_append_left (by rw [← A.hl]; exact hi)] at q1
  exact ⟨v, q1⟩
/-- the map of a name's read: the top of the stack is the slot's value -/
def mapTop (i k : Nat) : Nat → Nat := fun j => if j = k then i else j
theorem rd_peek {i : Nat} {Φ Ψ : Nat → Fn} {e : E} (he : e = .peek i ∨ e = .io i) : ∀ σ H Q, rdE c Φ Ψ e σ H Q → tVar i σ H Q := by
  intro σ H Q ⟨F, env, stk, ws, A, o, env', h, k⟩
  have key : ∃ sl, getS env i = some sl ∧ o = .s i ∧ env' = env := by
    rcases he with rfl | rfl
    · rw [ev] at h
      split at h
      · rename_i sl e; cases h; exact ⟨_, e, rfl, rfl⟩
      · cases h
    · rw [ev] at h
      split at h
      · rename_i e; cases h; exact ⟨_, e, rfl, rfl⟩
      · rename_i e; cases h; exact ⟨_, e, rfl, rfl⟩
      · cases h
  obtain ⟨sl, e, rfl, rfl⟩ := key
  obtain ⟨v, hv⟩ := A.entV e
  refine ⟨v, hv, k v H ⟨A.hl, by simp [A.hw], ?_⟩ hv⟩
  obtain ⟨O, S⟩ := A.sim
  have := S.push_none (some v)
  rw [List.append_assoc, List.append_assoc] at this
  exact ⟨O, this⟩
theorem set_at {env : En} {i j : Nat} {x : Option Sl} {y : Option Sl} (h : (env.set i x)[j]? = some y) : (j = i ∧ y = x) ∨ (j ≠ i ∧ env[j]? = some y) := by
  by_cases e : j = i
  · subst e
    have hl : j < (env.set j x).length := (List.getElem?_eq_some_iff.mp h).1
    rw [List.getElem?_set_self (by simpa using hl)] at h
    exact .inl ⟨rfl, (Option.some.inj h).symm⟩
  · rw [List.getElem?_set_ne (Ne.symm e)] at h
    exact .inr ⟨e, h⟩
/-- slot i is read off: its own entry becomes x, the value lies on the stack -/
theorem At.read {F : Fr} {env stk : En} {σ : St} {ws : List (Option V)} {H : Hp} (A : At c F env stk σ ws H) {i : Nat} {t : T} {m m2 : Md} {v : V} {x : Option Sl} (h : getS env i = some ⟨t, m⟩) (hv : σ[i]? = some (some v)) (hm : m ≠ .io)
    (hx : (x = some ⟨t, .sh⟩ ∧ m2 = .sh) ∨ (x = none ∧ m2 = m)) : At c F (env.set i x) (stk ++ [some ⟨t, m2⟩]) σ (ws ++ [some v]) H := by
  have hl := A.hl
  have hw := A.hw
  have h1 := getS_some h
  have hi : i < env.length := (List.getElem?_eq_some_iff.mp h1).1
  obtain ⟨O, S⟩ := A.sim
  refine ⟨by simpa using hl, by simp [hw], S.re (by simp [hl, hw]) (mapTop i (env.length + stk.length)) fun j sl hj => ?_⟩
  have tot : (env ++ stk).length = env.length + stk.length := by simp
  -- what a place of the new list says
  have cases_ : ∀ (j : Nat) (sl : Sl), (env.set i x ++ (stk ++ [some ⟨t, m2⟩]))[j]? = some (some sl) → (j = env.length + stk.length ∧ sl = ⟨t, m2⟩) ∨ (j = i ∧ x = some sl) ∨ (j ≠ i ∧ j < env.length + stk.length ∧ (env ++ stk)[j]? = some (some sl)) := by
    intro j sl hj
    by_cases a : j < env.length
    · rw [List.getElem?_append_left (by simpa using a)] at hj
      rcases set_at hj with ⟨e1, e2⟩ | ⟨e1, e2⟩
      · exact .inr (.inl ⟨e1, e2.symm⟩)
      · exact .inr (.inr ⟨e1, by omega, by rw [List.getElem?_append_left a]; exact e2⟩)
    · rw [List.getElem?_append_right (by simp; omega)] at hj
      simp only [List.length_set] at hj
      by_cases b : j - env.length < stk.length
      · rw [List.getElem?_append_left b] at hj
        refine .inr (.inr ⟨by omega, by omega, ?_⟩)
        rw [List.getElem?_append_right (by omega)]
        exact hj
      · rw [List.getElem?_append_right (by omega)] at hj
        have e0 : j - env.length - stk.length = 0 := by
          cases q : j - env.length - stk.length with
          | zero => rfl
          | succ n => rw [q] at hj; simp at hj
        rw [e0] at hj
        simp only [List.getElem?_cons_zero, Option.some.injEq] at hj
        exact .inl ⟨by omega, hj.symm⟩
  have valAt : ∀ j, j < env.length + stk.length → (σ ++ (ws ++ [some v]))[j]? = (σ ++ ws)[j]? := fun j hj => by
    rw [← List.append_assoc, List.getElem?_append_left (by simp; omega)]
  have valTop : (σ ++ (ws ++ [some v]))[env.length + stk.length]? = some (some v) := by
    rw [← List.append_assoc, List.getElem?_append_right (by simp; omega)]
    have : env.length + stk.length - (σ ++ ws).length = 0 := by simp; omega
    rw [this]; rfl
  have ei : (env ++ stk)[i]? = some (some ⟨t, m⟩) := by rw [List.getElem?_append_left hi]; exact h1
  have vi : (σ ++ ws)[i]? = some (some v) := by rw [List.getElem?_append_left (by omega)]; exact hv
  unfold mapTop
  rcases cases_ j sl hj with ⟨rfl, rfl⟩ | ⟨rfl, hxs⟩ | ⟨hne, hlt, he⟩
  · -- the top
    rw [if_pos rfl]
    refine ⟨m, ei, by rw [valTop, vi], ?_, fun e => absurd e hm, fun hmm hsl j' sl' hj' hf => ?_, fun hmm hsl j' sl' hj' hf => ?_⟩
    · rcases hx with ⟨_, e⟩ | ⟨_, e⟩
      · show m2 = m ∨ (m2 = .sh ∧ m = .own)
        rw [e]
        cases m with
        | sh => exact .inl rfl
        | own => exact .inr ⟨rfl, rfl⟩
        | io => exact absurd rfl hm
      · exact .inl e
    · rcases cases_ j' sl' hj' with ⟨e1, _⟩ | ⟨e1, e2⟩ | ⟨e1, e2, _⟩
      · exact e1
      · rcases hx with ⟨_, e⟩ | ⟨e, _⟩
        · exact absurd e hsl
        · rw [e] at e2; cases e2
      · rw [if_neg (by omega)] at hf; exact absurd hf e1
    · rcases cases_ j' sl' hj' with ⟨e1, e2⟩ | ⟨e1, e2⟩ | ⟨e1, e2, _⟩
      · rw [e2]; exact hsl
      · rcases hx with ⟨e, _⟩ | ⟨e, _⟩
        · rw [e] at e2; cases e2; rfl
        · rw [e] at e2; cases e2
      · rw [if_neg (by omega)] at hf; exact absurd hf e1
  · -- the slot itself
    rw [if_neg (by omega)]
    rcases hx with ⟨e, em⟩ | ⟨e, _⟩
    · rw [e] at hxs
      cases hxs
      refine ⟨m, ei, valAt _ (by omega), ?_, fun e => absurd e hm, fun _ hsl => absurd rfl hsl, fun hmm hsl j' sl' hj' hf => ?_⟩
      · cases m with
        | sh => exact .inl rfl
        | own => exact .inr ⟨rfl, rfl⟩
        | io => exact absurd rfl hm
      · rcases cases_ j' sl' hj' with ⟨e1, e2⟩ | ⟨e1, e2⟩ | ⟨e1, e2, _⟩
        · rw [e2]; exact em
        · rw [e] at e2; cases e2; rfl
        · rw [if_neg (by omega)] at hf; exact absurd hf e1
    · rw [e] at hxs; cases hxs
  · -- another place
    rw [if_neg (by omega)]
    refine ⟨sl.m, he, valAt j hlt, .inl rfl, fun _ => rfl, fun _ _ j' sl' hj' hf => ?_, fun hmm hsl => absurd hsl hmm⟩
    rcases cases_ j' sl' hj' with ⟨e1, _⟩ | ⟨e1, _⟩ | ⟨e1, e2, _⟩
    · rw [if_pos e1] at hf; exact absurd hf.symm hne
    · rw [if_neg (by omega)] at hf; exact hf
    · rw [if_neg (by omega)] at hf; exact hf
theorem rd_var {i : Nat} {Φ Ψ : Nat → Fn} : ∀ σ H Q, rdE c Φ Ψ (.var i) σ H Q → tVar i σ H Q := by
  intro σ H Q ⟨F, env, stk, ws, A, o, env', h, k⟩
  rw [ev] at h
  split at h
  · cases h
  · rename_i t m hm e
    cases h
    obtain ⟨v, hv⟩ := A.entV e
    exact ⟨v, hv, k v H (A.read e hv hm (.inl ⟨rfl, rfl⟩)) trivial⟩
  · cases h
theorem rd_mv {i : Nat} {Φ Ψ : Nat → Fn} : ∀ σ H Q, rdE c Φ Ψ (.mv i) σ H Q → tVar i σ H Q := by
  intro σ H Q ⟨F, env, stk, ws, A, o, env', h, k⟩
  rw [ev] at h
  split at h
  · rename_i t e
    cases h
    obtain ⟨v, hv⟩ := A.entV e
    exact ⟨v, hv, k v H (A.read e hv (fun z => nomatch z) (.inr ⟨rfl, rfl⟩)) trivial⟩
  · rename_i t e
    cases h
    obtain ⟨v, hv⟩ := A.entV e
    exact ⟨v, hv, k v H (A.read e hv (fun z => nomatch z) (.inr ⟨rfl, rfl⟩)) trivial⟩
  · cases h
theorem At.push_sh {F : Fr} {env stk : En} {σ : St} {ws : List (Option V)} {H : Hp} (A : At c F env stk σ ws H) {t : T} {v : V} (r : ∀ Av, Rep c H Av t v) : At c F env (stk ++ [some ⟨t, .sh⟩]) σ (ws ++ [some v]) H := by
  obtain ⟨O, S⟩ := A.sim
  refine ⟨A.hl, by simp [A.hw], O, ?_⟩
  have := S.push_sh (r (F.av O))
  rw [List.append_assoc, List.append_assoc] at this
  exact this
theorem rd_cst {t : T} {v : V} {Φ Ψ : Nat → Fn} (hr : ∀ H Av, Rep c H Av t v) : ∀ σ H Q, rdE c Φ Ψ (.cst t) σ H Q → tC v σ H Q := by
  intro σ H Q ⟨F, env, stk, ws, A, o, env', h, k⟩
  rw [ev] at h
  cases h
  exact k v H (A.push_sh fun Av => hr H Av) trivial
end
end DD
/-! DSnd2: displays, operations, tests, calls. -/
namespace DD
variable [Mode]
open PySem L2
section
variable {c : Cn} {W : Nat} {D : Nat → Option Df} {Γ : Gm} {n : Nat} {X : Cx} {F : Fr} {env stk : En} {σ : St} {ws : List (Option V)} {H : Hp} {Φ Ψ : Nat → Fn}

theorem SimO.pre {O : Addr → Option Nat} {es xs : En} {vs ys : List (Option V)} (S : SimO c F O (es ++ xs) (vs ++ ys) H) (hl : vs.length = es.length) : SimO c F O es vs H := by
  refine ⟨hl, S.oa, S.ad, S.od, S.iod, S.keep, fun i sl h => ?_⟩
  have hi : i < es.length := (List.getElem?_eq_some_iff.mp h).1
  obtain ⟨v, h1, h2⟩ := S.ent i sl (by rw [List.getElem?_append_left hi]; exact h)
  rw [List.getElem?_append_left (by omega)] at h1
  exact ⟨v, h1, h2⟩
theorem plain_at : ∀ {os : List OV} {ts : List T}, plain os = some ts → os.length = ts.length ∧ ∀ (k : Nat) (t : T), ts[k]? = some t → ∃ fr : Bool, (os.map OV.sl)[k]? = some (some (⟨t, if fr = true then .own else .sh⟩ : Sl))
  | [], ts, h => by
    rw [plain] at h; cases h
    exact ⟨rfl, fun k t e => by simp at e⟩
  | .v t fr :: os, ts, h => by
    rw [plain] at h
    cases e : plain os with
    | none => rw [e] at h; cases h
    | some r =>
      rw [e] at h
      cases h
      obtain ⟨h1, h2⟩ := plain_at e
      refine ⟨by simp [h1], fun k t' e' => ?_⟩
      cases k with
      | zero =>
        simp only [List.getElem?_cons_zero, Option.some.injEq] at e'
        subst e'
        exact ⟨fr, rfl⟩
      | succ k =>
        simp only [List.getElem?_cons_succ] at e'
        exact h2 k t' e'
  | .s i :: os, ts, h => by rw [plain] at h; cases h
/-- what is put into something is shared from now on -/
theorem At.freeze {os : List OV} {vs : List V} {ts : List T} (S : At c F env (stk ++ os.map OV.sl) σ (ws ++ vs.map some) H) (hl : stk.length = ws.length) (hp : plain os = some ts) (hv : vs.length = os.length) :
    ∃ O, SimO c F O (env ++ stk) (σ ++ ws) H ∧ RepL c H (F.av O) ts vs := by
  obtain ⟨O, S0⟩ := S.sim
  have hs := S.hl
  obtain ⟨hlen, hat⟩ := plain_at hp
  have e1 : env ++ (stk ++ os.map OV.sl) = (env ++ stk) ++ os.map OV.sl := (List.append_assoc ..).symm
  have e2 : σ ++ (ws ++ vs.map some) = (σ ++ ws) ++ vs.map some := (List.append_assoc ..).symm
  rw [e1, e2] at S0
  have tot : (env ++ stk).length = (σ ++ ws).length := by simp [hs, hl]
  obtain ⟨O', S1⟩ : Sim c F ((env ++ stk) ++ ts.map fun t => some (⟨t, .sh⟩ : Sl)) ((σ ++ ws) ++ vs.map some) H := by
    refine S0.re (by simp [← tot, hv, hlen, hs, hl]) (fun j => j) fun j sl hj => ?_
    by_cases a : j < (env ++ stk).length
    · rw [List.getElem?_append_left a] at hj
      refine ⟨sl.m, by rw [List.getElem?_append_left a]; exact hj, rfl, .inl rfl, fun _ => rfl, fun _ _ _ _ _ e => e, fun n e => absurd e n⟩
    · rw [List.getElem?_append_right (by omega)] at hj
      rw [List.getElem?_map] at hj
      cases q : ts[j - (env ++ stk).length]? with
      | none => rw [q] at hj; cases hj
      | some t =>
        rw [q] at hj
        cases hj
        obtain ⟨fr, hfr⟩ := hat _ _ q
        refine ⟨if fr then .own else .sh, by rw [List.getElem?_append_right (by omega)]; exact hfr, rfl, ?_, fun e => ?_, fun _ e => absurd rfl e, fun hm _ j' sl' hj' e => ?_⟩
        · cases fr with
          | false => exact .inl rfl
          | true => exact .inr ⟨rfl, rfl⟩
        · cases fr <;> cases e
        · subst e
          rw [List.getElem?_append_right (by omega), List.getElem?_map, q] at hj'
          cases hj'; rfl
  refine ⟨O', S1.pre tot.symm, ?_⟩
  -- the items
  have get : ∀ k t, ts[k]? = some t → ∃ v, vs[k]? = some v ∧ Rep c H (F.av O') t v := fun k t e => by
    obtain ⟨v, h1, h2⟩ := S1.ent ((env ++ stk).length + k) ⟨t, .sh⟩ (by rw [List.getElem?_append_right (Nat.le_add_right _ _), Nat.add_sub_cancel_left, List.getElem?_map, e]; rfl)
    rw [List.getElem?_append_right (by omega)] at h1
    rw [tot] at h1
    simp only [Nat.add_sub_cancel_left, List.getElem?_map] at h1
    cases q : vs[k]? with
    | none => rw [q] at h1; cases h1
    | some v' => rw [q] at h1; cases h1; exact ⟨v, q, h2⟩
  clear S1 S0 S hat hp e1 e2
  have hl2 : vs.length = ts.length := by omega
  clear hv hlen
  induction ts generalizing vs with
  | nil =>
    have : vs = [] := List.eq_nil_of_length_eq_zero hl2
    subst this
    exact RepL.nil
  | cons t ts ih =>
    cases vs with
    | nil => cases hl2
    | cons v vs =>
      obtain ⟨v', q1, q2⟩ := get 0 t rfl
      cases q1
      exact RepL.cons q2 (ih (fun k t' e => get (k + 1) t' e) (by simpa using hl2))

theorem rd_tup {es : List E} : ∀ σ H Q, rdE c Φ Ψ (.tup es) σ H Q → tTupS c.st (rdA c Φ Ψ es) σ H Q := by
  intro σ H Q ⟨F, env, stk, ws, A, o, env', h, k⟩
  rw [ev] at h
  obtain ⟨⟨os, e1⟩, h1, h⟩ := R.bind_ok h
  obtain ⟨ts, h2, h⟩ := R.bind_ok h
  have h2 := R.opt_ok h2
  split at h
  · rename_i hz
    cases h
    refine ⟨F, env, stk, ws, A, os, _, h1, fun vs H1 A1 ok => ?_⟩
    obtain ⟨O, S, rl⟩ := A1.freeze A.hw h2 ok.length.symm
    refine ⟨by rw [← line_eq, ← rl.length]; exact hz, fun p u hp hu => k _ _ (At.out S A1.hl A.hw ?_) trivial⟩
    exact Out.tup (p := .sub) hp hu rl
  · cases h
theorem rd_lst {es : List E} : ∀ σ H Q, rdE c Φ Ψ (.lst es) σ H Q → tLst (rdA c Φ Ψ es) σ H Q := by
  intro σ H Q ⟨F, env, stk, ws, A, o, env', h, k⟩
  rw [ev] at h
  obtain ⟨⟨os, e1⟩, h1, h⟩ := R.bind_ok h
  obtain ⟨ts, h2, h⟩ := R.bind_ok h
  have h2 := R.opt_ok h2
  split at h
  · rename_i hz
    cases h
    refine ⟨F, env, stk, ws, A, os, _, h1, fun vs H1 A1 ok => ?_⟩
    obtain ⟨O, S, rl⟩ := A1.freeze A.hw h2 ok.length.symm
    refine ⟨by rw [← line_eq, ← rl.length]; exact hz, fun p hp => k _ _ (At.out S A1.hl A.hw ?_) trivial⟩
    exact Out.lst (p := .list) rfl hp rl
  · cases h

/-! ### tests -/
theorem asBl_ok {o : OV} {b : Bool} (h : asBl o = .ok b) : ∃ fr, o = .v (.bl b) fr := by
  unfold asBl at h
  split at h
  · cases h; exact ⟨_, rfl⟩
  · cases h
theorem rdT_of {e : E} {σ : St} {H : Hp} {Q : Bool → Hp → Prop} {F : Fr} {env stk : En} {ws : List (Option V)} (A : At c F env stk σ ws H) {o : OV} {env' : En} {b : Bool} (h : ev Φ Ψ e env = .ok (o, env')) (hb : asBl o = .ok b)
    (k : ∀ H', At c F env' stk σ ws H' → Q b H') : rdT c Φ Ψ e σ H Q := by
  obtain ⟨fr, rfl⟩ := asBl_ok hb
  exact ⟨F, env, stk, ws, A, b, fr, env', h, k⟩
theorem rd_andT {a b : E} : ∀ σ H Q, rdT c Φ Ψ (.and a b) σ H Q → tAnd (rdT c Φ Ψ a) (rdT c Φ Ψ b) σ H Q := by
  intro σ H Q ⟨F, env, stk, ws, A, d, fr, env', h, k⟩
  rw [ev] at h
  obtain ⟨⟨o1, e1⟩, h1, h⟩ := R.bind_ok h
  obtain ⟨x, h2, h⟩ := R.bind_ok h
  refine rdT_of A h1 h2 fun H1 A1 => ?_
  cases x with
  | false => cases h; exact k H1 A1
  | true =>
    obtain ⟨⟨o2, e2⟩, h3, h⟩ := R.bind_ok h
    obtain ⟨y, h4, h⟩ := R.bind_ok h
    cases h
    exact rdT_of A1 h3 h4 k
theorem rd_orT {a b : E} : ∀ σ H Q, rdT c Φ Ψ (.or a b) σ H Q → tOr (rdT c Φ Ψ a) (rdT c Φ Ψ b) σ H Q := by
  intro σ H Q ⟨F, env, stk, ws, A, d, fr, env', h, k⟩
  rw [ev] at h
  obtain ⟨⟨o1, e1⟩, h1, h⟩ := R.bind_ok h
  obtain ⟨x, h2, h⟩ := R.bind_ok h
  refine rdT_of A h1 h2 fun H1 A1 => ?_
  cases x with
  | true => cases h; exact k H1 A1
  | false =>
    obtain ⟨⟨o2, e2⟩, h3, h⟩ := R.bind_ok h
    obtain ⟨y, h4, h⟩ := R.bind_ok h
    cases h
    exact rdT_of A1 h3 h4 k
theorem rd_notT {a : E} : ∀ σ H Q, rdT c Φ Ψ (.not a) σ H Q → tNot (rdT c Φ Ψ a) σ H Q := by
  intro σ H Q ⟨F, env, stk, ws, A, d, fr, env', h, k⟩
  rw [ev] at h
  obtain ⟨⟨o1, e1⟩, h1, h⟩ := R.bind_ok h
  obtain ⟨x, h2, h⟩ := R.bind_ok h
  cases h
  exact rdT_of A h1 h2 k
/-- a bool on the stack -/
theorem At.topBl {v : V} {b : Bool} {fr : Bool} (A : At c F env (stk ++ [(OV.v (.bl b) fr).sl]) σ (ws ++ [some v]) H) (hw : stk.length = ws.length) : v = .bl b ∧ At c F env stk σ ws H := by
  obtain ⟨O, S, rt⟩ := At.ops (os := [.v (.bl b) fr]) (vs := [v]) (ts := [.bl b]) A hw (.cons trivial .nil) rfl
  cases rt with
  | cons p _ => exact ⟨p.bl, A.drop hw⟩
theorem rdE_bl {e : E} {σ : St} {H : Hp} {Q : V → Hp → Prop} {F : Fr} {env stk : En} {ws : List (Option V)} (A : At c F env stk σ ws H) {o : OV} {env' : En} {b : Bool} (h : ev Φ Ψ e env = .ok (o, env')) (hb : asBl o = .ok b)
    (k : ∀ H', At c F env' stk σ ws H' → Q (.bl b) H') : rdE c Φ Ψ e σ H Q := by
  obtain ⟨fr, rfl⟩ := asBl_ok hb
  refine ⟨F, env, stk, ws, A, _, env', h, fun v H1 A1 _ => ?_⟩
  obtain ⟨rfl, A2⟩ := A1.topBl A.hw
  exact k H1 A2
theorem rep_bl {H : Hp} {Av : Addr → Prop} {b : Bool} : Rep c H Av (.bl b) (.bl b) := by rw [Rep]
theorem rd_and {a b : E} : ∀ σ H Q, rdE c Φ Ψ (.and a b) σ H Q → tAndV (rdE c Φ Ψ a) (rdE c Φ Ψ b) σ H Q := by
  intro σ H Q ⟨F, env, stk, ws, A, o, env', h, k⟩
  rw [ev] at h
  obtain ⟨⟨o1, e1⟩, h1, h⟩ := R.bind_ok h
  obtain ⟨x, h2, h⟩ := R.bind_ok h
  refine rdE_bl A h1 h2 fun H1 A1 => ⟨x, rfl, ?_⟩
  cases x with
  | false => cases h; exact k _ _ (A1.push_sh fun _ => rep_bl) trivial
  | true =>
    obtain ⟨⟨o2, e2⟩, h3, h⟩ := R.bind_ok h
    obtain ⟨y, h4, h⟩ := R.bind_ok h
    cases h
    exact rdE_bl A1 h3 h4 fun H2 A2 => k _ _ (A2.push_sh fun _ => rep_bl) trivial
theorem rd_or {a b : E} : ∀ σ H Q, rdE c Φ Ψ (.or a b) σ H Q → tOrV (rdE c Φ Ψ a) (rdE c Φ Ψ b) σ H Q := by
  intro σ H Q ⟨F, env, stk, ws, A, o, env', h, k⟩
  rw [ev] at h
  obtain ⟨⟨o1, e1⟩, h1, h⟩ := R.bind_ok h
  obtain ⟨x, h2, h⟩ := R.bind_ok h
  refine rdE_bl A h1 h2 fun H1 A1 => ⟨x, rfl, ?_⟩
  cases x with
  | true => cases h; exact k _ _ (A1.push_sh fun _ => rep_bl) trivial
  | false =>
    obtain ⟨⟨o2, e2⟩, h3, h⟩ := R.bind_ok h
    obtain ⟨y, h4, h⟩ := R.bind_ok h
    cases h
    exact rdE_bl A1 h3 h4 fun H2 A2 => k _ _ (A2.push_sh fun _ => rep_bl) trivial
theorem rd_not {a : E} : ∀ σ H Q, rdE c Φ Ψ (.not a) σ H Q → tNotV (rdE c Φ Ψ a) σ H Q := by
  intro σ H Q ⟨F, env, stk, ws, A, o, env', h, k⟩
  rw [ev] at h
  obtain ⟨⟨o1, e1⟩, h1, h⟩ := R.bind_ok h
  obtain ⟨x, h2, h⟩ := R.bind_ok h
  cases h
  exact rdE_bl A h1 h2 fun H1 A1 => ⟨x, rfl, k _ _ (A1.push_sh fun _ => rep_bl) trivial⟩
theorem rd_ite {d a b : E} : ∀ σ H Q, rdE c Φ Ψ (.ite d a b) σ H Q → tIf (rdT c Φ Ψ d) (rdE c Φ Ψ a) (rdE c Φ Ψ b) σ H Q := by
  intro σ H Q ⟨F, env, stk, ws, A, o, env', h, k⟩
  rw [ev] at h
  obtain ⟨⟨o1, e1⟩, h1, h⟩ := R.bind_ok h
  obtain ⟨x, h2, h⟩ := R.bind_ok h
  refine rdT_of A h1 h2 fun H1 A1 => ?_
  cases x with
  | true => exact ⟨F, e1, stk, ws, A1, o, env', h, k⟩
  | false => exact ⟨F, e1, stk, ws, A1, o, env', h, k⟩
/-- a rule that only reads two values and tells a bool -/
def C2 (c : Cn) (p : Prim) (r : R2) : Prop := ∀ (Av : Addr → Prop) (H : Hp) (tx ty : T) (x y : V) (b : Bool) (Q : VK), RepT c H Av tx x → RepT c H Av ty y → p.sem [tx, ty] = some (.bl b) → Q (.bl b) H → r x y H Q
theorem rd_chain {p1 p2 : Prim} {r1 r2 : R2} (h1 : C2 c p1 r1) (h2 : C2 c p2 r2) (hb : ∀ tx ty t, p2.sem [tx, ty] = some t → ∃ b, t = .bl b) {a b d : E} : ∀ σ H Q, rdE c Φ Ψ (.chain p1 p2 a b d) σ H Q → tChain r1 r2 (rdE c Φ Ψ a) (rdE c Φ Ψ b) (rdE c Φ Ψ d) σ H Q := by
  intro σ H Q ⟨F, env, stk, ws, A, o, env', h, k⟩
  rw [ev] at h
  obtain ⟨⟨o1, e1⟩, q1, ha⟩ := R.bind_ok h
  clear h
  obtain ⟨⟨o2, e2⟩, q2, h⟩ := R.bind_ok ha
  clear ha
  obtain ⟨ts, q3, ha⟩ := R.bind_ok h
  clear h
  obtain ⟨t, q4, h⟩ := R.bind_ok ha
  clear ha
  obtain ⟨x, q5, ha⟩ := R.bind_ok h
  clear h
  have h := ha
  clear ha
  replace q3 := R.opt_ok q3
  replace q4 := R.opt_ok q4
  obtain ⟨fr, q5⟩ := asBl_ok q5
  cases q5
  refine ⟨F, env, stk, ws, A, o1, e1, q1, fun v H1 A1 ok1 => ⟨F, e1, _, _, A1, o2, e2, q2, fun u H2 A2 ok2 => ?_⟩⟩
  have A2' : At c F e2 (stk ++ [o1, o2].map OV.sl) σ (ws ++ [v, u].map some) H2 := by
    rw [List.append_assoc, List.append_assoc] at A2
    exact A2
  obtain ⟨O, S, rt⟩ := A2'.ops A.hw (.cons ok1 (.cons ok2 .nil)) q3
  cases rt with
  | cons z1 rt =>
    cases rt with
    | cons z2 rt =>
      cases rt
      refine h1 _ _ _ _ _ _ _ _ z1 z2 q4 ⟨x, rfl, ?_⟩
      by_cases hx : x = true
      · subst hx
        rw [if_pos rfl] at h ⊢
        obtain ⟨⟨o3, e3⟩, q6, h⟩ := R.bind_ok h
        obtain ⟨ts', q7, h⟩ := R.bind_ok h
        obtain ⟨t', q8, h⟩ := R.bind_ok h
        have q7 := R.opt_ok q7
        have q8 := R.opt_ok q8
        cases h
        refine ⟨F, e2, _, _, A2', o3, env', q6, fun w H3 A3 ok3 => ?_⟩
        -- the middle and the last one
        have A3' : At c F env' ((stk ++ [o1.sl]) ++ [o2, o3].map OV.sl) σ ((ws ++ [some v]) ++ [u, w].map some) H3 := by
          have e1 : (stk ++ [o1.sl]) ++ [o2, o3].map OV.sl = (stk ++ [o1, o2].map OV.sl) ++ [o3.sl] := by simp
          have e2 : (ws ++ [some v]) ++ [u, w].map some = (ws ++ [v, u].map some) ++ [some w] := by simp
          rw [e1, e2]
          exact A3
        obtain ⟨O3, S3, rt3⟩ := A3'.ops (by simp [A.hw]) (.cons ok2 (.cons ok3 .nil)) q7
        have A4 : At c F env' stk σ ws H3 := by
          have := A3'.drop (stk := stk ++ [o1.sl]) (ws := ws ++ [some v]) (by simp [A.hw])
          exact this.drop A.hw
        cases rt3 with
        | cons z3 rt3 =>
          cases rt3 with
          | cons z4 rt3 =>
            cases rt3
            obtain ⟨y, rfl⟩ := hb _ _ _ q8
            exact h2 _ _ _ _ _ _ _ _ z3 z4 q8 (k _ _ (A4.push_sh fun _ => rep_bl) trivial)
      · have hx : x = false := by simpa using hx
        subst hx
        rw [if_neg Bool.false_ne_true] at h ⊢
        cases h
        exact k _ _ ((A2'.drop A.hw).push_sh fun _ => rep_bl) trivial
end
end DD
/-! DSnd3: a def of the text, called. -/
namespace DD
variable [Mode]
open PySem L2
section
variable {c : Cn} {W : Nat} {D : Nat → Option Df} {Γ : Gm} {n : Nat} {X : Cx} {F : Fr} {env stk : En} {σ : St} {ws : List (Option V)} {H : Hp} {Φ Ψ : Nat → Fn}
/-- an operand as it is handed on: shared -/
def OV.fz : OV → Option Sl
  | .v t _ => some ⟨t, .sh⟩
  | .s _ => none
theorem At.fz {os : List OV} {vs : List V} (S : At c F env (stk ++ os.map OV.sl) σ (ws ++ vs.map some) H) (hl : stk.length = ws.length) (hv : os.length = vs.length) :
    ∃ O, SimO c F O (env ++ stk) (σ ++ ws) H ∧ ∀ (k : Nat) (t : T) (fr : Bool), os[k]? = some (OV.v t fr) → ∃ v, vs[k]? = some v ∧ Rep c H (F.av O) t v := by
  obtain ⟨O, S0⟩ := S.sim
  have hs := S.hl
  have e1 : env ++ (stk ++ os.map OV.sl) = (env ++ stk) ++ os.map OV.sl := (List.append_assoc ..).symm
  have e2 : σ ++ (ws ++ vs.map some) = (σ ++ ws) ++ vs.map some := (List.append_assoc ..).symm
  rw [e1, e2] at S0
  have tot : (env ++ stk).length = (σ ++ ws).length := by simp [hs, hl]
  obtain ⟨O', S1⟩ : Sim c F ((env ++ stk) ++ os.map OV.fz) ((σ ++ ws) ++ vs.map some) H := by
    refine S0.re (by simp [hv, hs, hl]) (fun j => j) fun j sl hj => ?_
    by_cases a : j < (env ++ stk).length
    · rw [List.getElem?_append_left a] at hj
      refine ⟨sl.m, by rw [List.getElem?_append_left a]; exact hj, rfl, .inl rfl, fun _ => rfl, fun _ _ _ _ _ e => e, fun n e => absurd e n⟩
    · rw [List.getElem?_append_right (by omega)] at hj
      rw [List.getElem?_map] at hj
      cases q : os[j - (env ++ stk).length]? with
      | none => rw [q] at hj; cases hj
      | some o =>
        rw [q] at hj
        cases o with
        | s i => cases hj
        | v t fr =>
          cases hj
          refine ⟨if fr then .own else .sh, by rw [List.getElem?_append_right (by omega), List.getElem?_map, q]; rfl, rfl, ?_, fun e => ?_, fun _ e => absurd rfl e, fun hm _ j' sl' hj' e => ?_⟩
          · cases fr with
            | false => exact .inl rfl
            | true => exact .inr ⟨rfl, rfl⟩
          · cases fr <;> cases e
          · subst e
            rw [List.getElem?_append_right (by omega), List.getElem?_map, q] at hj'
            cases hj'; rfl
  refine ⟨O', S1.pre tot.symm, fun k t fr e => ?_⟩
  obtain ⟨v, h1, h2⟩ := S1.ent ((env ++ stk).length + k) ⟨t, .sh⟩ (by rw [List.getElem?_append_right (Nat.le_add_right _ _), Nat.add_sub_cancel_left, List.getElem?_map, e]; rfl)
  rw [List.getElem?_append_right (by omega), tot] at h1
  simp only [Nat.add_sub_cancel_left, List.getElem?_map] at h1
  cases q : vs[k]? with
  | none => rw [q] at h1; cases h1
  | some v' => rw [q] at h1; cases h1; exact ⟨v, rfl, h2⟩
theorem OVs.get : ∀ {os : List OV} {vs : List V} {k : Nat} {o : OV}, OVs σ os vs → os[k]? = some o → ∃ v, vs[k]? = some v ∧ OVok σ o v
  | _, _, k, o, .nil, e => by simp at e
  | _, _, 0, o, .cons p q, e => by
    simp only [List.getElem?_cons_zero, Option.some.injEq] at e
    subst e
    exact ⟨_, rfl, p⟩
  | _, _, k + 1, o, .cons p q, e => by
    simp only [List.getElem?_cons_succ] at e ⊢
    exact OVs.get q e
theorem vals_at : ∀ {os : List OV} {ts : List T} {k : Nat} {t : T}, vals env os = some ts → ts[k]? = some t → ∃ o, os[k]? = some o ∧ o.res env = some t
  | [], ts, k, t, h, e => by rw [vals] at h; cases h; simp at e
  | o :: os, ts, k, t, h, e => by
    obtain ⟨t', r, rfl, h1, h2⟩ := vals_cons h
    cases k with
    | zero =>
      simp only [List.getElem?_cons_zero, Option.some.injEq] at e
      subst e
      exact ⟨o, rfl, h1⟩
    | succ k =>
      simp only [List.getElem?_cons_succ] at e ⊢
      exact vals_at h2 e
theorem vals_len : ∀ {os : List OV} {ts : List T}, vals env os = some ts → os.length = ts.length
  | [], ts, h => by rw [vals] at h; cases h; rfl
  | o :: os, ts, h => by
    obtain ⟨t', r, rfl, h1, h2⟩ := vals_cons h
    simp [vals_len h2]
theorem argsOk_at : ∀ {es : List E} {os : List OV}, argsOk es os = true → os.length = es.length ∧ ∀ (k : Nat) (e : E), es[k]? = some e → ∃ o, os[k]? = some o ∧ ((isIo e = true ∧ ∃ i, o = OV.s i) ∨ (isIo e = false ∧ ∃ t fr, o = OV.v t fr))
  | [], [], _ => ⟨rfl, fun k e q => by simp at q⟩
  | [], o :: os, h => by simp [argsOk] at h
  | e :: es, [], h => by cases e <;> simp [argsOk] at h
  | e :: es, o :: os, h => by
    have key : argsOk es os = true ∧ ((isIo e = true ∧ ∃ i, o = OV.s i) ∨ (isIo e = false ∧ ∃ t fr, o = OV.v t fr)) := by
      cases o with
      | s i => cases e <;> simp only [argsOk] at h <;> first | exact ⟨h, .inl ⟨rfl, i, rfl⟩⟩ | cases h
      | v t fr => cases e <;> simp only [argsOk] at h <;> first | exact ⟨h, .inr ⟨rfl, t, fr, rfl⟩⟩ | cases h
    obtain ⟨l, q⟩ := argsOk_at key.1
    refine ⟨by simp [l], fun k e' he => ?_⟩
    cases k with
    | zero =>
      simp only [List.getElem?_cons_zero, Option.some.injEq] at he ⊢
      subst he
      exact ⟨o, rfl, key.2⟩
    | succ k =>
      simp only [List.getElem?_cons_succ] at he ⊢
      exact q k e' he
theorem ioO_none : ∀ {os : List OV}, (∀ (k : Nat) (o : OV), os[k]? = some o → ∃ t fr, o = OV.v t fr) → ioO os = none
  | [], _ => rfl
  | .s i :: os, h => by obtain ⟨t, fr, e⟩ := h 0 _ rfl; cases e
  | .v t fr :: os, h => by
    rw [ioO]
    exact ioO_none fun k o e => h (k + 1) o (by simpa using e)
theorem ioO_some : ∀ {os : List OV} {p i : Nat}, os[p]? = some (OV.s i) → (∀ (k : Nat) (o : OV), k ≠ p → os[k]? = some o → ∃ t fr, o = OV.v t fr) → ioO os = some i
  | [], p, i, h, _ => by simp at h
  | .s j :: os, p, i, h, g => by
    cases p with
    | zero =>
      simp only [List.getElem?_cons_zero, Option.some.injEq] at h
      cases h
      rfl
    | succ p =>
      obtain ⟨t, fr, e⟩ := g 0 _ (by omega) rfl
      cases e
  | .v t fr :: os, p, i, h, g => by
    rw [ioO]
    cases p with
    | zero =>
      simp only [List.getElem?_cons_zero, Option.some.injEq] at h
      cases h
    | succ p => exact ioO_some (p := p) (by simpa using h) fun k o ne e => g (k + 1) o (by omega) (by simpa using e)
theorem upS_ok {i : Nat} {f : T → Option T} {env' : En} (h : upS env i f = .ok env') : ∃ t m t', getS env i = some ⟨t, m⟩ ∧ m ≠ .sh ∧ f t = some t' ∧ env' = env.set i (some ⟨t', m⟩) := by
  unfold upS at h
  split at h
  · rename_i t e
    obtain ⟨t', h1, h2⟩ := R.bind_ok h
    cases h2
    exact ⟨t, .own, t', e, (by decide), R.opt_ok h1, rfl⟩
  · rename_i t e
    obtain ⟨t', h1, h2⟩ := R.bind_ok h
    cases h2
    exact ⟨t, .io, t', e, (by decide), R.opt_ok h1, rfl⟩
  · cases h
theorem chkArgs_at {io : Option Nat} {es : List E} (h : chkArgs io es = true) : ∀ (k : Nat) (e : E), es[k]? = some e → isIo e = decide (io = some k) := by
  intro k e he
  unfold chkArgs at h
  cases io with
  | none =>
    have h := List.all_eq_true.mp h e (List.mem_of_getElem? he)
    simpa using h
  | some p =>
    simp only [Bool.and_eq_true] at h
    obtain ⟨⟨h1, h2⟩, h3⟩ := h
    by_cases q : k = p
    · subst q
      rw [he] at h1
      simpa using h1
    · have hd : decide (some p = some k) = false := decide_eq_false fun z => q (Option.some.inj z).symm
      rw [hd]
      by_cases l : k < p
      · have h := List.all_eq_true.mp h2 e (List.mem_of_getElem? (i := k) (by rw [List.getElem?_take_of_lt l]; exact he))
        simpa using h
      · have h := List.all_eq_true.mp h3 e (List.mem_of_getElem? (i := k - (p + 1)) (by rw [List.getElem?_drop]; rw [show p + 1 + (k - (p + 1)) = k by omega]; exact he))
        simpa using h
theorem chkArgs_pos {p : Nat} {es : List E} (h : chkArgs (some p) es = true) : ∃ e, es[p]? = some e := by
  unfold chkArgs at h
  simp only [Bool.and_eq_true] at h
  cases e : es[p]? with
  | none => rw [e] at h; cases h.1.1
  | some x => exact ⟨x, rfl⟩

theorem rd_fncall {f np : Nat} {io : Option Nat} {es : List E} {E0 : XK} (hn : es.length = np) (ha : chkArgs io es = true) : ∀ σ H Q, rdE c Φ Ψ (.call f es) σ H Q → tCall (spF c (Φ f) np io) [] E0 (rdA c Φ Ψ es) σ H Q := by
  intro σ H Q ⟨F, env, stk, ws, A, o, env', h, k⟩
  rw [ev] at h
  obtain ⟨⟨os, e1⟩, h1, ha2⟩ := R.bind_ok h
  clear h
  obtain ⟨ts, h2, h⟩ := R.bind_ok ha2
  clear ha2
  replace h2 := R.opt_ok h2
  refine ⟨F, env, stk, ws, A, os, e1, h1, fun vs H1 A1 ok => ?_⟩
  split at h
  case isFalse => cases h
  rename_i hargs
  split at h
  case h_2 => cases h
  rename_i t fr out hΦ
  obtain ⟨env2, h3, h4⟩ := R.bind_ok h
  cases h4
  clear h
  obtain ⟨hl1, hat⟩ := argsOk_at hargs
  have hlen := ok.length
  have hlt := vals_len h2
  rw [List.append_nil]
  obtain ⟨O, S, hrep⟩ := A1.fz A.hw hlen
  have hs := A1.hl
  have hw := A.hw
  -- the slots' own values
  have slot : ∀ (i : Nat) (sl : Sl) (v : V), getS e1 i = some sl → σ[i]? = some (some v) → Ent c F O H1 i sl v := fun i sl v q1 q2 => by
    have q1' := getS_some q1
    have hi : i < e1.length := (List.getElem?_eq_some_iff.mp q1').1
    obtain ⟨v', z1, z2⟩ := S.ent i sl (by rw [List.getElem?_append_left hi]; exact q1')
    rw [List.getElem?_append_left (by omega), q2] at z1
    cases z1
    exact z2
  have kp0 : Kp (F.av O) H1 H1 := fun a o e _ => e
  cases io with
  | none =>
    have allv : ∀ (k : Nat) (o : OV), os[k]? = some o → ∃ t fr, o = OV.v t fr := fun k o e => by
      have hk : k < es.length := by rw [← hl1]; exact (List.getElem?_eq_some_iff.mp e).1
      obtain ⟨o', q1, q2⟩ := hat k es[k] (List.getElem?_eq_getElem hk)
      rw [e] at q1
      cases q1
      rcases q2 with ⟨q, _⟩ | ⟨_, q⟩
      · have := chkArgs_at ha k es[k] (List.getElem?_eq_getElem hk)
        rw [q] at this; simp at this
      · exact q
    rw [ioO_none allv] at h3
    have no : ∀ a, ¬ioAt none vs a := fun a ⟨p, e, _⟩ => nomatch e
    cases out with
    | some x => cases h3
    | none =>
      cases h3
      refine ⟨by omega, F.av O, ts, t, fr, none, ⟨fun a q => ?_, by omega, fun a q => absurd q (no a), fun i t' e => ?_⟩, hΦ, fun v H' P => ?_⟩
      · rcases q with q | q
        · exact S.ad a q
        · exact S.od a q
      · obtain ⟨o, q1, q2⟩ := vals_at h2 e
        obtain ⟨t2, fr2, rfl⟩ := allv _ _ q1
        cases q2
        obtain ⟨v, q3, q4⟩ := hrep _ _ _ q1
        refine ⟨v, q3, ?_⟩
        rw [if_neg (fun z => nomatch z)]
        exact Rep.mono kp0 (fun a _ _ z => z.elim id fun z => absurd z (no a)) _ _ q4
      · have gr : Gr H1 H' := fun a o e => P.keep a o e (no a)
        refine k v H' (At.out S hs hw ⟨gr, ?_⟩) trivial
        have r := P.res
        cases fr with
        | false =>
          rw [if_neg Bool.false_ne_true] at r ⊢
          exact Rep.mono (fun a o e _ => e) (fun a _ _ z => .inl z) _ _ r
        | true =>
          rw [if_pos rfl] at r ⊢
          obtain ⟨p, r1, r2, r3⟩ := r
          exact ⟨p, r1, r2, CellOk.mono (fun a o e _ => e) (fun a _ _ z => z.imp .inl id) rfl r3⟩
  | some p =>
    obtain ⟨ep, hep⟩ := chkArgs_pos ha
    obtain ⟨op, q1, q2⟩ := hat p ep hep
    have hio := chkArgs_at ha p ep hep
    rw [decide_eq_true rfl] at hio
    obtain ⟨i, rfl⟩ : ∃ i, op = OV.s i := by
      rcases q2 with ⟨_, q⟩ | ⟨q, _⟩
      · exact q
      · rw [hio] at q; cases q
    have others : ∀ (k : Nat) (o : OV), k ≠ p → os[k]? = some o → ∃ t fr, o = OV.v t fr := fun k o ne e => by
      have hk : k < es.length := by rw [← hl1]; exact (List.getElem?_eq_some_iff.mp e).1
      obtain ⟨o', z1, z2⟩ := hat k es[k] (List.getElem?_eq_getElem hk)
      rw [e] at z1
      cases z1
      rcases z2 with ⟨z, _⟩ | ⟨_, z⟩
      · have := chkArgs_at ha k es[k] (List.getElem?_eq_getElem hk)
        rw [z, decide_eq_false (fun e => ne (Option.some.inj e).symm)] at this; cases this
      · exact z
    rw [ioO_some q1 others] at h3
    cases out with
    | none => cases h3
    | some t' =>
      obtain ⟨t0, m, t1, u1, u2, u3, rfl⟩ := upS_ok h3
      cases u3
      obtain ⟨v0, w1, w2⟩ := ok.get q1
      have w2 : σ[i]? = some (some v0) := w2
      have en := slot i _ v0 u1 w2
      obtain ⟨a, rfl, hOa, hcell⟩ : ∃ a, v0 = .ref a ∧ O a = some i ∧ CellOk c H1 (F.av O) t0 a := by
        cases m with
        | sh => exact absurd rfl u2
        | own => obtain ⟨a, z1, z2, z3, z5⟩ := en; exact ⟨a, z1, z2, z5⟩
        | io => obtain ⟨a, z1, z2, z3, z5⟩ := en; exact ⟨a, z1, z2, z5⟩
      have ioa : ∀ b, ioAt (some p) vs b ↔ b = a := fun b => ⟨fun ⟨p', e1, e2⟩ => by cases e1; rw [w1] at e2; cases e2; rfl, fun e => ⟨p, rfl, by rw [e]; exact w1⟩⟩
      have av_a : F.av O a := .inr (by rw [hOa]; rfl)
      have av1 : ∀ b, (F.av O b ∧ b ≠ a) ∨ ioAt (some p) vs b → F.av O b := fun b z => z.elim (·.1) fun z => by rw [(ioa b).mp z]; exact av_a
      have av2 : ∀ b, F.av O b → (F.av O b ∧ b ≠ a) ∨ ioAt (some p) vs b := fun b z => by
        by_cases e : b = a
        · exact .inr ((ioa b).mpr e)
        · exact .inl ⟨z, e⟩
      refine ⟨by omega, fun b => F.av O b ∧ b ≠ a, ts, t, fr, some t', ⟨fun b q => ?_, by omega, fun b q z => z.2 ((ioa b).mp q), fun j t2 e => ?_⟩, hΦ, fun v H' P => ?_⟩
      · rcases q.1 with q | q
        · exact S.ad b q
        · exact S.od b q
      · obtain ⟨o, q3, q4⟩ := vals_at h2 e
        by_cases ej : p = j
        · subst ej
          rw [q1] at q3
          cases q3
          have q4 : (getS e1 i).map (·.t) = some t2 := q4
          rw [u1] at q4
          cases q4
          refine ⟨.ref a, w1, ?_⟩
          rw [if_pos rfl]
          exact ⟨a, rfl, CellOk.mono kp0 (fun b _ _ z => av1 b z) rfl hcell⟩
        · obtain ⟨t3, fr3, rfl⟩ := others j o (Ne.symm ej) q3
          cases q4
          obtain ⟨v, q5, q6⟩ := hrep _ _ _ q3
          refine ⟨v, q5, ?_⟩
          rw [if_neg (fun z => ej (Option.some.inj z))]
          exact Rep.mono kp0 (fun b _ _ z => av1 b z) _ _ q6
      · -- behind the call
        obtain ⟨a', t'', z1, z2, z3⟩ := P.outs p rfl
        rw [w1] at z1
        cases z1
        cases z2
        obtain ⟨oa, hoa, moa⟩ := hcell.dom
        obtain ⟨oa', hoa', moa'⟩ := z3.dom
        classical
        let Hm : Hp := fun b => if b = a then H1 a else H' b
        have Hma : Hm a = H1 a := if_pos rfl
        have Hmn : ∀ {b}, b ≠ a → Hm b = H' b := fun h => if_neg h
        have gm : Gr H1 Hm := fun b o e => by
          by_cases q : b = a
          · subst q; rw [Hma]; exact e
          · rw [Hmn q]; exact P.keep b o e fun z => q ((ioa b).mp z)
        have km : ∀ {Av : Addr → Prop}, Av a → Kp Av H' Hm := fun {Av} ha b o e q => by
          by_cases z : b = a
          · subst z
            rw [hoa'] at e
            cases e
            exact (q.elim (fun w => absurd ha w) fun w => absurd moa' w)
          · rw [Hmn z]; exact e
        have om : Out c (F.av O) H1 fr t v Hm := by
          refine ⟨gm, ?_⟩
          have r := P.res
          cases fr with
          | false =>
            rw [if_neg Bool.false_ne_true] at r ⊢
            exact Rep.mono (km (.inr ((ioa a).mpr rfl))) (fun b _ _ z => av2 b z) _ _ r
          | true =>
            rw [if_pos rfl] at r ⊢
            obtain ⟨p', r1, r2, r3⟩ := r
            have hne : p' ≠ a := fun e => by rw [e, hoa] at r2; cases r2
            exact ⟨p', r1, r2, CellOk.mono (km (.inl (.inr ((ioa a).mpr rfl)))) (fun b _ _ z => z.imp (av2 b) id) (Hmn hne) r3⟩
        obtain ⟨O', hO', S'⟩ := S.pushO om
        have hi : i < e1.length := (List.getElem?_eq_some_iff.mp (getS_some u1)).1
        have S2 := S'.put (i := i) (t := t0) (t' := t') (m := m) (a := a) (H' := H') (by rw [List.append_assoc, List.getElem?_append_left hi]; exact getS_some u1) u2 (by rw [List.append_assoc, List.getElem?_append_left (by omega)]; exact w2)
          (fun b o ne e => by rw [Hmn ne] at e; exact e) (CellOk.mono (fun b o e _ => e) (fun b _ _ z => by
            rcases z with z | z
            · exact .inl (av2 b (.inl z))
            · rcases hO' b z with z | z
              · exact .inl (av2 b (.inr z))
              · exact .inr z) rfl z3)
        have S3 : SimO c F O' (e1.set i (some ⟨t', m⟩) ++ (stk ++ [(OV.v t fr).sl])) (σ ++ (ws ++ [some v])) H' := by
          have e1' : (e1 ++ stk ++ [some (⟨t, if fr = true then .own else .sh⟩ : Sl)]).set i (some ⟨t', m⟩) = e1.set i (some ⟨t', m⟩) ++ (stk ++ [(OV.v t fr).sl]) := by
            rw [List.append_assoc, List.set_append_left _ _ hi]; rfl
          rw [e1', List.append_assoc] at S2
          exact S2
        exact k v H' ⟨by simpa using hs, by simp [hw], O', S3⟩ trivial
end
end DD
/-! DStm: stores, targets, blocks. -/
namespace DD
variable [Mode]
open PySem L2
section
variable {c : Cn} {W : Nat} {D : Nat → Option Df} {Γ : Gm} {n : Nat} {X : Cx} {F : Fr} {env stk : En} {σ : St} {ws : List (Option V)} {H : Hp} {Φ Ψ : Nat → Fn}

/-- the top of the stack goes to slot i -/
theorem At.store {t : T} {m : Md} {v : V} (A : At c F env (stk ++ [some ⟨t, m⟩]) σ (ws ++ [some v]) H) {i : Nat} (hm : m ≠ .io) (hi : i < env.length) : At c F (env.set i (some ⟨t, m⟩)) stk (σ.set i (some v)) ws H := by
  have hl := A.hl
  have hw : stk.length = ws.length := by have := A.hw; simpa using this
  obtain ⟨O, S⟩ := A.sim
  refine ⟨by simpa using hl, hw, S.re (by simp [hl, hw]) (fun j => if j = i then env.length + stk.length else j) fun j sl hj => ?_⟩
  have top : (env ++ (stk ++ [some (⟨t, m⟩ : Sl)]))[env.length + stk.length]? = some (some ⟨t, m⟩) := by
    rw [← List.append_assoc, List.getElem?_append_right (by simp)]; simp
  have topv : (σ ++ (ws ++ [some v]))[env.length + stk.length]? = some (some v) := by
    rw [← List.append_assoc, List.getElem?_append_right (by simp; omega)]
    have : env.length + stk.length - (σ ++ ws).length = 0 := by simp; omega
    rw [this]; rfl
  have cases_ : ∀ (j : Nat) (sl : Sl), (env.set i (some ⟨t, m⟩) ++ stk)[j]? = some (some sl) → j < env.length + stk.length ∧ ((j = i ∧ sl = ⟨t, m⟩) ∨ (j ≠ i ∧ (env ++ stk)[j]? = some (some sl))) := by
    intro j sl hj
    have hlt : j < (env.set i (some (⟨t, m⟩ : Sl)) ++ stk).length := (List.getElem?_eq_some_iff.mp hj).1
    refine ⟨by simpa using hlt, ?_⟩
    by_cases a : j < env.length
    · rw [List.getElem?_append_left (by simpa using a)] at hj
      rcases set_at hj with ⟨e1, e2⟩ | ⟨e1, e2⟩
      · exact .inl ⟨e1, Option.some.inj e2⟩
      · exact .inr ⟨e1, by rw [List.getElem?_append_left a]; exact e2⟩
    · rw [List.getElem?_append_right (by simp; omega)] at hj
      simp only [List.length_set] at hj
      exact .inr ⟨by omega, by rw [List.getElem?_append_right (by omega)]; exact hj⟩
  obtain ⟨hlt, hc⟩ := cases_ j sl hj
  have other : ∀ j, j ≠ i → j < env.length + stk.length → (σ.set i (some v) ++ ws)[j]? = (σ ++ (ws ++ [some v]))[j]? := fun j ne lt => by
    by_cases a : j < σ.length
    · rw [List.getElem?_append_left (by simpa using a), List.getElem?_set_ne (Ne.symm ne), List.getElem?_append_left a]
    · rw [List.getElem?_append_right (by simp; omega), List.getElem?_append_right (by omega), List.length_set, List.getElem?_append_left (by omega)]
  rcases hc with ⟨rfl, rfl⟩ | ⟨ne, he⟩
  · rw [if_pos rfl]
    refine ⟨m, top, ?_, .inl rfl, fun e => absurd e hm, fun _ _ j' sl' hj' hf => ?_, fun a b => absurd b a⟩
    · rw [topv, List.getElem?_append_left (by simp; omega), List.getElem?_set_self (by omega)]
    · by_cases e : j' = j
      · exact e
      · rw [if_neg e] at hf
        have := (cases_ j' sl' hj').1
        omega
  · rw [if_neg ne]
    refine ⟨sl.m, ?_, other j ne hlt, .inl rfl, fun _ => rfl, fun _ _ j' sl' hj' hf => ?_, fun a b => absurd b a⟩
    · rw [← List.append_assoc, List.getElem?_append_left (by simpa using hlt)]; exact he
    · by_cases e : j' = i
      · rw [if_pos e] at hf; omega
      · rw [if_neg e] at hf; exact hf

/-! ### targets -/
def shE (t : T) : Option Sl := some ⟨t, .sh⟩
/-- alike but at some slots -/
def Agr (l : List Nat) (σ σ' : St) : Prop := σ'.length = σ.length ∧ ∀ j, j ∉ l → σ'[j]? = σ[j]?
/-- what a walk hands out: a value, or a pair that the pattern takes apart -/
def RepP (c : Cn) (H : Hp) (Av : Addr → Prop) (g : P) (t : T) (x : V) : Prop := Rep c H Av t x ∨ ∃ ps ts a vs, g = .t ps ∧ t = .tup ts ∧ x = .ref a ∧ TpW H a vs ∧ RepL c H Av ts vs
/-- what is stored stands on the stack; a pair that is destructured at once: its items do -/
def AtP (c : Cn) (F : Fr) (env stk : En) (σ : St) (ws : List (Option V)) (H : Hp) (p : P) (t : T) (v : V) : Prop := At c F env (stk ++ [shE t]) σ (ws ++ [some v]) H ∨
  ∃ ps ts a vs, p = .t ps ∧ t = .tup ts ∧ v = .ref a ∧ TpW H a vs ∧ vs.length = ts.length ∧ stk.length = ws.length ∧ At c F env (stk ++ (ts.map shE).reverse) σ (ws ++ (vs.map some).reverse) H
def rdG (c : Cn) (p : P) : TG := fun v σ H Q => ∃ F env stk ws t env', AtP c F env stk σ ws H p t v ∧ asgP p t env = .ok env' ∧ ∀ σ' H', At c F env' stk σ' ws H' → Agr (slotsP p) σ σ' → Q σ' H'
def rdGs (c : Cn) (ps : List P) : TGs := fun vs σ H Q => ∃ F env stk ws ts env', At c F env (stk ++ (ts.map shE).reverse) σ (ws ++ (vs.map some).reverse) H ∧ stk.length = ws.length ∧ ps.length = ts.length ∧
  asgPs ps ts env = .ok env' ∧ ∀ σ' H', At c F env' stk σ' ws H' → Agr (slotsPs ps) σ σ' → Q σ' H'
theorem setS_ok {i : Nat} {t : T} {fr : Bool} {env' : En} (h : setS env i t fr = .ok env') : i < env.length ∧ env' = env.set i (some ⟨t, if fr then .own else .sh⟩) := by
  unfold setS at h
  split at h
  · cases h
  · rename_i e
    cases h
    exact ⟨(List.getElem?_eq_some_iff.mp e).1, rfl⟩
  · cases h
theorem PG.wk {e : Expr} {t t' : TG} (h : PG X e t) (k : ∀ v σ H Q, t' v σ H Q → t v σ H Q) : PG X e t' := ⟨fun pins s σ H v u Q I r q => h.run pins s σ H v u Q I r (k v σ H Q q)⟩
theorem PGs.wk {es : List Expr} {t t' : TGs} (h : PGs X es t) (k : ∀ v σ H Q, t' v σ H Q → t v σ H Q) : PGs X es t' := ⟨fun pins s σ H v u Q I r q => h.run pins s σ H v u Q I r (k v σ H Q q)⟩
theorem rd_gName {i : Nat} : ∀ v σ H Q, rdG c (.s i) v σ H Q → gName i v σ H Q := by
  intro v σ H Q ⟨F, env, stk, ws, t, env', A, h, k⟩
  rcases A with A | ⟨ps, _, _, _, e, _⟩
  case inr => cases e
  rw [asgP] at h
  obtain ⟨hi, rfl⟩ := setS_ok h
  refine k _ _ (A.store (fun z => nomatch z) hi) ⟨by simp, fun j hj => ?_⟩
  rw [List.getElem?_set_ne]
  intro e
  exact hj (by rw [slotsP, e]; exact List.mem_singleton.mpr rfl)
theorem rd_gNil : ∀ v σ H Q, rdGs c [] v σ H Q → gNil v σ H Q := by
  intro vs σ H Q ⟨F, env, stk, ws, ts, env', A, h1, h2, h4, k⟩
  have e : ts = [] := List.eq_nil_of_length_eq_zero (by simpa using h2.symm)
  subst e
  simp only [asgPs] at h4
  cases h4
  have hl := A.hw
  simp only [List.length_append, List.length_reverse, List.length_map, List.length_nil] at hl
  have ev : vs = [] := List.eq_nil_of_length_eq_zero (by omega)
  subst ev
  refine ⟨rfl, k _ _ ?_ ⟨rfl, fun _ _ => rfl⟩⟩
  simpa using A
theorem rd_gCons {p : P} {ps : List P} : ∀ v σ H Q, rdGs c (p :: ps) v σ H Q → gCons (rdG c p) (rdGs c ps) v σ H Q := by
  intro vs σ H Q ⟨F, env, stk, ws, ts, env', A, h1, h2, h4, k⟩
  cases ts with
  | nil => cases h2
  | cons t ts =>
    have hl := A.hw
    simp only [List.length_append, List.length_reverse, List.length_map, List.length_cons] at hl
    cases vs with
    | nil => simp only [List.length_nil] at hl; omega
    | cons v vs =>
      simp only [asgPs] at h4
      obtain ⟨e1, h5, h6⟩ := R.bind_ok h4
      simp only [List.map_cons, List.reverse_cons] at A
      rw [← List.append_assoc, ← List.append_assoc] at A
      refine ⟨v, vs, rfl, F, env, _, _, t, e1, .inl A, h5, fun σ1 H1 A1 g1 => ?_⟩
      refine ⟨F, e1, stk, ws, ts, env', A1, h1, by simpa using h2, h6, fun σ2 H2 A2 g2 => k σ2 H2 A2 ⟨g2.1.trans g1.1, fun j hj => ?_⟩⟩
      rw [slotsPs, List.mem_append] at hj
      exact (g2.2 j fun z => hj (.inr z)).trans (g1.2 j fun z => hj (.inl z))
/-- items put on the stack -/
theorem SimO.push_items {O : Addr → Option Nat} {H : Hp} : ∀ {ts : List T} {vs : List V} {es : En} {ws : List (Option V)}, SimO c F O es ws H → RepL c H (F.av O) ts vs → SimO c F O (es ++ (ts.map shE).reverse) (ws ++ (vs.map some).reverse) H
  | [], vs, es, ws, S, r => by
    have := r.inv_nil
    subst this
    simpa using S
  | t :: ts, vs, es, ws, S, r => by
    obtain ⟨v, r', rfl, h1, h2⟩ := r.inv
    have := (SimO.push_items S h2).push_sh h1
    simp only [List.map_cons, List.reverse_cons]
    rw [← List.append_assoc, ← List.append_assoc]
    exact this
/-- the top of the stack is a tuple -/
theorem rd_gTup {K : PySem.W.Frag} {ps : List P} {len : Nat} (hlen : len = ps.length) : ∀ v σ H Q, rdG c (.t ps) v σ H Q → gTup K len (rdGs c ps) v σ H Q := by
  intro v σ H Q ⟨F, env, stk, ws, t, env', A, h, k⟩
  subst hlen
  cases t <;> simp only [asgP] at h <;> try (cases h; done)
  rename_i ts
  split at h
  case isFalse => cases h
  rename_i hl
  have hl : ps.length = ts.length := by simpa using hl
  rcases A with A | ⟨ps', ts', a, vs, e1, e2, rfl, ha, hv, hw, A⟩
  case inr =>
    cases e1
    cases e2
    exact ⟨a, vs, rfl, ha.sq, by rw [hv, hl], F, env, stk, ws, ts, env', A, hw, hl, h, k⟩
  have hw : stk.length = ws.length := by have := A.hw; simpa using this
  have hs := A.hl
  obtain ⟨O, S, rt⟩ := At.ops (os := [.v (.tup ts) false]) (vs := [v]) (ts := [.tup ts]) A hw (.cons trivial .nil) rfl
  cases rt with
  | cons p _ =>
    obtain ⟨a, vs, rfl, ha, hr⟩ := p.tup
    refine ⟨a, vs, rfl, ha.sq, by rw [← hr.length, hl], F, env, stk, ws, ts, env', ⟨hs, ?_, O, ?_⟩, hw, hl, h, k⟩
    · simp [hw, hr.length]
    · rw [← List.append_assoc, ← List.append_assoc]
      exact S.push_items hr

theorem chkP_tup {Γ : Gm} {p : P} {tg : Expr} (h : chkP Γ p tg = true) (ht : isTupE tg = true) : ∃ ps, p = .t ps := by
  cases p with
  | t ps => exact ⟨ps, rfl⟩
  | s i =>
    rw [chkP.eq_def] at h; dsimp only at h
    split at h
    · cases ht
    · cases h
theorem assign_cons {x : Expr} {xs : List Expr} {env : Env} (h : noStar x = true) : assignEach (x :: xs) env = (false, assign x env) :: assignEach xs env := by
  cases x <;> first | rfl | cases h
theorem assign_len {env : Env} : ∀ {xs : List Expr}, xs.all noStar = true → (assignEach xs env).length = xs.length
  | [], _ => rfl
  | x :: xs, h => by
    rw [List.all_cons, Bool.and_eq_true] at h
    rw [assign_cons h.1, List.length_cons, assign_len h.2, List.length_cons]
theorem assign_find {env : Env} : ∀ {xs : List Expr}, xs.all noStar = true → (assignEach xs env).findIdx? (·.1) = none
  | [], _ => rfl
  | x :: xs, h => by
    rw [List.all_cons, Bool.and_eq_true] at h
    rw [assign_cons h.1, List.findIdx?_cons, assign_find h.2]
    rfl
theorem chkPs_star : ∀ {ps : List P} {xs : List Expr}, chkPs Γ ps xs = true → xs.all noStar = true ∧ xs.length = ps.length
  | [], [], _ => ⟨rfl, rfl⟩
  | [], x :: xs, h => by rw [chkPs] at h; cases h
  | e :: es, [], h => by rw [chkPs] at h; cases h
  | e :: es, x :: xs, h => by
    rw [chkPs, Bool.and_eq_true, Bool.and_eq_true] at h
    obtain ⟨h1, h2⟩ := chkPs_star h.2
    rw [List.all_cons, h.1.1, h1]
    exact ⟨rfl, by simp [h2]⟩
mutual
theorem sndP (g : Good c W D Γ n X) : ∀ (p : P) (x : Expr), chkP Γ p x = true → PG X x (rdG c p)
  | .s i, x, h => by
    rw [chkP.eq_def] at h; dsimp only at h
    split at h
    · rw [Bool.and_eq_true] at h
      have q := g.fn _ h.2
      refine PG.wk (pg_name g.nd ?_ q.1 q.2) rd_gName
      rw [g.N]
      exact of_decide_eq_true h.1
    · cases h
  | .t ps, x, h => by
    rw [chkP.eq_def] at h; dsimp only at h
    split at h
    · obtain ⟨h1, h2⟩ := chkPs_star h
      exact PG.wk (pg_tup g.calm (sndPs g ps _ h) (assign_len h1) (assign_find h1)) (rd_gTup h2)
    · cases h
theorem sndPs (g : Good c W D Γ n X) : ∀ (ps : List P) (xs : List Expr), chkPs Γ ps xs = true → PGs X xs (rdGs c ps)
  | [], [], h => PGs.wk pgs_nil rd_gNil
  | [], x :: xs, h => by rw [chkPs] at h; cases h
  | e :: es, [], h => by rw [chkPs] at h; cases h
  | e :: es, x :: xs, h => by
    rw [chkPs, Bool.and_eq_true, Bool.and_eq_true] at h
    exact PGs.wk (pgs_cons (sndP g e x h.1.2) (sndPs g es xs h.2) (by rw [assign_cons h.1.1]; rfl)) rd_gCons
end
end
end DD
/-! DMut: what is written to slots; pop. -/
namespace DD
variable [Mode]
open PySem L2
section
variable {c : Cn} {W : Nat} {D : Nat → Option Df} {Γ : Gm} {n : Nat} {X : Cx} {F : Fr} {env stk : En} {σ : St} {ws : List (Option V)} {H : Hp} {Φ Ψ : Nat → Fn}
/-- an owned or lent slot -/
theorem At.cell (A : At c F env stk σ ws H) {i : Nat} {t : T} {m : Md} (hi : getS env i = some ⟨t, m⟩) (hm : m ≠ .sh) : ∃ a O, σ[i]? = some (some (.ref a)) ∧ O a = some i ∧ SimO c F O (env ++ stk) (σ ++ ws) H ∧ CellOk c H (F.av O) t a := by
  obtain ⟨O, S⟩ := A.sim
  have h1 := getS_some hi
  have hl : i < env.length := (List.getElem?_eq_some_iff.mp h1).1
  obtain ⟨v, q1, q2⟩ := S.ent i _ (by rw [List.getElem?_append_left hl]; exact h1)
  rw [List.getElem?_append_left (by rw [← A.hl]; exact hl)] at q1
  cases m with
  | sh => exact absurd rfl hm
  | own => obtain ⟨a, rfl, z2, z3, z5⟩ := q2; exact ⟨a, O, q1, z2, S, z5⟩
  | io => obtain ⟨a, rfl, z2, z3, z5⟩ := q2; exact ⟨a, O, q1, z2, S, z5⟩
/-- a cell is written: what stood elsewhere stands -/
theorem SimO.mut {O : Addr → Option Nat} (S : SimO c F O (env ++ stk) (σ ++ ws) H) (hl : env.length = σ.length) (hw : stk.length = ws.length) {i : Nat} {t t' : T} {m : Md} {a : Addr} {o ob : HO} (hi : getS env i = some ⟨t, m⟩) (hm : m ≠ .sh) (hv : σ[i]? = some (some (.ref a))) (hO : O a = some i) (hH : H a = some o) (mo : MutO o)
    (k : Kp (F.av O) H (upd H a ob) → CellOk c (upd H a ob) (F.av O) t' a) : SimO c F O (env.set i (some ⟨t', m⟩) ++ stk) (σ ++ ws) (upd H a ob) := by
  have h1 := getS_some hi
  have hil : i < env.length := (List.getElem?_eq_some_iff.mp h1).1
  have kp : Kp (F.av O) H (upd H a ob) := fun b u e q => by
    by_cases z : b = a
    · subst z
      rcases q with q | q
      · exact absurd (.inr (by rw [hO]; rfl)) q
      · rw [hH] at e; cases e; exact absurd mo q
    · rw [upd_ne z]; exact e
  have := S.put (i := i) (t := t) (t' := t') (m := m) (a := a) (by rw [List.getElem?_append_left hil]; exact h1) hm (by rw [List.getElem?_append_left (by omega)]; exact hv) (H' := upd H a ob) (fun b u n e => by rw [upd_ne n]; exact e) (k kp)
  rw [List.set_append_left _ _ hil] at this
  exact this
theorem At.mut {O : Addr → Option Nat} (S : SimO c F O (env ++ stk) (σ ++ ws) H) (hl : env.length = σ.length) (hw : stk.length = ws.length) {i : Nat} {t t' : T} {m : Md} {a : Addr} {o ob : HO} (hi : getS env i = some ⟨t, m⟩) (hm : m ≠ .sh) (hv : σ[i]? = some (some (.ref a))) (hO : O a = some i) (hH : H a = some o) (mo : MutO o)
    (k : Kp (F.av O) H (upd H a ob) → CellOk c (upd H a ob) (F.av O) t' a) : At c F (env.set i (some ⟨t', m⟩)) stk σ ws (upd H a ob) := ⟨by simpa using hl, hw, O, S.mut hl hw hi hm hv hO hH mo k⟩
theorem RepL.kp {H' : Hp} {Av : Addr → Prop} (k : Kp Av H H') {ts : List T} {vs : List V} (r : RepL c H Av ts vs) : RepL c H' Av ts vs := RepL.mono k (fun _ _ _ z => z) _ _ r
theorem Rep.kp {H' : Hp} {Av : Addr → Prop} (k : Kp Av H H') {t : T} {v : V} (r : Rep c H Av t v) : Rep c H' Av t v := Rep.mono k (fun _ _ _ z => z) _ _ r

theorem At.isList (A : At c F env stk σ ws H) {i : Nat} {xs : List T} {m : Md} (h : getS env i = some ⟨.lst xs, m⟩) : ∃ v, σ[i]? = some (some v) ∧ ∃ a vs, v = .ref a ∧ H a = some (.lst vs) := by
  obtain ⟨O, S⟩ := A.sim
  have h1 := getS_some h
  have hi : i < env.length := (List.getElem?_eq_some_iff.mp h1).1
  obtain ⟨v, q1, q2⟩ := S.ent i _ (by rw [List.getElem?_append_left hi]; exact h1)
  rw [List.getElem?_append_left (by rw [← A.hl]; exact hi)] at q1
  obtain ⟨a, vs, rfl, hH, _⟩ := q2.repT.lst
  exact ⟨_, q1, a, vs, rfl, hH⟩
/-- an item is taken out of slot i's list -/
theorem At.takeOut (A : At c F env stk σ ws H) {i j : Nat} {xs ys : List T} {m : Md} {t : T} (hi : getS env i = some ⟨.lst xs, m⟩) (hm : m ≠ .sh) (hj : xs[j]? = some t) (f : ∀ {α : Type}, List α → List α) (hy : ys = f xs) (hf : ∀ {H : Hp} {Av : Addr → Prop} {vs : List V}, RepL c H Av xs vs → RepL c H Av (f xs) (f vs)) :
    ∃ a vs y, σ[i]? = some (some (.ref a)) ∧ H a = some (.lst vs) ∧ vs.length = xs.length ∧ vs[j]? = some y ∧ At c F (env.set i (some ⟨.lst ys, m⟩)) (stk ++ [shE t]) σ (ws ++ [some y]) (upd H a (.lst (f vs))) := by
  obtain ⟨a, O, h1, h2, S, vs, hH, hr⟩ := A.cell hi hm
  obtain ⟨y, hy1, hy2⟩ := hr.get hj
  subst hy
  have S1 : SimO c F O (env.set i (some ⟨.lst (f xs), m⟩) ++ stk) (σ ++ ws) (upd H a (.lst (f vs))) := S.mut A.hl A.hw hi hm h1 h2 hH trivial fun kp => ⟨_, upd_same, hf (hr.kp kp)⟩
  have kp : Kp (F.av O) H (upd H a (.lst (f vs))) := fun b u e q => by
    by_cases z : b = a
    · subst z
      rcases q with q | q
      · exact absurd (.inr (by rw [h2]; rfl)) q
      · rw [hH] at e; cases e; exact absurd trivial q
    · rw [upd_ne z]; exact e
  refine ⟨a, vs, y, h1, hH, hr.length.symm, hy1, by simpa using A.hl, by simp [A.hw], O, ?_⟩
  have := S1.push_sh (hy2.kp kp)
  rw [List.append_assoc, List.append_assoc] at this
  exact this
theorem rd_pop {i : Nat} : ∀ σ H Q, rdE c Φ Ψ (.pop i) σ H Q → tBM0 X.K "list" rPop (tVar i) σ H Q := by
  intro σ H Q ⟨F, env, stk, ws, A, o, env', h, k⟩
  rw [ev] at h
  split at h
  · rename_i xs m hi
    obtain ⟨t, h1, h⟩ := R.bind_ok h
    obtain ⟨e2, h2, h⟩ := R.bind_ok h
    cases h
    have h1 := R.opt_ok h1
    obtain ⟨t0, m0, t1, u1, u2, u3, rfl⟩ := upS_ok h2
    rw [hi] at u1
    cases u1
    cases u3
    obtain ⟨a, vs, y, w1, w2, w3, w4, A1⟩ := At.takeOut A hi u2 h1 (fun l => l.dropLast) rfl fun r => r.dropLast
    exact ⟨_, w1, .inl ⟨rfl, vs, SqL.of w2⟩, a, vs, y, rfl, rfl, w2, by rw [w3]; exact w4, k _ _ A1 trivial⟩
  · cases h
theorem rd_popAt {i : Nat} {e : E} : ∀ σ H Q, rdE c Φ Ψ (.popAt i e) σ H Q → tBM X.K "list" rPopAt (tVar i) (tCons (rdE c Φ Ψ e) tNil) σ H Q := by
  intro σ H Q ⟨F, env, stk, ws, A, o, env', h, k⟩
  rw [ev] at h
  split at h
  · rename_i xs0 m0 hi0
    obtain ⟨v0, hv0, a0, vs0, rfl, hH0⟩ := A.isList hi0
    obtain ⟨⟨o1, e1⟩, h1, h⟩ := R.bind_ok h
    dsimp only at h
    split at h
    · rename_i kk fr xs m hi
      split at h
      · rename_i hz
        obtain ⟨j, h2, h⟩ := R.bind_ok h
        obtain ⟨t, h3, h⟩ := R.bind_ok h
        obtain ⟨e2, h4, h⟩ := R.bind_ok h
        cases h
        have h2 := R.opt_ok h2
        have h3 := R.opt_ok h3
        obtain ⟨t0, m1, t1, u1, u2, u3, rfl⟩ := upS_ok h4
        rw [hi] at u1
        cases u1
        cases u3
        refine ⟨_, hv0, .inl ⟨rfl, vs0, SqL.of hH0⟩, F, env, stk, ws, A, _, e1, h1, fun v H1 A1 _ => ?_⟩
        obtain ⟨O, S, rt⟩ := At.ops (os := [.v (.int kk) fr]) (vs := [v]) (ts := [.int kk]) A1 A.hw (.cons trivial .nil) rfl
        have A2 := A1.drop A.hw
        cases rt with
        | cons p _ =>
          obtain ⟨a, vs, y, w1, w2, w3, w4, A3⟩ := At.takeOut A2 hi u2 h3 (fun l => l.eraseIdx j) rfl fun r => r.eraseIdx j
          rw [hv0] at w1
          cases w1
          unfold small63 at hz
          rw [Bool.and_eq_true, decide_eq_true_eq, decide_eq_true_eq] at hz
          exact ⟨_, vs, kk, j, y, rfl, by rw [p.int], w2, hz.1, hz.2, (ixN_seq (by rw [w3]; exact h2)).1, w4, k _ _ A3 trivial⟩
      · cases h
    · cases h
  · cases h
end
end DD
/-! DLk: a dict that is walked is locked. -/
namespace L2
open PySem PyProof.Rows
section
variable {X : Cx}
def NoFrz (X : Cx) (d : Addr) : Prop := ∀ o' u', X.H_0 d ≠ some (.frz o' u')
/-- the value is locked where it stands -/
def tLk (X : Cx) (t : TE) : TE := fun σ H Q => t σ H fun x H1 => ∃ d u, x = .ref d ∧ H1 d = some u ∧ Mut (some u) ∧ ∀ od, NoFrz X d → Q x (upd H1 d (.frz od u))
theorem pe_lk {e : Expr} {t : TE} (h : PE X e t) : PE X e (tLk X t) := ⟨fun pins s σ H Q I hw =>
  thn (h.run pins s σ H _ I hw) fun v s1 ⟨x, H1, I1, r, d, u, ex, hd, mu, q⟩ =>
    let ⟨od, I2⟩ := I1.lock hd mu
    ⟨x, _, I2, r, q od (I1.nofrz hd mu)⟩⟩
/-- an end, perhaps after an unlocking -/
def Unl (nf : Addr → Prop) (P : Hp → Prop) (H : Hp) : Prop := P H ∨ ∃ d od u, H d = some (.frz od u) ∧ nf d ∧ P (upd H d u)
theorem Unl.mono {nf : Addr → Prop} {P P' : Hp → Prop} {H : Hp} (u : Unl nf P H) (k : ∀ H, P H → P' H) : Unl nf P' H := u.imp (k H) fun ⟨d, od, u, a, b, c⟩ => ⟨d, od, u, a, b, k _ c⟩
theorem Unl.inv {P : Hp → Prop} {pins : List (Addr × Obj)} {σ : St} {H : Hp} {s : Shared} (u : Unl (NoFrz X) P H) (I : Inv X pins σ H s) : ∃ H', Inv X pins σ H' s ∧ P H' := by
  rcases u with u | ⟨d, od, u, e, n, p⟩
  · exact ⟨H, I, u⟩
  · exact ⟨_, I.unlock e n, p⟩
theorem pe_unl {e : Expr} {t : TE} (h : PE X e t) : PE X e (fun σ H Q => t σ H fun v H' => Unl (NoFrz X) (Q v) H') := ⟨fun pins s σ H Q I hw =>
  thn (h.run pins s σ H _ I hw) fun v s1 ⟨x, H1, I1, r, q⟩ => let ⟨H2, I2, q2⟩ := q.inv I1; ⟨x, H2, I2, r, q2⟩⟩
def Ends.unl (nf : Addr → Prop) (D : Ends) : Ends := ⟨fun σ' H' => Unl nf (D.nx σ') H', fun v H' => Unl nf (D.rt v) H', fun σ' H' => Unl nf (D.bk σ') H', fun σ' H' => Unl nf (D.ct σ') H'⟩
theorem ps_unl {st : Stmt} {t : TS} (h : PS X st t) : PS X st (fun D σ H => t (D.unl (NoFrz X)) σ H) := by
  refine ⟨fun pins s σ H D I hw => thn (h.run pins s σ H _ I hw) fun f s1 q => ?_⟩
  cases f with
  | next => obtain ⟨σ', H', I2, q⟩ := q; obtain ⟨H2, I3, q⟩ := q.inv I2; exact ⟨σ', H2, I3, q⟩
  | brk => obtain ⟨σ', H', I2, q⟩ := q; obtain ⟨H2, I3, q⟩ := q.inv I2; exact ⟨σ', H2, I3, q⟩
  | cont => obtain ⟨σ', H', I2, q⟩ := q; obtain ⟨H2, I3, q⟩ := q.inv I2; exact ⟨σ', H2, I3, q⟩
  | ret u => obtain ⟨v, σ', H', I2, r, q⟩ := q; obtain ⟨H2, I3, q⟩ := q.inv I2; exact ⟨v, σ', H2, I3, r, q⟩
end
/-- the entries of a locked dict with tuple keys -/
theorem Inv.frzN {X : Cx} {pins : List (Addr × Obj)} {σ : St} {H : Hp} {s : Shared} {d : Addr} {o : Obj} {xs : List KEnt} (I : Inv X pins σ H s) (h : H d = some (.frz o (dN X.prog X.w d xs))) :
    (d == sysModules) = false ∧ s.heap.get? d = some o ∧ o.ExactDict ∧ ∃ (es : Array DictEntry) (ep : Nat), o.data = .dict es ep ∧ es.size = xs.length ∧
      ∀ (i : Nat) (k : NestedKey) (q : Addr) (v : V), xs[i]? = some (k, q, v) → ∃ en : DictEntry, es[i]? = some en ∧ en.key = .ref q ∧ RelV v en.val := by
  obtain ⟨hd, ⟨z, hs, ys, pr, o', es, ep, ho, hx, hdt, he, _⟩, _⟩ := (show ObjOk X.prog X.w H s.heap d (.frz o (dN X.prog X.w d xs)) from I.hok d _ h)
  rw [hd] at ho
  cases ho
  have l2 : xs.length = ys.length := Paired.length pr
  refine ⟨hs, hd, hx, es, ep, hdt, (size_of_entries he).trans l2.symm, fun i k q v e => ?_⟩
  obtain ⟨b, hb, e1, e2, e3⟩ := paired_get pr e
  have r := entry_at he i
  rw [hb] at r
  exact ⟨_, r, by rw [show entryOfKey (nestedKind X.prog X.w) b = ⟨_, .ref b.2.1, b.2.2⟩ from rfl]; rw [← e2], e3⟩
/-- the pairs of a dict with tuple keys -/
def ItiN (P : Program) (w : World) (d : Addr) (o : Obj) (xs : List KEnt) : It :=
  ⟨fun i H => H d = some (.frz o (dN P w d xs)) ∧ i < xs.length, fun i H x H' => ∃ T k q v, xs[i]? = some (k, q, v) ∧ x = .ref T ∧ H T = none ∧ H' = upd H T (.tup [.ref q, v]), fun i H => H d = some (.frz o (dN P w d xs)) ∧ xs.length ≤ i⟩
/-- its keys -/
def ItkN (P : Program) (w : World) (d : Addr) (o : Obj) (xs : List KEnt) : It :=
  ⟨fun i H => H d = some (.frz o (dN P w d xs)) ∧ i < xs.length, fun i H x H' => H' = H ∧ ∃ k q v, xs[i]? = some (k, q, v) ∧ x = .ref q, fun i H => H d = some (.frz o (dN P w d xs)) ∧ xs.length ≤ i⟩
theorem turn_keysN {P : Program} {w : World} {K : PySem.W.Frag} {tg : Expr} {d : Addr} {o : Obj} {es : Array DictEntry} {ep : Nat} {xs : List KEnt} (it : Addr) (hod : o.data = .dict es ep) : Turn P w K tg (ItkN P w d o xs) [it] it (fun i h => h.IsKeyIter it d i xs.length ep) where
  mem := by simp
  obj := fun i h st b hb => by
    have e : b = it := by simpa using hb
    subst e
    obtain ⟨oi, e, c, dd⟩ := st
    exact ⟨oi, e, fun v z => by rw [dd] at z; cases z⟩
  keep := fun i h h' st k => st.at fun oi e => k it (by simp) oi e
  item := by
    intro X hP hw hK hc i pins s σ H E I hf st hg
    subst hP hw hK
    obtain ⟨hd, hi⟩ := hg
    obtain ⟨f0, f1, f2, f3, f4, f5⟩ := hf it (by simp)
    obtain ⟨hs, hgd, hx, es', ep', hdt, hsz, ent⟩ := I.frzN hd
    obtain ⟨rfl, rfl⟩ := dict_ep hod hdt
    obtain ⟨⟨k, q, v⟩, hkv⟩ : ∃ p, xs[i]? = some p := ⟨xs[i], List.getElem?_eq_getElem hi⟩
    obtain ⟨en, hen, hkey, hv⟩ := ent i k q v hkv
    refine next_key_item st hgd hdt hsz hen fun h' st' sb => ?_
    have I1 : Inv X pins σ H { s with heap := h' } := I.turned (t' := s.toks) (fun b ob hb e => (sb.2 b hb).trans e) f0 f1 f3 f4 f5
    obtain ⟨oi, e, c, dd⟩ := id st'
    refine ⟨en.key, rfl, go_of (s := { s with heap := h' }) e c dd (by decide) ⟨.ref q, H, I1, by rw [hkey]; rfl, ⟨rfl, k, q, v, hkv, rfl⟩, ?_, fun b hb => (hf b hb).1⟩⟩
    show h'.IsKeyIter it d (i + 1) xs.length _
    exact st'
  done := by
    intro X hP hw hK hc i pins s σ H E I hf st hg
    subst hP hw hK
    obtain ⟨hd, hi⟩ := hg
    obtain ⟨f0, f1, f2, f3, f4, f5⟩ := hf it (by simp)
    obtain ⟨hs, hgd, hx, es', ep', hdt, hsz, ent⟩ := I.frzN hd
    obtain ⟨rfl, rfl⟩ := dict_ep hod hdt
    exact next_key_end (I.ok.hd hc) st hgd hdt hsz hi fun h' eb => ⟨rfl, I.turned (t' := s.toks) (fun b ob hb e => eb b ob hb e) f0 f1 f3 f4 f5⟩
  self := fun A i s Q E st h => wpAny_pyIter_keyiter st h
theorem turn_itemsN {P : Program} {w : World} {K : PySem.W.Frag} {d : Addr} {o : Obj} {es : Array DictEntry} {ep : Nat} {xs : List KEnt} {elts : List Expr} {kk : Nat} {tpos : Pos} (it : Addr) (hod : o.data = .dict es ep) :
    Turn P w K (.Tuple elts kk tpos) (ItiN P w d o xs) [it] it (fun i h => ∃ ok ov, IsItemIter h it d i xs.length ep ok ov) where
  mem := by simp
  obj := fun i h st b hb => by
    have e : b = it := List.mem_singleton.mp hb
    rw [e]
    obtain ⟨ok, ov, e⟩ := st
    exact ⟨_, e, fun v z => nomatch z⟩
  keep := fun i h h' st k => st.imp fun ok q => q.imp fun ov e => k it (List.mem_singleton.mpr rfl) _ e
  item := by
    intro X hP hw hK hc i pins s σ H E I hf st hg
    subst hP hw hK
    obtain ⟨hs, hgd, hx, es', ep', hdt, hsz, ent⟩ := I.frzN hg.1
    obtain ⟨rfl, rfl⟩ := dict_ep hod hdt
    obtain ⟨⟨k, q, v⟩, hkv⟩ : ∃ p, xs[i]? = some p := ⟨_, List.getElem?_eq_getElem hg.2⟩
    obtain ⟨en, hen, hkey, rv⟩ := ent i k q v hkv
    obtain ⟨ok, ov, he⟩ := st
    rw [← hsz] at he
    have hlt : it < s.heap.objs.size := Heap.lt_size he
    obtain ⟨hie, hee⟩ := Array.getElem?_eq_some_iff.mp hen
    refine DT.nextI he ⟨o, hgd, hx, hod⟩ hie fun h' ho hT hz hk => ?_
    rw [hee] at ho hT
    refine ⟨_, rfl, wpAny_letOwnedTupleGo_items (s := { s with heap := h' }) ho fun h'' he' sb => ?_⟩
    have hT2 := (sb.2 _ (Nat.ne_of_gt hlt)).trans hT
    rw [hkey] at hT2
    have new : ObjOk X.prog X.w (upd H s.heap.objs.size (.tup [.ref q, v])) h'' s.heap.objs.size (.tup [.ref q, v]) :=
      ⟨show 2 ≤ sizeLine from by decide, [.ref q, en.val], .cons (show RelV (.ref q) (.ref q) from rfl) (.cons rv .nil), ⟨_, hT2, rfl, _, rfl⟩⟩
    have I1 : Inv X pins σ (upd H s.heap.objs.size (.tup [.ref q, v])) { s with heap := h'' } :=
      I.turnedNew (t' := s.toks) (ch := [it]) (fun b ob hb e => (sb.2 b (List.ne_of_not_mem_cons hb)).trans (hk b ob (List.ne_of_not_mem_cons hb) e)) hf (Nat.le_refl _) new
    refine ⟨.ref s.heap.objs.size, _, I1, rfl, ⟨_, k, q, v, hkv, rfl, I.hok.fresh (Nat.le_refl _), rfl⟩, ⟨en.key, en.val, by rw [← hsz]; exact he'⟩, fun b hb => ?_⟩
    have e : b = it := List.mem_singleton.mp hb
    rw [e, upd_ne (Nat.ne_of_lt hlt)]
    exact (hf it (List.mem_singleton.mpr rfl)).1
  done := by
    intro X hP hw hK hc i pins s σ H E I hf st hg
    subst hP hw hK
    obtain ⟨f0, f1, f2, f3, f4, f5⟩ := hf it (List.mem_singleton.mpr rfl)
    obtain ⟨hs, hgd, hx, es', ep', hdt, hsz, ent⟩ := I.frzN hg.1
    obtain ⟨rfl, rfl⟩ := dict_ep hod hdt
    obtain ⟨ok, ov, he⟩ := st
    rw [← hsz] at he
    have hge := hg.2
    exact DT.endI (I.ok.hd hc) he ⟨o, hgd, hx, hod⟩ (by omega) fun h' eb => ⟨rfl, I.turned (t' := s.toks) (fun b ob hb e => eb b ob hb e) f0 f1 f3 f4 f5⟩
  self := fun A i s Q E st h => let ⟨_, _, e⟩ := st; PySem.W.kcp_self e h
def iItemsN (P : Program) (w : World) (td : TE) : TI := fun σ H R => td σ H fun x H1 => ∃ d o xs, x = .ref d ∧ H1 d = some (.frz o (dN P w d xs)) ∧ R (ItiN P w d o xs) H1
def iKeysN (P : Program) (w : World) (td : TE) : TI := fun σ H R => td σ H fun x H1 => ∃ d o, x = .ref d ∧ ((∃ kvs, H1 d = some (.frz o (.dK kvs)) ∧ R (Itk d o kvs) H1) ∨ ∃ xs, H1 d = some (.frz o (dN P w d xs)) ∧ R (ItkN P w d o xs) H1)
theorem pi_keysN {X : Cx} {P : Program} {w : World} {tg e : Expr} {td : TE} (hP : X.prog = P) (hW : X.w = w) (he : PE X e td) : PI X tg e (iKeysN P w td) := by
  subst hP hW
  refine ⟨fun pins s σ H R I h => ?_⟩
  refine thn (he.run pins s σ H _ I h) fun u s1 ⟨x, H1, I1, rx, d, o, ex, q⟩ => ?_
  subst ex
  obtain rfl : u = Value.ref d := rx
  rcases q with ⟨kvs, hd, q⟩ | ⟨xs, hd, q⟩
  · obtain ⟨hs, hgd, hx, es, ep, vs, hdt, hsz, kv, hm⟩ := I1.frzK hd
    refine iter_keys hs hgd hx hdt (pi_one (tk := s1.toks) I1 _ (turn_keys _ hdt) ⟨_, Heap.get?_push_size _ rfl, rfl, ?_⟩ q)
    rw [hsz] <;> rfl
  · obtain ⟨hs, hgd, hx, es, ep, hdt, hsz, ent⟩ := I1.frzN hd
    refine iter_keys hs hgd hx hdt (pi_one (tk := s1.toks) I1 _ (turn_keysN _ hdt) ⟨_, Heap.get?_push_size _ rfl, rfl, ?_⟩ q)
    rw [hsz] <;> rfl
theorem pi_itemsN {X : Cx} {P : Program} {w : World} {e : Expr} {td : TE} {apos cpos : Pos} {elts : List Expr} {kk : Nat} {tpos : Pos} (hP : X.prog = P) (hW : X.w = w) (he : PE X e td) (hbase : attributeBase e "items" X.env (eval e X.env) = eval e X.env) (hline : (apos.endLine == cpos.line) = true) :
    PI X (.Tuple elts kk tpos) (.Call (.Attribute e "items" apos) [] [] cpos) (iItemsN P w td) := by
  subst hP hW
  refine ⟨fun pins s σ H R I h => ?_⟩
  refine wpAny_Call_method (T := "dict") (id := "dict.items") hbase rfl hline F.plainAttrs_dict F.slot_dict_items F.type_dict_items (thn (he.run pins s σ H _ I h) fun u s1 ⟨x, H1, I1, rx, d, o, xs, ex, hd, q⟩ => ?_)
  subst ex
  obtain rfl : u = Value.ref d := rx
  obtain ⟨hs, hgd, hx, es, ep, hdt, hsz, ent⟩ := I1.frzN hd
  have raw : DT.Raw s1.heap d es ep := ⟨o, hgd, hx, hdt⟩
  refine ⟨raw.typeIs, fun b e => by cases e; exact ⟨o, hgd, hx.2.1⟩, ?_⟩
  have I2 : Inv X pins σ H1 { s1 with heap := s1.heap.push { cls := .type "dict_items", data := .fields #[.ref d] } } := I1.kept (t' := s1.toks) fun b ob q => Heap.get?_push_of_some _ q
  have fin : wpAny (model X.prog X.w) X.A (pyIter (.ref s1.heap.objs.size)) (PIE X pins σ (.Tuple elts kk tpos) R) X.xe { s1 with heap := s1.heap.push { cls := .type "dict_items", data := .fields #[.ref d] } } := by
    refine DT.iterI (d := d) (es := es) (ep := ep) ⟨_, Heap.get?_push_size _ rfl, rfl, rfl⟩ (raw.push _) (pi_one (tk := s1.toks) I2 _ (turn_itemsN _ hdt) ⟨.none, .none, ?_⟩ q)
    rw [← hsz]
    exact Heap.get?_push_size _ rfl
  show wpAny _ _ (callWith cpos (.builtin "dict.items") [.ref d] [] []) _ X.xe s1
  exact method_meetsIn F.slot_dict_items F.entry_dict_items rfl (PySem.evalArgs_none ⟨rfl, raw.typeIs, F.args_dict_items_1 _, _, DT.meetsItems (es := es) (ep := ep) hs, raw, fin⟩)
end L2
namespace DD
variable [Mode]
open PySem L2
section
variable {c : Cn} {F : Fr} {env stk : En} {σ : St} {ws : List (Option V)} {H H' : Hp}
/-- keys and values of a dict, apart -/
theorem RepK0.keys {Av : Addr → Prop} : ∀ {kvs : List (T × T)} {ks : List (Key × V)}, RepK0 c H Av kvs ks → kvs.map (·.1) = ks.map (fun p => kT p.1) ∧ RepL c H Av (kvs.map (·.2)) (ks.map (·.2))
  | [], ks, r => by rw [RepK0] at r; subst r; exact ⟨rfl, RepL.nil⟩
  | (a, t) :: kvs, ks, r => by
    rw [RepK0] at r
    obtain ⟨k', v, r', rfl, rfl, h1, h2⟩ := r
    obtain ⟨e1, e2⟩ := RepK0.keys h2
    exact ⟨by rw [List.map_cons, List.map_cons, e1], RepL.cons h1 e2⟩
theorem RepK1.keys {Av : Addr → Prop} : ∀ {kvs : List (T × T)} {ks : List KEnt}, RepK1 c H Av kvs ks → RepL c H Av (kvs.map (·.1)) (ks.map fun p => .ref p.2.1) ∧ RepL c H Av (kvs.map (·.2)) (ks.map (·.2.2))
  | [], ks, r => by rw [RepK1] at r; subst r; exact ⟨RepL.nil, RepL.nil⟩
  | (a, t) :: kvs, ks, r => by
    rw [RepK1] at r
    obtain ⟨q, v, r', rfl, hk, h0, h1, h2⟩ := r
    obtain ⟨e1, e2⟩ := RepK1.keys h2
    exact ⟨RepL.cons h0 e1, RepL.cons h1 e2⟩
theorem RepK0.of {Av : Addr → Prop} : ∀ {kvs : List (T × T)} {ks : List (Key × V)}, kvs.map (·.1) = ks.map (fun p => kT p.1) → RepL c H Av (kvs.map (·.2)) (ks.map (·.2)) → RepK0 c H Av kvs ks
  | [], [], _, _ => by rw [RepK0]
  | [], _ :: _, e, _ => by simp at e
  | _ :: _, [], e, _ => by simp at e
  | (a, t) :: kvs, (k, v) :: ks, e, r => by
    simp only [List.map_cons, List.cons.injEq] at e r
    obtain ⟨v', r', e2, h1, h2⟩ := r.inv
    cases e2
    rw [RepK0]
    exact ⟨k, v, ks, rfl, e.1, h1, RepK0.of e.2 h2⟩
theorem rep_kT {Av : Addr → Prop} (k : Key) : Rep c H Av (kT k) (kV k) := by cases k <;> (unfold kT kV; rw [Rep])
theorem repL_kT {Av : Addr → Prop} : ∀ ks : List Key, RepL c H Av (ks.map kT) (ks.map kV)
  | [] => RepL.nil
  | k :: ks => RepL.cons (rep_kT k) (repL_kT ks)
/-- what stands where a dict stands -/
def DictU (c : Cn) (H : Hp) (Av : Addr → Prop) (kvs : List (T × T)) (a : Addr) (u : HO) : Prop := (∃ ks, u = .dK ks ∧ RepK0 c H Av kvs ks) ∨ ∃ ks, u = dN c.P c.w a ks ∧ RepK1 c H Av kvs ks ∧ kvs ≠ []
theorem DictU.mut {Av : Addr → Prop} {kvs : List (T × T)} {a : Addr} {u : HO} (h : DictU c H Av kvs a u) : MutO u ∧ Mut (some u) ∧ ∀ od, MutO (.frz od u) := by
  rcases h with ⟨ks, rfl, _⟩ | ⟨ks, rfl, _⟩ <;> exact ⟨trivial, trivial, fun _ => trivial⟩
/-- the frame while the dict at a is locked -/
def Fr.lk (F : Fr) (a : Addr) (od : Obj) (u : HO) : Fr := { A := fun b => F.A b ∨ b = a, H0 := upd F.H0 a (.frz od u), io := F.io }
theorem SimO.lock {O : Addr → Option Nat} {es : En} {vs : List (Option V)} {kvs : List (T × T)} {a : Addr} (S : SimO c F O (es ++ [some ⟨.dct kvs, .own⟩]) (vs ++ [some (.ref a)]) H) (hl : vs.length = es.length) :
    ∃ u, H a = some u ∧ DictU c H (F.av O) kvs a u ∧ F.H0 a = none ∧ (∀ i, F.io i ≠ some a) ∧ ∀ od, ∃ O', SimO c (F.lk a od u) O' es vs (upd H a (.frz od u)) ∧ (∀ b, (F.lk a od u).av O' b → F.av O b) ∧ Kp (F.av O) H (upd H a (.frz od u)) := by
  obtain ⟨v, h1, a', h2, hO, h0, hc⟩ := S.ent es.length ⟨.dct kvs, .own⟩ (by rw [List.getElem?_append_right (Nat.le_refl _), Nat.sub_self]; rfl)
  rw [← hl, List.getElem?_append_right (Nat.le_refl _), Nat.sub_self] at h1
  cases h1
  cases h2
  obtain ⟨u, hu, hd⟩ : ∃ u, H a = some u ∧ DictU c H (F.av O) kvs a u := by
    rcases hc with ⟨ks, e, r⟩ | ⟨ks, e, r⟩
    · exact ⟨_, e, .inl ⟨ks, rfl, r⟩⟩
    · exact ⟨_, e, .inr ⟨ks, rfl, r⟩⟩
  have hio : ∀ i, F.io i ≠ some a := fun i e => (S.iod i a e).2 h0
  refine ⟨u, hu, hd, h0, hio, fun od => ?_⟩
  classical
  let O' : Addr → Option Nat := fun b => if b = a then none else O b
  have On : ∀ {b}, b ≠ a → O' b = O b := fun h => if_neg h
  have Oa : O' a = none := if_pos rfl
  have kp : Kp (F.av O) H (upd H a (.frz od u)) := fun b o e q => by
    by_cases z : b = a
    · subst z
      rw [hu] at e
      cases e
      rcases q with q | q
      · exact absurd (.inr (by rw [hO]; rfl)) q
      · exact absurd hd.mut.1 q
    · rw [upd_ne z]; exact e
  have nn : ∀ b, H b ≠ none → upd H a (.frz od u) b ≠ none := fun b h => by
    by_cases z : b = a
    · rw [z, upd_same]; exact fun z => nomatch z
    · rw [upd_ne z]; exact h
  have sub : ∀ b, (F.lk a od u).av O' b → F.av O b := fun b q => by
    rcases q with (q | q) | q
    · exact .inl q
    · rw [q]; exact .inr (by rw [hO]; rfl)
    · by_cases z : b = a
      · rw [z, Oa] at q; cases q
      · rw [On z] at q; exact .inr q
  refine ⟨O', ⟨hl, fun b q => ?_, fun b q => ?_, fun b q => ?_, fun i b e => ?_, fun b o e n => ?_, fun i sl hi => ?_⟩, sub, kp⟩
  · by_cases z : b = a
    · rw [z, Oa] at q; cases q
    · rw [On z] at q
      exact fun w => w.elim (S.oa b q) z
  · rcases q with q | q
    · exact nn b (S.ad b q)
    · rw [q, upd_same]; exact fun z => nomatch z
  · by_cases z : b = a
    · rw [z, Oa] at q; cases q
    · rw [On z] at q; exact nn b (S.od b q)
  · refine ⟨nn b (S.iod i b e).1, ?_⟩
    show upd F.H0 a (.frz od u) b ≠ none
    rw [upd_ne (fun z => hio i (by rw [← z]; exact e))]
    exact (S.iod i b e).2
  · by_cases z : b = a
    · subst z
      have e : upd F.H0 b (.frz od u) b = some o := e
      rw [upd_same] at e
      rw [upd_same]; exact e
    · have e : upd F.H0 a (.frz od u) b = some o := e
      rw [upd_ne z] at e
      rw [upd_ne z]
      exact S.keep b o e n
  · have hlt : i < es.length := (List.getElem?_eq_some_iff.mp hi).1
    obtain ⟨w, q1, q2⟩ := S.ent i sl (by rw [List.getElem?_append_left hlt]; exact hi)
    rw [List.getElem?_append_left (by omega)] at q1
    refine ⟨w, q1, ?_⟩
    have ne : ∀ b, O b = some i → b ≠ a := fun b e z => by
      rw [z, hO] at e
      have := Option.some.inj e
      omega
    have same : ∀ b, b ≠ a → upd H a (.frz od u) b = H b := fun b z => upd_ne z
    obtain ⟨t, m⟩ := sl
    cases m with
    | sh => exact Rep.mono kp (fun b _ _ q => sub b q) _ _ q2
    | own =>
      obtain ⟨b, z1, z2, z3, z5⟩ := q2
      refine ⟨b, z1, (On (ne b z2)).trans z2, ?_, CellOk.mono kp (fun b _ _ q => sub b q) (same b (ne b z2)) z5⟩
      show upd F.H0 a (.frz od u) b = none
      rw [upd_ne (ne b z2)]; exact z3
    | io =>
      obtain ⟨b, z1, z2, z3, z5⟩ := q2
      exact ⟨b, z1, (On (ne b z2)).trans z2, z3, CellOk.mono kp (fun b _ _ q => sub b q) (same b (ne b z2)) z5⟩
theorem SimO.unlock {O : Addr → Option Nat} {es : En} {vs : List (Option V)} {a : Addr} {od : Obj} {u : HO} (S : SimO c (F.lk a od u) O es vs H) (h0 : F.H0 a = none) (hio : ∀ i, F.io i ≠ some a) (mu : MutO (.frz od u)) :
    H a = some (.frz od u) ∧ SimO c F O es vs (upd H a u) := by
  have ha : H a = some (.frz od u) := S.keep a _ (upd_same (H := F.H0)) fun i e => hio i e
  have hA : (F.lk a od u).A a := .inr rfl
  have kp : Kp ((F.lk a od u).av O) H (upd H a u) := fun b o e q => by
    by_cases z : b = a
    · subst z
      rw [ha] at e
      cases e
      rcases q with q | q
      · exact absurd (.inl hA) q
      · exact absurd mu q
    · rw [upd_ne z]; exact e
  have nn : ∀ b, H b ≠ none → upd H a u b ≠ none := fun b h => by
    by_cases z : b = a
    · rw [z, upd_same]; exact fun z => nomatch z
    · rw [upd_ne z]; exact h
  have sub : ∀ b, F.av O b → (F.lk a od u).av O b := fun b q => q.imp .inl id
  have na : ∀ b, (O b).isSome = true → b ≠ a := fun b q z => S.oa b q (.inr z)
  refine ⟨ha, ⟨S.len, fun b q w => S.oa b q (.inl w), fun b q => nn b (S.ad b (.inl q)), fun b q => nn b (S.od b q), fun i b e => ?_, fun b o e n => ?_, fun i sl hi => ?_⟩⟩
  · obtain ⟨q1, q2⟩ := S.iod i b e
    refine ⟨nn b q1, ?_⟩
    have q2 : upd F.H0 a (.frz od u) b ≠ none := q2
    rw [upd_ne (fun z => hio i (by rw [← z]; exact e))] at q2
    exact q2
  · have z : b ≠ a := fun z => by rw [z, h0] at e; cases e
    rw [upd_ne z]
    exact S.keep b o (show upd F.H0 a (.frz od u) b = some o by rw [upd_ne z]; exact e) n
  · obtain ⟨w, q1, q2⟩ := S.ent i sl hi
    refine ⟨w, q1, ?_⟩
    obtain ⟨t, m⟩ := sl
    cases m with
    | sh => exact Rep.mono kp (fun b _ _ q => sub b q) _ _ q2
    | own =>
      obtain ⟨b, z1, z2, z3, z5⟩ := q2
      have z := na b (by rw [z2]; rfl)
      refine ⟨b, z1, z2, ?_, CellOk.mono kp (fun b _ _ q => sub b q) (upd_ne z) z5⟩
      have z3 : upd F.H0 a (.frz od u) b = none := z3
      rw [upd_ne z] at z3
      exact z3
    | io =>
      obtain ⟨b, z1, z2, z3, z5⟩ := q2
      have z := na b (by rw [z2]; rfl)
      exact ⟨b, z1, z2, z3, CellOk.mono kp (fun b _ _ q => sub b q) (upd_ne z) z5⟩
/-- the way back from a frame to the one ahead of it -/
def Back (c : Cn) (nf : Addr → Prop) (F F' : Fr) : Prop := ∀ {env stk : En} {σ : St} {ws : List (Option V)} {H : Hp}, At c F' env stk σ ws H → Unl nf (At c F env stk σ ws) H
theorem Back.refl {nf : Addr → Prop} : Back c nf F F := fun A => .inl A
theorem Back.lk {nf : Addr → Prop} {a : Addr} {od : Obj} {u : HO} (h0 : F.H0 a = none) (hio : ∀ i, F.io i ≠ some a) (mu : MutO (.frz od u)) (n : nf a) : Back c nf F (F.lk a od u) := fun {env stk σ ws H} A => by
  obtain ⟨O, S⟩ := A.sim
  obtain ⟨ha, S'⟩ := S.unlock h0 hio mu
  exact .inr ⟨a, od, u, ha, n, A.hl, A.hw, O, S'⟩
end
end DD
/-! DIt: what is walked. -/
namespace DD
variable [Mode]
open PySem L2
section
variable {gp : P} {c : Cn} {W : Nat} {D : Nat → Option Df} {Γ : Gm} {n : Nat} {X : Cx} {F : Fr} {env stk : En} {σ : St} {ws : List (Option V)} {H : Hp} {Φ Ψ : Nat → Fn}
/-- the iterator J hands out what xs says, as long as the sources stand -/
def WalksA (c : Cn) (gp : P) (J : It) (ts : List T) (vs : List V) (xs : List T) : Prop := ∀ (Av : Addr → Prop) (H : Hp), RepL c H Av ts vs → ∀ i, (i = xs.length → J.stop i H) ∧ ∀ t, xs[i]? = some t → J.go i H ∧ ∀ x H3, J.yld i H x H3 → Gr H H3 ∧ RepP c H3 Av gp t x
/-- .. within a frame -/
def Walks (c : Cn) (F : Fr) (gp : P) (J : It) (ts : List T) (vs : List V) (xs : List T) : Prop := ∀ (O : Addr → Option Nat) (es : En) (wl : List (Option V)) (H : Hp), SimO c F O es wl H → RepL c H (F.av O) ts vs → ∀ i, (i = xs.length → J.stop i H) ∧ ∀ t, xs[i]? = some t → J.go i H ∧ ∀ x H3, J.yld i H x H3 → Gr H H3 ∧ RepP c H3 (F.av O) gp t x
theorem WalksA.walks {gp : P} {J : It} {ts : List T} {vs : List V} {xs : List T} (h : WalksA c gp J ts vs xs) : Walks c F gp J ts vs xs := fun O es wl H _ r => h _ H r
def rdI (c : Cn) (nf : Addr → Prop) (Φ Ψ : Nat → Fn) (gp : P) (k : ItK) (es : List E) : TI := fun σ H R => ∃ F env stk ws, At c F env stk σ ws H ∧ ∃ os env' ts xs, evs Φ Ψ es env = .ok (os, env') ∧ plainK k os = some ts ∧ k.walk ts = some xs ∧
  ∀ F' J ss vs H', (k.isD = false → F' = F) → Back c nf F F' → At c F' env' (stk ++ ss.map shE) σ (ws ++ vs.map some) H' → vs.length = ss.length → Walks c F' gp J ss vs xs → R J H'
theorem SimO.push_fwd {O : Addr → Option Nat} : ∀ {ts : List T} {vs : List V} {es : En} {ws : List (Option V)}, SimO c F O es ws H → RepL c H (F.av O) ts vs → SimO c F O (es ++ ts.map shE) (ws ++ vs.map some) H
  | [], vs, es, ws, S, r => by
    have := r.inv_nil
    subst this
    simpa using S
  | t :: ts, vs, es, ws, S, r => by
    obtain ⟨v, r', rfl, h1, h2⟩ := r.inv
    have := SimO.push_fwd (S.push_sh h1) h2
    simp only [List.map_cons]
    rw [List.append_assoc, List.append_assoc] at this
    exact this
theorem At.srcs {os : List OV} {vs : List V} {ts : List T} (S : At c F env (stk ++ os.map OV.sl) σ (ws ++ vs.map some) H) (hl : stk.length = ws.length) (hp : plain os = some ts) (hv : vs.length = os.length) :
    At c F env (stk ++ ts.map shE) σ (ws ++ vs.map some) H ∧ ∃ Av, RepL c H Av ts vs := by
  obtain ⟨O, S1, r⟩ := S.freeze hl hp hv
  refine ⟨⟨S.hl, by simp [hl, r.length], O, ?_⟩, _, r⟩
  rw [← List.append_assoc, ← List.append_assoc]
  exact S1.push_fwd r
theorem evs_one {e : E} {env env' : En} {os : List OV} (h : evs Φ Ψ [e] env = .ok (os, env')) : ∃ o, os = [o] ∧ ev Φ Ψ e env = .ok (o, env') := by
  simp only [evs] at h
  obtain ⟨⟨o1, e1⟩, h1, h⟩ := R.bind_ok h
  cases h
  exact ⟨o1, rfl, h1⟩
theorem RepL.one {Av : Addr → Prop} {t : T} {vs : List V} (h : RepL c H Av [t] vs) : ∃ v, vs = [v] ∧ Rep c H Av t v := by
  obtain ⟨v, r, rfl, h1, h2⟩ := h.inv
  have := h2.inv_nil
  subst this
  exact ⟨v, rfl, h1⟩
theorem RepL.two' {Av : Addr → Prop} {t u : T} {vs : List V} (h : RepL c H Av [t, u] vs) : ∃ v w, vs = [v, w] ∧ Rep c H Av t v ∧ Rep c H Av u w := by
  obtain ⟨v, r, rfl, h1, h2⟩ := h.inv
  obtain ⟨w, rfl, h3⟩ := h2.one
  exact ⟨v, w, rfl, h1, h3⟩
theorem Rep.lst' {Av : Addr → Prop} {ts : List T} {v : V} (h : Rep c H Av (.lst ts) v) : ∃ a vs, v = .ref a ∧ H a = some (.lst vs) ∧ RepL c H Av ts vs := (RepT.lst (.inl h))
theorem Rep.tup' {Av : Addr → Prop} {ts : List T} {v : V} (h : Rep c H Av (.tup ts) v) : ∃ a vs, v = .ref a ∧ Tp c.st H a vs ∧ RepL c H Av ts vs := (RepT.tup (.inl h))
theorem sqL_inj {K : PySem.W.Frag} {a : Addr} {xs ys : List V} (hx : H a = some (.lst xs)) (h : SqL K H a ys) : True := trivial

theorem walks_list {K : PySem.W.Frag} {a : Addr} {xs : List T} : WalksA c gp (Itl K a) [.lst xs] [.ref a] xs := by
  intro Av H r i
  obtain ⟨v, e, h⟩ := r.one
  cases e
  obtain ⟨b, vs, e, hH, hr⟩ := h.lst'
  cases e
  refine ⟨fun e => ⟨vs, SqL.of hH, by rw [← hr.length]; omega⟩, fun t ht => ?_⟩
  obtain ⟨x, hx, hrx⟩ := hr.get ht
  refine ⟨⟨vs, x, SqL.of hH, hx⟩, fun y H3 ⟨e, q⟩ => ?_⟩
  subst e
  have := q vs (SqL.of hH)
  rw [hx] at this
  cases this
  exact ⟨Gr.refl, .inl hrx⟩
theorem walks_tup {K : PySem.W.Frag} {a : Addr} {xs : List T} : WalksA c gp (Itt K a) [.tup xs] [.ref a] xs := by
  intro Av H r i
  obtain ⟨v, e, h⟩ := r.one
  cases e
  obtain ⟨b, vs, e, hH, hr⟩ := h.tup'
  cases e
  refine ⟨fun e => ⟨vs, hH.sq, by rw [← hr.length]; omega⟩, fun t ht => ?_⟩
  obtain ⟨x, hx, hrx⟩ := hr.get ht
  refine ⟨⟨vs, x, hH.sq, hx⟩, fun y H3 ⟨e, q⟩ => ?_⟩
  subst e
  have := q vs (hH.sq)
  rw [hx] at this
  cases this
  exact ⟨Gr.refl, .inl hrx⟩
theorem rangeT_len (lo : Int) : ∀ n, (rangeT lo n).length = n
  | 0 => rfl
  | n + 1 => by rw [rangeT, List.length_cons, rangeT_len (lo + 1) n]
theorem rangeT_get : ∀ (n : Nat) (lo : Int) (i : Nat) (t : T), (rangeT lo n)[i]? = some t → i < n ∧ t = .int (lo + i)
  | 0, lo, i, t, h => by simp [rangeT] at h
  | n + 1, lo, i, t, h => by
    rw [rangeT] at h
    cases i with
    | zero =>
      simp only [List.getElem?_cons_zero, Option.some.injEq] at h
      subst h
      exact ⟨by omega, by simp⟩
    | succ i =>
      simp only [List.getElem?_cons_succ] at h
      obtain ⟨h1, h2⟩ := rangeT_get n (lo + 1) i t h
      exact ⟨by omega, by rw [h2]; congr 1; omega⟩
theorem walks_range {ts : List T} {vs : List V} {lo : Int} {n : Nat} : WalksA c gp (Itr lo n) ts vs (rangeT lo n) := by
  intro Av H r i
  refine ⟨fun e => by rw [rangeT_len] at e; show n ≤ i; omega, fun t ht => ?_⟩
  obtain ⟨h1, h2⟩ := rangeT_get _ _ _ _ ht
  refine ⟨h1, fun x H3 ⟨e, q⟩ => ?_⟩
  subst e q h2
  exact ⟨Gr.refl, .inl (by rw [Rep])⟩
theorem enumT_len : ∀ (us : List T) (n : Nat), (enumT n us).length = us.length
  | [], n => rfl
  | u :: us, n => by rw [enumT, List.length_cons, enumT_len us, List.length_cons]
theorem enumT_get : ∀ (us : List T) (n i : Nat) (t : T), (enumT n us)[i]? = some t → ∃ u, us[i]? = some u ∧ t = .tup [.int ((n + i : Nat) : Int), u]
  | [], n, i, t, h => by simp [enumT] at h
  | u :: us, n, i, t, h => by
    rw [enumT] at h
    cases i with
    | zero =>
      simp only [List.getElem?_cons_zero, Option.some.injEq] at h
      subst h
      exact ⟨u, rfl, rfl⟩
    | succ i =>
      simp only [List.getElem?_cons_succ] at h
      obtain ⟨w, h1, h2⟩ := enumT_get us (n + 1) i t h
      exact ⟨w, h1, by rw [h2]; congr 4; omega⟩
theorem rep_pair (hg : ∃ ps, gp = .t ps) {Av : Addr → Prop} {p : Addr} {t u : T} {x y : V} (hp : H p = none) (h1 : Rep c H Av t x) (h2 : Rep c H Av u y) : Gr H (upd H p (.tup [x, y])) ∧ RepP c (upd H p (.tup [x, y])) Av gp (.tup [t, u]) (.ref p) := by
  have g : Gr H (upd H p (.tup [x, y])) := Gr.upd hp
  obtain ⟨ps, hg⟩ := hg
  exact ⟨g, .inr ⟨ps, [t, u], p, [x, y], hg, rfl, rfl, .inl (if_pos rfl), RepL.cons (Rep.mono (Kp.of_all g) (fun _ _ _ z => z) _ _ h1) (RepL.cons (Rep.mono (Kp.of_all g) (fun _ _ _ z => z) _ _ h2) RepL.nil)⟩⟩
theorem walks_enum (hg : ∃ ps, gp = .t ps) {K : PySem.W.Frag} {a : Addr} {us : List T} : WalksA c gp (Ite K a) [.lst us] [.ref a] (enumT 0 us) := by
  intro Av H r i
  obtain ⟨v, e, h⟩ := r.one
  cases e
  obtain ⟨b, vs, e, hH, hr⟩ := h.lst'
  cases e
  refine ⟨fun e => ⟨vs, SqL.of hH, by rw [enumT_len] at e; rw [← hr.length]; omega⟩, fun t ht => ?_⟩
  obtain ⟨u, hu, rfl⟩ := enumT_get _ _ _ _ ht
  obtain ⟨x, hx, hrx⟩ := hr.get hu
  refine ⟨⟨vs, x, SqL.of hH, hx⟩, fun y H3 ⟨p, z, e1, e2, e3, q⟩ => ?_⟩
  have := q vs (SqL.of hH)
  rw [hx] at this
  cases this
  subst e1 e3
  rw [Nat.zero_add]
  exact rep_pair hg e2 (by rw [Rep]) hrx
theorem walks_enumT (hg : ∃ ps, gp = .t ps) {K : PySem.W.Frag} {a : Addr} {us : List T} : WalksA c gp (IteT K a) [.tup us] [.ref a] (enumT 0 us) := by
  intro Av H r i
  obtain ⟨v, e, h⟩ := r.one
  cases e
  obtain ⟨b, vs, e, hH, hr⟩ := h.tup'
  cases e
  refine ⟨fun e => ⟨vs, hH.sq, by rw [enumT_len] at e; rw [← hr.length]; omega⟩, fun t ht => ?_⟩
  obtain ⟨u, hu, rfl⟩ := enumT_get _ _ _ _ ht
  obtain ⟨x, hx, hrx⟩ := hr.get hu
  refine ⟨⟨vs, x, hH.sq, hx⟩, fun y H3 ⟨p, z, e1, e2, e3, q⟩ => ?_⟩
  have := q vs (hH.sq)
  rw [hx] at this
  cases this
  subst e1 e3
  rw [Nat.zero_add]
  exact rep_pair hg e2 (by rw [Rep]) hrx
theorem zipT_len : ∀ (us ws : List T), (zipT us ws).length = min us.length ws.length
  | [], _ => by simp [zipT]
  | _ :: _, [] => by simp [zipT]
  | u :: us, w :: ws => by rw [zipT, List.length_cons, zipT_len us ws, List.length_cons, List.length_cons]; omega
theorem zipT_get : ∀ (us ws : List T) (i : Nat) (t : T), (zipT us ws)[i]? = some t → ∃ u w, us[i]? = some u ∧ ws[i]? = some w ∧ t = .tup [u, w]
  | [], _, i, t, h => by simp [zipT] at h
  | _ :: _, [], i, t, h => by simp [zipT] at h
  | u :: us, w :: ws, i, t, h => by
    rw [zipT] at h
    cases i with
    | zero =>
      simp only [List.getElem?_cons_zero, Option.some.injEq] at h
      subst h
      exact ⟨u, w, rfl, rfl, rfl⟩
    | succ i =>
      simp only [List.getElem?_cons_succ] at h ⊢
      exact zipT_get us ws i t h
theorem walks_zip (hg : ∃ ps, gp = .t ps) {K : PySem.W.Frag} {a b : Addr} {us ws : List T} : WalksA c gp (Itz K a b) [.lst us, .lst ws] [.ref a, .ref b] (zipT us ws) := by
  intro Av H r i
  obtain ⟨v, w, e, h, h'⟩ := r.two'
  cases e
  obtain ⟨_, vs, e, hH, hr⟩ := h.lst'
  cases e
  obtain ⟨_, vs', e, hH', hr'⟩ := h'.lst'
  cases e
  refine ⟨fun e => ⟨vs, vs', SqL.of hH, SqL.of hH', by rw [zipT_len] at e; rw [← hr.length, ← hr'.length]; omega⟩, fun t ht => ?_⟩
  obtain ⟨u, w, hu, hw, rfl⟩ := zipT_get _ _ _ _ ht
  obtain ⟨x, hx, hrx⟩ := hr.get hu
  obtain ⟨y, hy, hry⟩ := hr'.get hw
  refine ⟨⟨vs, vs', x, y, SqL.of hH, SqL.of hH', hx, hy⟩, fun z H3 ⟨p, x2, y2, e1, e2, e3, q, q'⟩ => ?_⟩
  have := q vs (SqL.of hH)
  rw [hx] at this
  cases this
  have := q' vs' (SqL.of hH')
  rw [hy] at this
  cases this
  subst e1 e3
  exact rep_pair hg e2 hrx hry
theorem walks_zipT (hg : ∃ ps, gp = .t ps) {K : PySem.W.Frag} {a b : Addr} {us ws : List T} : WalksA c gp (RZ.ItzT K a b) [.tup us, .tup ws] [.ref a, .ref b] (zipT us ws) := by
  intro Av H r i
  obtain ⟨v, w, e, h, h'⟩ := r.two'
  cases e
  obtain ⟨_, vs, e, hH, hr⟩ := h.tup'
  cases e
  obtain ⟨_, vs', e, hH', hr'⟩ := h'.tup'
  cases e
  refine ⟨fun e => ⟨vs, vs', hH.sq, hH'.sq, by rw [zipT_len] at e; rw [← hr.length, ← hr'.length]; omega⟩, fun t ht => ?_⟩
  obtain ⟨u, w, hu, hw, rfl⟩ := zipT_get _ _ _ _ ht
  obtain ⟨x, hx, hrx⟩ := hr.get hu
  obtain ⟨y, hy, hry⟩ := hr'.get hw
  refine ⟨⟨vs, vs', x, y, hH.sq, hH'.sq, hx, hy⟩, fun z H3 ⟨p, x2, y2, e1, e2, e3, q, q'⟩ => ?_⟩
  have := q vs (hH.sq)
  rw [hx] at this
  cases this
  have := q' vs' (hH'.sq)
  rw [hy] at this
  cases this
  subst e1 e3
  exact rep_pair hg e2 hrx hry
theorem plain_one {o : OV} {ts : List T} (h : plain [o] = some ts) : ∃ t fr, o = .v t fr ∧ ts = [t] := by
  cases o with
  | s i => rw [plain] at h; cases h
  | v t fr => rw [plain, plain] at h; cases h; exact ⟨t, fr, rfl, rfl⟩
theorem plainK_of {k : ItK} {os : List OV} {ts : List T} (hk : k.isD = false) (h : plainK k os = some ts) : plain os = some ts := by
  unfold plainK at h
  rw [hk] at h
  exact h
theorem plainK_d {k : ItK} {os : List OV} {ts : List T} (hk : k.isD = true) (h : plainK k os = some ts) : ∃ t, os = [.v t true] ∧ ts = [t] := by
  unfold plainK at h
  rw [hk, if_pos rfl] at h
  split at h
  · cases h; exact ⟨_, rfl, rfl⟩
  · cases h
theorem RepK0.all0 {Av : Addr → Prop} : ∀ {kvs : List (T × T)} {ks : List (Key × V)}, RepK0 c H Av kvs ks → (kvs.all fun p => isKey0 p.1) = true
  | [], ks, r => rfl
  | (a, t) :: kvs, ks, r => by
    rw [RepK0] at r
    obtain ⟨k', v, r', rfl, rfl, h1, h2⟩ := r
    rw [List.all_cons, RepK0.all0 h2]
    cases k' <;> rfl
theorem RepK1.not0 {Av : Addr → Prop} {kvs : List (T × T)} {ks : List KEnt} (r : RepK1 c H Av kvs ks) (h : kvs ≠ []) : (kvs.all fun p => isKey0 p.1) = false := by
  cases kvs with
  | nil => exact absurd rfl h
  | cons p kvs =>
    obtain ⟨a, t⟩ := p
    rw [RepK1] at r
    obtain ⟨q, v, r', rfl, hk, _⟩ := r
    rw [List.all_cons]
    cases e : isKey0 a with
    | false => rfl
    | true => rw [notBoth e] at hk; cases hk
/-- the lock, where a dict stands on the top of the stack -/
theorem At.lockD {kvs : List (T × T)} {v : V} {fr : Bool} (hfr : fr = true) (A : At c F env (stk ++ [(OV.v (.dct kvs) fr).sl]) σ (ws ++ [some v]) H) (hw : stk.length = ws.length) :
    ∃ a u, v = .ref a ∧ H a = some u ∧ F.H0 a = none ∧ (∀ i, F.io i ≠ some a) ∧ ((∃ ks, u = .dK ks ∧ (kvs.all fun p => isKey0 p.1) = true ∧ kvs.map (·.1) = ks.map (fun p => kT p.1) ∧ ∀ od, At c (F.lk a od u) env stk σ ws (upd H a (.frz od u)) ∧ At c (F.lk a od u) env (stk ++ (kvs.map (·.2)).map shE) σ (ws ++ (ks.map (·.2)).map some) (upd H a (.frz od u))) ∨
      (∃ ks, u = dN c.P c.w a ks ∧ (kvs.all fun p => isKey0 p.1) = false ∧ kvs.length = ks.length ∧ ∀ od, At c (F.lk a od u) env (stk ++ (kvs.map (·.1)).map shE) σ (ws ++ (ks.map fun p => V.ref p.2.1).map some) (upd H a (.frz od u)) ∧ At c (F.lk a od u) env (stk ++ (kvs.map (·.1) ++ kvs.map (·.2)).map shE) σ (ws ++ ((ks.map fun p => V.ref p.2.1) ++ ks.map (·.2.2)).map some) (upd H a (.frz od u)))) := by
  subst hfr
  obtain ⟨O, S⟩ := A.sim
  have hl := A.hl
  obtain ⟨w, h1, a, h2, _⟩ := S.ent (env.length + stk.length) ⟨.dct kvs, .own⟩ (by
    rw [← List.append_assoc, List.getElem?_append_right (by simp)]
    simp [OV.sl])
  rw [← List.append_assoc, List.getElem?_append_right (by simp; omega)] at h1
  have e0 : env.length + stk.length - (σ ++ ws).length = 0 := by simp; omega
  rw [e0] at h1
  cases h1
  subst h2
  have S' : SimO c F O ((env ++ stk) ++ [some ⟨.dct kvs, .own⟩]) ((σ ++ ws) ++ [some (.ref a)]) H := by
    rw [List.append_assoc, List.append_assoc]; exact S
  obtain ⟨u, hu, hd, h0, hio, hod⟩ := S'.lock (by simp [hl, hw])
  refine ⟨a, u, rfl, hu, h0, hio, ?_⟩
  have A0 : ∀ od, At c (F.lk a od u) env stk σ ws (upd H a (.frz od u)) := fun od => let ⟨O', S2, _, _⟩ := hod od; ⟨hl, hw, O', S2⟩
  have psh : ∀ od {ts : List T} {vs : List V}, RepL c H (F.av O) ts vs → At c (F.lk a od u) env (stk ++ ts.map shE) σ (ws ++ vs.map some) (upd H a (.frz od u)) := fun od {ts vs} r => by
    obtain ⟨O', S2, sub, kp⟩ := hod od
    have r' : RepL c (upd H a (.frz od u)) ((F.lk a od u).av O') ts vs := RepL.mono kp (fun b _ _ q => sub b q) _ _ r
    refine ⟨hl, by simp [hw, r.length], O', ?_⟩
    rw [← List.append_assoc, ← List.append_assoc]
    exact S2.push_fwd r'
  rcases hd with ⟨ks, rfl, r⟩ | ⟨ks, rfl, r, hne⟩
  · exact .inl ⟨ks, rfl, r.all0, r.keys.1, fun od => ⟨A0 od, psh od r.keys.2⟩⟩
  · exact .inr ⟨ks, rfl, r.not0 hne, repK1_len r, fun od => ⟨psh od r.keys.1, psh od (r.keys.1.append r.keys.2)⟩⟩
theorem SimO.locked {O : Addr → Option Nat} {es : En} {wl : List (Option V)} {a : Addr} {od : Obj} {u : HO} (S : SimO c (F.lk a od u) O es wl H) (hio : ∀ i, F.io i ≠ some a) : H a = some (.frz od u) := S.keep a _ (upd_same (H := F.H0)) fun i e => hio i e
theorem walks_keysK {a : Addr} {od : Obj} {kvs : List (T × T)} {ks : List (Key × V)} (hk : kvs.map (·.1) = ks.map (fun p => kT p.1)) (hio : ∀ i, F.io i ≠ some a) : Walks c (F.lk a od (.dK ks)) gp (Itk a od ks) [] [] (kvs.map (·.1)) := by
  intro O es wl H S r i
  have ha := S.locked hio
  have hl : (kvs.map (·.1)).length = ks.length := by rw [hk, List.length_map]
  refine ⟨fun e => ⟨ha, by omega⟩, fun t ht => ?_⟩
  rw [hk, List.getElem?_map] at ht
  obtain ⟨⟨k, v⟩, h1, h2⟩ := Option.map_eq_some_iff.mp ht
  subst h2
  refine ⟨⟨ha, (List.getElem?_eq_some_iff.mp h1).1⟩, fun x H3 ⟨e, k', v', e1, e2⟩ => ?_⟩
  rw [h1] at e1
  cases e1
  subst e e2
  exact ⟨Gr.refl, .inl (rep_kT _)⟩
theorem walks_keysN {a : Addr} {od : Obj} {kvs : List (T × T)} {ks : List KEnt} (hl : kvs.length = ks.length) (hio : ∀ i, F.io i ≠ some a) : Walks c (F.lk a od (dN c.P c.w a ks)) gp (ItkN c.P c.w a od ks) (kvs.map (·.1)) (ks.map fun p => V.ref p.2.1) (kvs.map (·.1)) := by
  intro O es wl H S r i
  have ha := S.locked hio
  refine ⟨fun e => ⟨ha, by rw [List.length_map] at e; omega⟩, fun t ht => ?_⟩
  obtain ⟨x0, hx, hr⟩ := r.get ht
  rw [List.getElem?_map] at hx
  obtain ⟨⟨k, q, v⟩, h1, h2⟩ := Option.map_eq_some_iff.mp hx
  subst h2
  refine ⟨⟨ha, (List.getElem?_eq_some_iff.mp h1).1⟩, fun x H3 ⟨e, k', q', v', e1, e2⟩ => ?_⟩
  rw [h1] at e1
  cases e1
  subst e e2
  exact ⟨Gr.refl, .inl hr⟩
theorem zip_at : ∀ {kvs : List (T × T)} {i : Nat} {t : T}, (kvs.map fun p => T.tup [p.1, p.2])[i]? = some t → ∃ a b, (kvs.map (·.1))[i]? = some a ∧ (kvs.map (·.2))[i]? = some b ∧ t = .tup [a, b] := by
  intro kvs i t h
  rw [List.getElem?_map] at h
  obtain ⟨⟨a, b⟩, h1, rfl⟩ := Option.map_eq_some_iff.mp h
  exact ⟨a, b, by rw [List.getElem?_map, h1]; rfl, by rw [List.getElem?_map, h1]; rfl, rfl⟩
theorem walks_itemsK (hg : ∃ ps, gp = .t ps) {a : Addr} {od : Obj} {kvs : List (T × T)} {ks : List (Key × V)} (hk : kvs.map (·.1) = ks.map (fun p => kT p.1)) (hio : ∀ i, F.io i ≠ some a) : Walks c (F.lk a od (.dK ks)) gp (Iti a od ks) (kvs.map (·.2)) (ks.map (·.2)) (kvs.map fun p => .tup [p.1, p.2]) := by
  intro O es wl H S r i
  have ha := S.locked hio
  have hl : kvs.length = ks.length := by have := congrArg List.length hk; simpa using this
  refine ⟨fun e => ⟨ha, by rw [List.length_map] at e; omega⟩, fun t ht => ?_⟩
  obtain ⟨x0, y0, h1, h2, rfl⟩ := zip_at ht
  rw [hk, List.getElem?_map] at h1
  obtain ⟨⟨k, v⟩, h3, h4⟩ := Option.map_eq_some_iff.mp h1
  subst h4
  refine ⟨⟨ha, (List.getElem?_eq_some_iff.mp h3).1⟩, fun x H3 ⟨Tt, k', v', e1, e2, e3, e4⟩ => ?_⟩
  rw [h3] at e1
  cases e1
  subst e2 e4
  obtain ⟨w, hw, rw'⟩ := r.get h2
  rw [List.getElem?_map, h3] at hw
  cases hw
  exact rep_pair hg e3 (rep_kT _) rw'
theorem walks_itemsN (hg : ∃ ps, gp = .t ps) {a : Addr} {od : Obj} {kvs : List (T × T)} {ks : List KEnt} (hl : kvs.length = ks.length) (hio : ∀ i, F.io i ≠ some a) : Walks c (F.lk a od (dN c.P c.w a ks)) gp (ItiN c.P c.w a od ks) (kvs.map (·.1) ++ kvs.map (·.2)) ((ks.map fun p => V.ref p.2.1) ++ ks.map (·.2.2)) (kvs.map fun p => .tup [p.1, p.2]) := by
  intro O es wl H S r i
  have ha := S.locked hio
  refine ⟨fun e => ⟨ha, by rw [List.length_map] at e; omega⟩, fun t ht => ?_⟩
  have hi : i < kvs.length := by have := (List.getElem?_eq_some_iff.mp ht).1; simpa using this
  obtain ⟨x0, y0, h1, h2, rfl⟩ := zip_at ht
  obtain ⟨p1, g1, r1⟩ := r.get (i := i) (t := x0) (by rw [List.getElem?_append_left (by simpa using hi)]; exact h1)
  obtain ⟨p2, g2, r2⟩ := r.get (i := kvs.length + i) (t := y0) (by rw [List.getElem?_append_right (by simp)]; simpa using h2)
  rw [List.getElem?_append_left (by simp; omega), List.getElem?_map] at g1
  rw [List.getElem?_append_right (by simp; omega), List.getElem?_map] at g2
  have ei : kvs.length + i - (ks.map fun p => V.ref p.2.1).length = i := by simp; omega
  rw [ei] at g2
  obtain ⟨⟨k, q, v⟩, h3, h4⟩ := Option.map_eq_some_iff.mp g1
  subst h4
  rw [h3] at g2
  cases g2
  refine ⟨⟨ha, (List.getElem?_eq_some_iff.mp h3).1⟩, fun x H3 ⟨Tt, k', q', v', e1, e2, e3, e4⟩ => ?_⟩
  rw [h3] at e1
  cases e1
  subst e2 e4
  exact rep_pair hg e3 r1 r2
/-- the rule -/
theorem sndI (g : Good c W D Γ n X) {nf : Addr → Prop} {k : ItK} (hnf : k.isD = true → nf = NoFrz X) {tg it : Expr} {xs : List Expr} {es : List E} (h : iterArgs Γ k tg it = some xs) (hs : xs.all noStar = true) (hA : PA X xs (rdA c Φ Ψ es)) (hE : ∀ e y, es = [e] → xs = [y] → PE X y (rdE c Φ Ψ e)) (hl : xs.length = es.length) (hgp : isTupE tg = true → ∃ ps, gp = .t ps) :
    PI X tg it (rdI c nf Φ Ψ gp k es) := by
  cases k <;> simp only [iterArgs] at h <;> try contradiction
  case val =>
    cases h
    obtain ⟨e, rfl⟩ : ∃ e, es = [e] := by
      cases es with
      | nil => cases hl
      | cons e es => cases es with
        | nil => exact ⟨e, rfl⟩
        | cons _ _ => simp at hl
    have pe := hE e _ rfl rfl
    refine PI.wk ((pi_list pe).or (pi_tup pe)) ?_
    intro σ H R ⟨F, env, stk, ws, A, os, env', ts, xs, h1, h2', h3, k⟩
    have h2 := plainK_of rfl h2'
    obtain ⟨o, rfl, h4⟩ := evs_one h1
    obtain ⟨t, fr, rfl, rfl⟩ := plain_one h2
    cases t <;> simp only [ItK.walk, reduceCtorEq, Option.some.injEq] at h3
    · subst h3
      refine .inr ⟨F, env, stk, ws, A, _, _, h4, fun v H1 A1 ok1 => ?_⟩
      obtain ⟨A2, Av, r⟩ := At.srcs (os := [_]) (vs := [v]) A1 A.hw h2 rfl
      obtain ⟨_, e, r1⟩ := r.one
      cases e
      obtain ⟨a, vs, rfl, hH, hr⟩ := r1.tup'
      exact ⟨a, rfl, ⟨vs, hH.sq⟩, k F _ _ _ _ (fun _ => rfl) Back.refl A2 rfl walks_tup.walks⟩
    · subst h3
      refine .inl ⟨F, env, stk, ws, A, _, _, h4, fun v H1 A1 ok1 => ?_⟩
      obtain ⟨A2, Av, r⟩ := At.srcs (os := [_]) (vs := [v]) A1 A.hw h2 rfl
      obtain ⟨_, e, r1⟩ := r.one
      cases e
      obtain ⟨a, vs, rfl, hH, hr⟩ := r1.lst'
      exact ⟨a, rfl, ⟨vs, SqL.of hH⟩, k F _ _ _ _ (fun _ => rfl) Back.refl A2 rfl walks_list.walks⟩
  case range1 =>
    split at h
    · split at h
      · rename_i _ f p0 a pos hc
        cases h
        simp only [Bool.and_eq_true, beq_iff_eq] at hc
        obtain ⟨rfl, hf⟩ := hc
        have q := g.free hf
        rw [List.all_cons, Bool.and_eq_true] at hs
        refine PI.wk (pi_range1 q.1 q.2.1 hA (star_cons hs.1)) ?_
        intro σ H R ⟨F, env, stk, ws, A, os, env', ts, xs, h1, h2', h3, k⟩
        have h2 := plainK_of rfl h2'
        refine ⟨F, env, stk, ws, A, os, env', h1, fun vs H1 A1 ok1 => ?_⟩
        obtain ⟨A2, Av, r⟩ := At.srcs A1 A.hw h2 ok1.length.symm
        simp only [ItK.walk] at h3
        split at h3 <;> try contradiction
        rename_i j hk
        split at h3
        · rename_i hz
          cases h3
          cases hk
          obtain ⟨v, rfl, r1⟩ := r.one
          rw [Rep] at r1
          subst r1
          unfold in62 at hz
          rw [Bool.and_eq_true, decide_eq_true_eq, decide_eq_true_eq] at hz
          exact ⟨_, rfl, hz.1, hz.2, k F _ _ _ _ (fun _ => rfl) Back.refl A2 rfl walks_range.walks⟩
        · cases h3
      · cases h
    · cases h
  case range2 =>
    split at h
    · split at h
      · rename_i _ f p0 a b pos hc
        cases h
        simp only [Bool.and_eq_true, beq_iff_eq] at hc
        obtain ⟨rfl, hf⟩ := hc
        have q := g.free hf
        rw [List.all_cons, Bool.and_eq_true, List.all_cons, Bool.and_eq_true] at hs
        refine PI.wk (pi_range2 q.1 q.2.1 hA (by rw [star_cons hs.1, star_cons hs.2.1]; rfl) (by rw [star_cons hs.2.1]; rfl)) ?_
        intro σ H R ⟨F, env, stk, ws, A, os, env', ts, xs, h1, h2', h3, k⟩
        have h2 := plainK_of rfl h2'
        refine ⟨F, env, stk, ws, A, os, env', h1, fun vs H1 A1 ok1 => ?_⟩
        obtain ⟨A2, Av, r⟩ := At.srcs A1 A.hw h2 ok1.length.symm
        simp only [ItK.walk] at h3
        split at h3 <;> try contradiction
        rename_i i j hk
        split at h3
        · rename_i hz
          cases h3
          cases hk
          obtain ⟨v, w, rfl, r1, r2⟩ := r.two'
          rw [Rep] at r1 r2
          subst r1 r2
          unfold in62 at hz
          simp only [Bool.and_eq_true, decide_eq_true_eq] at hz
          exact ⟨_, _, rfl, ⟨hz.1.1, hz.1.2, hz.2.1, hz.2.2⟩, k F _ _ _ _ (fun _ => rfl) Back.refl A2 rfl walks_range.walks⟩
        · cases h3
      · cases h
    · cases h
  case enum =>
    split at h
    · split at h
      · rename_i _ f p0 a pos hc
        cases h
        simp only [Bool.and_eq_true, beq_iff_eq] at hc
        obtain ⟨⟨rfl, hf⟩, ht⟩ := hc
        have hgt := hgp ht
        cases tg <;> simp only [isTupE] at ht <;> try contradiction
        have q := g.free hf
        rw [List.all_cons, Bool.and_eq_true] at hs
        refine PI.wk (pi_enumA q.1 q.2.1 hA (star_cons hs.1)) ?_
        intro σ H R ⟨F, env, stk, ws, A, os, env', ts, xs, h1, h2', h3, k⟩
        have h2 := plainK_of rfl h2'
        refine ⟨F, env, stk, ws, A, os, env', h1, fun vs H1 A1 ok1 => ?_⟩
        obtain ⟨A2, Av, r⟩ := At.srcs A1 A.hw h2 ok1.length.symm
        simp only [ItK.walk] at h3
        split at h3 <;> try contradiction
        · cases h3
          obtain ⟨v, rfl, r1⟩ := r.one
          obtain ⟨a, vs, rfl, hH, hr⟩ := r1.lst'
          exact ⟨a, vs, rfl, .inl ⟨SqL.of hH, k F _ _ _ _ (fun _ => rfl) Back.refl A2 rfl (walks_enum hgt).walks⟩⟩
        · cases h3
          obtain ⟨v, rfl, r1⟩ := r.one
          obtain ⟨a, vs, rfl, hH, hr⟩ := r1.tup'
          exact ⟨a, vs, rfl, .inr ⟨hH.sq, k F _ _ _ _ (fun _ => rfl) Back.refl A2 rfl (walks_enumT hgt).walks⟩⟩
      · cases h
    · cases h
  case zip =>
    split at h
    · split at h
      · rename_i _ f p0 a b pos hc
        cases h
        simp only [Bool.and_eq_true, beq_iff_eq] at hc
        obtain ⟨⟨rfl, hf⟩, ht⟩ := hc
        have hgt := hgp ht
        cases tg <;> simp only [isTupE] at ht <;> try contradiction
        have q := g.free hf
        rw [List.all_cons, Bool.and_eq_true] at hs
        refine PI.wk (RZ.pi_zipA q.1 q.2.1 hA (star_cons hs.1) (star_any hs.2)) ?_
        intro σ H R ⟨F, env, stk, ws, A, os, env', ts, xs, h1, h2', h3, k⟩
        have h2 := plainK_of rfl h2'
        refine ⟨F, env, stk, ws, A, os, env', h1, fun vs H1 A1 ok1 => ?_⟩
        obtain ⟨A2, Av, r⟩ := At.srcs A1 A.hw h2 ok1.length.symm
        simp only [ItK.walk] at h3
        split at h3 <;> try contradiction
        · cases h3
          obtain ⟨v, w, rfl, r1, r2⟩ := r.two'
          obtain ⟨a, vs, rfl, hH, hr⟩ := r1.lst'
          obtain ⟨b, vs', rfl, hH', hr'⟩ := r2.lst'
          exact ⟨a, b, vs, vs', rfl, .inl ⟨SqL.of hH, SqL.of hH', k F _ _ _ _ (fun _ => rfl) Back.refl A2 rfl (walks_zip hgt).walks⟩⟩
        · cases h3
          obtain ⟨v, w, rfl, r1, r2⟩ := r.two'
          obtain ⟨a, vs, rfl, hH, hr⟩ := r1.tup'
          obtain ⟨b, vs', rfl, hH', hr'⟩ := r2.tup'
          exact ⟨a, b, vs, vs', rfl, .inr ⟨hH.sq, hH'.sq, k F _ _ _ _ (fun _ => rfl) Back.refl A2 rfl (walks_zipT hgt).walks⟩⟩
      · cases h
    · cases h
  case keys =>
    cases h
    obtain ⟨e, rfl⟩ : ∃ e, es = [e] := by
      cases es with
      | nil => cases hl
      | cons e es => cases es with
        | nil => exact ⟨e, rfl⟩
        | cons _ _ => simp at hl
    have pe := hE e _ rfl rfl
    have hnf := hnf rfl
    refine PI.wk (pi_keysN g.pg g.wd (pe_lk pe)) ?_
    intro σ H R ⟨F, env, stk, ws, A, os, env', ts, xs, h1, h2', h3, k⟩
    obtain ⟨t, rfl, rfl⟩ := plainK_d rfl h2'
    obtain ⟨o, ho, h4⟩ := evs_one h1
    cases ho
    cases t <;> simp only [ItK.walk, reduceCtorEq, Option.some.injEq] at h3
    subst h3
    refine ⟨F, env, stk, ws, A, _, _, h4, fun v H1 A1 ok1 => ?_⟩
    obtain ⟨a, u, rfl, hu, h0, hio, hd⟩ := At.lockD rfl A1 A.hw
    rcases hd with ⟨ks, rfl, _, q1, hod⟩ | ⟨ks, rfl, _, q1, hod⟩
    · refine ⟨a, _, rfl, hu, trivial, fun od n => ⟨a, od, rfl, .inl ⟨ks, upd_same, ?_⟩⟩⟩
      exact k _ _ [] [] _ (fun z => nomatch z) (Back.lk h0 hio (show MutO (.frz od (.dK ks)) from trivial) (by rw [hnf]; exact n)) (by simpa using (hod od).1) rfl (walks_keysK q1 hio)
    · refine ⟨a, _, rfl, hu, trivial, fun od n => ⟨a, od, rfl, .inr ⟨ks, upd_same, ?_⟩⟩⟩
      exact k _ _ _ _ _ (fun z => nomatch z) (Back.lk h0 hio (show MutO (.frz od (dN c.P c.w a ks)) from trivial) (by rw [hnf]; exact n)) (hod od).1 (by simp [q1]) (walks_keysN q1 hio)
  case items =>
    split at h
    · split at h
      · rename_i f p m ap cp hc
        cases h
        simp only [Bool.and_eq_true, beq_iff_eq] at hc
        obtain ⟨⟨rfl, hline⟩, ht⟩ := hc
        have hgt := hgp ht
        cases tg <;> simp only [isTupE] at ht <;> try contradiction
        obtain ⟨e, rfl⟩ : ∃ e, es = [e] := by
          cases es with
          | nil => cases hl
          | cons e es => cases es with
            | nil => exact ⟨e, rfl⟩
            | cons _ _ => simp at hl
        have pe := hE e _ rfl rfl
        have hnf := hnf rfl
        have hln : (ap.endLine == cp.line) = true := by rw [hline]; exact beq_self_eq_true _
        refine PI.wk ((pi_items (pe_lk pe) rfl hln).or (pi_itemsN g.pg g.wd (pe_lk pe) rfl hln)) ?_
        intro σ H R ⟨F, env, stk, ws, A, os, env', ts, xs, h1, h2', h3, k⟩
        obtain ⟨t, rfl, rfl⟩ := plainK_d rfl h2'
        obtain ⟨o, ho, h4⟩ := evs_one h1
        cases ho
        cases t <;> simp only [ItK.walk, reduceCtorEq, Option.some.injEq] at h3
        rename_i kvs
        subst h3
        by_cases hk0 : (kvs.all fun p => isKey0 p.1) = true
        · refine .inl ⟨F, env, stk, ws, A, _, _, h4, fun v H1 A1 ok1 => ?_⟩
          obtain ⟨a, u, rfl, hu, h0, hio, hd⟩ := At.lockD rfl A1 A.hw
          rcases hd with ⟨ks, rfl, _, q1, hod⟩ | ⟨ks, rfl, hz, q1, hod⟩
          · refine ⟨a, _, rfl, hu, trivial, fun od n => ⟨a, od, ks, rfl, upd_same, ?_⟩⟩
            exact k _ _ _ _ _ (fun z => nomatch z) (Back.lk h0 hio (show MutO (.frz od (.dK ks)) from trivial) (by rw [hnf]; exact n)) (hod od).2 (by have := congrArg List.length q1; simpa using this.symm) (walks_itemsK hgt q1 hio)
          · rw [hz] at hk0; cases hk0
        · refine .inr ⟨F, env, stk, ws, A, _, _, h4, fun v H1 A1 ok1 => ?_⟩
          obtain ⟨a, u, rfl, hu, h0, hio, hd⟩ := At.lockD rfl A1 A.hw
          rcases hd with ⟨ks, rfl, hz, q1, hod⟩ | ⟨ks, rfl, hz, q1, hod⟩
          · exact absurd hz hk0
          · refine ⟨a, _, rfl, hu, trivial, fun od n => ⟨a, od, ks, rfl, upd_same, ?_⟩⟩
            exact k _ _ _ _ _ (fun z => nomatch z) (Back.lk h0 hio (show MutO (.frz od (dN c.P c.w a ks)) from trivial) (by rw [hnf]; exact n)) (hod od).2 (by simp [q1]) (walks_itemsN hgt q1 hio)
      · cases h
    · cases h
end
end DD
/-! DFrz2: an own dict is walked and read: it is locked for good. -/
namespace DD
variable [Mode]
open PySem L2
section
variable {c : Cn} {F : Fr} {env stk : En} {σ : St} {ws : List (Option V)} {H : Hp}
/-- the frame in which the dict at a stays locked -/
def Fr.hld (F : Fr) (a : Addr) (od : Obj) (u : HO) : Fr := { A := F.A, H0 := upd F.H0 a (.frz od u), io := F.io }
theorem upd_self {a : Addr} {o : HO} (h : H a = some o) : upd H a o = H := by
  funext b
  unfold upd
  by_cases e : b = a
  · subst e; rw [if_pos rfl, h]
  · rw [if_neg e]
theorem SimO.hold {O : Addr → Option Nat} {es : En} {vs : List (Option V)} {a : Addr} {od : Obj} {u : HO} (S : SimO c F O es vs H) (ha : H a = some (.frz od u)) (h0 : F.H0 a = none) (hO : O a = none) : SimO c (F.hld a od u) O es vs H := by
  have hio : ∀ i, F.io i ≠ some a := fun i e => (S.iod i a e).2 h0
  refine ⟨S.len, S.oa, S.ad, S.od, fun i b e => ⟨(S.iod i b e).1, ?_⟩, fun b o e n => ?_, fun i sl hi => ?_⟩
  · show upd F.H0 a (.frz od u) b ≠ none
    rw [upd_ne (fun z => hio i (by rw [← z]; exact e))]
    exact (S.iod i b e).2
  · have e : upd F.H0 a (.frz od u) b = some o := e
    by_cases z : b = a
    · subst z
      rw [upd_same] at e
      cases e
      exact ha
    · rw [upd_ne z] at e
      exact S.keep b o e n
  · obtain ⟨w, q1, q2⟩ := S.ent i sl hi
    refine ⟨w, q1, ?_⟩
    obtain ⟨t, m⟩ := sl
    cases m with
    | sh => exact q2
    | io => exact q2
    | own =>
      obtain ⟨b, z1, z2, z3, z5⟩ := q2
      refine ⟨b, z1, z2, ?_, z5⟩
      show upd F.H0 a (.frz od u) b = none
      rw [upd_ne (fun z => by rw [z, hO] at z2; cases z2)]
      exact z3
theorem SimO.unhold {O : Addr → Option Nat} {es : En} {vs : List (Option V)} {a : Addr} {od : Obj} {u : HO} (S : SimO c (F.hld a od u) O es vs H) (h0 : F.H0 a = none) (hio : ∀ i, F.io i ≠ some a) : SimO c F O es vs H := by
  refine ⟨S.len, S.oa, S.ad, S.od, fun i b e => ⟨(S.iod i b e).1, ?_⟩, fun b o e n => ?_, fun i sl hi => ?_⟩
  · have q2 : upd F.H0 a (.frz od u) b ≠ none := (S.iod i b e).2
    rw [upd_ne (fun z => hio i (by rw [← z]; exact e))] at q2
    exact q2
  · have z : b ≠ a := fun z => by rw [z, h0] at e; cases e
    exact S.keep b o (show upd F.H0 a (.frz od u) b = some o by rw [upd_ne z]; exact e) n
  · obtain ⟨w, q1, q2⟩ := S.ent i sl hi
    refine ⟨w, q1, ?_⟩
    obtain ⟨t, m⟩ := sl
    cases m with
    | sh => exact q2
    | io => exact q2
    | own =>
      obtain ⟨b, z1, z2, z3, z5⟩ := q2
      refine ⟨b, z1, z2, ?_, z5⟩
      have z3 : upd F.H0 a (.frz od u) b = none := z3
      by_cases z : b = a
      · rw [z, upd_same] at z3; cases z3
      · rw [upd_ne z] at z3; exact z3
theorem Back.hld {nf : Addr → Prop} {a : Addr} {od : Obj} {u : HO} (h0 : F.H0 a = none) (hio : ∀ i, F.io i ≠ some a) : Back c nf F (F.hld a od u) := fun {env stk σ ws H} A => by
  obtain ⟨O, S⟩ := A.sim
  exact .inl ⟨A.hl, A.hw, O, S.unhold h0 hio⟩
theorem SimO.held {O : Addr → Option Nat} {es : En} {wl : List (Option V)} {a : Addr} {od : Obj} {u : HO} (S : SimO c (F.hld a od u) O es wl H) (hio : ∀ i, F.io i ≠ some a) : H a = some (.frz od u) := S.keep a _ (upd_same (H := F.H0)) fun i e => hio i e
theorem walks_holdK {gp : P} {a : Addr} {od : Obj} {kvs : List (T × T)} {ks : List (Key × V)} (hk : kvs.map (·.1) = ks.map (fun p => kT p.1)) (hio : ∀ i, F.io i ≠ some a) : Walks c (F.hld a od (.dK ks)) gp (Itk a od ks) [] [] (kvs.map (·.1)) := by
  intro O es wl H S r i
  have ha := S.held hio
  have hl : (kvs.map (·.1)).length = ks.length := by rw [hk, List.length_map]
  refine ⟨fun e => ⟨ha, by omega⟩, fun t ht => ?_⟩
  rw [hk, List.getElem?_map] at ht
  obtain ⟨⟨k, v⟩, h1, h2⟩ := Option.map_eq_some_iff.mp ht
  subst h2
  refine ⟨⟨ha, (List.getElem?_eq_some_iff.mp h1).1⟩, fun x H3 ⟨e, k', v', e1, e2⟩ => ?_⟩
  rw [h1] at e1
  cases e1
  subst e e2
  exact ⟨Gr.refl, .inl (rep_kT _)⟩
theorem walks_holdN {gp : P} {a : Addr} {od : Obj} {kvs : List (T × T)} {ks : List KEnt} (hl : kvs.length = ks.length) (hio : ∀ i, F.io i ≠ some a) : Walks c (F.hld a od (dN c.P c.w a ks)) gp (ItkN c.P c.w a od ks) (kvs.map (·.1)) (ks.map fun p => V.ref p.2.1) (kvs.map (·.1)) := by
  intro O es wl H S r i
  have ha := S.held hio
  refine ⟨fun e => ⟨ha, by rw [List.length_map] at e; omega⟩, fun t ht => ?_⟩
  obtain ⟨x0, hx, hr⟩ := r.get ht
  rw [List.getElem?_map] at hx
  obtain ⟨⟨k, q, v⟩, h1, h2⟩ := Option.map_eq_some_iff.mp hx
  subst h2
  refine ⟨⟨ha, (List.getElem?_eq_some_iff.mp h1).1⟩, fun x H3 ⟨e, k', q', v', e1, e2⟩ => ?_⟩
  rw [h1] at e1
  cases e1
  subst e e2
  exact ⟨Gr.refl, .inl hr⟩
/-- an own dict, to be walked -/
theorem At.frzK (A : At c F env stk σ ws H) {i : Nat} {kvs : List (T × T)} (hg : getS env i = some ⟨.dct kvs, .own⟩) :
    ∃ b w, σ[i]? = some (some (.ref b)) ∧ H b = some w ∧ Mut (some w) ∧ (∀ nf od, Back c nf F (F.hld b od w)) ∧
      ((∃ ks, w = .dK ks ∧ kvs.map (·.1) = ks.map (fun p => kT p.1) ∧ ∀ od, At c (F.hld b od w) (env.set i (some ⟨.dct kvs, .sh⟩)) stk σ ws (upd H b (.frz od w)) ∧ ∀ gp, Walks c (F.hld b od w) gp (Itk b od ks) [] [] (kvs.map (·.1))) ∨
       ∃ ks, w = dN c.P c.w b ks ∧ kvs ≠ [] ∧ kvs.length = ks.length ∧ ∀ od, At c (F.hld b od w) (env.set i (some ⟨.dct kvs, .sh⟩)) (stk ++ (kvs.map (·.1)).map shE) σ (ws ++ (ks.map fun p => V.ref p.2.1).map some) (upd H b (.frz od w)) ∧ ∀ gp, Walks c (F.hld b od w) gp (ItkN c.P c.w b od ks) (kvs.map (·.1)) (ks.map fun p => V.ref p.2.1) (kvs.map (·.1))) := by
  obtain ⟨O, S⟩ := A.sim
  have hl := A.hl
  have hw := A.hw
  have h1 := getS_some hg
  have hi : i < env.length := (List.getElem?_eq_some_iff.mp h1).1
  obtain ⟨b, O', q1, h0, hO, hc, S'⟩ := S.share (i := i) (t := .dct kvs) (by rw [List.getElem?_append_left hi]; exact h1)
  rw [List.getElem?_append_left (by omega)] at q1
  rw [List.set_append_left _ _ hi] at S'
  have hio : ∀ j, F.io j ≠ some b := fun j e => (S.iod j b e).2 h0
  rcases hc with ⟨ks, hH, r⟩ | ⟨ks, hH, r, hne⟩
  · refine ⟨b, .dK ks, q1, hH, trivial, fun nf od => Back.hld h0 hio, .inl ⟨ks, rfl, r.keys.1, fun od => ⟨⟨by simpa using hl, hw, O', ?_⟩, fun gp => walks_holdK r.keys.1 hio⟩⟩⟩
    exact (S'.lockS hH (.inl ⟨ks, rfl⟩) hO h0).hold upd_same h0 hO
  · refine ⟨b, dN c.P c.w b ks, q1, hH, trivial, fun nf od => Back.hld h0 hio, .inr ⟨ks, rfl, hne, repK1_len r, fun od => ⟨⟨by simpa using hl, by simp [hw, repK1_len r], O', ?_⟩, fun gp => walks_holdN (repK1_len r) hio⟩⟩⟩
    have S2 := (S'.lockS (od := od) hH (.inr ⟨_, rfl⟩) hO h0).hold upd_same h0 hO
    rw [← List.append_assoc, ← List.append_assoc]
    exact S2.push_fwd (RepL.lock hH (.inr ⟨_, rfl⟩) _ _ r.keys.1)
end
end DD
/-! DBlk: comprehensions. -/
namespace DD
variable [Mode]
open PySem L2
section
variable {c : Cn} {W : Nat} {D : Nat → Option Df} {Γ : Gm} {n : Nat} {X : Cx} {F : Fr} {env stk : En} {σ : St} {ws : List (Option V)} {H : Hp} {Φ Ψ : Nat → Fn}

theorem At.forget (A : At c F env stk σ ws H) {i : Nat} (h : env[i]? = some none) (w : Option V) : At c F env stk (σ.set i w) ws H := by
  obtain ⟨O, S⟩ := A.sim
  have hl := A.hl
  have hw := A.hw
  refine ⟨by simpa using hl, hw, O, by simp [hl, hw], S.oa, S.ad, S.od, S.iod, S.keep, fun j sl hj => ?_⟩
  obtain ⟨v, h1, h2⟩ := S.ent j sl hj
  refine ⟨v, ?_, h2⟩
  have hi : i < env.length := (List.getElem?_eq_some_iff.mp h).1
  have ne : i ≠ j := fun e => by
    subst e
    rw [List.getElem?_append_left hi, h] at hj; cases hj
  by_cases a : j < σ.length
  · rw [List.getElem?_append_left (by simpa using a), List.getElem?_set_ne ne]
    rw [List.getElem?_append_left a] at h1
    exact h1
  · rw [List.getElem?_append_right (by simp; omega), List.length_set]
    rw [List.getElem?_append_right (by omega)] at h1
    exact h1
theorem At.dropSlot (A : At c F env stk σ ws H) (i : Nat) : At c F (env.set i none) stk σ ws H := by
  obtain ⟨O, S⟩ := A.sim
  have hl := A.hl
  have hw := A.hw
  refine ⟨by simpa using hl, hw, S.re (by simp [hl, hw]) (fun j => j) fun j sl hj => ?_⟩
  refine ⟨sl.m, ?_, rfl, .inl rfl, fun _ => rfl, fun _ _ _ _ _ e => e, fun n e => absurd e n⟩
  by_cases a : j < env.length
  · rw [List.getElem?_append_left (by simpa using a)] at hj
    rcases set_at hj with ⟨e1, e2⟩ | ⟨e1, e2⟩
    · cases e2
    · rw [List.getElem?_append_left a]; exact e2
  · rw [List.getElem?_append_right (by simp; omega), List.length_set] at hj
    rw [List.getElem?_append_right (by omega)]
    exact hj
theorem At.push_none (A : At c F env stk σ ws H) (w : Option V) : At c F env (stk ++ [none]) σ (ws ++ [w]) H := by
  obtain ⟨O, S⟩ := A.sim
  refine ⟨A.hl, by simp [A.hw], O, ?_⟩
  have := S.push_none w
  rw [List.append_assoc, List.append_assoc] at this
  exact this
theorem set_none_at {i : Nat} (hi : i < env.length) : (env.set i none)[i]? = some none := by rw [List.getElem?_set_self hi]
theorem At.takeS (A : At c F env stk σ ws H) {i : Nat} (hi : i < env.length) : At c F (env.set i none) (stk ++ [sav env i]) (σ.set i none) (ws ++ [(σ[i]?).join]) H := by
  have gen : At c F (env.set i none) (stk ++ [none]) (σ.set i none) (ws ++ [(σ[i]?).join]) H := At.forget ((A.dropSlot i).push_none _) (set_none_at hi) none
  unfold sav
  split
  · exact gen
  · rename_i h
    cases e : getS env i with
    | none => exact gen
    | some sl =>
      obtain ⟨t, m⟩ := sl
      obtain ⟨v, hv⟩ := A.entV e
      have hm : m ≠ .io := fun z => by subst z; exact h t e
      have := A.read e hv hm (.inr ⟨rfl, rfl⟩)
      have ej : (σ[i]?).join = some v := by rw [hv]; rfl
      rw [ej]
      exact At.forget this (set_none_at hi) none
theorem At.putS {sl : Option Sl} {w : Option V} (A : At c F env (stk ++ [sl]) σ (ws ++ [w]) H) {i : Nat} (hi : i < env.length) (hm : ∀ s, sl = some s → s.m ≠ .io) : At c F (env.set i sl) stk (σ.set i w) ws H := by
  have hw : stk.length = ws.length := by have := A.hw; simpa using this
  cases sl with
  | none => exact At.forget ((A.drop hw).dropSlot i) (set_none_at hi) w
  | some s =>
    obtain ⟨O, S⟩ := A.sim
    have hl := A.hl
    obtain ⟨v, h1, _⟩ := S.ent (env.length + stk.length) s (by rw [← List.append_assoc, List.getElem?_append_right (by simp)]; simp)
    rw [← List.append_assoc, List.getElem?_append_right (by simp; omega)] at h1
    have e0 : env.length + stk.length - (σ ++ ws).length = 0 := by simp; omega
    rw [e0] at h1
    simp only [List.getElem?_cons_zero, Option.some.injEq] at h1
    subst h1
    exact A.store (hm s rfl) hi
theorem sav_m {i : Nat} {s : Sl} (h : sav env i = some s) : s.m ≠ .io := by
  unfold sav at h
  split at h
  · cases h
  · rename_i hh
    intro e
    obtain ⟨t, m⟩ := s
    cases e
    exact hh t h

/-! ### the own names of a block -/
def savL (env : En) : List Nat → En
  | [] => []
  | i :: is => savL env is ++ [sav env i]
def savV (σ : St) : List Nat → List (Option V)
  | [] => []
  | i :: is => savV σ is ++ [(σ[i]?).join]
def unS (σ : St) : St → List Nat → St
  | τ, [] => τ
  | τ, i :: is => unS σ (τ.set i ((σ[i]?).join)) is
theorem wipeE_len : ∀ own : List Nat, (wipeE env own).length = env.length
  | [] => rfl
  | i :: is => by rw [wipeE, List.length_set, wipeE_len is]
theorem wipeE_out {j : Nat} : ∀ {own : List Nat}, j ∉ own → (wipeE env own)[j]? = env[j]?
  | [], _ => rfl
  | i :: is, h => by
    rw [List.mem_cons] at h
    rw [wipeE, List.getElem?_set_ne (fun e => h (.inl e.symm)), wipeE_out (fun z => h (.inr z))]
theorem wipe_out {j : Nat} : ∀ {own : List Nat}, j ∉ own → (wipe σ own)[j]? = σ[j]?
  | [], _ => rfl
  | i :: is, h => by
    rw [List.mem_cons] at h
    rw [wipe, List.getElem?_set_ne (fun e => h (.inl e.symm)), wipe_out (fun z => h (.inr z))]
theorem wipe_in {j : Nat} (hj : j < σ.length) : ∀ {own : List Nat}, j ∈ own → (wipe σ own)[j]? = some none
  | i :: is, h => by
    rw [wipe]
    by_cases e : i = j
    · subst e; rw [List.getElem?_set_self (by rw [wipe_length]; exact hj)]
    · rw [List.getElem?_set_ne e]
      exact wipe_in hj ((List.mem_cons.mp h).resolve_left fun z => e z.symm)
theorem wipe_agr {l own : List Nat} {τ τ2 : St} (h : Agr l (wipe τ own) τ2) (hs : ∀ i ∈ l, i ∈ own) : wipe τ2 own = wipe τ own := by
  refine List.ext_getElem? fun j => ?_
  have hl : τ2.length = τ.length := h.1.trans (wipe_length _ _)
  by_cases hj : j ∈ own
  · by_cases lt : j < τ.length
    · rw [wipe_in lt hj, wipe_in (by omega) hj]
    · rw [List.getElem?_eq_none (by rw [wipe_length]; omega), List.getElem?_eq_none (by rw [wipe_length]; omega)]
  · rw [wipe_out hj, h.2 j (fun z => hj (hs j z))]
theorem At.wipeS : ∀ {own : List Nat}, own.Nodup → (∀ i ∈ own, i < env.length) → At c F env stk σ ws H → At c F (wipeE env own) (stk ++ savL env own) (wipe σ own) (ws ++ savV σ own) H
  | [], _, _, A => by simpa [savL, savV, wipeE, wipe] using A
  | i :: is, nd, hi, A => by
    have nd := List.nodup_cons.mp nd
    have B := At.wipeS nd.2 (fun j hj => hi j (List.mem_cons_of_mem _ hj)) A
    have C := B.takeS (i := i) (by rw [wipeE_len]; exact hi i List.mem_cons_self)
    have e1 : sav (wipeE env is) i = sav env i := by unfold sav getS; rw [wipeE_out nd.1]
    have e2 : (wipe σ is)[i]? = σ[i]? := wipe_out nd.1
    rw [e1, e2, List.append_assoc, List.append_assoc] at C
    exact C
theorem At.unwipe {old : En} {σ0 : St} : ∀ {own : List Nat} {env : En} {σ : St}, (∀ i ∈ own, i < env.length) → At c F env (stk ++ savL old own) σ (ws ++ savV σ0 own) H → At c F (unE old env own) stk (unS σ0 σ own) ws H
  | [], env, σ, _, A => by simpa [savL, savV, unE, unS] using A
  | i :: is, env, σ, hi, A => by
    rw [savL, savV, ← List.append_assoc, ← List.append_assoc] at A
    have B := A.putS (i := i) (hi i List.mem_cons_self) fun s e => sav_m e
    exact At.unwipe (own := is) (fun j hj => by rw [List.length_set]; exact hi j (List.mem_cons_of_mem _ hj)) B
theorem unS_eq : ∀ {own : List Nat} {τ : St}, τ.length = σ.length → (∀ j, j ∉ own → τ[j]? = σ[j]?) → unS σ τ own = σ
  | [], τ, hl, h => List.ext_getElem? fun j => h j (by simp)
  | i :: is, τ, hl, h => by
    rw [unS]
    refine unS_eq (by rw [List.length_set]; exact hl) fun j hj => ?_
    by_cases e : i = j
    · subst e
      by_cases lt : i < σ.length
      · rw [List.getElem?_set_self (by omega)]
        rw [List.getElem?_eq_getElem lt]; rfl
      · rw [List.getElem?_eq_none (by rw [List.length_set]; omega), List.getElem?_eq_none (by omega)]
    · rw [List.getElem?_set_ne e]
      exact h j fun z => (List.mem_cons.mp z).elim (fun w => e w.symm) hj
theorem unS_wipe {own : List Nat} : unS σ (wipe σ own) own = σ := unS_eq (wipe_length _ _) fun j hj => wipe_out hj
theorem At.wipeD : ∀ {own : List Nat}, (∀ i ∈ own, i < env.length) → At c F env stk σ ws H → At c F (wipeE env own) stk (wipe σ own) ws H
  | [], _, A => A
  | i :: is, hi, A => by
    have B := At.wipeD (own := is) (fun j hj => hi j (List.mem_cons_of_mem _ hj)) A
    exact At.forget (B.dropSlot i) (set_none_at (by rw [wipeE_len]; exact hi i List.mem_cons_self)) none
theorem wipe_idem {own : List Nat} : wipe (wipe σ own) own = wipe σ own := wipe_agr ⟨rfl, fun _ _ => rfl⟩ fun i h => h

/-! ### the list that is made -/
def dl (acc : List T) : Option Sl := some ⟨.lst acc, .own⟩
theorem At.app_own {A B : En} {A' B' : List (Option V)} {acc : List T} {d : Option V} {t : T} {fr : Bool} {y : V} (S : At c F env (A ++ [dl acc] ++ B ++ [(OV.v t fr).sl]) σ (A' ++ [d] ++ B' ++ [some y]) H) (hA : A.length = A'.length) (hB : B.length = B'.length) :
    ∃ p accV, d = some (.ref p) ∧ H p = some (.lst accV) ∧ accV.length = acc.length ∧ At c F env (A ++ [dl (acc ++ [t])] ++ B) σ (A' ++ [d] ++ B') (upd H p (.lst (accV ++ [y]))) := by
  obtain ⟨O, S1, r⟩ := At.freeze (os := [.v t fr]) (vs := [y]) (ts := [t]) S (by simp [hA, hB]) rfl rfl
  have hl := S.hl
  have e1 : (env ++ (A ++ [dl acc] ++ B))[env.length + A.length]? = some (some ⟨.lst acc, .own⟩) := by
    rw [List.getElem?_append_right (Nat.le_add_right _ _), Nat.add_sub_cancel_left, List.append_assoc, List.getElem?_append_right (Nat.le_refl _), Nat.sub_self]; rfl
  have e2 : (σ ++ (A' ++ [d] ++ B'))[env.length + A.length]? = some d := by
    rw [hl, hA, List.getElem?_append_right (Nat.le_add_right _ _), Nat.add_sub_cancel_left, List.append_assoc, List.getElem?_append_right (Nat.le_refl _), Nat.sub_self]; rfl
  obtain ⟨v, h1, p, rfl, hO, _, accV, hH, hr⟩ := S1.ent _ _ e1
  rw [e2] at h1
  cases h1
  obtain ⟨y', hy, r1⟩ := r.one
  cases hy
  refine ⟨p, accV, rfl, hH, hr.length.symm, hl, by simp [hA, hB], O, ?_⟩
  have kp : Kp (F.av O) H (upd H p (.lst (accV ++ [y]))) := fun a o e q => by
    by_cases z : a = p
    · subst z
      rcases q with q | q
      · exact absurd (.inr (by rw [hO]; rfl)) q
      · rw [hH] at e; cases e; exact absurd trivial q
    · rw [upd_ne z]; exact e
  have := S1.put (t' := .lst (acc ++ [t])) e1 (fun z => nomatch z) e2 (H' := upd H p (.lst (accV ++ [y]))) (fun b o n e => by rw [upd_ne n]; exact e)
    ⟨_, upd_same, RepL.append (RepL.mono kp (fun _ _ _ z => z) _ _ hr) (RepL.cons (Rep.mono kp (fun _ _ _ z => z) _ _ r1) RepL.nil)⟩
  have e3 : (env ++ (A ++ [dl acc] ++ B)).set (env.length + A.length) (some ⟨.lst (acc ++ [t]), .own⟩) = env ++ (A ++ [dl (acc ++ [t])] ++ B) := by
    rw [List.set_append_right _ _ (Nat.le_add_right _ _), Nat.add_sub_cancel_left, List.append_assoc, List.set_append_right _ _ (Nat.le_refl _), Nat.sub_self, List.append_assoc]
    rfl
  rw [e3] at this
  exact this
theorem At.srcsGet {A B : En} {A' B' : List (Option V)} {ts : List T} {vs : List V} (S : At c F env (A ++ ts.map shE ++ B) σ (A' ++ vs.map some ++ B') H) (hA : A.length = A'.length) (hv : vs.length = ts.length) :
    ∃ O, SimO c F O (env ++ (A ++ ts.map shE ++ B)) (σ ++ (A' ++ vs.map some ++ B')) H ∧ RepL c H (F.av O) ts vs := by
  obtain ⟨O, S1⟩ := S.sim
  have hl := S.hl
  refine ⟨O, S1, ?_⟩
  have get : ∀ k t, ts[k]? = some t → ∃ v, vs[k]? = some v ∧ Rep c H (F.av O) t v := fun k t e => by
    have hk : k < ts.length := (List.getElem?_eq_some_iff.mp e).1
    obtain ⟨v, h1, h2⟩ := S1.ent (env.length + (A.length + k)) ⟨t, .sh⟩ (by
      rw [List.getElem?_append_right (Nat.le_add_right _ _), Nat.add_sub_cancel_left, List.append_assoc, List.getElem?_append_right (Nat.le_add_right _ _), Nat.add_sub_cancel_left, List.getElem?_append_left (by simpa using hk), List.getElem?_map, e]; rfl)
    rw [hl, hA, List.getElem?_append_right (Nat.le_add_right _ _), Nat.add_sub_cancel_left, List.append_assoc, List.getElem?_append_right (Nat.le_add_right _ _), Nat.add_sub_cancel_left, List.getElem?_append_left (by simp; omega), List.getElem?_map] at h1
    cases q : vs[k]? with
    | none => rw [q] at h1; cases h1
    | some v' => rw [q] at h1; cases h1; exact ⟨v, q, h2⟩
  clear S1 S hl hA
  induction ts generalizing vs with
  | nil =>
    have : vs = [] := List.eq_nil_of_length_eq_zero hv
    subst this
    exact RepL.nil
  | cons t ts ih =>
    cases vs with
    | nil => cases hv
    | cons v vs =>
      obtain ⟨v', q1, q2⟩ := get 0 t rfl
      cases q1
      exact RepL.cons q2 (ih (by simpa using hv) (fun k t' e => get (k + 1) t' e))
/-- a value from the heap of an iterator -/
theorem At.item {O : Addr → Option Nat} {H3 : Hp} {t : T} {x : V} (S : SimO c F O (env ++ stk) (σ ++ ws) H) (hl : env.length = σ.length) (hw : stk.length = ws.length) (g : Gr H H3) (r : Rep c H3 (F.av O) t x) : At c F env (stk ++ [shE t]) σ (ws ++ [some x]) H3 := by
  refine ⟨hl, by simp [hw], O, ?_⟩
  have := (S.grow g).push_sh r
  rw [List.append_assoc, List.append_assoc] at this
  exact this
theorem At.itemP {O : Addr → Option Nat} {H3 : Hp} {g : P} {t : T} {x : V} (S : SimO c F O (env ++ stk) (σ ++ ws) H) (hl : env.length = σ.length) (hw : stk.length = ws.length) (gr : Gr H H3) (r : RepP c H3 (F.av O) g t x) : AtP c F env stk σ ws H3 g t x := by
  rcases r with r | ⟨ps, ts, a, vs, e1, e2, e3, e4, r⟩
  · exact .inl (At.item S hl hw gr r)
  · refine .inr ⟨ps, ts, a, vs, e1, e2, e3, e4, r.length.symm, hw, hl, by simp [hw, r.length], O, ?_⟩
    have := (S.grow gr).push_items r
    rw [List.append_assoc, List.append_assoc] at this
    exact this
end
end DD
/-! DBlk2: the loops of comprehensions. -/
namespace DD
variable [Mode]
open PySem L2
section
variable {c : Cn} {W : Nat} {D : Nat → Option Df} {Γ : Gm} {n : Nat} {X : Cx} {F : Fr} {env stk : En} {σ : St} {ws : List (Option V)} {H : Hp} {Φ Ψ : Nat → Fn}
def tOf (c : Cn) (Φ Ψ : Nat → Fn) : Option E → TT
  | none => tYes
  | some e => rdT c Φ Ψ e
theorem tOf_ok {cond : Option E} {A : En} {A' : List (Option V)} {b : Bool} {env' : En} (S : At c F env A σ A' H) (h : evc Φ Ψ cond env = .ok (b, env')) {Q : Bool → Hp → Prop} (k : ∀ H', At c F env' A σ A' H' → Q b H') : tOf c Φ Ψ cond σ H Q := by
  cases cond with
  | none => rw [evc] at h; cases h; exact k _ S
  | some e =>
    rw [evc] at h
    obtain ⟨⟨o, e1⟩, h1, h2⟩ := R.bind_ok h
    obtain ⟨d, h3, h4⟩ := R.bind_ok h2
    cases h4
    exact rdT_of S h1 h3 k
theorem drop_cons {α : Type} {xs : List α} {i : Nat} (h : i < xs.length) : xs.drop i = xs[i] :: xs.drop (i + 1) := List.drop_eq_getElem_cons h
theorem loop_core {J : It} {ts : List T} {vs : List V} {xs : List T} {own : List Nat} {g : P} {cond : Option E} {elt : E} {A B : En} {A' B' : List (Option V)} {τ : St} {p : Addr} (hA : A.length = A'.length) (hB : B.length = B'.length) (hw : Walks c F g J ts vs xs)
    (hsrc : ∀ env acc σ H, At c F env (A ++ [dl acc] ++ B) σ (A' ++ [some (.ref p)] ++ B') H → ∃ O, SimO c F O (env ++ (A ++ [dl acc] ++ B)) (σ ++ (A' ++ [some (.ref p)] ++ B')) H ∧ RepL c H (F.av O) ts vs)
    (hs : ∀ i ∈ slotsP g, i ∈ own) (ho : ∀ i ∈ own, i < τ.length) {ys : List T} {envZ : En} {End : Hp → Prop} (hEnd : ∀ H, At c F (wipeE envZ own) (A ++ [dl ys] ++ B) (wipe τ own) (A' ++ [some (.ref p)] ++ B') H → End H)
    {acc0 : List T} {env0 : En} {H0 : Hp} (h0 : loopC (fun e => ev Φ Ψ elt e) (fun e => evc Φ Ψ cond e) g own xs acc0 env0 = .ok (ys, envZ)) (A0 : At c F (wipeE env0 own) (A ++ [dl acc0] ++ B) (wipe τ own) (A' ++ [some (.ref p)] ++ B') H0) :
    ∃ W : Nat → Nat → Hp → Prop, (∃ m, W 0 m H0) ∧ ∀ i m H, W i m H →
      (J.stop i H ∧ End H) ∨ (J.go i H ∧ ∃ Nx : Hp → Prop, (∀ H', Nx H' → ∃ m', m' < m ∧ W (i + 1) m' H') ∧ ∀ x H', J.yld i H x H' → rdG c g x (wipe τ own) H' fun σ2 H2 => wipe σ2 own = wipe τ own ∧ tOf c Φ Ψ cond σ2 H2 fun b H3 =>
        if b = true then rdE c Φ Ψ elt σ2 H3 fun y H4 => ∃ acc, H4 p = some (.lst acc) ∧ acc.length < sizeLine ∧ Nx (upd H4 p (.lst (acc ++ [y]))) else Nx H3) := by
  let V : Nat → Hp → Prop := fun i H => ∃ acc e, loopC (fun e => ev Φ Ψ elt e) (fun e => evc Φ Ψ cond e) g own (xs.drop i) acc e = .ok (ys, envZ) ∧ At c F (wipeE e own) (A ++ [dl acc] ++ B) (wipe τ own) (A' ++ [some (.ref p)] ++ B') H
  refine ⟨fun i m H => m = xs.length - i ∧ i ≤ xs.length ∧ V i H, ⟨xs.length, by simp, Nat.zero_le _, acc0, env0, h0, A0⟩, ?_⟩
  rintro i m H ⟨rfl, hi, acc, e, hloop, A1⟩
  obtain ⟨O, S, rl⟩ := hsrc _ _ _ _ A1
  have walk := hw _ _ _ _ S rl i
  by_cases hlt : i < xs.length
  · refine .inr ?_
    have hx := List.getElem?_eq_getElem hlt
    obtain ⟨go, yld⟩ := walk.2 _ hx
    rw [drop_cons hlt] at hloop
    simp only [loopC] at hloop
    obtain ⟨e1, q1, hloop⟩ := R.bind_ok hloop
    obtain ⟨⟨b, e2⟩, q2, hloop⟩ := R.bind_ok hloop
    refine ⟨go, V (i + 1), fun H' hv => ⟨xs.length - (i + 1), by omega, rfl, hlt, hv⟩, fun x H' hy => ?_⟩
    obtain ⟨gr, rx⟩ := yld x H' hy
    have A2 := At.itemP S A1.hl A1.hw gr rx
    refine ⟨F, _, _, _, _, e1, A2, q1, fun σ2 H2 A3 agr => ?_⟩
    have ew : wipe σ2 own = wipe τ own := wipe_agr agr hs
    have hl2 : σ2.length = τ.length := agr.1.trans (wipe_length _ _)
    refine ⟨ew, tOf_ok A3 q2 fun H3 A4 => ?_⟩
    have nxt : ∀ {acc' : List T} {e' : En} {H' : Hp}, loopC (fun e => ev Φ Ψ elt e) (fun e => evc Φ Ψ cond e) g own (xs.drop (i + 1)) acc' e' = .ok (ys, envZ) → At c F e' (A ++ [dl acc'] ++ B) σ2 (A' ++ [some (.ref p)] ++ B') H' → V (i + 1) H' := fun {acc' e' H'} hl A5 => by
      refine ⟨acc', e', hl, ?_⟩
      have := A5.wipeD (own := own) fun i hi => by rw [A5.hl, hl2]; exact ho i hi
      rw [ew] at this
      exact this
    cases b with
    | false =>
      rw [if_neg Bool.false_ne_true] at hloop ⊢
      exact nxt hloop A4
    | true =>
      rw [if_pos rfl] at hloop ⊢
      obtain ⟨⟨o, e3⟩, q3, hloop⟩ := R.bind_ok hloop
      cases o with
      | s j => cases hloop
      | v t fr =>
        simp only at hloop
        split at hloop
        · rename_i hz
          refine ⟨F, e2, _, _, A4, _, _, q3, fun y H4 A5 _ => ?_⟩
          obtain ⟨p', accV, e4, hH, hlen, A6⟩ := At.app_own A5 hA hB
          cases e4
          exact ⟨accV, hH, by rw [hlen]; rw [line_eq] at hz; exact hz, nxt hloop A6⟩
        · cases hloop
  · refine .inl ?_
    have ei : i = xs.length := by omega
    subst ei
    rw [List.drop_length] at hloop
    simp only [loopC] at hloop
    cases hloop
    exact ⟨walk.1 rfl, hEnd _ A1⟩
/-- a new empty list on the stack -/
theorem At.newList (A : At c F env stk σ ws H) {p : Addr} (hp : H p = none) : At c F env (stk ++ [dl []]) σ (ws ++ [some (.ref p)]) (upd H p (.lst [])) := by
  obtain ⟨O, S⟩ := A.sim
  exact At.out (t := .lst []) (fr := true) S A.hl A.hw ⟨Gr.upd hp, by rw [if_pos rfl]; exact ⟨p, rfl, hp, ⟨[], upd_same, RepL.nil⟩⟩⟩
/-- what lies below the top is left out -/
theorem At.dropMid {M : En} {M' : List (Option V)} {s : Option Sl} {w : Option V} (A : At c F env (stk ++ M ++ [s]) σ (ws ++ M' ++ [w]) H) (hw : stk.length = ws.length) (hM : M.length = M'.length) (hm : ∀ x, s = some x → x.m ≠ .io) : At c F env (stk ++ [s]) σ (ws ++ [w]) H := by
  obtain ⟨O, S⟩ := A.sim
  have hl := A.hl
  have tot : ∀ j, j < env.length + stk.length → (env ++ (stk ++ [s]))[j]? = (env ++ (stk ++ M ++ [s]))[j]? ∧ (σ ++ (ws ++ [w]))[j]? = (σ ++ (ws ++ M' ++ [w]))[j]? := fun j hj => by
    have e1 : ∀ {α : Type} (X Y Z : List α), j < X.length + Y.length → (X ++ (Y ++ Z))[j]? = (X ++ Y)[j]? := fun X Y Z h => by
      rw [← List.append_assoc, List.getElem?_append_left (by simpa using h)]
    rw [List.append_assoc stk, List.append_assoc ws, e1 _ _ _ hj, e1 _ _ _ hj, e1 _ _ _ (by omega), e1 _ _ _ (by omega)]
    exact ⟨rfl, rfl⟩
  have top1 : (env ++ (stk ++ [s]))[env.length + stk.length]? = some s := by
    rw [List.getElem?_append_right (Nat.le_add_right _ _), Nat.add_sub_cancel_left, List.getElem?_append_right (Nat.le_refl _), Nat.sub_self]; rfl
  have top2 : (env ++ (stk ++ M ++ [s]))[env.length + (stk.length + M.length)]? = some s := by
    rw [List.getElem?_append_right (Nat.le_add_right _ _), Nat.add_sub_cancel_left, List.getElem?_append_right (by simp)]; simp
  have topv1 : (σ ++ (ws ++ [w]))[env.length + stk.length]? = some w := by
    rw [hl, hw, List.getElem?_append_right (Nat.le_add_right _ _), Nat.add_sub_cancel_left, List.getElem?_append_right (Nat.le_refl _), Nat.sub_self]; rfl
  have topv2 : (σ ++ (ws ++ M' ++ [w]))[env.length + (stk.length + M.length)]? = some w := by
    rw [hl, hw, hM, List.getElem?_append_right (Nat.le_add_right _ _), Nat.add_sub_cancel_left, List.getElem?_append_right (by simp)]; simp
  refine ⟨hl, by simp [hw], S.re (by simp [hl, hw]) (fun j => if j = env.length + stk.length then env.length + (stk.length + M.length) else j) fun j sl hj => ?_⟩
  have hjl : j < env.length + (stk.length + 1) := by
    have := (List.getElem?_eq_some_iff.mp hj).1
    simpa using this
  by_cases e : j = env.length + stk.length
  · rw [if_pos e]
    subst e
    rw [top1] at hj
    cases hj
    refine ⟨sl.m, top2, by rw [topv1, topv2], .inl rfl, fun z => absurd z (hm _ rfl), fun _ _ j' sl' hj' hf => ?_, fun a b => absurd b a⟩
    by_cases e' : j' = env.length + stk.length
    · exact e'
    · rw [if_neg e'] at hf
      have := (List.getElem?_eq_some_iff.mp hj').1
      simp only [List.length_append, List.length_cons, List.length_nil] at this
      omega
  · rw [if_neg e]
    have hlt : j < env.length + stk.length := by omega
    refine ⟨sl.m, by rw [← (tot j hlt).1]; exact hj, (tot j hlt).2, .inl rfl, fun _ => rfl, fun _ _ j' sl' hj' hf => ?_, fun a b => absurd b a⟩
    by_cases e' : j' = env.length + stk.length
    · rw [if_pos e'] at hf; omega
    · rw [if_neg e'] at hf; exact hf
theorem savL_len {own : List Nat} : (savL env own).length = (savV σ own).length := by
  induction own with
  | nil => rfl
  | cons i is ih => simp [savL, savV, ih]
/-- behind the block -/
theorem At.blkEnd {A B : En} {A' B' : List (Option V)} {own : List Nat} {old envZ : En} {ys : List T} {w : Option V} (hA : A.length = A'.length) (hB : B.length = B'.length) (ho : ∀ i ∈ own, i < envZ.length) (S : At c F (wipeE envZ own) (A ++ B ++ [dl ys] ++ savL old own) (wipe σ own) (A' ++ B' ++ [w] ++ savV σ own) H) :
    At c F (backE old envZ own) (A ++ [dl ys]) σ (A' ++ [w]) H := by
  have := S.unwipe (fun i hi => by rw [wipeE_len]; exact ho i hi)
  rw [unS_wipe] at this
  exact this.dropMid hA hB fun x e => by cases e; exact fun z => nomatch z
theorem rd_comp {nf : Addr → Prop} {k : ItK} {own : List Nat} {g : P} {es : List E} {cond : Option E} {elt : E} (nd : own.Nodup) (hs : ∀ i ∈ slotsP g, i ∈ own) :
    ∀ σ H Q, (∀ i ∈ own, i < σ.length) → rdE c Φ Ψ (.comp own g k es cond elt) σ H Q → tLc (rdI c nf Φ Ψ g k es) (rdG c g) (tOf c Φ Ψ cond) (rdE c Φ Ψ elt) own σ H (fun v H' => Unl nf (Q v) H') := by
  intro σ H Q ho ⟨F, env, stk, ws, A, o, env', h, k'⟩
  rw [ev] at h
  obtain ⟨⟨os, e1⟩, h1, ha⟩ := R.bind_ok h
  clear h
  obtain ⟨ts, h2, h⟩ := R.bind_ok ha
  clear ha
  obtain ⟨xs, h3, ha⟩ := R.bind_ok h
  clear h
  obtain ⟨⟨ys, envZ⟩, h4, h5⟩ := R.bind_ok ha
  clear ha
  cases h5
  refine ⟨F, env, stk, ws, A, os, e1, ts, xs, h1, R.opt_ok h2, R.opt_ok h3, fun F' J ss vs H1 _ bk A1 hlv hw p hp => ?_⟩
  have hle := A1.hl
  have A2 := A1.newList hp
  have A3 := A2.wipeS nd fun i hi => by rw [hle]; exact ho i hi
  have hA : (stk ++ ss.map shE).length = (ws ++ vs.map some).length := by simp [A.hw, hlv]
  refine loop_core (F := F') (A := stk ++ ss.map shE) (B := savL e1 own) hA savL_len hw (fun env acc σ H S => ?_) hs ho (fun H S => ?_) h4 A3
  · have := At.srcsGet (A := stk) (B := [dl acc] ++ savL e1 own) (A' := ws) (B' := [some (.ref p)] ++ savV _ own) (ts := ss) (vs := vs) (by simpa using S) A.hw hlv
    simpa using this
  · have hz : ∀ i ∈ own, i < envZ.length := fun i hi => by
      have := S.hl
      rw [wipeE_len, wipe_length] at this
      rw [this]; exact ho i hi
    exact (bk (At.blkEnd (B := ss.map shE) A.hw (by simp [hlv]) hz S)).mono fun H A' => k' _ _ A' trivial

theorem wipe_sub {own own2 : List Nat} (h : ∀ i ∈ own2, i ∈ own) : wipe (wipe σ own2) own = wipe σ own := by
  refine List.ext_getElem? fun j => ?_
  by_cases hj : j ∈ own
  · by_cases lt : j < σ.length
    · rw [wipe_in lt hj, wipe_in (by rw [wipe_length]; exact lt) hj]
    · rw [List.getElem?_eq_none (by rw [wipe_length, wipe_length]; omega), List.getElem?_eq_none (by rw [wipe_length]; omega)]
  · rw [wipe_out hj, wipe_out hj, wipe_out fun z => hj (h j z)]
theorem wipeE_in {j : Nat} (hj : j < env.length) : ∀ {own : List Nat}, j ∈ own → (wipeE env own)[j]? = some none
  | i :: is, h => by
    rw [wipeE]
    by_cases e : i = j
    · subst e; rw [List.getElem?_set_self (by rw [wipeE_len]; exact hj)]
    · rw [List.getElem?_set_ne e]
      exact wipeE_in hj ((List.mem_cons.mp h).resolve_left fun z => e z.symm)
theorem wipeE_sub {own own2 : List Nat} (h : ∀ i ∈ own2, i ∈ own) : wipeE (wipeE env own2) own = wipeE env own := by
  refine List.ext_getElem? fun j => ?_
  by_cases hj : j ∈ own
  · by_cases lt : j < env.length
    · rw [wipeE_in lt hj, wipeE_in (by rw [wipeE_len]; exact lt) hj]
    · rw [List.getElem?_eq_none (by rw [wipeE_len, wipeE_len]; omega), List.getElem?_eq_none (by rw [wipeE_len]; omega)]
  · rw [wipeE_out hj, wipeE_out hj, wipeE_out fun z => hj (h j z)]
theorem tt_if {A B : Prop} (a : A) : if true = true then A else B := by rw [if_pos rfl]; exact a
theorem rd_comp2 {nf nf2 : Addr → Prop} {k k2 : ItK} (hk2 : k2.isD = false) {own own2 : List Nat} {g g2 : P} {es es2 : List E} {cond : Option E} {elt : E} (nd : own.Nodup) (hs : ∀ i ∈ slotsP g, i ∈ own) (hs2 : ∀ i ∈ slotsP g2, i ∈ own2) (h2o : ∀ i ∈ own2, i ∈ own) :
    ∀ σ H Q, (∀ i ∈ own, i < σ.length) → rdE c Φ Ψ (.comp2 own g k es g2 k2 es2 own2 cond elt) σ H Q → tLc2 (rdI c nf Φ Ψ g k es) (rdG c g) tYes (rdI c nf2 Φ Ψ g2 k2 es2) (rdG c g2) (tOf c Φ Ψ cond) (rdE c Φ Ψ elt) own own2 σ H (fun v H' => Unl nf (Q v) H') := by
  intro σ H Q ho ⟨F, env, stk, ws, A, o, env', h, k'⟩
  rw [ev] at h
  obtain ⟨⟨os, e1⟩, h1, ha⟩ := R.bind_ok h
  clear h
  obtain ⟨ts, h2, h⟩ := R.bind_ok ha
  clear ha
  obtain ⟨xs, h3, ha⟩ := R.bind_ok h
  clear h
  obtain ⟨⟨ys, envZ⟩, h4, h5⟩ := R.bind_ok ha
  clear ha
  cases h5
  refine ⟨F, env, stk, ws, A, os, e1, ts, xs, h1, R.opt_ok h2, R.opt_ok h3, fun F' J ss vs H1 _ bk A1 hlv hw p hp => ?_⟩
  have hle := A1.hl
  have A2 := A1.newList hp
  have A3 := A2.wipeS nd fun i hi => by rw [hle]; exact ho i hi
  have hA : (stk ++ ss.map shE).length = (ws ++ vs.map some).length := by simp [A.hw, hlv]
  have hsv : (savL e1 own).length = (savV σ own).length := savL_len
  let inner : List T → En → R (List T × En) := fun acc env => (evs Φ Ψ es2 env).bind fun (os, env) => (R.opt (plainK k2 os)).bind fun ts => (R.opt (k2.walk ts)).bind fun ys => loopC (fun e => ev Φ Ψ elt e) (fun e => evc Φ Ψ cond e) g2 own2 ys acc env
  let V : Nat → Hp → Prop := fun i H => ∃ acc e, loopC2 inner g own (xs.drop i) acc e = .ok (ys, envZ) ∧ At c F' (wipeE e own) ((stk ++ ss.map shE) ++ [dl acc] ++ savL e1 own) (wipe σ own) ((ws ++ vs.map some) ++ [some (.ref p)] ++ savV σ own) H
  refine ⟨fun i m H => m = xs.length - i ∧ i ≤ xs.length ∧ V i H, ⟨xs.length, by simp, Nat.zero_le _, [], e1, h4, A3⟩, ?_⟩
  rintro i m H ⟨rfl, hi, acc, e, hloop, B1⟩
  obtain ⟨O, S, rl⟩ : ∃ O, SimO c F' O (wipeE e own ++ ((stk ++ ss.map shE) ++ [dl acc] ++ savL e1 own)) (wipe σ own ++ ((ws ++ vs.map some) ++ [some (.ref p)] ++ savV σ own)) H ∧ RepL c H (F'.av O) ss vs := by
    have := At.srcsGet (A := stk) (B := [dl acc] ++ savL e1 own) (A' := ws) (B' := [some (.ref p)] ++ savV _ own) (ts := ss) (vs := vs) (by simpa using B1) A.hw hlv
    simpa using this
  have walk := hw _ _ _ _ S rl i
  by_cases hlt : i < xs.length
  · refine .inr ?_
    have hx := List.getElem?_eq_getElem hlt
    obtain ⟨go, yld⟩ := walk.2 _ hx
    rw [drop_cons hlt] at hloop
    simp only [loopC2] at hloop
    obtain ⟨e2, q1, hloop⟩ := R.bind_ok hloop
    obtain ⟨⟨acc2, e3⟩, q2, hloop⟩ := R.bind_ok hloop
    refine ⟨go, V (i + 1), fun H' hv => ⟨xs.length - (i + 1), by omega, rfl, hlt, hv⟩, fun x H' hy => ?_⟩
    obtain ⟨gr, rx⟩ := yld x H' hy
    have B2 := At.itemP S B1.hl B1.hw gr rx
    refine ⟨F', _, _, _, _, e2, B2, q1, fun σ2 H2 B3 agr => ?_⟩
    have ew : wipe σ2 own = wipe σ own := wipe_agr agr hs
    have hl2 : σ2.length = σ.length := agr.1.trans (wipe_length _ _)
    refine ⟨ew, ?_⟩
    unfold tYes
    dsimp only
    rw [if_pos rfl]
    obtain ⟨⟨os2, e4⟩, u1, u⟩ := R.bind_ok q2
    clear q2
    obtain ⟨ts2, u2, u'⟩ := R.bind_ok u
    clear u
    obtain ⟨xs2, u3, u⟩ := R.bind_ok u'
    clear u'
    refine ⟨F', e2, _, _, B3, os2, e4, ts2, xs2, u1, R.opt_ok u2, R.opt_ok u3, fun F2 J2 ss2 vs2 H3 hF2 _ B4 hlv2 hw2 => ?_⟩
    have hF2 := hF2 hk2
    subst hF2
    have hl4 : e4.length = σ.length := by rw [B4.hl, hl2]
    have ho2 : ∀ i ∈ own2, i < σ2.length := fun i hi => by rw [hl2]; exact ho i (h2o i hi)
    have B5 := B4.wipeD (own := own2) fun i hi => by rw [B4.hl]; exact ho2 i hi
    refine loop_core (F := F2) (A := stk ++ ss.map shE) (B := savL e1 own ++ ss2.map shE) (A' := ws ++ vs.map some) (B' := savV σ own ++ vs2.map some) hA (by simp [hsv, hlv2]) hw2 (fun env acc σ H S => ?_) hs2 ho2 (fun H6 S6 => ?_) u ?_
    · have := At.srcsGet (A := stk ++ ss.map shE ++ [dl acc] ++ savL e1 own) (B := []) (A' := ws ++ vs.map some ++ [some (.ref p)] ++ savV _ own) (B' := []) (ts := ss2) (vs := vs2) (by simpa using S) (by simp [A.hw, hlv, hsv]) hlv2
      simpa using this
    · refine ⟨acc2, e3, hloop, ?_⟩
      have S7 : At c F2 (wipeE e3 own2) (((stk ++ ss.map shE) ++ [dl acc2] ++ savL e1 own) ++ ss2.map shE) (wipe σ2 own2) (((ws ++ vs.map some) ++ [some (.ref p)] ++ savV σ own) ++ vs2.map some) H6 := by simpa using S6
      have S8 := S7.drop (by simp [A.hw, hlv, hsv])
      have S9 := S8.wipeD (own := own) fun i hi => by rw [S8.hl, wipe_length, hl2]; exact ho i hi
      rw [wipeE_sub h2o, wipe_sub h2o, ew] at S9
      exact S9
    · simpa using B5
  · refine .inl ?_
    have ei : i = xs.length := by omega
    subst ei
    rw [List.drop_length] at hloop
    simp only [loopC2] at hloop
    cases hloop
    refine ⟨walk.1 rfl, ?_⟩
    have hz : ∀ i ∈ own, i < envZ.length := fun i hi => by
      have := B1.hl
      rw [wipeE_len, wipe_length] at this
      rw [this]; exact ho i hi
    exact (bk (At.blkEnd (B := ss.map shE) A.hw (by simp [hlv]) hz B1)).mono fun H A' => k' _ _ A' trivial
/-- the dict that is made -/
def dd (acc : List (T × T)) : Option Sl := some ⟨.dct acc, .own⟩
theorem At.newDict (A : At c F env stk σ ws H) {p : Addr} (hp : H p = none) : At c F env (stk ++ [dd []]) σ (ws ++ [some (.ref p)]) (upd H p (.dK [])) := by
  obtain ⟨O, S⟩ := A.sim
  exact At.out (t := .dct []) (fr := true) S A.hl A.hw ⟨Gr.upd hp, by rw [if_pos rfl]; exact ⟨p, rfl, hp, .inl ⟨[], upd_same, by rw [RepK0]⟩⟩⟩
/-- a pair on the top of the stack goes into a dict of the stack -/
theorem At.put_own {A B : En} {A' B' : List (Option V)} {acc : List (T × T)} {d : Option V} {k t : T} {f1 f2 : Bool} {y z : V} (S : At c F env (A ++ [dd acc] ++ B ++ [(OV.v k f1).sl, (OV.v t f2).sl]) σ (A' ++ [d] ++ B' ++ [some y, some z]) H) (hA : A.length = A'.length) (hB : B.length = B'.length) (hf : fitK k acc = true) (hl : acc.length < sizeLine) :
    ∃ p ob, d = some (.ref p) ∧ DPutE c.P c.w H p y z (upd H p ob) ∧ At c F env (A ++ [dd (putT k t acc)] ++ B) σ (A' ++ [d] ++ B') (upd H p ob) := by
  obtain ⟨O, S1, r⟩ := At.freeze (os := [.v k f1, .v t f2]) (vs := [y, z]) (ts := [k, t]) S (by simp [hA, hB]) rfl rfl
  have hl0 := S.hl
  have e1 : (env ++ (A ++ [dd acc] ++ B))[env.length + A.length]? = some (some ⟨.dct acc, .own⟩) := by
    rw [List.getElem?_append_right (Nat.le_add_right _ _), Nat.add_sub_cancel_left, List.append_assoc, List.getElem?_append_right (Nat.le_refl _), Nat.sub_self]; rfl
  have e2 : (σ ++ (A' ++ [d] ++ B'))[env.length + A.length]? = some d := by
    rw [hl0, hA, List.getElem?_append_right (Nat.le_add_right _ _), Nat.add_sub_cancel_left, List.append_assoc, List.getElem?_append_right (Nat.le_refl _), Nat.sub_self]; rfl
  obtain ⟨v, h1, p, rfl, hO, _, hc⟩ := S1.ent _ _ e1
  rw [e2] at h1
  cases h1
  obtain ⟨y', z', e, r1, r2⟩ := r.two'
  cases e
  obtain ⟨ob, g1, g2, g4⟩ := hc.put (.inr (by rw [hO]; rfl)) r1 r2 hf hl
  obtain ⟨o0, ho0, mo0⟩ := hc.dom
  have kp : Kp (F.av O) H (upd H p ob) := fun a o e q => by
    by_cases w : a = p
    · subst w
      rcases q with q | q
      · exact absurd (.inr (by rw [hO]; rfl)) q
      · rw [ho0] at e; cases e; exact absurd mo0 q
    · rw [upd_ne w]; exact e
  refine ⟨p, ob, rfl, g1, hl0, by simp [hA, hB], O, ?_⟩
  have := S1.put (t' := .dct (putT k t acc)) e1 (fun z => nomatch z) e2 (H' := upd H p ob) (fun b o n e => by rw [upd_ne n]; exact e) (g4 kp)
  have e3 : (env ++ (A ++ [dd acc] ++ B)).set (env.length + A.length) (some ⟨.dct (putT k t acc), .own⟩) = env ++ (A ++ [dd (putT k t acc)] ++ B) := by
    rw [List.set_append_right _ _ (Nat.le_add_right _ _), Nat.add_sub_cancel_left, List.append_assoc, List.set_append_right _ _ (Nat.le_refl _), Nat.sub_self, List.append_assoc]
    rfl
  rw [e3] at this
  exact this
theorem At.blkEndG {A B : En} {A' B' : List (Option V)} {own : List Nat} {old envZ : En} {s : Option Sl} {w : Option V} (hsm : ∀ x, s = some x → x.m ≠ .io) (hA : A.length = A'.length) (hB : B.length = B'.length) (ho : ∀ i ∈ own, i < envZ.length) (S : At c F (wipeE envZ own) (A ++ B ++ [s] ++ savL old own) (wipe σ own) (A' ++ B' ++ [w] ++ savV σ own) H) :
    At c F (backE old envZ own) (A ++ [s]) σ (A' ++ [w]) H := by
  have := S.unwipe (fun i hi => by rw [wipeE_len]; exact ho i hi)
  rw [unS_wipe] at this
  exact this.dropMid hA hB hsm
theorem rd_dcomp {nf : Addr → Prop} {k : ItK} {own : List Nat} {g : P} {es : List E} {key val : E} (nd : own.Nodup) (hs : ∀ i ∈ slotsP g, i ∈ own) :
    ∀ σ H Q, (∀ i ∈ own, i < σ.length) → rdE c Φ Ψ (.dcomp own g k es key val) σ H Q → tDcE c.P c.w (rdI c nf Φ Ψ g k es) (rdG c g) tYes (rdE c Φ Ψ key) (rdE c Φ Ψ val) own σ H (fun v H' => Unl nf (Q v) H') := by
  intro σ H Q ho ⟨F, env, stk, ws, A, o, env', h, k'⟩
  rw [ev] at h
  obtain ⟨⟨os, e1⟩, h1, ha⟩ := R.bind_ok h
  clear h
  obtain ⟨ts, h2, h⟩ := R.bind_ok ha
  clear ha
  obtain ⟨xs, h3, ha⟩ := R.bind_ok h
  clear h
  obtain ⟨⟨ys, envZ⟩, h4, h5⟩ := R.bind_ok ha
  clear ha
  cases h5
  refine ⟨F, env, stk, ws, A, os, e1, ts, xs, h1, R.opt_ok h2, R.opt_ok h3, fun F' J ss vs H1 _ bk A1 hlv hw p hp => ?_⟩
  have hle := A1.hl
  have A2 := A1.newDict hp
  have A3 := A2.wipeS nd fun i hi => by rw [hle]; exact ho i hi
  have hA : (stk ++ ss.map shE).length = (ws ++ vs.map some).length := by simp [A.hw, hlv]
  have hsv : (savL e1 own).length = (savV σ own).length := savL_len
  let f : En → R (T × T × En) := fun e => (ev Φ Ψ key e).bind fun (o, e) => (ev Φ Ψ val e).bind fun (p, e) => match o, p with
        | .v a _, .v b _ => .ok (a, b, e)
        | _, _ => .bad
  let V : Nat → Hp → Prop := fun i H => ∃ acc e, loopD f g own (xs.drop i) acc e = .ok (ys, envZ) ∧ At c F' (wipeE e own) ((stk ++ ss.map shE) ++ [dd acc] ++ savL e1 own) (wipe σ own) ((ws ++ vs.map some) ++ [some (.ref p)] ++ savV σ own) H
  refine ⟨fun i m H => m = xs.length - i ∧ i ≤ xs.length ∧ V i H, ⟨xs.length, by simp, Nat.zero_le _, [], e1, h4, A3⟩, ?_⟩
  rintro i m H ⟨rfl, hi, acc, e, hloop, B1⟩
  obtain ⟨O, S, rl⟩ : ∃ O, SimO c F' O (wipeE e own ++ ((stk ++ ss.map shE) ++ [dd acc] ++ savL e1 own)) (wipe σ own ++ ((ws ++ vs.map some) ++ [some (.ref p)] ++ savV σ own)) H ∧ RepL c H (F'.av O) ss vs := by
    have := At.srcsGet (A := stk) (B := [dd acc] ++ savL e1 own) (A' := ws) (B' := [some (.ref p)] ++ savV _ own) (ts := ss) (vs := vs) (by simpa using B1) A.hw hlv
    simpa using this
  have walk := hw _ _ _ _ S rl i
  by_cases hlt : i < xs.length
  · refine .inr ?_
    have hx := List.getElem?_eq_getElem hlt
    obtain ⟨go, yld⟩ := walk.2 _ hx
    rw [drop_cons hlt] at hloop
    simp only [loopD] at hloop
    obtain ⟨e2, q1, hloop⟩ := R.bind_ok hloop
    obtain ⟨⟨kt, vt, e3⟩, q2, hloop⟩ := R.bind_ok hloop
    refine ⟨go, V (i + 1), fun H' hv => ⟨xs.length - (i + 1), by omega, rfl, hlt, hv⟩, fun x H' hy => ?_⟩
    obtain ⟨gr, rx⟩ := yld x H' hy
    have B2 := At.itemP S B1.hl B1.hw gr rx
    refine ⟨F', _, _, _, _, e2, B2, q1, fun σ2 H2 B3 agr => ?_⟩
    have ew : wipe σ2 own = wipe σ own := wipe_agr agr hs
    have hl2 : σ2.length = σ.length := agr.1.trans (wipe_length _ _)
    refine ⟨ew, ?_⟩
    unfold tYes
    dsimp only
    rw [if_pos rfl]
    split at hloop
    · rename_i hz
      rw [Bool.and_eq_true, decide_eq_true_eq] at hz
      obtain ⟨⟨o1, e4⟩, u1, u⟩ := R.bind_ok q2
      obtain ⟨⟨o2, e5⟩, u2, u⟩ := R.bind_ok u
      dsimp only at u u2
      cases o1 with
      | s _ => cases u
      | v a f1 =>
      cases o2 with
      | s _ => cases u
      | v b f2 =>
        cases u
        refine ⟨F', e2, _, _, B3, _, _, u1, fun y H4 B4 _ => ⟨F', e4, _, _, B4, _, _, u2, fun z H5 B5 _ => ?_⟩⟩
        have B6 : At c F' e3 ((stk ++ ss.map shE) ++ [dd acc] ++ savL e1 own ++ [(OV.v kt f1).sl, (OV.v vt f2).sl]) σ2 ((ws ++ vs.map some) ++ [some (.ref p)] ++ savV σ own ++ [some y, some z]) H5 := by simpa using B5
        obtain ⟨p', ob, w1, w2, B7⟩ := At.put_own B6 hA hsv hz.1 (by rw [← line_eq]; exact hz.2)
        cases w1
        refine ⟨_, w2, _, _, hloop, ?_⟩
        have B8 := B7.wipeD (own := own) fun i hi => by rw [B7.hl, hl2]; exact ho i hi
        rw [ew] at B8
        exact B8
    · cases hloop
  · refine .inl ?_
    have ei : i = xs.length := by omega
    subst ei
    rw [List.drop_length] at hloop
    simp only [loopD] at hloop
    cases hloop
    refine ⟨walk.1 rfl, ?_⟩
    have hz : ∀ i ∈ own, i < envZ.length := fun i hi => by
      have := B1.hl
      rw [wipeE_len, wipe_length] at this
      rw [this]; exact ho i hi
    exact (bk (At.blkEndG (B := ss.map shE) (fun x e => by cases e; exact fun z => nomatch z) A.hw (by simp [hlv]) hz B1)).mono fun H A' => k' _ _ A' trivial
end
end DD
/-! DSnd4: all expressions. -/
namespace DD
variable [Mode]
open PySem L2
section
variable {c : Cn} {W : Nat} {D : Nat → Option Df} {Γ : Gm} {n : Nat} {X : Cx}
abbrev rE (c : Cn) (W : Nat) (D : Nat → Option Df) (n : Nat) (e : E) : TE := rdE c (fnS W D n) badF e
abbrev rT (c : Cn) (W : Nat) (D : Nat → Option Df) (n : Nat) (e : E) : TT := rdT c (fnS W D n) badF e
abbrev rA (c : Cn) (W : Nat) (D : Nat → Option Df) (n : Nat) (es : List E) : TA := rdA c (fnS W D n) badF es
theorem rdE_mono {Φ Ψ : Nat → Fn} {e : E} {σ : St} {H : Hp} {Q Q' : VK} (h : rdE c Φ Ψ e σ H Q) (k : ∀ v H', Q v H' → Q' v H') : rdE c Φ Ψ e σ H Q' := by
  obtain ⟨F, env, stk, ws, A, o, env', h1, h2⟩ := h
  exact ⟨F, env, stk, ws, A, o, env', h1, fun v H' A' ok => k _ _ (h2 v H' A' ok)⟩
theorem PE.wkI {e : Expr} {t t' : TE} (h : PE X e t) (k : ∀ σ H Q, σ.length = X.N.length → t' σ H Q → t σ H Q) : PE X e t' := ⟨fun pins s σ H Q I q => h.run pins s σ H Q I (k σ H Q I.len q)⟩

/-! ### the rules of the operations -/
/-- a binary operator -/
theorem bin_ok (g : Good c W D Γ n X) {p : Prim} {o : Operator} (h : binO p = some o) : ∃ r, OpR X (binaryOp o) r ∧ P2 c p r := by
  cases p <;> simp only [binO, Option.some.injEq, reduceCtorEq] at h <;> subst h
  · exact ⟨_, op_addT g.K, p2_add⟩
  · exact ⟨_, op_sub, p2_sub⟩
  · exact ⟨_, op_mulA g.K, p2_mul⟩
  · exact ⟨_, op_fdivB, p2_fdiv⟩
  · exact ⟨_, op_mod, p2_mod⟩
  · exact ⟨_, op_pow, p2_pow⟩
theorem p2_in : P2 c .inn (fun x y H Q => rInS c.K false x y H Q ∨ rInE c.P c.w x y H Q) := by
  intro Av H tx ty x y t Q hx hy h k
  replace h : sIn tx ty = some t := h
  by_cases hd : tyDict ty = true
  · cases ty <;> simp only [tyDict, Bool.false_eq_true] at hd
    simp only [sIn] at h
    split at h <;> cases h
    exact .inr (in_dct hy hx (by assumption) (k _ _ Out.bl))
  · exact .inl (p2_inS Av H tx ty x y t Q hx hy h ((Bool.not_eq_true _).mp hd) k)
theorem p2_notin : P2 c .notin (fun x y H Q => rInS c.K true x y H Q ∨ rNotinE c.P c.w x y H Q) := by
  intro Av H tx ty x y t Q hx hy h k
  replace h : sNotin tx ty = some t := h
  by_cases hd : tyDict ty = true
  · cases ty <;> simp only [tyDict, Bool.false_eq_true] at hd
    simp only [sNotin] at h
    split at h <;> cases h
    exact .inr (notin_dct hy hx (by assumption) (k _ _ Out.bl))
  · exact .inl (p2_notinS Av H tx ty x y t Q hx hy h ((Bool.not_eq_true _).mp hd) k)
theorem cmp_ok (g : Good c W D Γ n X) {p : Prim} {o : CmpOp} (h : cmpO p = some o) : ∃ r, OpR X (compareOp o) r ∧ P2 c p r := by
  have hu : X.A.units + 64 < cLine := by have := g.un; omega
  cases p <;> simp only [cmpO, Option.some.injEq, reduceCtorEq] at h <;> subst h
  · exact ⟨_, op_eqD hu, g.K ▸ p2_eq⟩
  · exact ⟨_, op_neD hu, g.K ▸ p2_ne⟩
  · exact ⟨_, op_lt, p2_lt⟩
  · exact ⟨_, op_le, p2_le⟩
  · exact ⟨_, op_gt, p2_gt⟩
  · exact ⟨_, op_ge, p2_ge⟩
  · exact ⟨_, op_isN, p2_isN⟩
  · exact ⟨_, op_notN, p2_notN⟩
  · exact ⟨_, (op_inS g.K g.un).or (op_inE g.pg g.wd (by omega)), p2_in⟩
  · exact ⟨_, (op_notinS g.K g.un).or (op_notinE g.pg g.wd (by omega)), p2_notin⟩
/-- ints compared -/
theorem c2_int {p : Prim} {f : Int → Int → Bool} (h : ∀ tx ty t, p.sem [tx, ty] = some t → ∃ i j, tx = .int i ∧ ty = .int j ∧ t = .bl (f i j)) : C2 c p (rI0 fun i j => .bl (f i j)) := by
  intro Av H tx ty x y b Q hx hy hs q
  obtain ⟨i, j, rfl, rfl, e⟩ := h _ _ _ hs
  cases e
  exact ⟨i, j, hx.int, hy.int, q⟩
theorem ord_sem {p : Prim} {f : T → T → Option T} {g : Int → Int → Bool} (hp : p.sem = two f) (h : ∀ a b, f a b = match a, b with | .int i, .int j => some (.bl (g i j)) | _, _ => none) : ∀ tx ty t, p.sem [tx, ty] = some t → ∃ i j, tx = .int i ∧ ty = .int j ∧ t = .bl (g i j) := by
  intro tx ty t e
  rw [hp] at e
  replace e : f tx ty = some t := e
  rw [h] at e
  split at e
  · cases e; exact ⟨_, _, rfl, rfl, rfl⟩
  · cases e
theorem lt_sem : ∀ tx ty t, Prim.lt.sem [tx, ty] = some t → ∃ i j, tx = .int i ∧ ty = .int j ∧ t = .bl (decide (i < j)) := ord_sem (f := sLt) rfl fun a b => by cases a <;> cases b <;> rfl
theorem le_sem : ∀ tx ty t, Prim.le.sem [tx, ty] = some t → ∃ i j, tx = .int i ∧ ty = .int j ∧ t = .bl (decide (i ≤ j)) := ord_sem (f := sLe) rfl fun a b => by cases a <;> cases b <;> rfl
theorem gt_sem : ∀ tx ty t, Prim.gt.sem [tx, ty] = some t → ∃ i j, tx = .int i ∧ ty = .int j ∧ t = .bl (decide (j < i)) := ord_sem (f := sGt) rfl fun a b => by cases a <;> cases b <;> rfl
theorem ge_sem : ∀ tx ty t, Prim.ge.sem [tx, ty] = some t → ∃ i j, tx = .int i ∧ ty = .int j ∧ t = .bl (decide (j ≤ i)) := ord_sem (f := sGe) rfl fun a b => by cases a <;> cases b <;> rfl
theorem bl_of {p : Prim} {g : Int → Int → Bool} (h : ∀ tx ty t, p.sem [tx, ty] = some t → ∃ i j, tx = .int i ∧ ty = .int j ∧ t = .bl (g i j)) : ∀ tx ty t, p.sem [tx, ty] = some t → ∃ b, t = .bl b := fun tx ty t e => by
  obtain ⟨i, j, _, _, e⟩ := h tx ty t e
  exact ⟨_, e⟩
theorem c2_eq : C2 c .eq (rEqD c.K) := by
  intro Av H tx ty x y b Q hx hy h k
  replace h : sEq tx ty = some (.bl b) := h
  unfold sEq at h
  split at h <;> cases h
  rename_i hd
  rw [Bool.and_eq_true] at hd
  exact ⟨_, _, hx.dp 60 hd.1, hy.dp 60 hd.2, dat_shaped (by decide) hd.1, dat_shaped (by decide) hd.2, k⟩
theorem eq_sem : ∀ tx ty t, Prim.eq.sem [tx, ty] = some t → ∃ b, t = .bl b := by
  intro tx ty t h
  replace h : sEq tx ty = some t := h
  unfold sEq at h
  split at h <;> cases h
  exact ⟨_, rfl⟩
theorem ord_ok (g : Good c W D Γ n X) {p : Prim} {o : CmpOp} (h : ordO p = some o) : ∃ r, OpR X (compareOp o) r ∧ C2 c p r ∧ ∀ tx ty t, p.sem [tx, ty] = some t → ∃ b, t = .bl b := by
  have hu : X.A.units + 64 < cLine := by have := g.un; omega
  cases p <;> simp only [ordO, Option.some.injEq, reduceCtorEq] at h <;> subst h
  · exact ⟨_, op_eqD hu, g.K ▸ c2_eq, eq_sem⟩
  · exact ⟨_, op_lt, c2_int lt_sem, bl_of lt_sem⟩
  · exact ⟨_, op_le, c2_int le_sem, bl_of le_sem⟩
  · exact ⟨_, op_gt, c2_int gt_sem, bl_of gt_sem⟩
  · exact ⟨_, op_ge, c2_int ge_sem, bl_of ge_sem⟩
/-- a built-in that is called -/
theorem callee_ok (g : Good c W D Γ n X) {p : Prim} {nm : Str} {f : Value} (h : callee p = some (nm, f)) : ∃ r, CallR X f r ∧ PN c p r ∧ bootBuiltins nm = some f ∧ ((∃ id, f = .builtin id) ∨ ∃ T, f = .type T) := by
  have hc := g.calm
  have hK := g.K
  cases p <;> simp only [callee, Option.some.injEq, reduceCtorEq, Prod.mk.injEq] at h <;> obtain ⟨rfl, rfl⟩ := h
  · refine ⟨_, call_len.or (call_lenD.or call_len_dT), fun Av H ts vs t Q r h k => ?_, rfl, .inl ⟨_, rfl⟩⟩
    rw [hK]
    have q := r.one (p := .len) h
    obtain ⟨tx, x, rfl, rfl, hx, h2⟩ := q
    by_cases hd : tyDict tx = true
    · cases tx <;> simp only [tyDict, Bool.false_eq_true] at hd
      simp only [sLen] at h2
      cases h2
    · exact .inl (pn_len Av H _ _ t Q r h (fun a e => by cases e; exact (Bool.not_eq_true _).mp hd) k)
  · exact ⟨_, (cr_sum hc).or (cr_sumT hc), hK ▸ pn_sum, rfl, .inl ⟨_, rfl⟩⟩
  · exact ⟨_, call_abs, pn_abs, rfl, .inl ⟨_, rfl⟩⟩
  · exact ⟨_, call_int1, pn_int, rfl, .inr ⟨_, rfl⟩⟩
  · exact ⟨_, call_tupleS c.st, hK ▸ pn_tuple, rfl, .inr ⟨_, rfl⟩⟩
  · exact ⟨_, call_list_of, hK ▸ pn_list, rfl, .inr ⟨_, rfl⟩⟩
  · exact ⟨_, cr_sort hK g.un, pn_sorted, rfl, .inl ⟨_, rfl⟩⟩
  · exact ⟨_, call_min2 hc, pn_min2, rfl, .inl ⟨_, rfl⟩⟩
  · exact ⟨_, call_max2 hc, pn_max2, rfl, .inl ⟨_, rfl⟩⟩
  · exact ⟨_, cr_all hc, hK ▸ pn_all, rfl, .inl ⟨_, rfl⟩⟩
  · exact ⟨_, cr_any hc, hK ▸ pn_any, rfl, .inl ⟨_, rfl⟩⟩
theorem ix_ok (g : Good c W D Γ n X) : ∃ r, IxR X r ∧ P2 c .ix r := by
  refine ⟨_, ix_seq.or (ix_dictE g.pg g.wd (by have := g.un; omega)), fun Av H tx ty x y t Q hx hy h k => ?_⟩
  rw [g.K]
  replace h : sIx tx ty = some t := h
  by_cases hd : tyDict tx = true
  · cases tx <;> simp only [tyDict, Bool.false_eq_true] at hd
    simp only [sIx] at h
    split at h
    · exact .inr (ix_dct hx hy (by assumption) h fun v r => k v H (Out.sh rfl r))
    · cases h
  · exact .inl (p2_ixS Av H tx ty x y t Q hx hy h ((Bool.not_eq_true _).mp hd) k)

/-! ### slices -/
theorem p2_slL : P2 c .slL (fun x y H Q => ∃ i, y = .int i ∧ rSlT' c.st c.K x (some i) none H Q) := by
  intro Av H tx ty x y t Q hx hy h k
  replace h : sSlL tx ty = some t := h
  cases ty <;> simp only [sSlL, reduceCtorEq] at h
  exact ⟨_, hy.int, slice_core hx h k⟩
theorem p2_slU : P2 c .slU (fun x y H Q => ∃ i, y = .int i ∧ rSlT' c.st c.K x none (some i) H Q) := by
  intro Av H tx ty x y t Q hx hy h k
  replace h : sSlU tx ty = some t := h
  cases ty <;> simp only [sSlU, reduceCtorEq] at h
  exact ⟨_, hy.int, slice_core hx h k⟩
theorem notPeek_v {Φ Ψ : Nat → Fn} {e : E} (h : notPeek e = true) {env env' : En} {o : OV} (he : ev Φ Ψ e env = .ok (o, env')) : ∃ t fr, o = .v t fr := by
  cases e <;> simp only [notPeek] at h <;> try contradiction
  case cst t => rw [ev] at he; cases he; exact ⟨_, _, rfl⟩
  case var i =>
    rw [ev] at he
    split at he <;> cases he
    exact ⟨_, _, rfl⟩
  case mv i =>
    rw [ev] at he
    split at he <;> cases he <;> exact ⟨_, _, rfl⟩
  case prim p es =>
    rw [ev] at he
    obtain ⟨⟨os, e1⟩, h1, he⟩ := R.bind_ok he
    obtain ⟨ts, h2, he⟩ := R.bind_ok he
    obtain ⟨t, h3, he⟩ := R.bind_ok he
    cases he
    exact ⟨_, _, rfl⟩
  case call f es =>
    rw [ev] at he
    obtain ⟨⟨os, e1⟩, h1, he⟩ := R.bind_ok he
    obtain ⟨ts, h2, he⟩ := R.bind_ok he
    split at he
    · split at he
      · obtain ⟨e2, h3, he⟩ := R.bind_ok he
        cases he
        exact ⟨_, _, rfl⟩
      · cases he
    · cases he
theorem rd_slLU {Φ Ψ : Nat → Fn} {a b d : E} (hb : notPeek b = true) : ∀ σ H Q, rdE c Φ Ψ (.prim .slLU [a, b, d]) σ H Q → tSl (rSlT' c.st c.K) (rdE c Φ Ψ a) (tPart (rdE c Φ Ψ b)) (tPart (rdE c Φ Ψ d)) σ H Q := by
  intro σ H Q ⟨F, env, stk, ws, A, o, env', h, k⟩
  rw [ev] at h
  obtain ⟨⟨os, e1⟩, h1, ha⟩ := R.bind_ok h
  clear h
  obtain ⟨ts, h2, h⟩ := R.bind_ok ha
  clear ha
  obtain ⟨t, h3, ha⟩ := R.bind_ok h
  clear h
  cases ha
  replace h2 := R.opt_ok h2
  replace h3 := R.opt_ok h3
  simp only [evs] at h1
  obtain ⟨⟨o1, e2⟩, q1, h1⟩ := R.bind_ok h1
  obtain ⟨⟨os2, e3⟩, q2, h1⟩ := R.bind_ok h1
  cases h1
  obtain ⟨⟨o2, e4⟩, q3, h4⟩ := R.bind_ok q2
  obtain ⟨⟨os3, e5⟩, q4, h5⟩ := R.bind_ok h4
  cases h5
  obtain ⟨⟨o3, e6⟩, q5, h6⟩ := R.bind_ok q4
  cases h6
  obtain ⟨t2, fr2, rfl⟩ := notPeek_v hb q3
  obtain ⟨t1, r1, rfl, v1, v2⟩ := vals_cons h2
  obtain ⟨t2', r2, rfl, v3, v4⟩ := vals_cons v2
  obtain ⟨t3, r3, rfl, v5, v6⟩ := vals_cons v4
  rw [vals] at v6
  cases v6
  cases v3
  have h3 : sSlLU t1 t2 t3 = some t := h3
  obtain ⟨i, j, rfl, rfl, h3⟩ : ∃ i j, t2 = .int i ∧ t3 = .int j ∧ sSlice t1 (some i) (some j) = some t := by
    cases t2 <;> cases t3 <;> simp only [sSlLU, reduceCtorEq] at h3
    exact ⟨_, _, rfl, rfl, h3⟩
  refine ⟨F, env, stk, ws, A, o1, e2, q1, fun x H1 A1 ok1 => ⟨F, e2, _, _, A1, _, e4, q3, fun y H2 A2 ok2 => ?_⟩⟩
  obtain ⟨O, S, rt⟩ := At.ops (os := [.v (.int i) fr2]) (vs := [y]) (ts := [.int i]) A2 A1.hw (.cons trivial .nil) rfl
  cases rt with
  | cons p _ =>
    refine ⟨i, p.int, F, e4, _, _, A2, o3, _, q5, fun z H3 A3 ok3 => ?_⟩
    have A3' : At c F e6 (stk ++ [o1, .v (.int i) fr2, o3].map OV.sl) σ (ws ++ [x, y, z].map some) H3 := by
      rw [List.append_assoc, List.append_assoc, List.append_assoc, List.append_assoc] at A3
      exact A3
    obtain ⟨O3, S3, rt3⟩ := A3'.ops A.hw (.cons ok1 (.cons trivial (.cons ok3 .nil))) h2
    cases rt3 with
    | cons p1 rt3 =>
      cases rt3 with
      | cons p2 rt3 =>
        cases rt3 with
        | cons p3 rt3 =>
          refine ⟨j, p3.int, slice_core p1 h3 fun v H' o => k v H' (At.out S3 A3'.hl A.hw o) trivial⟩
theorem p1_slRev : P1 c .slRev (fun x H Q => ∃ a xs, x = .ref a ∧ SqL c.K H a xs ∧ ∀ p, H p = none → Q (.ref p) (upd H p (.lst xs.reverse))) := by
  intro Av H tx x t Q hx h k
  replace h : sSlRev tx = some t := h
  cases tx <;> simp only [sSlRev, reduceCtorEq, Option.some.injEq] at h
  case lst ts =>
    subst h
    obtain ⟨a, vs, rfl, h1, h2⟩ := hx.lst
    exact ⟨a, vs, rfl, SqL.of h1, fun p hp => k _ _ (Out.lst (p := .slRev) rfl hp h2.reverse)⟩

/-! ### shapes -/
theorem chk2 {es : List E} {l r : Expr} (h : chkEs Γ es [l, r] = true) : ∃ a b, es = [a, b] ∧ noStar l = true ∧ noStar r = true ∧ chkE Γ a l = true ∧ chkE Γ b r = true := by
  cases es with
  | nil => rw [chkEs] at h; cases h
  | cons a es =>
    rw [chkEs, Bool.and_eq_true, Bool.and_eq_true] at h
    cases es with
    | nil => rw [chkEs] at h; cases h.2
    | cons b es =>
      obtain ⟨⟨h1, h2⟩, h⟩ := h
      rw [chkEs, Bool.and_eq_true, Bool.and_eq_true] at h
      cases es with
      | nil => exact ⟨a, b, rfl, h1, h.1.1, h2, h.1.2⟩
      | cons d es => obtain ⟨_, h⟩ := h; rw [chkEs] at h; cases h
theorem chk1 {es : List E} {l : Expr} (h : chkEs Γ es [l] = true) : ∃ a, es = [a] ∧ noStar l = true ∧ chkE Γ a l = true := by
  cases es with
  | nil => rw [chkEs] at h; cases h
  | cons a es =>
    rw [chkEs, Bool.and_eq_true, Bool.and_eq_true] at h
    cases es with
    | nil => exact ⟨a, rfl, h.1.1, h.1.2⟩
    | cons b es => obtain ⟨_, h⟩ := h; rw [chkEs] at h; cases h
theorem chk3 {es : List E} {l r u : Expr} (h : chkEs Γ es [l, r, u] = true) : ∃ a b d, es = [a, b, d] ∧ chkE Γ a l = true ∧ chkE Γ b r = true ∧ chkE Γ d u = true := by
  cases es with
  | nil => rw [chkEs] at h; cases h
  | cons a es =>
    rw [chkEs, Bool.and_eq_true, Bool.and_eq_true] at h
    obtain ⟨b, d, rfl, _, _, h1, h2⟩ := chk2 h.2
    exact ⟨a, b, d, rfl, h.1.2, h1, h2⟩
theorem behind_ok {op : CmpOp} {r : Expr} (h : noSet r = true) : behindInMarks op r = false := by
  cases r <;> first | rfl | cases h
theorem plainIx_ok {r : Expr} (h : plainIxE r = true) : PlainIx r := by
  cases r with
  | Slice _ _ _ _ => cases h
  | _ => intro o i; rfl
def isTest : Expr → Bool
  | .UnaryOp .Not _ _ => false
  | .BoolOp _ _ _ => false
  | .IfExp _ _ _ _ => false
  | .Compare _ _ _ _ => false
  | _ => true
theorem isTest_ok {e : Expr} {env : Env} (h : isTest e = true) : ∀ whole, isTrue e env whole = (do let v ← whole; standAt e.pos; holding [v] (truthy v)) := by
  intro whole
  cases e with
  | UnaryOp op a p => cases op <;> first | rfl | cases h
  | _ => first | rfl | cases h
end
end DD
/-! DSnd5: all expressions. -/
namespace DD
variable [Mode]
open PySem L2
section
variable {c : Cn} {W : Nat} {D : Nat → Option Df} {Γ : Gm} {n : Nat} {X : Cx}
theorem cst_const {t : T} {k : Const} {j : Nat} {pos : Pos} (h : cstOk t k = true) {Φ Ψ : Nat → Fn} : PE X (.Constant k j pos) (rdE c Φ Ψ (.cst t)) := by
  cases t <;> cases k <;> simp only [cstOk, beq_iff_eq, reduceCtorEq, Bool.false_eq_true] at h
  · exact PE.wk pe_non (rd_cst fun H Av => by rw [Rep])
  · subst h; exact PE.wk pe_bl (rd_cst fun H Av => by rw [Rep])
  · subst h; exact PE.wk pe_int (rd_cst fun H Av => by rw [Rep])
  · subst h; exact PE.wk pe_str (rd_cst fun H Av => by rw [Rep])
mutual
theorem T.beq_eq : ∀ {a b : T}, T.beq a b = true → a = b
  | .non, b, h => by cases b <;> simp [T.beq] at h; rfl
  | .bl a, b, h => by cases b <;> simp [T.beq] at h; rw [h]
  | .int a, b, h => by cases b <;> simp [T.beq] at h; rw [h]
  | .str a, b, h => by cases b <;> simp [T.beq] at h; rw [h]
  | .tup xs, b, h => by cases b <;> simp [T.beq] at h; rw [T.beqs_eq h]
  | .lst xs, b, h => by cases b <;> simp [T.beq] at h; rw [T.beqs_eq h]
  | .dct xs, b, h => by cases b <;> simp [T.beq] at h; rw [T.beqk_eq h]
  | .ins n xs, b, h => by cases b <;> simp [T.beq] at h; rw [h.1, T.beqf_eq h.2]
  | .scr xs, b, h => by cases b <;> simp [T.beq] at h; rw [h]
theorem T.beqs_eq : ∀ {a b : List T}, T.beqs a b = true → a = b
  | [], b, h => by cases b <;> simp [T.beqs] at h; rfl
  | x :: xs, b, h => by cases b <;> simp [T.beqs] at h; rw [T.beq_eq h.1, T.beqs_eq h.2]
theorem T.beqk_eq : ∀ {a b : List (T × T)}, T.beqk a b = true → a = b
  | [], b, h => by cases b <;> simp [T.beqk] at h; rfl
  | (x, y) :: xs, b, h => by
    cases b with
    | nil => simp [T.beqk] at h
    | cons p b => obtain ⟨p, q⟩ := p; simp [T.beqk] at h; rw [T.beq_eq h.1.1, T.beq_eq h.1.2, T.beqk_eq h.2]
theorem T.beqf_eq : ∀ {a b : List (Str × T)}, T.beqf a b = true → a = b
  | [], b, h => by cases b <;> simp [T.beqf] at h; rfl
  | (x, y) :: xs, b, h => by
    cases b with
    | nil => simp [T.beqf] at h
    | cons p b => obtain ⟨p, q⟩ := p; simp [T.beqf] at h; rw [h.1.1, T.beq_eq h.1.2, T.beqf_eq h.2]
end
theorem pw_andC {a b : E} {y z : Expr} {rest : List Expr} {pos : Pos} {Φ Ψ : Nat → Fn} (h1 : PT X y (rdT c Φ Ψ a)) (h2 : PW X (.BoolOp .And (z :: rest) pos) (rdT c Φ Ψ b)) : PW X (.BoolOp .And (y :: z :: rest) pos) (rdT c Φ Ψ (.and a b)) := PW.wk (pw_and h1 h2) rd_andT
theorem pw_orC {a b : E} {y z : Expr} {rest : List Expr} {pos : Pos} {Φ Ψ : Nat → Fn} (h1 : PT X y (rdT c Φ Ψ a)) (h2 : PW X (.BoolOp .Or (z :: rest) pos) (rdT c Φ Ψ b)) : PW X (.BoolOp .Or (y :: z :: rest) pos) (rdT c Φ Ψ (.or a b)) := PW.wk (pw_or h1 h2) rd_orT
theorem rd_iteT {d a b : E} {Φ Ψ : Nat → Fn} : True := trivial
theorem all_mem {l own : List Nat} (h : (l.all fun i => own.contains i) = true) : ∀ i ∈ l, i ∈ own := fun i hi => by
  have := List.all_eq_true.mp h i hi
  rwa [List.contains_iff_mem] at this

theorem len1 {α : Type} {l : List α} (h : l.length = 1) : ∃ a, l = [a] := by
  match l, h with
  | [a], _ => exact ⟨a, rfl⟩
theorem len2 {α : Type} {l : List α} (h : l.length = 2) : ∃ a b, l = [a, b] := by
  match l, h with
  | [a, b], _ => exact ⟨a, b, rfl⟩
/-- the operations, by what their parts say -/
theorem prim_ok (g : Good c W D Γ n X) {p : Prim} {es : List E} {x : Expr} (h : chkE Γ (.prim p es) x = true) (ih : ∀ (k : Nat) (e : E) (y : Expr), es[k]? = some e → chkE Γ e y = true → PE X y (rE c W D n e)) (ihA : ∀ ys, chkEs Γ es ys = true → PA X ys (rA c W D n es)) :
    PE X x (rE c W D n (.prim p es)) := by
  rw [chkE.eq_def] at h; dsimp only at h
  split at h
  · -- BinOp
    simp only [Bool.and_eq_true, decide_eq_true_eq] at h
    obtain ⟨a, b, rfl, _, _, h1, h2⟩ := chk2 h.2
    obtain ⟨r, q1, q2⟩ := bin_ok g h.1
    exact PE.wk (pe_op q1 (ih 0 _ _ rfl h1) (ih 1 _ _ rfl h2)) (rd_bin q2)
  · -- Compare
    simp only [Bool.and_eq_true, decide_eq_true_eq] at h
    obtain ⟨a, b, rfl, _, _, h1, h2⟩ := chk2 h.2
    obtain ⟨r, q1, q2⟩ := cmp_ok g h.1.1
    exact PE.wk (pe_cmpR q1 (ih 0 _ _ rfl h1) (ih 1 _ _ rfl h2) (behind_ok h.1.2)) (rd_bin q2)
  · -- USub
    simp only [Bool.and_eq_true, decide_eq_true_eq] at h
    obtain ⟨rfl, h⟩ := h
    obtain ⟨a, rfl, _, h1⟩ := chk1 h
    exact PE.wk (pe_un un_neg (ih 0 _ _ rfl h1)) (rd_un p1_neg)
  · -- Subscript
    split at h
    · simp only [Bool.and_eq_true, decide_eq_true_eq] at h
      obtain ⟨rfl, h⟩ := h
      obtain ⟨a, b, rfl, _, _, h1, h2⟩ := chk2 h
      refine PE.wk (pe_slice (sl_all c.st) (ih 0 _ _ rfl h1) po_none (po_some (ih 1 _ _ rfl h2))) fun σ H Q q => ?_
      have := rd_bin p2_slU σ H Q q
      rw [← g.K] at this
      exact this
    · simp only [Bool.and_eq_true, decide_eq_true_eq] at h
      obtain ⟨rfl, h⟩ := h
      obtain ⟨a, b, rfl, _, _, h1, h2⟩ := chk2 h
      refine PE.wk (pe_slice (sl_all c.st) (ih 0 _ _ rfl h1) (po_some (ih 1 _ _ rfl h2)) po_none) fun σ H Q q => ?_
      have := rd_bin p2_slL σ H Q q
      rw [← g.K] at this
      exact this
    · simp only [Bool.and_eq_true, decide_eq_true_eq] at h
      obtain ⟨⟨rfl, hb⟩, h⟩ := h
      obtain ⟨a, b, d, rfl, h1, h2, h3⟩ := chk3 h
      refine PE.wk (pe_slice (sl_all c.st) (ih 0 _ _ rfl h1) (po_some (ih 1 _ _ rfl h2)) (po_some (ih 2 _ _ rfl h3))) fun σ H Q q => ?_
      have := rd_slLU (c := c) hb σ H Q q
      rw [← g.K] at this
      exact this
    · simp only [Bool.and_eq_true, decide_eq_true_eq] at h
      obtain ⟨rfl, h⟩ := h
      obtain ⟨a, rfl, _, h1⟩ := chk1 h
      refine PE.wk (pe_revL (ih 0 _ _ rfl h1)) fun σ H Q q => ?_
      have := rd_un p1_slRev σ H Q q
      rw [← g.K] at this
      exact this
    · simp only [Bool.and_eq_true, decide_eq_true_eq] at h
      obtain ⟨⟨rfl, hp⟩, h⟩ := h
      obtain ⟨a, b, rfl, _, _, h1, h2⟩ := chk2 h
      obtain ⟨r, q1, q2⟩ := ix_ok g
      exact PE.wk (pe_ix q1 (ih 0 _ _ rfl h1) (ih 1 _ _ rfl h2) (plainIx_ok hp)) (rd_bin q2)
  · -- a call
    rename_i fn0 p0 xs pos
    split at h
    · rename_i nm f hcal
      simp only [Bool.and_eq_true, beq_iff_eq] at h
      obtain ⟨⟨⟨rfl, hf⟩, hne⟩, h⟩ := h
      obtain ⟨r, q1, q2, q3, q4⟩ := callee_ok g hcal
      have hg := g.free hf
      have st := chkEs_star h
      cases xs with
      | nil => cases hne
      | cons x xs =>
        rw [List.all_cons, Bool.and_eq_true] at st
        rcases q4 with ⟨id, rfl⟩ | ⟨T, rfl⟩
        · exact PE.wk (pe_callB q1 hg.1 hg.2.1 q3 (ihA _ h) hg.2.2.1 hg.2.2.2 (star_cons st.1) (star_any st.2)) (rd_call q2)
        · exact PE.wk (pe_callTy q1 hg.1 hg.2.1 q3 (ihA _ h) hg.2.2.1 hg.2.2.2 (star_cons st.1) (star_any st.2)) (rd_call q2)
    · split at h
      · rename_i hty
        simp only [Bool.and_eq_true, beq_iff_eq] at h
        obtain ⟨⟨⟨⟨rfl, hf⟩, rfl⟩, hz⟩, h⟩ := h
        obtain ⟨a, rfl, hs, h1⟩ := chk1 h
        have hg := g.free hf
        have hgz := g.free hz
        exact PE.wk (pe_callB call_isTyB hg.1 hg.2.1 PyProof.Rows.boot_isinstance (pa_cons (ih 0 _ _ rfl h1) (pa_cons (pe_bltn (v := .ty _) hgz.1 hgz.2.1 (tyNm_boot hty) rfl hgz.2.2.1 hgz.2.2.2) pa_nil (star_cons rfl)) (star_cons hs)) hg.2.2.1 hg.2.2.2 (star_cons hs) (star_any rfl)) fun σ H Q q => by
          have := rd_un (p1_isTy hty) σ H Q q
          rw [← g.K] at this
          exact this
      · simp only [Bool.and_eq_true, beq_iff_eq, decide_eq_true_eq] at h
        obtain ⟨⟨⟨⟨⟨⟨⟨rfl, rfl⟩, hf⟩, rfl⟩, hz1⟩, rfl⟩, hz2⟩, h⟩ := h
        obtain ⟨a, rfl, hs, h1⟩ := chk1 h
        have hg := g.free hf
        have g1 := g.free hz1
        have g2 := g.free hz2
        exact PE.wk (pe_callB call_isiT hg.1 hg.2.1 PyProof.Rows.boot_isinstance (pa_cons (ih 0 _ _ rfl h1) (pa_cons (pe_tup (pa_cons (pe_bltn (v := .ty "tuple") g1.1 g1.2.1 (u := .type "tuple") rfl rfl g1.2.2.1 g1.2.2.2) (pa_cons (pe_bltn (v := .ty "list") g2.1 g2.2.1 (u := .type "list") rfl rfl g2.2.2.1 g2.2.2.2) pa_nil (star_cons rfl)) (star_cons rfl))) pa_nil (star_cons rfl)) (star_cons hs)) hg.2.2.1 hg.2.2.2 (star_cons hs) (star_any rfl)) fun σ H Q q => by
          have := rd_un p1_isSq σ H Q q
          rw [← g.K] at this
          exact rdE_mono this fun v H' z => ⟨by show 2 ≤ sizeLine; decide, z⟩
      · rename_i g0 p2 ys pos2 _
        split at h
        · rename_i nm k hr
          simp only [Bool.and_eq_true, beq_iff_eq, decide_eq_true_eq] at h
          obtain ⟨⟨⟨⟨⟨⟨rfl, hf⟩, rfl⟩, hg0⟩, hk⟩, h⟩, hsg⟩ := h
          have hg := g.free hf
          have hr0 := g.free hg0
          cases p <;> simp only [rngOf, Option.some.injEq, reduceCtorEq, Prod.mk.injEq] at hr
          all_goals obtain ⟨rfl, rfl⟩ := hr
          · obtain ⟨y, rfl⟩ := len1 hk
            obtain ⟨a, rfl, hs, h1⟩ := chk1 h
            exact PE.wk (pe_listRg g.calm hg.1 hg.2.1 (prg_1 hr0.1 hr0.2.1 (ih 0 _ _ rfl h1) (star_cons hs)) (star_cons rfl)) (rd_un p1_lr1)
          · obtain ⟨y, z, rfl⟩ := len2 hk
            obtain ⟨a, b, rfl, hs, hs2, h1, h2⟩ := chk2 h
            exact PE.wk (pe_listRg g.calm hg.1 hg.2.1 (prg_2 hr0.1 hr0.2.1 (ih 0 _ _ rfl h1) (ih 1 _ _ rfl h2) (star_cons hs) (star_cons hs2) (by rw [star_cons hs2]; rfl)) (star_cons rfl)) (rd_bin p2_lr2)
          · obtain ⟨y, rfl⟩ := len1 hk
            obtain ⟨a, rfl, hs, h1⟩ := chk1 h
            exact PE.wk (pe_tupRg g.calm hg.1 hg.2.1 (prg_1 hr0.1 hr0.2.1 (ih 0 _ _ rfl h1) (star_cons hs)) (star_cons rfl)) (rd_un (p1_tr1 (by
              rw [← g.stc]
              cases e : Γ.stg with
              | false => rfl
              | true => rw [e] at hsg; exact absurd hsg (by decide))))
          · obtain ⟨y, z, rfl⟩ := len2 hk
            obtain ⟨a, b, rfl, hs, hs2, h1, h2⟩ := chk2 h
            exact PE.wk (pe_tupRg g.calm hg.1 hg.2.1 (prg_2 hr0.1 hr0.2.1 (ih 0 _ _ rfl h1) (ih 1 _ _ rfl h2) (star_cons hs) (star_cons hs2) (by rw [star_cons hs2]; rfl)) (star_cons rfl)) (rd_bin (p2_tr2 (by
              rw [← g.stc]
              cases e : Γ.stg with
              | false => rfl
              | true => rw [e] at hsg; exact absurd hsg (by decide))))
        · simp only [Bool.and_eq_true, beq_iff_eq, decide_eq_true_eq] at h
          obtain ⟨⟨⟨⟨⟨⟨rfl, rfl⟩, hf⟩, rfl⟩, hg0⟩, h⟩, hk⟩ := h
          obtain ⟨y, rfl⟩ := len1 hk
          obtain ⟨a, rfl, hs, h1⟩ := chk1 h
          have hg := g.free hf
          have hr0 := g.free hg0
          refine PE.wk (pe_sortSet g.calm hg.1 hg.2.1 hr0.1 hr0.2.1 (ih 0 _ _ rfl h1) (star_cons hs)) fun σ H Q q => ?_
          have := rd_un p1_sortSet σ H Q q
          rw [← g.K] at this
          exact this
      · cases h
  · -- sorted(.., reverse=True)
    simp only [Bool.and_eq_true, beq_iff_eq, decide_eq_true_eq] at h
    obtain ⟨⟨⟨⟨rfl, rfl⟩, hf⟩, rfl⟩, h⟩ := h
    obtain ⟨a, rfl, hs, h1⟩ := chk1 h
    have hg := g.free hf
    exact PE.wk (pe_callBK (cr_sortR g.K g.un) hg.1 hg.2.1 rfl (pa_cons (ih 0 _ _ rfl h1) pa_nil (star_cons hs)) (pk_cons pe_bl pk_nil) hg.2.2.1 hg.2.2.2 (by rw [star_cons hs]; rfl) (by rw [star_cons hs]; rfl)) (rd_un p1_sortR)
  · cases h
end
end DD
/-! DSnd6: all expressions. -/
namespace DD
variable [Mode]
open PySem L2
section
variable {c : Cn} {W : Nat} {D : Nat → Option Df} {n : Nat}
/-- a test that is a plain value's truth -/
theorem pt_plain {X : Cx} {x : Expr} {e : E} (h : PE X x (rE c W D n e)) (ht : isTest x = true) : PT X x (rT c W D n e) := PT.wk (pt_val h (isTest_ok ht)) rd_test
theorem rd_tTest {X : Cx} {e : E} {t : TE} (h : ∀ σ H Q, rE c W D n e σ H Q → t σ H Q) : ∀ σ H Q, rT c W D n e σ H Q → tTest t σ H Q := fun σ H Q q => h σ H _ (rd_test σ H Q q)
theorem rT_ite {d a b : E} : ∀ σ H Q, rT c W D n (.ite d a b) σ H Q → tB (tIf (rT c W D n d) (rE c W D n a) (rE c W D n b)) σ H Q := fun σ H Q q => rd_ite σ H _ (rd_test σ H Q q)
/-- a comparison as a test -/
theorem prim_test (g : Good c W D Γ n X) {p : Prim} {es : List E} {l r : Expr} {o : CmpOp} {pos : Pos} (h : chkE Γ (.prim p es) (.Compare l [o] [r] pos) = true) (ih : ∀ (k : Nat) (e : E) (y : Expr), es[k]? = some e → chkE Γ e y = true → PE X y (rE c W D n e)) :
    PT X (.Compare l [o] [r] pos) (rT c W D n (.prim p es)) := by
  rw [chkE.eq_def] at h; dsimp only at h
  simp only [Bool.and_eq_true, decide_eq_true_eq] at h
  obtain ⟨a, b, rfl, _, _, h1, h2⟩ := chk2 h.2
  obtain ⟨r, q1, q2⟩ := cmp_ok g h.1.1
  exact PT.wk (pt_cmpR q1 (ih 0 _ _ rfl h1) (ih 1 _ _ rfl h2) (behind_ok h.1.2)) (rd_tTest (X := X) (rd_bin q2))
theorem lastM {o1 o2 : CmpOp} {b d : Expr} (h1 : noSet d = true) : lastMarks [o1, o2] [b, d] = false := by
  show behindInMarks o2 d = false
  exact behind_ok h1
theorem prim_testA (g : Good c W D Γ n X) {p : Prim} {es : List E} {x : Expr} (h : chkE Γ (.prim p es) x = true) (ih : ∀ (k : Nat) (e : E) (y : Expr), es[k]? = some e → chkE Γ e y = true → PE X y (rE c W D n e)) (ihA : ∀ ys, chkEs Γ es ys = true → PA X ys (rA c W D n es)) :
    PT X x (rT c W D n (.prim p es)) := by
  by_cases ht : isTest x = true
  · exact pt_plain (prim_ok g h ih ihA) ht
  · have h' := h
    rw [chkE.eq_def] at h'; dsimp only at h'
    split at h' <;> first | exact absurd rfl ht | exact prim_test g h ih | cases h'
theorem pt_iteC {X : Cx} {x y z : Expr} {pos : Pos} {d a b : E} (hd : PT X x (rT c W D n d)) (ha : PT X y (rT c W D n a)) (hb : PT X z (rT c W D n b)) : PT X (.IfExp x y z pos) (rT c W D n (.ite d a b)) := by
  refine ⟨fun pins s σ H Q I h => ?_⟩
  show wpAny _ _ (do if ← isTrue x X.env (eval x X.env) then isTrue y X.env (eval y X.env) else isTrue z X.env (eval z X.env)) _ _ _
  obtain ⟨F, env, stk, ws, A, v, fr, env', h, k⟩ := h
  rw [ev] at h
  obtain ⟨⟨o1, e1⟩, h1, h⟩ := R.bind_ok h
  obtain ⟨w, h2, h⟩ := R.bind_ok h
  refine wpAny_bind (thn (hd.run pins s σ H _ I (rdT_of A h1 h2 (Q := fun b H1 => b = w ∧ At c F e1 stk σ ws H1) fun H1 A1 => ⟨rfl, A1⟩)) fun b s1 ⟨H1, I1, e, A1⟩ => ?_)
  subst e
  cases b with
  | true =>
    rw [if_pos rfl] at h ⊢
    exact ha.run pins s1 σ H1 _ I1 ⟨F, e1, stk, ws, A1, v, fr, env', h, k⟩
  | false =>
    rw [if_neg Bool.false_ne_true] at h ⊢
    exact hb.run pins s1 σ H1 _ I1 ⟨F, e1, stk, ws, A1, v, fr, env', h, k⟩
theorem noBare_ok {o : Expr} {m : Str} {env : Env} (h : noBare o = true) : attributeBase o m env (eval o env) = eval o env := by
  cases o with
  | Call f as ks p =>
    cases as with
    | nil => cases h
    | cons a as => cases f <;> rfl
  | _ => rfl
section
variable {F : Fr} {env stk : En} {σ : St} {ws : List (Option V)} {H : Hp} {Φ Ψ : Nat → Fn}
theorem rd_dct0 : ∀ σ H Q, rdE c Φ Ψ (.dct []) σ H Q → tDNewK σ H Q := by
  intro σ H Q ⟨F, env, stk, ws, A, o, env', h, k⟩ p hp
  rw [ev] at h
  simp only [evkv, R.bind, mkD, R.opt] at h
  cases h
  exact k _ _ (A.newDict hp) trivial
theorem rd_dct1 {kt vt : E} : ∀ σ H Q, rdE c Φ Ψ (.dct [(kt, vt)]) σ H Q → tDisp1 c.P c.w (rdE c Φ Ψ kt) (rdE c Φ Ψ vt) σ H Q := by
  intro σ H Q ⟨F, env, stk, ws, A, o, env', h, k⟩ p hp
  rw [ev] at h
  obtain ⟨⟨ys, e1⟩, h1, h⟩ := R.bind_ok h
  obtain ⟨d, h2, h⟩ := R.bind_ok h
  cases h
  simp only [evkv] at h1
  obtain ⟨⟨o1, e2⟩, h3, h1⟩ := R.bind_ok h1
  obtain ⟨⟨o2, e3⟩, h4, h1⟩ := R.bind_ok h1
  dsimp only at h4 h1
  cases o1 with
  | s _ => cases h1
  | v a f1 =>
  cases o2 with
  | s _ => cases h1
  | v b f2 =>
    obtain ⟨⟨ys', e4⟩, h5, h1⟩ := R.bind_ok h1
    cases h1
    cases h5
    replace h2 := R.opt_ok h2
    simp only [mkD, Option.bind_eq_some_iff] at h2
    obtain ⟨d', h2, h6⟩ := h2
    cases h6
    unfold putD at h2
    split at h2
    · rename_i hf
      rw [Bool.and_eq_true, decide_eq_true_eq] at hf
      cases h2
      refine ⟨F, env, _, _, A.newDict hp, _, _, h3, fun x H1 A1 _ => ⟨F, e2, _, _, A1, _, _, h4, fun y H2 A2 _ => ?_⟩⟩
      have A3 : At c F e3 (stk ++ [dd []] ++ [] ++ [(OV.v a f1).sl, (OV.v b f2).sl]) σ (ws ++ [some (.ref p)] ++ [] ++ [some x, some y]) H2 := by simpa using A2
      obtain ⟨p', ob, w1, w2, A4⟩ := At.put_own A3 A.hw rfl hf.1 (by rw [sizeLine_eq]; decide)
      cases w1
      rw [List.append_nil, List.append_nil] at A4
      exact ⟨_, w2, k _ _ A4 trivial⟩
    · cases h2
/-- what stands there is a dict, locked or not -/
def IsDict (P : Program) (w : World) (H : Hp) (a : Addr) : Prop := (∃ ks, Rd H a (.dK ks)) ∨ ∃ ks, Rd H a (dN P w a ks)
theorem IsDict.obj {X : Cx} {pins : List (Addr × Obj)} {σ : St} {H : Hp} {s : Shared} {a : Addr} (I : Inv X pins σ H s) (h : IsDict X.prog X.w H a) : ∃ ob, s.heap.get? a = some ob ∧ ob.cls = .type "dict" ∧ ob.dict = none := by
  rcases h with ⟨ks, e⟩ | ⟨ks, e⟩
  · obtain ⟨_, _, vs, _, o, es, ep, h1, h2, _⟩ := dk_rd I.hok e
    exact ⟨o, h1, h2.1, h2.2.1⟩
  · have x : DNP X.prog X.w a ks s.heap := by
      rcases e with e | ⟨od, e⟩
      · exact (show ObjOk X.prog X.w H s.heap a (dN X.prog X.w a ks) from I.hok a _ e).1
      · exact (show ObjOk X.prog X.w H s.heap a (.frz od (dN X.prog X.w a ks)) from I.hok a _ e).2.1
    obtain ⟨_, _, _, _, o, es, ep, h1, h2, _⟩ := x
    exact ⟨o, h1, h2.1, h2.2.1⟩
theorem RepT.dct_ty {Av : Addr → Prop} {kvs : List (T × T)} {v : V} (h : RepT c H Av (.dct kvs) v) : ∃ a, v = .ref a ∧ IsDict c.P c.w H a := by
  obtain ⟨a, rfl, q⟩ := h.dct
  refine ⟨a, rfl, ?_⟩
  rcases q with ⟨ks, e, _⟩ | ⟨ks, e, _⟩
  · exact .inl ⟨ks, e⟩
  · exact .inr ⟨ks, e⟩
/-- o.get(..): o a dict, locked or not -/
def tGetM (P : Program) (w : World) (to : TE) (t : TA) : TE := fun σ H Q => to σ H fun x H1 => (∃ a, x = .ref a ∧ IsDict P w H1 a) ∧ t σ H1 fun xs H2 => rGetE P w x xs H2 Q
theorem pe_getM {X : Cx} {P : Program} {w : World} (hP : X.prog = P) (hW : X.w = w) {o e f : Expr} {to : TE} {t : TA} {apos cpos : Pos} (hu : X.A.units + 9 < cLine) (ho : PE X o to) (ha : PA X [e, f] t) (hbase : attributeBase o "get" X.env (eval o X.env) = eval o X.env)
    (hline : (apos.endLine == cpos.line) = true) (hs : starEach [e, f] X.env = [(false, eval e X.env), (false, eval f X.env)]) : PE X (.Call (.Attribute o "get" apos) [e, f] [] cpos) (tGetM P w to t) := by
  subst hP hW
  refine ⟨fun pins s σ H Q I h => ?_⟩
  refine PySem.wpAny_Call_method_late hbase (by rw [hs]; rfl) hline rfl (thn (ho.run pins s σ H _ I h) fun v s1 ⟨x, H1, I1, r1, ⟨a, ex, hd⟩, q1⟩ => ?_)
  subst ex
  obtain rfl : v = Value.ref a := r1
  have hob := hd.obj I1
  obtain ⟨ob, hob, hcl, hdn⟩ := hob
  refine ⟨"dict", "dict.get", F.plainAttrs_dict, F.slot_dict_get, F.type_dict_get, ⟨ob, hob, hcl⟩, fun b e => by cases e; exact ⟨ob, hob, hdn⟩, ?_⟩
  have hA := ha.run cpos pins s1 σ H1 _ I1 q1
  rw [hs] at hA ⊢
  refine Calls.callWith_builtin rfl (Calls.evalArgs_plain ?_)
  exact thn hA fun us s2 ⟨vs, H2, I2, r2, q2⟩ => mt_getE rfl rfl hu pins s2 σ H2 (.ref a) vs _ us Q I2 rfl r2 q2
theorem rd_get {o a d : E} : ∀ σ H Q, rdE c Φ Ψ (.get o a d) σ H Q → tGetM c.P c.w (rdE c Φ Ψ o) (tCons (rdE c Φ Ψ a) (tCons (rdE c Φ Ψ d) tNil)) σ H Q := by
  intro σ H Q ⟨F, env, stk, ws, A, ov, env', h, k⟩
  rw [ev] at h
  obtain ⟨⟨x, e1⟩, h1, h⟩ := R.bind_ok h
  dsimp only at h
  split at h
  · rename_i kvs0 hx
    obtain ⟨⟨y, e2⟩, h2, h⟩ := R.bind_ok h
    obtain ⟨⟨z, e3⟩, h3, h⟩ := R.bind_ok h
    obtain ⟨ts, h4, h⟩ := R.bind_ok h
    obtain ⟨t, h5, h⟩ := R.bind_ok h
    cases h
    replace h4 := R.opt_ok h4
    replace h5 := R.opt_ok h5
    refine ⟨F, env, stk, ws, A, x, e1, h1, fun v H1 A1 ok1 => ⟨?_, F, e1, _, _, A1, y, e2, h2, fun v2 H2 A2 ok2 => ⟨F, e2, _, _, A2, z, e3, h3, fun v3 H3 A3 ok3 => ?_⟩⟩⟩
    · obtain ⟨O, S, rt⟩ := At.ops (os := [x]) (vs := [v]) (ts := [.dct kvs0]) A1 A.hw (.cons ok1 .nil) (by rw [vals, hx]; rfl)
      cases rt with
      | cons p _ => exact p.dct_ty
    · have A3' : At c F e3 (stk ++ [x, y, z].map OV.sl) σ (ws ++ [v, v2, v3].map some) H3 := by
        rw [List.append_assoc, List.append_assoc, List.append_assoc, List.append_assoc] at A3
        exact A3
      obtain ⟨O3, S3, rt3⟩ := A3'.ops A.hw (.cons ok1 (.cons ok2 (.cons ok3 .nil))) h4
      obtain ⟨tx, r1, rfl, v4, h4⟩ := vals_cons h4
      obtain ⟨ty, r2, rfl, v5, h4⟩ := vals_cons h4
      obtain ⟨tz, r3, rfl, v6, h4⟩ := vals_cons h4
      rw [vals] at h4
      cases h4
      replace h5 : sGet2 tx ty tz = some t := h5
      cases tx <;> simp only [sGet2, reduceCtorEq] at h5
      rename_i kvs
      split at h5
      · rename_i hf
        rw [Bool.and_eq_true, Bool.not_eq_true'] at hf
        cases h5
        cases rt3 with
        | cons p1 rt3 =>
          cases rt3 with
          | cons p2 rt3 =>
            cases rt3 with
            | cons p3 _ =>
              refine get_dct p1 p2 p3 (by have := hf.2; cases tz <;> first | rfl | cases this) hf.1 fun w r => k w H3 (At.out (fr := false) S3 A3'.hl A.hw ⟨Gr.refl, by rw [if_neg Bool.false_ne_true]; exact r⟩) trivial
      · cases h5
  · cases h
end
theorem noSet_ok {it : Expr} {env : Env} (h : noSet it = true) : ∀ x, foldedSetIterable it env x = pure x := by
  intro x
  cases it <;> first | rfl | cases h
mutual
theorem sndE : ∀ (e : E) (x : Expr) (Γ : Gm) (X : Cx), Good c W D Γ n X → chkE Γ e x = true → PE X x (rE c W D n e)
  | .cst t, x, Γ, X, g, h => by
    rw [chkE.eq_def] at h; dsimp only at h
    split at h
    · exact cst_const h
    · simp only [Bool.and_eq_true] at h
      obtain ⟨⟨h1, h2⟩, h3⟩ := h
      split at h3
      · rename_i hG
        have e := T.beq_eq h3
        subst e
        obtain ⟨u, v, m1, m2, m3⟩ := g.glob _ _ hG
        exact PE.wk (pe_glob (g.gl h1) m1 m2 (plainName_ok h2).1) (rd_cst fun H Av => m3 H Av)
      · cases h3
    · cases h
  | .var i, x, Γ, X, g, h => by
    rw [chkE.eq_def] at h; dsimp only at h
    split at h
    · exact PE.wk (g.rd h) rd_var
    · cases h
  | .mv i, x, Γ, X, g, h => by
    rw [chkE.eq_def] at h; dsimp only at h
    split at h
    · exact PE.wk (g.rd h) rd_mv
    · cases h
  | .peek i, x, Γ, X, g, h => by
    rw [chkE.eq_def] at h; dsimp only at h
    split at h
    · exact PE.wk (g.rd h) (rd_peek (.inl rfl))
    · cases h
  | .io i, x, Γ, X, g, h => by
    rw [chkE.eq_def] at h; dsimp only at h
    split at h
    · exact PE.wk (g.rd h) (rd_peek (.inr rfl))
    · cases h
  | .tup es, x, Γ, X, g, h => by
    rw [chkE.eq_def] at h; dsimp only at h
    split at h
    · exact PE.wk (pe_tupS c.st (sndA es _ Γ X g h)) rd_tup
    · cases h
  | .lst es, x, Γ, X, g, h => by
    rw [chkE.eq_def] at h; dsimp only at h
    split at h
    · exact PE.wk (pe_lst (sndA es _ Γ X g h)) rd_lst
    · cases h
  | .prim p es, x, Γ, X, g, h => prim_ok g h (fun k e y hk hy => sndI1 es k e y Γ X g hk hy) (fun ys hy => sndA es ys Γ X g hy)
  | .and a b, x, Γ, X, g, h => by
    rw [chkE.eq_def] at h; dsimp only at h
    split at h
    · rename_i y z rest pos
      rw [Bool.and_eq_true] at h
      split at h
      · exact PE.wk (pe_and (sndE a y Γ X g h.1) (pe_one (sndE b z Γ X g h.2))) rd_and
      · exact PE.wk (pe_and (sndE a y Γ X g h.1) (sndE b _ Γ X g h.2)) rd_and
    · cases h
  | .or a b, x, Γ, X, g, h => by
    rw [chkE.eq_def] at h; dsimp only at h
    split at h
    · rename_i y z rest pos
      rw [Bool.and_eq_true] at h
      split at h
      · exact PE.wk (pe_or (sndE a y Γ X g h.1) (pe_one (sndE b z Γ X g h.2))) rd_or
      · exact PE.wk (pe_or (sndE a y Γ X g h.1) (sndE b _ Γ X g h.2)) rd_or
    · cases h
  | .not a, x, Γ, X, g, h => by
    rw [chkE.eq_def] at h; dsimp only at h
    split at h
    · exact PE.wk (pe_not (sndE a _ Γ X g h)) rd_not
    · cases h
  | .ite d a b, x, Γ, X, g, h => by
    rw [chkE.eq_def] at h; dsimp only at h
    split at h
    · simp only [Bool.and_eq_true] at h
      exact PE.wk (pe_ifExp (sndT d _ Γ X g h.1.1) (sndE a _ Γ X g h.1.2) (sndE b _ Γ X g h.2)) rd_ite
    · cases h
  | .chain o1 o2 a b d, x, Γ, X, g, h => by
    rw [chkE.eq_def] at h; dsimp only at h
    split at h
    · simp only [Bool.and_eq_true, decide_eq_true_eq] at h
      obtain ⟨⟨⟨⟨⟨⟨h1, h2⟩, h3⟩, h4⟩, h5⟩, h6⟩, h7⟩ := h
      obtain ⟨r1, p1, p2, p3⟩ := ord_ok g h1
      obtain ⟨r2, q1, q2, q3⟩ := ord_ok g h2
      exact PE.wk (pe_chain p1 q1 (sndE a _ Γ X g h5) (sndE b _ Γ X g h6) (sndE d _ Γ X g h7) (lastM h4)) (rd_chain p2 q2 q3)
    · cases h
  | .call f es, x, Γ, X, g, h => by
    rw [chkE.eq_def] at h; dsimp only at h
    split at h
    · rename_i gn p0 xs pos
      simp only [Bool.and_eq_true] at h
      obtain ⟨⟨⟨h1, h2⟩, h3⟩, h4⟩ := h
      split at h4
      · rename_i i np io hG
        simp only [Bool.and_eq_true, beq_iff_eq, decide_eq_true_eq] at h4
        obtain ⟨⟨⟨rfl, h5⟩, h6⟩, h7⟩ := h4
        obtain ⟨fa, fd, ps, m1, m2, m3, m4⟩ := g.glob _ _ hG
        cases xs with
        | nil => cases h3
        | cons x xs =>
          have st := chkEs_star h7
          rw [List.all_cons, Bool.and_eq_true] at st
          exact PE.wk (pe_call m4 g.room (g.gl h1) m1 m2 m3 .nil pass0 (sndA es _ Γ X g h7) (plainName_ok h2).1 (star_cons st.1) (star_any st.2)) (rd_fncall (E0 := E0) h5 h6)
      · cases h4
    · cases h
  | .comp own p k es cond elt, x, Γ, X, g, h => by
    rw [chkE.eq_def] at h; dsimp only at h
    split at h
    · rename_i elt' tg it ifs scope pos
      simp only [Bool.and_eq_true] at h
      obtain ⟨⟨⟨⟨⟨⟨h1, h2⟩, h3⟩, h4⟩, h5⟩, h6⟩, h7⟩ := h
      obtain ⟨bo, nd, hi, gb⟩ := g.blk h3
      split at h4
      · rename_i xs hit
        have pi := sndI (nf := NoFrz X) g (fun _ => rfl) hit (chkEs_star h4) (sndA es xs Γ X g h4) (fun e y he hx => by subst hx; exact sndI1 es 0 e y Γ X g (by rw [he]; rfl) (by subst he; rw [chkEs, Bool.and_eq_true, Bool.and_eq_true] at h4; exact h4.1.2)) (chkEs_len h4) (chkP_tup h5)
        have pts : ∀ (s : Shared) (H : Hp) (C : Addr) (cl : List (Str × Addr)) (fp : List Addr), PTs (X.blk s H scope (compEnvC scope cl C X.env) fp) ifs (tOf c (fnS W D n) badF cond) := fun s H C cl fp => by
          split at h6
          · cases cond with
            | none => exact pts_nil
            | some e => rw [chkO.eq_def] at h6; cases h6
          · rename_i y
            cases cond with
            | none => rw [chkO.eq_def] at h6; cases h6
            | some e => exact pts_one (sndO (some e) y (Γ.blk scope) _ (gb s H C cl fp) h6 e rfl)
          · cases h6
        refine PE.wkI (pe_unl (pe_lc (wi := rdI c (NoFrz X) (fnS W D n) badF p k es) (g := rdG c p) (tt := tOf c (fnS W D n) badF cond) (te := rE c W D n elt) (own := ownOf Γ own) g.calm g.nd pi bo (fun s H C cl fp => sndP (gb s H C cl fp) p tg h5) pts (fun s H C cl fp => sndE elt elt' (Γ.blk scope) _ (gb s H C cl fp) h7) (noSet_ok h1))) fun σ H Q hl q => ?_
        rw [ownOf_snd]
        exact rd_comp nd (all_mem h2) σ H Q (fun i hi' => by rw [hl]; exact hi i hi') q
      · cases h4
    · cases h
  | .comp2 own p k es p2 k2 es2 own2 cond elt, x, Γ, X, g, h => by
    rw [chkE.eq_def] at h; dsimp only at h
    split at h
    · rename_i elt' tg it tg1 it1 ifs scope pos
      simp only [Bool.and_eq_true] at h
      obtain ⟨⟨⟨⟨⟨⟨⟨⟨⟨⟨⟨⟨⟨h1, h1b⟩, h2⟩, h2b⟩, h3⟩, h3b⟩, h3c⟩, hk2⟩, h4⟩, h5⟩, h4b⟩, h5b⟩, h6⟩, h7⟩ := h
      rw [Bool.not_eq_true'] at hk2
      obtain ⟨bo, nd, hi, gb⟩ := g.blk h3
      split at h4
      · rename_i xs hit
        split at h4b
        · rename_i xs1 hit1
          have pi := sndI (nf := NoFrz X) g (fun _ => rfl) hit (chkEs_star h4) (sndA es xs Γ X g h4) (fun e y he hx => by subst hx; exact sndI1 es 0 e y Γ X g (by rw [he]; rfl) (by subst he; rw [chkEs, Bool.and_eq_true, Bool.and_eq_true] at h4; exact h4.1.2)) (chkEs_len h4) (chkP_tup h5)
          have pi1 : ∀ (s : Shared) (H : Hp) (C : Addr) (cl : List (Str × Addr)) (fp : List Addr), PI (X.blk s H scope (compEnvC scope cl C X.env) fp) tg1 it1 (rdI c (fun _ => True) (fnS W D n) badF p2 k2 es2) := fun s H C cl fp =>
            sndI (gb s H C cl fp) (fun z => by rw [hk2] at z; cases z) hit1 (chkEs_star h4b) (sndA es2 xs1 (Γ.blk scope) _ (gb s H C cl fp) h4b) (fun e y he hx => by subst hx; exact sndI1 es2 0 e y (Γ.blk scope) _ (gb s H C cl fp) (by rw [he]; rfl) (by subst he; rw [chkEs, Bool.and_eq_true, Bool.and_eq_true] at h4b; exact h4b.1.2)) (chkEs_len h4b) (chkP_tup h5b)
          have pts : ∀ (s : Shared) (H : Hp) (C : Addr) (cl : List (Str × Addr)) (fp : List Addr), PTs (X.blk s H scope (compEnvC scope cl C X.env) fp) ifs (tOf c (fnS W D n) badF cond) := fun s H C cl fp => by
            split at h6
            · cases cond with
              | none => exact pts_nil
              | some e => rw [chkO.eq_def] at h6; cases h6
            · rename_i y
              cases cond with
              | none => rw [chkO.eq_def] at h6; cases h6
              | some e => exact pts_one (sndO (some e) y (Γ.blk scope) _ (gb s H C cl fp) h6 e rfl)
            · cases h6
          refine PE.wkI (pe_unl (pe_lc2 (wi := rdI c (NoFrz X) (fnS W D n) badF p k es) (wi1 := rdI c (fun _ => True) (fnS W D n) badF p2 k2 es2) (g := rdG c p) (g1 := rdG c p2) (tt := tYes) (tt1 := tOf c (fnS W D n) badF cond) (te := rE c W D n elt) (own := ownOf Γ own) (vs1 := own2) g.calm g.nd pi bo (fun i hi => by rw [ownOf_snd]; exact all_mem h3b i hi) (fun s H C cl fp => sndP (gb s H C cl fp) p tg h5) (fun s H C cl fp => pts_nil) pi1 (fun s H C cl fp => sndP (gb s H C cl fp) p2 tg1 h5b) pts (fun s H C cl fp => sndE elt elt' (Γ.blk scope) _ (gb s H C cl fp) h7) (noSet_ok h1) (fun env => noSet_ok h1b))) fun σ H Q hl q => ?_
          rw [ownOf_snd]
          exact rd_comp2 hk2 nd (all_mem h2) (all_mem h2b) (all_mem h3b) σ H Q (fun i hi' => by rw [hl]; exact hi i hi') q
        · cases h4b
      · cases h4
    · cases h
  | .mk _ _, x, Γ, X, g, h => by rw [chkE.eq_def] at h; cases h
  | .fld _ _, x, Γ, X, g, h => by rw [chkE.eq_def] at h; cases h
  | .pop i, x, Γ, X, g, h => by
    rw [chkE.eq_def] at h; dsimp only at h
    split at h
    · simp only [Bool.and_eq_true, beq_iff_eq] at h
      obtain ⟨⟨h1, rfl⟩, h3⟩ := h
      exact PE.wk (pe_bm0 F.plainAttrs_list F.slot_list_pop F.type_list_pop mt_pop (g.rd h1) rfl (by rw [h3]; exact beq_self_eq_true _)) rd_pop
    · cases h
  | .popAt i e, x, Γ, X, g, h => by
    rw [chkE.eq_def] at h; dsimp only at h
    split at h
    · simp only [Bool.and_eq_true, beq_iff_eq] at h
      obtain ⟨⟨⟨⟨h1, rfl⟩, h3⟩, h4⟩, h5⟩ := h
      exact PE.wk (pe_bm F.plainAttrs_list F.slot_list_pop F.type_list_pop mt_popAt (g.rd h1) (pa_cons (sndE e _ Γ X g h5) pa_nil (star_cons h4)) rfl (by rw [star_cons h4]; rfl) (by rw [h3]; exact beq_self_eq_true _) (star_cons h4) rfl) rd_popAt
    · cases h
  | .dcomp own p k es key val, x, Γ, X, g, h => by
    rw [chkE.eq_def] at h; dsimp only at h
    split at h
    · rename_i key' val' tg it ifs scope pos
      simp only [Bool.and_eq_true] at h
      obtain ⟨⟨⟨⟨⟨⟨⟨h1, h2⟩, h3⟩, h4⟩, h5⟩, h6⟩, h7⟩, h8⟩ := h
      obtain ⟨bo, nd, hi, gb⟩ := g.blk h3
      rw [List.isEmpty_iff] at h6
      subst h6
      split at h4
      · rename_i xs hit
        have pi := sndI (nf := NoFrz X) g (fun _ => rfl) hit (chkEs_star h4) (sndA es xs Γ X g h4) (fun e y he hx => by subst hx; exact sndI1 es 0 e y Γ X g (by rw [he]; rfl) (by subst he; rw [chkEs, Bool.and_eq_true, Bool.and_eq_true] at h4; exact h4.1.2)) (chkEs_len h4) (chkP_tup h5)
        refine PE.wkI (pe_unl (pe_dcE g.pg g.wd (by have := g.un; omega) (wi := rdI c (NoFrz X) (fnS W D n) badF p k es) (g := rdG c p) (tt := tYes) (tk := rE c W D n key) (tv := rE c W D n val) (own := ownOf Γ own) g.calm g.nd pi bo (fun s H C cl fp => sndP (gb s H C cl fp) p tg h5) (fun s H C cl fp => pts_nil) (fun s H C cl fp => sndE key key' (Γ.blk scope) _ (gb s H C cl fp) h7) (fun s H C cl fp => sndE val val' (Γ.blk scope) _ (gb s H C cl fp) h8) (noSet_ok h1))) fun σ H Q hl q => ?_
        rw [ownOf_snd]
        exact rd_dcomp nd (all_mem h2) σ H Q (fun i hi' => by rw [hl]; exact hi i hi') q
      · cases h4
    · cases h
  | .dct [], x, Γ, X, g, h => by
    rw [chkE.eq_def] at h; dsimp only at h
    split at h
    · rw [Bool.and_eq_true, List.isEmpty_iff, List.isEmpty_iff] at h
      obtain ⟨rfl, rfl⟩ := h
      exact PE.wk pe_dnewK rd_dct0
    · cases h
  | .dct ((k, v) :: r), x, Γ, X, g, h => by
    rw [chkE.eq_def] at h; dsimp only at h
    split at h
    · split at h
      · simp only [Bool.and_eq_true, List.isEmpty_iff] at h
        obtain ⟨⟨rfl, h1⟩, h2⟩ := h
        exact PE.wk (pe_disp1 g.pg g.wd (by have := g.un; omega) (sndE k _ Γ X g h1) (sndE v _ Γ X g h2)) rd_dct1
      · cases h
    · cases h
  | .cnt o a, x, Γ, X, g, h => by
    rw [chkE.eq_def] at h; dsimp only at h
    split at h
    · simp only [Bool.and_eq_true, beq_iff_eq] at h
      obtain ⟨⟨⟨⟨⟨⟨rfl, h2⟩, h3⟩, h4⟩, h6⟩, h7⟩, hsg⟩ := h
      refine PE.wk (pe_cntM g.un (sndE o _ Γ X g h6) (pa_cons (sndE a _ Γ X g h7) pa_nil (star_cons h4)) (noBare_ok h3) (by rw [h2]; exact beq_self_eq_true _) (star_cons h4)) fun σ H Q q => ?_
      have := rd_cnt (c := c) (by rw [← g.stc]; exact hsg) σ H Q q
      rw [← g.K] at this
      exact this
    · cases h
  | .get o a d, x, Γ, X, g, h => by
    rw [chkE.eq_def] at h; dsimp only at h
    split at h
    · simp only [Bool.and_eq_true, beq_iff_eq] at h
      obtain ⟨⟨⟨⟨⟨⟨⟨rfl, h2⟩, h3⟩, h4⟩, h5⟩, h6⟩, h7⟩, h8⟩ := h
      exact PE.wk (pe_getM g.pg g.wd (by have := g.un; omega) (sndE o _ Γ X g h6) (pa_cons (sndE a _ Γ X g h7) (pa_cons (sndE d _ Γ X g h8) pa_nil (star_cons h5)) (star_cons h4)) (noBare_ok h3) (by rw [h2]; exact beq_self_eq_true _) (by rw [star_cons h4, star_cons h5]; rfl)) rd_get
    · cases h
theorem sndA : ∀ (es : List E) (xs : List Expr) (Γ : Gm) (X : Cx), Good c W D Γ n X → chkEs Γ es xs = true → PA X xs (rA c W D n es)
  | [], [], Γ, X, g, h => PA.wk pa_nil rd_args_nil
  | [], x :: xs, Γ, X, g, h => by rw [chkEs] at h; cases h
  | e :: es, [], Γ, X, g, h => by rw [chkEs] at h; cases h
  | e :: es, x :: xs, Γ, X, g, h => by
    rw [chkEs, Bool.and_eq_true, Bool.and_eq_true] at h
    exact PA.wk (pa_cons (sndE e x Γ X g h.1.2) (sndA es xs Γ X g h.2) (star_cons h.1.1)) rd_args_cons
theorem sndI1 : ∀ (es : List E) (k : Nat) (e : E) (y : Expr) (Γ : Gm) (X : Cx), Good c W D Γ n X → es[k]? = some e → chkE Γ e y = true → PE X y (rE c W D n e)
  | [], k, e, y, Γ, X, g, hk, h => by simp at hk
  | e0 :: es, 0, e, y, Γ, X, g, hk, h => by
    simp only [List.getElem?_cons_zero, Option.some.injEq] at hk
    subst hk
    exact sndE e0 y Γ X g h
  | e0 :: es, k + 1, e, y, Γ, X, g, hk, h => sndI1 es k e y Γ X g (by simpa using hk) h
theorem sndO : ∀ (o : Option E) (y : Expr) (Γ : Gm) (X : Cx), Good c W D Γ n X → chkO Γ o (some y) = true → ∀ e, o = some e → PT X y (rT c W D n e)
  | none, y, Γ, X, g, h, e, he => by cases he
  | some e0, y, Γ, X, g, h, e, he => by
    rw [chkO.eq_def] at h
    cases he
    exact sndT e0 y Γ X g h
/-- a test -/
theorem sndT : ∀ (e : E) (x : Expr) (Γ : Gm) (X : Cx), Good c W D Γ n X → chkE Γ e x = true → PT X x (rT c W D n e)
  | .and a b, x, Γ, X, g, h => by
    rw [chkE.eq_def] at h; dsimp only at h
    split at h
    · rename_i y z rest pos
      rw [Bool.and_eq_true] at h
      split at h
      · exact (pw_andC (sndT a y Γ X g h.1) (pw_and1 (sndT b z Γ X g h.2))).pt
      · exact (pw_andC (sndT a y Γ X g h.1) (sndW b _ _ _ Γ X g h.2)).pt
    · cases h
  | .or a b, x, Γ, X, g, h => by
    rw [chkE.eq_def] at h; dsimp only at h
    split at h
    · rename_i y z rest pos
      rw [Bool.and_eq_true] at h
      split at h
      · exact (pw_orC (sndT a y Γ X g h.1) (pw_or1 (sndT b z Γ X g h.2))).pt
      · exact (pw_orC (sndT a y Γ X g h.1) (sndW b _ _ _ Γ X g h.2)).pt
    · cases h
  | .not a, x, Γ, X, g, h => by
    rw [chkE.eq_def] at h; dsimp only at h
    split at h
    · exact PT.wk (pt_not (sndT a _ Γ X g h)) rd_notT
    · cases h
  | .chain o1 o2 a b d, x, Γ, X, g, h => by
    rw [chkE.eq_def] at h; dsimp only at h
    split at h
    · simp only [Bool.and_eq_true, decide_eq_true_eq] at h
      obtain ⟨⟨⟨⟨⟨⟨h1, h2⟩, h3⟩, h4⟩, h5⟩, h6⟩, h7⟩ := h
      obtain ⟨r1, p1, p2, p3⟩ := ord_ok g h1
      obtain ⟨r2, q1, q2, q3⟩ := ord_ok g h2
      exact PT.wk (pt_chain p1 q1 (sndE a _ Γ X g h5) (sndE b _ Γ X g h6) (sndE d _ Γ X g h7) (lastM h4)) (rd_tTest (X := X) (rd_chain p2 q2 q3))
    · cases h
  | .ite d a b, x, Γ, X, g, h => by
    rw [chkE.eq_def] at h; dsimp only at h
    split at h
    · simp only [Bool.and_eq_true] at h
      exact pt_iteC (sndT d _ Γ X g h.1.1) (sndT a _ Γ X g h.1.2) (sndT b _ Γ X g h.2)
    · cases h
  | .prim p es, x, Γ, X, g, h => prim_testA g h (fun k e y hk hy => sndI1 es k e y Γ X g hk hy) (fun ys hy => sndA es ys Γ X g hy)
  | .cst t, x, Γ, X, g, h => pt_plain (sndE (.cst t) x Γ X g h) (by
    rw [chkE.eq_def] at h; dsimp only at h
    split at h <;> first | rfl | cases h)
  | .var i, x, Γ, X, g, h => pt_plain (sndE (.var i) x Γ X g h) (by
    rw [chkE.eq_def] at h; dsimp only at h
    split at h <;> first | rfl | cases h)
  | .mv i, x, Γ, X, g, h => pt_plain (sndE (.mv i) x Γ X g h) (by
    rw [chkE.eq_def] at h; dsimp only at h
    split at h <;> first | rfl | cases h)
  | .peek i, x, Γ, X, g, h => pt_plain (sndE (.peek i) x Γ X g h) (by
    rw [chkE.eq_def] at h; dsimp only at h
    split at h <;> first | rfl | cases h)
  | .io i, x, Γ, X, g, h => pt_plain (sndE (.io i) x Γ X g h) (by
    rw [chkE.eq_def] at h; dsimp only at h
    split at h <;> first | rfl | cases h)
  | .tup es, x, Γ, X, g, h => pt_plain (sndE (.tup es) x Γ X g h) (by
    rw [chkE.eq_def] at h; dsimp only at h
    split at h <;> first | rfl | cases h)
  | .lst es, x, Γ, X, g, h => pt_plain (sndE (.lst es) x Γ X g h) (by
    rw [chkE.eq_def] at h; dsimp only at h
    split at h <;> first | rfl | cases h)
  | .call f es, x, Γ, X, g, h => pt_plain (sndE (.call f es) x Γ X g h) (by
    rw [chkE.eq_def] at h; dsimp only at h
    split at h <;> first | rfl | cases h)
  | .comp own p k es cond elt, x, Γ, X, g, h => pt_plain (sndE (.comp own p k es cond elt) x Γ X g h) (by
    rw [chkE.eq_def] at h; dsimp only at h
    split at h <;> first | rfl | cases h)
  | .comp2 own p k es p2 k2 es2 own2 cond elt, x, Γ, X, g, h => pt_plain (sndE (.comp2 own p k es p2 k2 es2 own2 cond elt) x Γ X g h) (by
    rw [chkE.eq_def] at h; dsimp only at h
    split at h <;> first | rfl | cases h)
  | .mk _ _, x, Γ, X, g, h => by rw [chkE.eq_def] at h; cases h
  | .fld _ _, x, Γ, X, g, h => by rw [chkE.eq_def] at h; cases h
  | .pop i, x, Γ, X, g, h => pt_plain (sndE (.pop i) x Γ X g h) (by
    rw [chkE.eq_def] at h; dsimp only at h
    split at h <;> first | rfl | cases h)
  | .popAt i e, x, Γ, X, g, h => pt_plain (sndE (.popAt i e) x Γ X g h) (by
    rw [chkE.eq_def] at h; dsimp only at h
    split at h <;> first | rfl | cases h)
  | .dcomp own p k es key val, x, Γ, X, g, h => pt_plain (sndE (.dcomp own p k es key val) x Γ X g h) (by
    rw [chkE.eq_def] at h; dsimp only at h
    split at h <;> first | rfl | cases h)
  | .dct kvs, x, Γ, X, g, h => pt_plain (sndE (.dct kvs) x Γ X g h) (by
    rw [chkE.eq_def] at h; dsimp only at h
    split at h <;> first | rfl | cases h)
  | .cnt o a, x, Γ, X, g, h => pt_plain (sndE (.cnt o a) x Γ X g h) (by
    rw [chkE.eq_def] at h; dsimp only at h
    split at h <;> first | rfl | cases h)
  | .get o a d, x, Γ, X, g, h => pt_plain (sndE (.get o a d) x Γ X g h) (by
    rw [chkE.eq_def] at h; dsimp only at h
    split at h <;> first | rfl | cases h)
theorem sndW : ∀ (e : E) (op : BoolOp) (ys : List Expr) (pos : Pos) (Γ : Gm) (X : Cx), Good c W D Γ n X → chkE Γ e (.BoolOp op ys pos) = true → PW X (.BoolOp op ys pos) (rT c W D n e)
  | .and a b, op, ys, pos, Γ, X, g, h => by
    rw [chkE.eq_def] at h; dsimp only at h
    split at h
    · rename_i y z rest pos he
      cases he
      rw [Bool.and_eq_true] at h
      split at h
      · exact pw_andC (sndT a y Γ X g h.1) (pw_and1 (sndT b z Γ X g h.2))
      · exact pw_andC (sndT a y Γ X g h.1) (sndW b _ _ _ Γ X g h.2)
    · cases h
  | .or a b, op, ys, pos, Γ, X, g, h => by
    rw [chkE.eq_def] at h; dsimp only at h
    split at h
    · rename_i y z rest pos he
      cases he
      rw [Bool.and_eq_true] at h
      split at h
      · exact pw_orC (sndT a y Γ X g h.1) (pw_or1 (sndT b z Γ X g h.2))
      · exact pw_orC (sndT a y Γ X g h.1) (sndW b _ _ _ Γ X g h.2)
    · cases h
  | .cst t, op, ys, pos, Γ, X, g, h => by
    rw [chkE.eq_def] at h; cases h
  | .var i, op, ys, pos, Γ, X, g, h => by
    rw [chkE.eq_def] at h; cases h
  | .mv i, op, ys, pos, Γ, X, g, h => by
    rw [chkE.eq_def] at h; cases h
  | .peek i, op, ys, pos, Γ, X, g, h => by
    rw [chkE.eq_def] at h; cases h
  | .io i, op, ys, pos, Γ, X, g, h => by
    rw [chkE.eq_def] at h; cases h
  | .tup es, op, ys, pos, Γ, X, g, h => by
    rw [chkE.eq_def] at h; cases h
  | .lst es, op, ys, pos, Γ, X, g, h => by
    rw [chkE.eq_def] at h; cases h
  | .prim p es, op, ys, pos, Γ, X, g, h => by
    rw [chkE.eq_def] at h; cases h
  | .not a, op, ys, pos, Γ, X, g, h => by
    rw [chkE.eq_def] at h; cases h
  | .ite d a b, op, ys, pos, Γ, X, g, h => by
    rw [chkE.eq_def] at h; cases h
  | .chain o1 o2 a b d, op, ys, pos, Γ, X, g, h => by
    rw [chkE.eq_def] at h; cases h
  | .call f es, op, ys, pos, Γ, X, g, h => by
    rw [chkE.eq_def] at h; cases h
  | .comp own p k es cond elt, op, ys, pos, Γ, X, g, h => by
    rw [chkE.eq_def] at h; cases h
  | .comp2 own p k es p2 k2 es2 own2 cond elt, op, ys, pos, Γ, X, g, h => by
    rw [chkE.eq_def] at h; cases h
  | .mk _ _, op, ys, pos, Γ, X, g, h => by
    rw [chkE.eq_def] at h; cases h
  | .fld _ _, op, ys, pos, Γ, X, g, h => by
    rw [chkE.eq_def] at h; cases h
  | .pop _, op, ys, pos, Γ, X, g, h => by
    rw [chkE.eq_def] at h; cases h
  | .popAt _ _, op, ys, pos, Γ, X, g, h => by
    rw [chkE.eq_def] at h; cases h
  | .dcomp _ _ _ _ _ _, op, ys, pos, Γ, X, g, h => by
    rw [chkE.eq_def] at h; cases h
  | .dct _, op, ys, pos, Γ, X, g, h => by
    rw [chkE.eq_def] at h; cases h
  | .get _ _ _, op, ys, pos, Γ, X, g, h => by
    rw [chkE.eq_def] at h; cases h
  | .cnt _ _, op, ys, pos, Γ, X, g, h => by
    rw [chkE.eq_def] at h; cases h
end
end
end DD
/-! DStm2: the check of statements; what is written to slots. -/
namespace DD
variable [Mode]
open PySem L2
def isComp : E → Bool
  | .comp _ _ _ _ _ _ => true
  | .comp2 _ _ _ _ _ _ _ _ _ _ => true
  | _ => false
/-- does a comprehension's value go to the name by the swapped road? -/
def swapsB (Γ : Gm) (e : Expr) (t : Str) (pos : Pos) : Option Bool := match e with
  | .ListComp _ _ s p => some (Γ.lcl t && pos.line == p.line && !(s.names.any fun (n, k) => n == t && (k == .local || k == .cell)))
  | .SetComp _ _ _ _ => none
  | .DictComp _ _ _ _ _ => none
  | _ => some false
/-- no comprehension at all -/
def noComp : Expr → Bool
  | .ListComp _ _ _ _ => false
  | .SetComp _ _ _ _ => false
  | .DictComp _ _ _ _ _ => false
  | _ => true
def noTup : Expr → Bool
  | .Tuple _ _ _ => false
  | _ => true
/-- no two or three plain names are stored at once: the value is no tuple, or one of the names is a cell -/
def noSw (Γ : Gm) (ts : List Expr) : Expr → Bool
  | .Tuple _ _ _ => ts.any fun t => match t with
    | .Name f _ => Γ.cel f
    | _ => false
  | _ => true
def swapOk (vs : List Expr) : Bool := vs.all noStar && !vs.all (foldedForSure 8) && !vs.all (constantsAlone 8)
mutual
def chkS (Γ : Gm) : S → Stmt → Bool
  | .set i e, x => match x with
    | .Assign [.Name f p] y _ => Γ.at_ i f && Γ.st f && chkE Γ e y && (match swapsB Γ y f p with
      | some true => isComp e
      | some false => true
      | none => false)
    | _ => false
  | .asg g e, x => match x with
    | .Assign [.Tuple ts j p] y _ => chkP Γ g (.Tuple ts j p) && chkE Γ e y && noSw Γ ts y
    | _ => false
  | .par gs es, x => match x with
    | .Assign [.Tuple [.Name a p1, .Name b p2] _ _] (.Tuple ys _ _) _ => (match gs with
      | [.s i, .s j] => Γ.at_ i a && Γ.at_ j b && Γ.lcl a && Γ.lcl b && !(a == b) && decide (i ≠ j) && p2.line == p1.line && decide (ys.length = 2) && swapOk ys && chkEs Γ es ys
      | _ => false)
    | .Assign [.Tuple [.Name a p1, .Name b p2, .Name d p3] _ _] (.Tuple ys _ _) _ => (match gs with
      | [.s i, .s j, .s k] => Γ.at_ i a && Γ.at_ j b && Γ.at_ k d && Γ.lcl a && Γ.lcl b && Γ.lcl d && !(a == b) && !(a == d) && !(b == d) && decide (i ≠ j) && decide (i ≠ k) && decide (j ≠ k) && p2.line == p1.line && p3.line == p1.line && decide (ys.length = 3) && swapOk ys && chkEs Γ es ys
      | _ => false)
    | _ => false
  | .setIx i ix e, x => match x with
    | .Assign [.Subscript (.Name f _) j _] y _ => plainIxE j && Γ.rd i f && chkE Γ ix j && chkE Γ e y
    | _ => false
  | .aug i p e, x => match x with
    | .AugAssign (.Name f _) o y _ => Γ.at_ i f && Γ.st f && chkE Γ e y && (match p, o with
      | .add, .Add => true
      | .sub, .Sub => true
      | _, _ => false)
    | _ => false
  | .augIx _ _ _ _, _ => false
  | .expr e, x => match x with
    | .Expr y _ => noComp y && chkE Γ e y
    | _ => false
  | .app i e, x => match x with
    | .Expr (.Call (.Attribute (.Name f _) m ap) [y] [] cp) _ => Γ.rd i f && m == ("append" : Str) && (ap.endLine == cp.line) && noStar y && chkE Γ e y
    | _ => false
  | .ext i e, x => match x with
    | .Expr (.Call (.Attribute (.Name f _) m ap) [y] [] cp) _ => Γ.rd i f && m == ("extend" : Str) && (ap.endLine == cp.line) && noStar y && chkE Γ e y
    | _ => false
  | .ret e, x => match x with
    | .Return (some y) _ => chkE Γ e y
    | _ => false
  | .retN, x => match x with
    | .Return none _ => true
    | _ => false
  | .ite c a b, x => match x with
    | .If y as bs _ => chkE Γ c y && chkSs Γ a as && chkSs Γ b bs
    | _ => false
  | .forr g k es body, x => match x with
    | .For tg it bs [] _ => noSet it && chkP Γ g tg && (match iterArgs Γ k tg it with
      | some xs => chkEs Γ es xs
      | none => false) && chkSs Γ body bs
    | _ => false
  | .forK i g body, x => match x with
    | .For tg (.Name f _) bs [] _ => Γ.rd i f && chkP Γ g tg && chkSs Γ body bs
    | _ => false
  | .whil c body, x => match x with
    | .While y bs [] _ => chkE Γ c y && chkSs Γ body bs
    | _ => false
  | .brk, x => match x with
    | .Break _ => true
    | _ => false
  | .cont, x => match x with
    | .Continue _ => true
    | _ => false
  | .pass, x => match x with
    | .Pass _ => true
    | _ => false
  | .raise, x => match x with
    | .Raise _ _ _ => true
    | _ => false
def chkSs (Γ : Gm) : List S → List Stmt → Bool
  | [], xs => xs.isEmpty
  | s :: ss, xs => match xs with
    | x :: xs => chkS Γ s x && chkSs Γ ss xs
    | [] => false
end

section
variable {c : Cn} {W : Nat} {D : Nat → Option Df} {Γ : Gm} {n : Nat} {X : Cx} {F : Fr} {env stk : En} {σ : St} {ws : List (Option V)} {H : Hp} {Φ Ψ : Nat → Fn}
/-- slot i is a list that ends with the top of the stack -/
theorem At.append {i : Nat} {xs : List T} {m : Md} {t : T} {fr : Bool} {y : V} (A : At c F env (stk ++ [(OV.v t fr).sl]) σ (ws ++ [some y]) H) (hw : stk.length = ws.length) (hi : getS env i = some ⟨.lst xs, m⟩) (hm : m ≠ .sh) :
    ∃ a vs, σ[i]? = some (some (.ref a)) ∧ H a = some (.lst vs) ∧ vs.length = xs.length ∧ At c F (env.set i (some ⟨.lst (xs ++ [t]), m⟩)) stk σ ws (upd H a (.lst (vs ++ [y]))) := by
  obtain ⟨O, S, r⟩ := At.freeze (os := [.v t fr]) (vs := [y]) (ts := [t]) A hw rfl rfl
  obtain ⟨y', e, r1⟩ := r.one
  cases e
  obtain ⟨v, q1, q2⟩ := S.ent i ⟨.lst xs, m⟩ (by rw [List.getElem?_append_left (List.getElem?_eq_some_iff.mp (getS_some hi)).1]; exact getS_some hi)
  have hil : i < env.length := (List.getElem?_eq_some_iff.mp (getS_some hi)).1
  have hl := A.hl
  rw [List.getElem?_append_left (by omega)] at q1
  obtain ⟨a, rfl, hO, vs, hH, hr⟩ : ∃ a, v = .ref a ∧ O a = some i ∧ CellOk c H (F.av O) (.lst xs) a := by
    cases m with
    | sh => exact absurd rfl hm
    | own => obtain ⟨a, z1, z2, z3, z5⟩ := q2; exact ⟨a, z1, z2, z5⟩
    | io => obtain ⟨a, z1, z2, z3, z5⟩ := q2; exact ⟨a, z1, z2, z5⟩
  exact ⟨a, vs, q1, hH, hr.length.symm, At.mut S hl hw hi hm q1 hO hH trivial fun kp => ⟨_, upd_same, (hr.kp kp).append (RepL.cons (r1.kp kp) RepL.nil)⟩⟩
/-- slot i, a list, with the top of the stack at place j -/
theorem At.setAt {i j : Nat} {xs : List T} {m : Md} {t : T} {fr : Bool} {y : V} (A : At c F env (stk ++ [(OV.v t fr).sl]) σ (ws ++ [some y]) H) (hw : stk.length = ws.length) (hi : getS env i = some ⟨.lst xs, m⟩) (hm : m ≠ .sh) :
    ∃ a vs, σ[i]? = some (some (.ref a)) ∧ H a = some (.lst vs) ∧ vs.length = xs.length ∧ At c F (env.set i (some ⟨.lst (xs.set j t), m⟩)) stk σ ws (upd H a (.lst (vs.set j y))) := by
  obtain ⟨O, S, r⟩ := At.freeze (os := [.v t fr]) (vs := [y]) (ts := [t]) A hw rfl rfl
  obtain ⟨y', e, r1⟩ := r.one
  cases e
  obtain ⟨v, q1, q2⟩ := S.ent i ⟨.lst xs, m⟩ (by rw [List.getElem?_append_left (List.getElem?_eq_some_iff.mp (getS_some hi)).1]; exact getS_some hi)
  have hil : i < env.length := (List.getElem?_eq_some_iff.mp (getS_some hi)).1
  have hl := A.hl
  rw [List.getElem?_append_left (by omega)] at q1
  obtain ⟨a, rfl, hO, vs, hH, hr⟩ : ∃ a, v = .ref a ∧ O a = some i ∧ CellOk c H (F.av O) (.lst xs) a := by
    cases m with
    | sh => exact absurd rfl hm
    | own => obtain ⟨a, z1, z2, z3, z5⟩ := q2; exact ⟨a, z1, z2, z5⟩
    | io => obtain ⟨a, z1, z2, z3, z5⟩ := q2; exact ⟨a, z1, z2, z5⟩
  exact ⟨a, vs, q1, hH, hr.length.symm, At.mut S hl hw hi hm q1 hO hH trivial fun kp => ⟨_, upd_same, (hr.kp kp).set j (r1.kp kp)⟩⟩
/-- slot i, a list, with a list's items behind -/
theorem At.extend {i : Nat} {xs us : List T} {m : Md} {fr : Bool} {y : V} (A : At c F env (stk ++ [(OV.v (.lst us) fr).sl]) σ (ws ++ [some y]) H) (hw : stk.length = ws.length) (hi : getS env i = some ⟨.lst xs, m⟩) (hm : m ≠ .sh) :
    ∃ a b vs zs, σ[i]? = some (some (.ref a)) ∧ y = .ref b ∧ H a = some (.lst vs) ∧ H b = some (.lst zs) ∧ vs.length = xs.length ∧ zs.length = us.length ∧ At c F (env.set i (some ⟨.lst (xs ++ us), m⟩)) stk σ ws (upd H a (.lst (vs ++ zs))) := by
  obtain ⟨O, S, r⟩ := At.freeze (os := [.v (.lst us) fr]) (vs := [y]) (ts := [.lst us]) A hw rfl rfl
  obtain ⟨y', e, r1⟩ := r.one
  cases e
  obtain ⟨b, zs, rfl, hb, hz⟩ := r1.lst'
  obtain ⟨v, q1, q2⟩ := S.ent i ⟨.lst xs, m⟩ (by rw [List.getElem?_append_left (List.getElem?_eq_some_iff.mp (getS_some hi)).1]; exact getS_some hi)
  have hil : i < env.length := (List.getElem?_eq_some_iff.mp (getS_some hi)).1
  have hl := A.hl
  rw [List.getElem?_append_left (by omega)] at q1
  obtain ⟨a, rfl, hO, vs, hH, hr⟩ : ∃ a, v = .ref a ∧ O a = some i ∧ CellOk c H (F.av O) (.lst xs) a := by
    cases m with
    | sh => exact absurd rfl hm
    | own => obtain ⟨a, z1, z2, z3, z5⟩ := q2; exact ⟨a, z1, z2, z5⟩
    | io => obtain ⟨a, z1, z2, z3, z5⟩ := q2; exact ⟨a, z1, z2, z5⟩
  exact ⟨a, b, vs, zs, q1, rfl, hH, hb, hr.length.symm, hz.length.symm, At.mut S hl hw hi hm q1 hO hH trivial fun kp => ⟨_, upd_same, (hr.kp kp).append (hz.kp kp)⟩⟩
/-- slot i, a dict, with the pair on the top of the stack -/
theorem At.dput {i : Nat} {kvs : List (T × T)} {m : Md} {k t : T} {f1 f2 : Bool} {y z : V} (A : At c F env (stk ++ [(OV.v t f1).sl] ++ [(OV.v k f2).sl]) σ (ws ++ [some z] ++ [some y]) H) (hw : stk.length = ws.length) (hi : getS env i = some ⟨.dct kvs, m⟩) (hm : m ≠ .sh) (hf : fitK k kvs = true) (hlen : kvs.length < sizeLine) :
    ∃ a ob, σ[i]? = some (some (.ref a)) ∧ DPutE c.P c.w H a y z (upd H a ob) ∧ At c F (env.set i (some ⟨.dct (putT k t kvs), m⟩)) stk σ ws (upd H a ob) := by
  have A' : At c F env (stk ++ [OV.v t f1, OV.v k f2].map OV.sl) σ (ws ++ [z, y].map some) H := by simpa using A
  obtain ⟨O, S, r⟩ := At.freeze (ts := [t, k]) A' hw rfl rfl
  obtain ⟨z', y', e, r1, r2⟩ := r.two'
  cases e
  have hil : i < env.length := (List.getElem?_eq_some_iff.mp (getS_some hi)).1
  obtain ⟨v, q1, q2⟩ := S.ent i ⟨.dct kvs, m⟩ (by rw [List.getElem?_append_left hil]; exact getS_some hi)
  have hl := A.hl
  rw [List.getElem?_append_left (by omega)] at q1
  obtain ⟨a, rfl, hO, hc⟩ : ∃ a, v = .ref a ∧ O a = some i ∧ CellOk c H (F.av O) (.dct kvs) a := by
    cases m with
    | sh => exact absurd rfl hm
    | own => obtain ⟨a, z1, z2, z3, z5⟩ := q2; exact ⟨a, z1, z2, z5⟩
    | io => obtain ⟨a, z1, z2, z3, z5⟩ := q2; exact ⟨a, z1, z2, z5⟩
  obtain ⟨ob, g1, g2, g4⟩ := hc.put (.inr (by rw [hO]; rfl)) r2 r1 hf hlen
  obtain ⟨o0, ho0, mo0⟩ := hc.dom
  exact ⟨a, ob, q1, g1, At.mut S hl hw hi hm q1 hO ho0 mo0 g4⟩
end
end DD
/-! DSw: stores that are swapped. -/
namespace DD
variable [Mode]
open PySem L2
theorem star_none {vs : List Expr} (h : vs.all noStar = true) : (vs.any fun | .Starred .. => true | _ => false) = false := by
  induction vs with
  | nil => rfl
  | cons v vs ih =>
    rw [List.all_cons, Bool.and_eq_true] at h
    rw [List.any_cons, ih h.2, Bool.or_false]
    cases v <;> first | rfl | cases h.1
theorem sw2 {env : Env} {x y : Str} {px py pt p2 : Pos} {kt k2 : Nat} {vs : List Expr} (hk : env.scope.kind = .function) (hx : env.scope.names.lookup x = some .local) (hy : env.scope.names.lookup y = some .local) (hl : (py.line == px.line) = true) (hne : (x == y) = false) (hv : vs.length = 2) (ho : swapOk vs = true) :
    swappedStores [.Tuple [.Name x px, .Name y py] kt pt] (.Tuple vs k2 p2) env = pure (some [x, y]) := by
  unfold swapOk at ho
  rw [Bool.and_eq_true, Bool.and_eq_true, Bool.not_eq_true', Bool.not_eq_true'] at ho
  obtain ⟨⟨h1, h2⟩, h3⟩ := ho
  have ky : env.kindOf y = some .local := hy
  have kx : env.kindOf x = some .local := hx
  have hb : env.blockKind = .function := by unfold Env.blockKind; rw [hk]; rfl
  have s := star_none h1
  have hl' : py.line = px.line := by simpa using hl
  have hne2 : (y == x) = false := by
    rw [beq_eq_false_iff_ne] at hne ⊢
    exact fun e => hne e.symm
  unfold swappedStores
  simp only [hb, hv, kx, ky, s, h2, h3, List.filterMap_cons, List.filterMap_nil, List.head?_cons, Option.map_some, Option.getD_some, Expr.pos, hl', List.length_cons, List.length_nil]
  have er : [x, y].eraseDups = [x, y] := by simp [List.eraseDups_cons, hne, hne2]
  simp [er]
  intro e he hm
  have q := List.all_eq_true.mp h1 e he
  cases e <;> first | (exact absurd q Bool.false_ne_true) | cases hm
theorem sw3 {env : Env} {x y z : Str} {px py pz pt p2 : Pos} {kt k2 : Nat} {vs : List Expr} (hk : env.scope.kind = .function) (hx : env.scope.names.lookup x = some .local) (hy : env.scope.names.lookup y = some .local) (hz : env.scope.names.lookup z = some .local) (hl : (py.line == px.line) = true) (hlz : (pz.line == px.line) = true) (hne : (x == y) = false) (hnz : (x == z) = false) (hyz : (y == z) = false) (hv : vs.length = 3) (ho : swapOk vs = true) :
    swappedStores [.Tuple [.Name x px, .Name y py, .Name z pz] kt pt] (.Tuple vs k2 p2) env = pure (some [x, y, z]) := by
  unfold swapOk at ho
  rw [Bool.and_eq_true, Bool.and_eq_true, Bool.not_eq_true', Bool.not_eq_true'] at ho
  obtain ⟨⟨h1, h2⟩, h3⟩ := ho
  have ky : env.kindOf y = some .local := hy
  have kx : env.kindOf x = some .local := hx
  have kz : env.kindOf z = some .local := hz
  have hb : env.blockKind = .function := by unfold Env.blockKind; rw [hk]; rfl
  have s := star_none h1
  have hl' : py.line = px.line := by simpa using hl
  have hlz' : pz.line = px.line := by simpa using hlz
  have hne2 : (y == x) = false := by
    rw [beq_eq_false_iff_ne] at hne ⊢
    exact fun e => hne e.symm
  have hnz2 : (z == x) = false := by
    rw [beq_eq_false_iff_ne] at hnz ⊢
    exact fun e => hnz e.symm
  have hyz2 : (z == y) = false := by
    rw [beq_eq_false_iff_ne] at hyz ⊢
    exact fun e => hyz e.symm
  unfold swappedStores
  simp only [hb, hv, kx, ky, kz, s, h2, h3, List.filterMap_cons, List.filterMap_nil, List.head?_cons, Option.map_some, Option.getD_some, Expr.pos, hl', hlz', List.length_cons, List.length_nil]
  have er : [x, y, z].eraseDups = [x, y, z] := by simp [List.eraseDups_cons, hne, hne2, hnz, hnz2, hyz, hyz2]
  simp [er]
  intro e he hm
  have q := List.all_eq_true.mp h1 e he
  cases e <;> first | (exact absurd q Bool.false_ne_true) | cases hm
/-- where a name is a cell, nothing is swapped -/
theorem sw_cel {env : Env} {ts vs : List Expr} {kt k2 : Nat} {pt p2 : Pos} (h : ∃ f pos, Expr.Name f pos ∈ ts ∧ env.kindOf f ≠ some .local) : swappedStores [.Tuple ts kt pt] (.Tuple vs k2 p2) env = pure none := by
  unfold swappedStores
  dsimp only
  split
  · rfl
  split
  · rfl
  rw [if_pos]
  obtain ⟨f, pos, h1, h2⟩ := h
  rw [Bool.or_eq_true]
  refine .inl ?_
  rw [bne_iff_ne]
  refine Nat.ne_of_lt (List.length_filterMap_lt_length_iff_exists.mpr ⟨_, h1, ?_⟩)
  dsimp only
  rw [if_neg]
  simp [h2]
end DD
/-! DStm3: readings of statements. -/
namespace DD
variable [Mode]
open PySem L2
section
variable {c : Cn} {W : Nat} {D : Nat → Option Df} {Γ : Gm} {n : Nat} {X : Cx} {F : Fr} {env stk : En} {σ : St} {ws : List (Option V)} {H : Hp} {Φ Ψ : Nat → Fn}
def Done (c : Cn) (F : Fr) (stk : En) (ws : List (Option V)) (E : Ends) (env : En) : Fl → Prop
  | .nx => ∀ σ H, At c F env stk σ ws H → E.nx σ H
  | .bk => ∀ σ H, At c F env stk σ ws H → E.bk σ H
  | .ct => ∀ σ H, At c F env stk σ ws H → E.ct σ H
  | .rt t fr => ∀ v σ H, At c F env (stk ++ [(OV.v t fr).sl]) σ (ws ++ [some v]) H → E.rt v H
def rdS (c : Cn) (Φ Ψ : Nat → Fn) (W : Nat) (s : S) : TS := fun E σ H => ∃ F env stk ws fl env', At c F env stk σ ws H ∧ exec Φ Ψ W s env = .ok (fl, env') ∧ Done c F stk ws E env' fl
def rdSs (c : Cn) (Φ Ψ : Nat → Fn) (W : Nat) (ss : List S) : TS := fun E σ H => ∃ F env stk ws fl env', At c F env stk σ ws H ∧ execs Φ Ψ W ss env = .ok (fl, env') ∧ Done c F stk ws E env' fl
theorem rds_nil : ∀ E σ H, rdSs c Φ Ψ W [] E σ H → tNext E σ H := by
  intro E σ H ⟨F, env, stk, ws, fl, env', A, h, d⟩
  simp only [execs] at h
  cases h
  exact d σ H A
theorem rds_cons {s : S} {ss : List S} : ∀ E σ H, rdSs c Φ Ψ W (s :: ss) E σ H → tSeq (rdS c Φ Ψ W s) (rdSs c Φ Ψ W ss) E σ H := by
  intro E σ H ⟨F, env, stk, ws, fl, env', A, h, d⟩
  simp only [execs] at h
  obtain ⟨⟨f1, e1⟩, h1, h⟩ := R.bind_ok h
  refine ⟨F, env, stk, ws, f1, e1, A, h1, ?_⟩
  cases f1 with
  | nx => exact fun σ1 H1 A1 => ⟨F, e1, stk, ws, fl, env', A1, h, d⟩
  | bk => cases h; exact d
  | ct => cases h; exact d
  | rt t fr => cases h; exact d
theorem rd_set {i : Nat} {e : E} : ∀ E σ H, rdS c Φ Ψ W (.set i e) E σ H → tAsg (rdE c Φ Ψ e) (gName i) E σ H := by
  intro E σ H ⟨F, env, stk, ws, fl, env', A, h, d⟩
  rw [exec] at h
  obtain ⟨⟨o, e1⟩, h1, h⟩ := R.bind_ok h
  cases o with
  | s j => cases h
  | v t fr =>
    obtain ⟨e2, h2, h⟩ := R.bind_ok h
    cases h
    obtain ⟨hi, rfl⟩ := setS_ok h2
    refine ⟨F, env, stk, ws, A, _, e1, h1, fun v H1 A1 _ => ?_⟩
    exact d _ _ (A1.store (by cases fr <;> exact fun z => nomatch z) hi)
theorem rd_asg {g : P} {e : E} : ∀ E σ H, rdS c Φ Ψ W (.asg g e) E σ H → tAsg (rdE c Φ Ψ e) (rdG c g) E σ H := by
  intro E σ H ⟨F, env, stk, ws, fl, env', A, h, d⟩
  rw [exec] at h
  obtain ⟨⟨o, e1⟩, h1, h⟩ := R.bind_ok h
  cases o with
  | s j => cases h
  | v t fr =>
    obtain ⟨e2, h3, h⟩ := R.bind_ok h
    cases h
    refine ⟨F, env, stk, ws, A, _, e1, h1, fun v H1 A1 _ => ?_⟩
    obtain ⟨A2, Av, r⟩ := At.srcs (os := [.v t fr]) (vs := [v]) (ts := [t]) A1 A.hw rfl rfl
    exact ⟨F, e1, stk, ws, t, env', .inl A2, h3, fun σ' H' A' _ => d σ' H' A'⟩
theorem rd_par2 {i j : Nat} {es : List E} (hij : i ≠ j) (hl : es.length = 2) : ∀ E σ H, rdS c Φ Ψ W (.par [.s i, .s j] es) E σ H → tPar i j (rdA c Φ Ψ es) E σ H := by
  intro E σ H ⟨F, env, stk, ws, fl, env', A, h, d⟩
  rw [exec] at h
  obtain ⟨⟨os, e1⟩, h1, h⟩ := R.bind_ok h
  obtain ⟨e2, h2, h⟩ := R.bind_ok h
  cases h
  refine ⟨F, env, stk, ws, A, os, e1, h1, fun vs H1 A1 ok => ?_⟩
  have hlen := ok.length
  cases os with
  | nil => simp [asgTs] at h2
  | cons o1 os =>
    cases os with
    | nil => cases o1 <;> simp only [asgTs] at h2
             · obtain ⟨_, _, h2⟩ := R.bind_ok h2; cases h2
             · cases h2
    | cons o2 os =>
      cases o1 with
      | s _ => simp only [asgTs] at h2; cases h2
      | v t1 f1 =>
        simp only [asgTs, asgT] at h2
        obtain ⟨e3, h3, h2⟩ := R.bind_ok h2
        cases o2 with
        | s _ => simp only [asgTs] at h2; cases h2
        | v t2 f2 =>
          simp only [asgTs, asgT] at h2
          obtain ⟨e4, h4, h2⟩ := R.bind_ok h2
          cases os with
          | cons _ _ => simp only [asgTs] at h2; cases h2
          | nil =>
            simp only [asgTs] at h2
            cases h2
            obtain ⟨hi, rfl⟩ := setS_ok h3
            obtain ⟨hj, rfl⟩ := setS_ok h4
            obtain ⟨v1, v2, rfl⟩ : ∃ v1 v2, vs = [v1, v2] := by
              cases ok with
              | cons _ ok =>
                cases ok with
                | cons _ ok => cases ok; exact ⟨_, _, rfl⟩
            refine ⟨v1, v2, rfl, d _ _ ?_⟩
            have A2 : At c F e1 (stk ++ [(OV.v t1 f1).sl] ++ [(OV.v t2 f2).sl]) σ (ws ++ [some v1] ++ [some v2]) H1 := by simpa using A1
            have hj' : j < e1.length := by simpa using hj
            have A3 := (A2.store (i := j) (by cases f2 <;> exact fun z => nomatch z) hj').store (i := i) (by cases f1 <;> exact fun z => nomatch z) (by simpa using hi)
            rw [List.set_comm _ _ (Ne.symm hij), List.set_comm _ _ (Ne.symm hij)] at A3
            exact A3
theorem rd_par3 {i j l : Nat} {es : List E} (hij : i ≠ j) (hil : i ≠ l) (hjl : j ≠ l) : ∀ E σ H, rdS c Φ Ψ W (.par [.s i, .s j, .s l] es) E σ H → tPar3 i j l (rdA c Φ Ψ es) E σ H := by
  intro E σ H ⟨F, env, stk, ws, fl, env', A, h, d⟩
  rw [exec] at h
  obtain ⟨⟨os, e1⟩, h1, h⟩ := R.bind_ok h
  obtain ⟨e2, h2, h⟩ := R.bind_ok h
  cases h
  refine ⟨F, env, stk, ws, A, os, e1, h1, fun vs H1 A1 ok => ?_⟩
  obtain ⟨t1, f1, t2, f2, t3, f3, rfl⟩ : ∃ t1 f1 t2 f2 t3 f3, os = [.v t1 f1, .v t2 f2, .v t3 f3] := by
    cases os with
    | nil => simp [asgTs] at h2
    | cons o1 os =>
      cases o1 with
      | s _ => simp only [asgTs] at h2; cases h2
      | v t1 f1 =>
        simp only [asgTs] at h2
        obtain ⟨e3, h3, h2⟩ := R.bind_ok h2
        cases os with
        | nil => simp only [asgTs] at h2; cases h2
        | cons o2 os =>
          cases o2 with
          | s _ => simp only [asgTs] at h2; cases h2
          | v t2 f2 =>
            simp only [asgTs] at h2
            obtain ⟨e4, h4, h2⟩ := R.bind_ok h2
            cases os with
            | nil => simp only [asgTs] at h2; cases h2
            | cons o3 os =>
              cases o3 with
              | s _ => simp only [asgTs] at h2; cases h2
              | v t3 f3 =>
                simp only [asgTs] at h2
                obtain ⟨e5, h5, h2⟩ := R.bind_ok h2
                cases os with
                | nil => exact ⟨_, _, _, _, _, _, rfl⟩
                | cons _ _ => simp only [asgTs] at h2; cases h2
  simp only [asgTs, asgT] at h2
  obtain ⟨e3, h3, h2⟩ := R.bind_ok h2
  obtain ⟨e4, h4, h2⟩ := R.bind_ok h2
  obtain ⟨e5, h5, h2⟩ := R.bind_ok h2
  cases h2
  obtain ⟨hi, rfl⟩ := setS_ok h3
  obtain ⟨hj, rfl⟩ := setS_ok h4
  obtain ⟨hl, rfl⟩ := setS_ok h5
  obtain ⟨v1, v2, v3, rfl⟩ : ∃ v1 v2 v3, vs = [v1, v2, v3] := by
    cases ok with
    | cons _ ok =>
      cases ok with
      | cons _ ok =>
        cases ok with
        | cons _ ok => cases ok; exact ⟨_, _, _, rfl⟩
  refine ⟨v1, v2, v3, rfl, d _ _ ?_⟩
  have A2 : At c F e1 (stk ++ [(OV.v t1 f1).sl] ++ [(OV.v t2 f2).sl] ++ [(OV.v t3 f3).sl]) σ (ws ++ [some v1] ++ [some v2] ++ [some v3]) H1 := by simpa using A1
  have hl' : l < e1.length := by simpa using hl
  have hj' : j < e1.length := by simpa using hj
  have A3 := ((A2.store (i := l) (by cases f3 <;> exact fun z => nomatch z) hl').store (i := j) (by cases f2 <;> exact fun z => nomatch z) (by simpa using hj')).store (i := i) (by cases f1 <;> exact fun z => nomatch z) (by simpa using hi)
  have e1 : ∀ {α : Type} (xs : List α) (a b d : α), ((xs.set l d).set j b).set i a = ((xs.set i a).set j b).set l d := fun xs a b d => by
    rw [List.set_comm (l := xs.set l d) _ _ (Ne.symm hij), List.set_comm (l := xs) _ _ (Ne.symm hil), List.set_comm (l := xs.set i a) _ _ (Ne.symm hjl)]
  rw [e1, e1] at A3
  exact A3
theorem rd_setIx {i : Nat} {ix e : E} : ∀ E σ H, rdS c Φ Ψ W (.setIx i ix e) E σ H → tAsg (rdE c Φ Ψ e) (gSub (tVar i) (rdE c Φ Ψ ix) (fun o i v H Q => rSetL o i v H Q ∨ rSetDE c.P c.w o i v H Q)) E σ H := by
  intro E σ H ⟨F, env, stk, ws, fl, env', A, h, d⟩
  rw [exec] at h
  obtain ⟨⟨o, e1⟩, h1, h⟩ := R.bind_ok h
  cases o with
  | s j => cases h
  | v t fr =>
    simp only at h
    split at h
    · rename_i t' fr' sl ho hs
      cases ho
      obtain ⟨⟨o2, e2⟩, h2, h⟩ := R.bind_ok h
      obtain ⟨k, h3, h⟩ := R.bind_ok h
      obtain ⟨e3, h4, h⟩ := R.bind_ok h
      cases h
      have h3 := R.opt_ok h3
      obtain ⟨t0, m, t1, u1, u2, u3, rfl⟩ := upS_ok h4
      refine ⟨F, env, stk, ws, A, _, e1, h1, fun v H1 A1 _ => ?_⟩
      obtain ⟨v0, hv0⟩ := A1.entV hs
      refine ⟨v0, hv0, F, e1, _, _, A1, o2, e2, h2, fun w H2 A2 ok2 => ?_⟩
      obtain ⟨O, S, rt⟩ := At.ops (os := [o2]) (vs := [w]) (ts := [k]) A2 A1.hw (.cons ok2 .nil) (by rw [vals, h3]; rfl)
      have A3 := A2.drop A1.hw
      cases rt with
      | cons p _ =>
        cases t0 <;> simp only [setIxT, reduceCtorEq, Option.map_eq_some_iff] at u3
        case lst xs =>
          cases k <;> simp only [reduceCtorEq, Option.map_eq_some_iff] at u3
          obtain ⟨q, hx, rfl⟩ := u3
          obtain ⟨a, vs, w1, w2, w3, A4⟩ := At.setAt (j := q) A3 A.hw u1 u2
          rw [hv0] at w1
          cases w1
          exact .inl ⟨a, vs, _, q, rfl, p.int, w2, by rw [w3]; exact hx, d _ _ A4⟩
        case dct kvs =>
          obtain ⟨kvs', hx, rfl⟩ := u3
          unfold putD at hx
          split at hx
          · rename_i hf
            rw [Bool.and_eq_true, decide_eq_true_eq] at hf
            cases hx
            have hk : isCell k = false := by
              have := hf.1
              cases k <;> first | rfl | (simp [fitK, isKey0, isKey1] at this)
            obtain ⟨O5, S5, rt5⟩ := At.ops (os := [o2]) (vs := [w]) (ts := [k]) A2 A1.hw (.cons ok2 .nil) (by rw [vals, h3]; rfl)
            cases rt5 with
            | cons p5 _ =>
              have A5 : At c F e2 (stk ++ [(OV.v t fr).sl] ++ [(OV.v k false).sl]) σ (ws ++ [some v] ++ [some w]) H2 := At.out (fr := false) S5 A2.hl A1.hw ⟨Gr.refl, by rw [if_neg Bool.false_ne_true]; exact p5.plain hk⟩
              obtain ⟨a, ob, w1, w2, A4⟩ := At.dput A5 A.hw u1 u2 hf.1 (by rw [← line_eq]; exact hf.2)
              rw [hv0] at w1
              cases w1
              exact .inr ⟨a, _, rfl, w2, d _ _ A4⟩
          · cases hx
    · cases h
theorem rd_aug {i : Nat} {p : Prim} {e : E} {f : Int → Int → Int} (hp : ∀ a b t, p.sem [.int a, .int b] = some t → t = .int (f a b)) : ∀ E σ H, rdS c Φ Ψ W (.aug i p e) E σ H → tAug i (rdE c Φ Ψ e) (ipI f) E σ H := by
  intro E σ H ⟨F, env, stk, ws, fl, env', A, h, d⟩
  rw [exec] at h
  split at h
  · rename_i a0 h0
    obtain ⟨v0, hv0⟩ := A.entV h0
    obtain ⟨⟨o, e1⟩, h1, h⟩ := R.bind_ok h
    dsimp only at h
    split at h
    · rename_i b fr
      split at h
      · rename_i a ha
        obtain ⟨t, h2, h⟩ := R.bind_ok h
        obtain ⟨e2, h3, h⟩ := R.bind_ok h
        cases h
        have h2 := hp _ _ _ (R.opt_ok h2)
        subst h2
        obtain ⟨hi, rfl⟩ := setS_ok h3
        refine ⟨v0, hv0, F, env, stk, ws, A, _, e1, h1, fun y H1 A1 _ => ?_⟩
        obtain ⟨O, S, rt⟩ := At.ops (os := [.v (.int b) fr]) (vs := [y]) (ts := [.int b]) A1 A.hw (.cons trivial .nil) rfl
        have A2 := A1.drop A.hw
        obtain ⟨O2, S2⟩ := A2.sim
        have hg := getS_some ha
        have hil : i < e1.length := (List.getElem?_eq_some_iff.mp hg).1
        obtain ⟨v', q1, q2⟩ := S2.ent i ⟨.int a, .sh⟩ (by rw [List.getElem?_append_left hil]; exact hg)
        rw [List.getElem?_append_left (by rw [← A2.hl]; exact hil), hv0] at q1
        cases q1
        cases rt with
        | cons p2 _ => exact ⟨a, b, q2.repT.int, p2.int, d _ _ ((A2.push_sh (t := .int (f a b)) (v := .int (f a b)) fun Av => by rw [Rep]).store (fun z => nomatch z) hi)⟩
      · cases h
    · cases h
  · cases h
theorem add_ip (a b : Int) : sAdd (.int a) (.int b) = some (.int (a + b)) := rfl
theorem rd_app {i : Nat} {e : E} : ∀ E σ H, rdS c Φ Ψ W (.app i e) E σ H → tDrop (tBM X.K "list" rAppend (tVar i) (tCons (rdE c Φ Ψ e) tNil)) E σ H := by
  intro E σ H ⟨F, env, stk, ws, fl, env', A, h, d⟩
  rw [exec] at h
  split at h
  · rename_i xs0 m0 h0
    obtain ⟨⟨o, e1⟩, h1, h⟩ := R.bind_ok h
    cases o with
    | s j => cases h
    | v t fr =>
      obtain ⟨e2, h2, h⟩ := R.bind_ok h
      cases h
      obtain ⟨t0, m, t1, u1, u2, u3, rfl⟩ := upS_ok h2
      obtain ⟨v0, hv0⟩ := A.entV h0
      refine ⟨v0, hv0, ?_, F, env, stk, ws, A, _, e1, h1, fun y H1 A1 _ => ?_⟩
      · obtain ⟨O, S⟩ := A.sim
        obtain ⟨v', q1, q2⟩ := S.ent i ⟨.lst xs0, m0⟩ (by rw [List.getElem?_append_left (List.getElem?_eq_some_iff.mp (getS_some h0)).1]; exact getS_some h0)
        rw [List.getElem?_append_left (by rw [← A.hl]; exact (List.getElem?_eq_some_iff.mp (getS_some h0)).1), hv0] at q1
        cases q1
        obtain ⟨a, vs, rfl, hH, _⟩ := q2.repT.lst
        exact .inl ⟨rfl, vs, SqL.of hH⟩
      · cases t0 <;> simp only [reduceCtorEq] at u3
        rename_i xs
        split at u3
        · rename_i hz
          cases u3
          obtain ⟨a, vs, w1, w2, w3, A4⟩ := At.append A1 A.hw u1 u2
          rw [hv0] at w1
          cases w1
          exact ⟨a, vs, y, rfl, rfl, w2, by rw [w3, ← line_eq]; exact hz, d _ _ A4⟩
        · cases u3
  · cases h
theorem rd_ext {i : Nat} {e : E} : ∀ E σ H, rdS c Φ Ψ W (.ext i e) E σ H → tDrop (tBM X.K "list" rExtend (tVar i) (tCons (rdE c Φ Ψ e) tNil)) E σ H := by
  intro E σ H ⟨F, env, stk, ws, fl, env', A, h, d⟩
  rw [exec] at h
  split at h
  · rename_i xs0 m0 h0
    obtain ⟨⟨o, e1⟩, h1, h⟩ := R.bind_ok h
    simp only at h
    split at h
    · rename_i us fr
      obtain ⟨e2, h2, h⟩ := R.bind_ok h
      cases h
      obtain ⟨t0, m, t1, u1, u2, u3, rfl⟩ := upS_ok h2
      obtain ⟨v0, hv0⟩ := A.entV h0
      refine ⟨v0, hv0, ?_, F, env, stk, ws, A, _, e1, h1, fun y H1 A1 _ => ?_⟩
      · obtain ⟨O, S⟩ := A.sim
        obtain ⟨v', q1, q2⟩ := S.ent i ⟨.lst xs0, m0⟩ (by rw [List.getElem?_append_left (List.getElem?_eq_some_iff.mp (getS_some h0)).1]; exact getS_some h0)
        rw [List.getElem?_append_left (by rw [← A.hl]; exact (List.getElem?_eq_some_iff.mp (getS_some h0)).1), hv0] at q1
        cases q1
        obtain ⟨a, vs, rfl, hH, _⟩ := q2.repT.lst
        exact .inl ⟨rfl, vs, SqL.of hH⟩
      · cases t0 <;> simp only [reduceCtorEq] at u3
        rename_i xs
        split at u3
        · rename_i hz
          cases u3
          obtain ⟨a, b, vs, zs, w1, rfl, w2, w2b, w3, w4, A4⟩ := At.extend A1 A.hw u1 u2
          rw [hv0] at w1
          cases w1
          exact ⟨a, b, vs, zs, rfl, rfl, w2, w2b, by rw [w3, w4, ← line_eq]; exact hz, d _ _ A4⟩
        · cases u3
    · cases h
  · cases h
theorem rd_expr {e : E} : ∀ E σ H, rdS c Φ Ψ W (.expr e) E σ H → tDrop (rdE c Φ Ψ e) E σ H := by
  intro E σ H ⟨F, env, stk, ws, fl, env', A, h, d⟩
  rw [exec] at h
  obtain ⟨⟨o, e1⟩, h1, h⟩ := R.bind_ok h
  cases h
  exact ⟨F, env, stk, ws, A, o, _, h1, fun v H1 A1 _ => d _ _ (A1.drop A.hw)⟩
theorem rd_ret {e : E} : ∀ E σ H, rdS c Φ Ψ W (.ret e) E σ H → tRet (rdE c Φ Ψ e) E σ H := by
  intro E σ H ⟨F, env, stk, ws, fl, env', A, h, d⟩
  rw [exec] at h
  obtain ⟨⟨o, e1⟩, h1, h⟩ := R.bind_ok h
  cases o with
  | s j => cases h
  | v t fr =>
    cases h
    exact ⟨F, env, stk, ws, A, _, _, h1, fun v H1 A1 _ => d _ _ _ A1⟩
theorem rd_retN : ∀ E σ H, rdS c Φ Ψ W .retN E σ H → tRetN E σ H := by
  intro E σ H ⟨F, env, stk, ws, fl, env', A, h, d⟩
  rw [exec] at h
  cases h
  exact d _ _ _ (A.push_sh fun Av => by rw [Rep])
theorem rd_if {e : E} {a b : List S} : ∀ E σ H, rdS c Φ Ψ W (.ite e a b) E σ H → tIfS (rdT c Φ Ψ e) (rdSs c Φ Ψ W a) (rdSs c Φ Ψ W b) E σ H := by
  intro E σ H ⟨F, env, stk, ws, fl, env', A, h, d⟩
  rw [exec] at h
  obtain ⟨⟨o, e1⟩, h1, h⟩ := R.bind_ok h
  obtain ⟨x, h2, h⟩ := R.bind_ok h
  refine rdT_of A h1 h2 fun H1 A1 => ?_
  cases x with
  | true => exact ⟨F, e1, stk, ws, fl, env', A1, h, d⟩
  | false => exact ⟨F, e1, stk, ws, fl, env', A1, h, d⟩
/-- a loop's end, where its sources still stand -/
theorem done_drop {M : En} {M' : List (Option V)} {E E' : Ends} {fl : Fl} {e : En} (hw : stk.length = ws.length) (hM : M.length = M'.length) (d : Done c F stk ws E e fl) (h1 : fl = .nx → ∀ σ H, E.nx σ H → E'.nx σ H) : True := trivial
/-- a loop over what J hands out -/
theorem for_core {nf : Addr → Prop} {g : P} {body : List S} {E : Ends} {fl : Fl} {e1 envZ : En} {xs ss : List T} {vs : List V} {J : It} {F' : Fr} {H1 : Hp} (hw' : stk.length = ws.length) (ha : loopF (fun env => execs Φ Ψ W body env) g xs e1 = .ok (fl, envZ)) (d : Done c F stk ws E envZ fl)
    (bk : Back c nf F F') (A1 : At c F' e1 (stk ++ ss.map shE) σ (ws ++ vs.map some) H1) (hlv : vs.length = ss.length) (hw : Walks c F' g J ss vs xs) :
    ∃ W' : Nat → Nat → St → Hp → Prop, (∃ m, W' 0 m σ H1) ∧ ∀ i m σ H, W' i m σ H →
      (J.stop i H ∧ (E.unl nf).nx σ H) ∨ (J.go i H ∧ ∃ N : St → Hp → Prop, (∀ σ' H', N σ' H' → ∃ m', m' < m ∧ W' (i + 1) m' σ' H') ∧ ∀ x H', J.yld i H x H' → rdG c g x σ H' fun σ2 H2 => rdSs c Φ Ψ W body { E.unl nf with nx := N, ct := N, bk := (E.unl nf).nx } σ2 H2) := by
  let V : Nat → St → Hp → Prop := fun i σ H => ∃ e, loopF (fun env => execs Φ Ψ W body env) g (xs.drop i) e = .ok (fl, envZ) ∧ At c F' e (stk ++ ss.map shE) σ (ws ++ vs.map some) H
  have hM : (ss.map shE).length = (vs.map some).length := by simp [hlv]
  refine ⟨fun i m σ H => m = xs.length - i ∧ i ≤ xs.length ∧ V i σ H, ⟨xs.length, by simp, Nat.zero_le _, e1, ha, A1⟩, ?_⟩
  rintro i m σ H ⟨rfl, hi, e, hloop, B1⟩
  obtain ⟨O, S, rl⟩ : ∃ O, SimO c F' O (e ++ (stk ++ ss.map shE)) (σ ++ (ws ++ vs.map some)) H ∧ RepL c H (F'.av O) ss vs := by
    have := At.srcsGet (A := stk) (B := []) (A' := ws) (B' := []) (ts := ss) (vs := vs) (by simpa using B1) hw' hlv
    simpa using this
  have walk := hw _ _ _ _ S rl i
  by_cases hlt : i < xs.length
  · refine .inr ?_
    have hx := List.getElem?_eq_getElem hlt
    obtain ⟨go, yld⟩ := walk.2 _ hx
    rw [drop_cons hlt] at hloop
    simp only [loopF] at hloop
    obtain ⟨e2, q1, hloop⟩ := R.bind_ok hloop
    obtain ⟨⟨f1, e3⟩, q2, hloop⟩ := R.bind_ok hloop
    refine ⟨go, V (i + 1), fun σ' H' hv => ⟨xs.length - (i + 1), by omega, rfl, hlt, hv⟩, fun x H' hy => ?_⟩
    obtain ⟨gr, rx⟩ := yld x H' hy
    have B2 := At.itemP S B1.hl B1.hw gr rx
    refine ⟨F', _, _, _, _, e2, B2, q1, fun σ2 H2 B3 agr => ?_⟩
    refine ⟨F', e2, _, _, f1, e3, B3, q2, ?_⟩
    cases f1 with
    | nx => exact fun σ' H' A' => ⟨e3, hloop, A'⟩
    | ct => exact fun σ' H' A' => ⟨e3, hloop, A'⟩
    | bk => cases hloop; exact fun σ' H' A' => (bk (A'.drop hw')).mono fun H A' => d σ' H A'
    | rt t fr =>
      cases hloop
      refine fun v σ' H' A' => (bk (A'.dropMid hw' hM fun x e => ?_)).mono fun H A' => d v σ' H A'
      cases e
      cases fr <;> exact fun z => nomatch z
  · refine .inl ?_
    have ei : i = xs.length := by omega
    subst ei
    rw [List.drop_length] at hloop
    simp only [loopF] at hloop
    cases hloop
    exact ⟨walk.1 rfl, (bk (B1.drop hw')).mono fun H A' => d _ H A'⟩
theorem rd_for {nf : Addr → Prop} {k : ItK} {g : P} {es : List E} {body : List S} : ∀ E σ H, rdS c Φ Ψ W (.forr g k es body) E σ H → tFor (rdI c nf Φ Ψ g k es) (rdG c g) (rdSs c Φ Ψ W body) (E.unl nf) σ H := by
  intro E σ H ⟨F, env, stk, ws, fl, envZ, A, h, d⟩
  rw [exec] at h
  obtain ⟨⟨os, e1⟩, h1, ha⟩ := R.bind_ok h
  clear h
  obtain ⟨ts, h2, h⟩ := R.bind_ok ha
  clear ha
  obtain ⟨xs, h3, ha⟩ := R.bind_ok h
  clear h
  exact ⟨F, env, stk, ws, A, os, e1, ts, xs, h1, R.opt_ok h2, R.opt_ok h3, fun F' J ss vs H1 _ bk A1 hlv hw => for_core A.hw ha d bk A1 hlv hw⟩
theorem rd_forK {X : Cx} {i : Nat} {g : P} {body : List S} : ∀ E σ H, rdS c Φ Ψ W (.forK i g body) E σ H → tFor (iKeysN c.P c.w (tLk X (tVar i))) (rdG c g) (rdSs c Φ Ψ W body) (E.unl (NoFrz X)) σ H := by
  intro E σ H ⟨F, env, stk, ws, fl, envZ, A, h, d⟩
  rw [exec] at h
  split at h
  · rename_i kvs hg
    obtain ⟨b, w, hv, hw, hm, bk, hd⟩ := A.frzK hg
    refine ⟨.ref b, hv, b, w, rfl, hw, hm, fun od hn => ?_⟩
    split at h
    · rename_i he
      cases h
      have he : kvs = [] := List.isEmpty_iff.mp he
      subst he
      rcases hd with ⟨ks, rfl, hk, hwk⟩ | ⟨ks, rfl, hk, _⟩
      · have : ks = [] := by cases ks with
          | nil => rfl
          | cons _ _ => simp at hk
        subst this
        refine ⟨b, od, rfl, .inl ⟨[], upd_same, fun i m σ' H' => i = 0 ∧ σ' = σ ∧ H' = upd H b (.frz od (.dK [])), ⟨0, rfl, rfl, rfl⟩, ?_⟩⟩
        rintro i m σ' H' ⟨rfl, rfl, rfl⟩
        refine .inl ⟨⟨upd_same, Nat.zero_le _⟩, .inr ⟨b, od, .dK [], upd_same, hn, ?_⟩⟩
        rw [upd_upd, upd_self hw]
        exact d _ _ A
      · exact absurd rfl hk
    · refine ⟨b, od, rfl, ?_⟩
      rcases hd with ⟨ks, rfl, hk, hwk⟩ | ⟨ks, rfl, hne, hk, hwk⟩
      · exact .inl ⟨ks, upd_same, for_core (ss := []) (vs := []) A.hw h d (bk _ od) (by simpa using (hwk od).1) rfl ((hwk od).2 g)⟩
      · exact .inr ⟨ks, upd_same, for_core A.hw h d (bk _ od) (hwk od).1 (by simp [hk]) ((hwk od).2 g)⟩
  · cases h
theorem rd_while {e : E} {body : List S} : ∀ E σ H, rdS c Φ Ψ W (.whil e body) E σ H → tWhile (rdT c Φ Ψ e) (rdSs c Φ Ψ W body) E σ H := by
  intro E σ H ⟨F, env, stk, ws, fl, envZ, A, h, d⟩
  rw [exec] at h
  refine ⟨fun m σ H => ∃ e1, loopW (fun env => (ev Φ Ψ e env).bind fun (o, env) => (asBl o).bind fun b => .ok (b, env)) (fun env => execs Φ Ψ W body env) m e1 = .ok (fl, envZ) ∧ At c F e1 stk σ ws H, ⟨W, env, h, A⟩, ?_⟩
  rintro m σ H ⟨e1, hl, A1⟩
  cases m with
  | zero => simp only [loopW] at hl; cases hl
  | succ m =>
    simp only [loopW] at hl
    obtain ⟨⟨b, e2⟩, h1, hl⟩ := R.bind_ok hl
    obtain ⟨⟨o, e3⟩, h2, h3⟩ := R.bind_ok h1
    obtain ⟨b', h4, h5⟩ := R.bind_ok h3
    cases h5
    refine rdT_of A1 h2 h4 fun H1 A2 => ?_
    cases b with
    | false =>
      simp only [Bool.false_eq_true, if_false] at hl ⊢
      cases hl
      exact d _ _ A2
    | true =>
      simp only [if_true] at hl ⊢
      obtain ⟨⟨f1, e4⟩, h6, hl⟩ := R.bind_ok hl
      refine ⟨fun σ' H' => ∃ e1, loopW (fun env => (ev Φ Ψ e env).bind fun (o, env) => (asBl o).bind fun b => .ok (b, env)) (fun env => execs Φ Ψ W body env) m e1 = .ok (fl, envZ) ∧ At c F e1 stk σ' ws H', fun σ' H' hv => ⟨m, by omega, hv⟩, F, _, stk, ws, f1, e4, A2, h6, ?_⟩
      cases f1 with
      | nx => exact fun σ' H' A' => ⟨e4, hl, A'⟩
      | ct => exact fun σ' H' A' => ⟨e4, hl, A'⟩
      | bk => cases hl; exact fun σ' H' A' => d σ' H' A'
      | rt t fr => cases hl; exact fun v σ' H' A' => d v σ' H' A'
end
end DD
/-! DStm4: all statements. -/
namespace DD
variable [Mode]
open PySem L2
section
variable {c : Cn} {W : Nat} {D : Nat → Option Df} {n : Nat}
abbrev rS (c : Cn) (W : Nat) (D : Nat → Option Df) (n : Nat) (s : S) : TS := rdS c (fnS W D n) badF W s
abbrev rSs (c : Cn) (W : Nat) (D : Nat → Option Df) (n : Nat) (s : List S) : TS := rdSs c (fnS W D n) badF W s
theorem PS.wkI {X : Cx} {e : Stmt} {t t' : TS} (h : PS X e t) (k : ∀ D σ H, σ.length = X.N.length → t' D σ H → t D σ H) : PS X e t' := ⟨fun pins s σ H D I q => h.run pins s σ H D I (k D σ H I.len q)⟩
theorem swaps_ok {Γ : Gm} {X : Cx} (g : Good c W D Γ n X) {y : Expr} {f : Str} {p : Pos} {l : Nat} {b : Bool} (h : swapsB Γ y f p = some b) : swapsWith y (some (.Name f p)) l X.env = pure b := by
  have hb : X.env.blockKind = .function := by unfold Env.blockKind; rw [g.kind]; rfl
  have hl : (X.env.kindOf f == some NameKind.local) = Γ.lcl f := by
    unfold Gm.lcl
    rw [← g.names]
    show (X.env.scope.names.lookup f == some NameKind.local) = _
    cases X.env.scope.names.lookup f with
    | none => rfl
    | some k => cases k <;> rfl
  cases y <;> simp only [swapsB, Option.some.injEq, reduceCtorEq] at h <;> first | (subst h; rfl) | skip
  case ListComp elt gs sc pp =>
    have e : swapsWith (.ListComp elt gs sc pp) (some (.Name f p)) l X.env = pure (X.env.blockKind == .function && X.env.kindOf f == some .local && p.line == pp.line && !(sc.names.any fun (n, k) => n == f && (k == .local || k == .cell))) := rfl
    rw [e, hb, hl, ← h]
    rfl
theorem set_comp {Γ : Gm} {X : Cx} (g : Good c W D Γ n X) {i : Nat} {f : Str} {p pos : Pos} {e : E} {y : Expr} (hi : X.N[i]? = some f) (hl : X.env.scope.names.lookup f = some .local) (hsw : swapsWith y (some (.Name f p)) pos.line X.env = pure true) (hc : isComp e = true) (h : chkE Γ e y = true) :
    PS X (.Assign [.Name f p] y pos) (rS c W D n (.set i e)) := by
  cases e <;> simp only [isComp, Bool.false_eq_true] at hc
  case comp own p' k es cond elt =>
    rw [chkE.eq_def] at h; dsimp only at h
    split at h
    · rename_i elt' tg it ifs scope pos'
      simp only [Bool.and_eq_true] at h
      obtain ⟨⟨⟨⟨⟨⟨h1, h2⟩, h3⟩, h4⟩, h5⟩, h6⟩, h7⟩ := h
      obtain ⟨bo, nd, hi', gb⟩ := g.blk h3
      split at h4
      · rename_i xs hit
        have pi := sndI (nf := NoFrz X) g (fun _ => rfl) hit (chkEs_star h4) (sndA es xs Γ X g h4) (fun e y he hx => by subst hx; exact sndI1 es 0 e y Γ X g (by rw [he]; rfl) (by subst he; rw [chkEs, Bool.and_eq_true, Bool.and_eq_true] at h4; exact h4.1.2)) (chkEs_len h4) (chkP_tup h5)
        have pts : ∀ (s : Shared) (H : Hp) (C : Addr) (cl : List (Str × Addr)) (fp : List Addr), PTs (X.blk s H scope (compEnvC scope cl C X.env) fp) ifs (tOf c (fnS W D n) badF cond) := fun s H C cl fp => by
          split at h6
          · cases cond with
            | none => exact pts_nil
            | some e => rw [chkO.eq_def] at h6; cases h6
          · rename_i y
            cases cond with
            | none => rw [chkO.eq_def] at h6; cases h6
            | some e => exact pts_one (sndO (some e) y (Γ.blk scope) _ (gb s H C cl fp) h6 e rfl)
          · cases h6
        refine PS.wkI (ps_unl (ps_setLc (i := i) (wi := rdI c (NoFrz X) (fnS W D n) badF p' k es) (g := rdG c p') (tt := tOf c (fnS W D n) badF cond) (te := rE c W D n elt) (own := ownOf Γ own) g.calm g.nd hi hl hsw pi bo (fun s H C cl fp => sndP (gb s H C cl fp) p' tg h5) pts (fun s H C cl fp => sndE elt elt' (Γ.blk scope) _ (gb s H C cl fp) h7) (noSet_ok h1))) fun E σ H hl q => ?_
        rw [ownOf_snd]
        exact rd_comp nd (all_mem h2) σ H _ (fun i hi'' => by rw [hl]; exact hi' i hi'') (rd_set E σ H q)
      · cases h4
    · cases h
  case comp2 own p' k es p2 k2 es2 own2 cond elt =>
    rw [chkE.eq_def] at h; dsimp only at h
    split at h
    · rename_i elt' tg it tg1 it1 ifs scope pos'
      simp only [Bool.and_eq_true] at h
      obtain ⟨⟨⟨⟨⟨⟨⟨⟨⟨⟨⟨⟨⟨h1, h1b⟩, h2⟩, h2b⟩, h3⟩, h3b⟩, h3c⟩, hk2⟩, h4⟩, h5⟩, h4b⟩, h5b⟩, h6⟩, h7⟩ := h
      rw [Bool.not_eq_true'] at hk2
      obtain ⟨bo, nd, hi', gb⟩ := g.blk h3
      split at h4
      · rename_i xs hit
        split at h4b
        · rename_i xs1 hit1
          have pi := sndI (nf := NoFrz X) g (fun _ => rfl) hit (chkEs_star h4) (sndA es xs Γ X g h4) (fun e y he hx => by subst hx; exact sndI1 es 0 e y Γ X g (by rw [he]; rfl) (by subst he; rw [chkEs, Bool.and_eq_true, Bool.and_eq_true] at h4; exact h4.1.2)) (chkEs_len h4) (chkP_tup h5)
          have pi1 : ∀ (s : Shared) (H : Hp) (C : Addr) (cl : List (Str × Addr)) (fp : List Addr), PI (X.blk s H scope (compEnvC scope cl C X.env) fp) tg1 it1 (rdI c (fun _ => True) (fnS W D n) badF p2 k2 es2) := fun s H C cl fp =>
            sndI (gb s H C cl fp) (fun z => by rw [hk2] at z; cases z) hit1 (chkEs_star h4b) (sndA es2 xs1 (Γ.blk scope) _ (gb s H C cl fp) h4b) (fun e y he hx => by subst hx; exact sndI1 es2 0 e y (Γ.blk scope) _ (gb s H C cl fp) (by rw [he]; rfl) (by subst he; rw [chkEs, Bool.and_eq_true, Bool.and_eq_true] at h4b; exact h4b.1.2)) (chkEs_len h4b) (chkP_tup h5b)
          have pts : ∀ (s : Shared) (H : Hp) (C : Addr) (cl : List (Str × Addr)) (fp : List Addr), PTs (X.blk s H scope (compEnvC scope cl C X.env) fp) ifs (tOf c (fnS W D n) badF cond) := fun s H C cl fp => by
            split at h6
            · cases cond with
              | none => exact pts_nil
              | some e => rw [chkO.eq_def] at h6; cases h6
            · rename_i y
              cases cond with
              | none => rw [chkO.eq_def] at h6; cases h6
              | some e => exact pts_one (sndO (some e) y (Γ.blk scope) _ (gb s H C cl fp) h6 e rfl)
            · cases h6
          refine PS.wkI (ps_unl (ps_setLc2 (i := i) (wi := rdI c (NoFrz X) (fnS W D n) badF p' k es) (wi1 := rdI c (fun _ => True) (fnS W D n) badF p2 k2 es2) (g := rdG c p') (g1 := rdG c p2) (tt := tYes) (tt1 := tOf c (fnS W D n) badF cond) (te := rE c W D n elt) (own := ownOf Γ own) (vs1 := own2) g.calm g.nd hi hl hsw pi bo (fun i hi => by rw [ownOf_snd]; exact all_mem h3b i hi) (fun s H C cl fp => sndP (gb s H C cl fp) p' tg h5) (fun s H C cl fp => pts_nil) pi1 (fun s H C cl fp => sndP (gb s H C cl fp) p2 tg1 h5b) pts (fun s H C cl fp => sndE elt elt' (Γ.blk scope) _ (gb s H C cl fp) h7) (noSet_ok h1) (fun env => noSet_ok h1b))) fun E σ H hl q => ?_
          rw [ownOf_snd]
          exact rd_comp2 hk2 nd (all_mem h2) (all_mem h2b) (all_mem h3b) σ H _ (fun i hi'' => by rw [hl]; exact hi' i hi'') (rd_set E σ H q)
        · cases h4b
      · cases h4
    · cases h
theorem lcl_ok {Γ : Gm} {X : Cx} (g : Good c W D Γ n X) {f : Str} (h : Γ.lcl f = true) : X.env.scope.names.lookup f = some .local := by
  unfold Gm.lcl at h
  rw [← g.names] at h
  split at h
  · assumption
  · cases h
theorem at_ok {Γ : Gm} {X : Cx} (g : Good c W D Γ n X) {i : Nat} {f : Str} (h : Γ.at_ i f = true) : X.N[i]? = some f := by
  rw [g.N]; exact of_decide_eq_true h
theorem swapsB_lcl {Γ : Gm} {y : Expr} {f : Str} {p : Pos} (h : swapsB Γ y f p = some true) : Γ.lcl f = true := by
  cases y <;> simp only [swapsB, Option.some.injEq, reduceCtorEq, Bool.false_eq_true, Bool.and_eq_true] at h
  exact h.1.1
theorem assign_sub {o i : Expr} {pos : Pos} {env : Env} (h : plainIxE i = true) : ∀ v, assign (.Subscript o i pos) env v = (do
      let ov ← holding [v] (eval o env)
      let iv ← holding [v, ov] (eval i env)
      standAt pos
      holding [v, ov, iv] (setItem ov iv v)
      release [v, ov, iv] []) := by
  intro v
  cases i with
  | Slice _ _ _ _ => cases h
  | _ => rfl
theorem noSw_ok {c : Cn} {W : Nat} {D : Nat → Option Df} {Γ : Gm} {n : Nat} {X : Cx} (g : Good c W D Γ n X) {ts : List Expr} {j : Nat} {p : Pos} {y : Expr} (h : noSw Γ ts y = true) : swappedStores [.Tuple ts j p] y X.env = pure none := by
  cases y <;> try rfl
  rw [noSw] at h
  obtain ⟨t, h1, h2⟩ := List.any_eq_true.mp h
  cases t <;> try (exact absurd h2 Bool.false_ne_true)
  rename_i f pos
  refine sw_cel ⟨f, pos, h1, fun e => ?_⟩
  dsimp only at h2
  unfold Gm.cel at h2
  have e : Γ.names.lookup f = some .local := by rw [← g.names]; exact e
  rw [e] at h2
  cases h2
mutual
theorem sndS (Γ : Gm) (X : Cx) (g : Good c W D Γ n X) (hp : PassesOwn (model X.prog X.w) X.A X.env X.xe) : ∀ (s : S) (x : Stmt), chkS Γ s x = true → PS X x (rS c W D n s)
  | .set i e, x, h => by
    rw [chkS.eq_def] at h; dsimp only at h
    split at h
    · simp only [Bool.and_eq_true] at h
      obtain ⟨⟨⟨h1, h2⟩, h3⟩, h4⟩ := h
      have q := g.fn _ h2
      split at h4
      · rename_i hs
        exact set_comp g (at_ok g h1) (lcl_ok g (swapsB_lcl hs)) (swaps_ok g hs) h4 h3
      · rename_i hs
        exact PS.wk (ps_set g.nd (at_ok g h1) q.1 (sndE e _ Γ X g h3) (swaps_ok g hs) q.2) rd_set
      · cases h4
    · cases h
  | .asg p e, x, h => by
    rw [chkS.eq_def] at h; dsimp only at h
    split at h
    · rename_i ts j p' y pos
      simp only [Bool.and_eq_true] at h
      obtain ⟨⟨h1, h2⟩, h3⟩ := h
      exact PS.wk (ps_asg (sndE e _ Γ X g h2) (sndP g p _ h1) (by cases y <;> rfl) (noSw_ok g h3)) rd_asg
    · cases h
  | .par gs es, x, h => by
    rw [chkS.eq_def] at h; dsimp only at h
    split at h
    · split at h
      · simp only [Bool.and_eq_true, decide_eq_true_eq, Bool.not_eq_true'] at h
        obtain ⟨⟨⟨⟨⟨⟨⟨⟨⟨h1, h2⟩, h3⟩, h4⟩, h5⟩, h6⟩, h7⟩, h8⟩, h9⟩, h10⟩ := h
        have hA := sndA es _ Γ X g h10
        rename_i ys _ _ _ _ _ _
        obtain ⟨y1, y2, rfl⟩ : ∃ y1 y2, ys = [y1, y2] := by
          match ys, h8 with
          | [a, b], _ => exact ⟨a, b, rfl⟩
        exact PS.wk (ps_par g.calm g.nd (at_ok g h1) (at_ok g h2) h6 (lcl_ok g h3) (lcl_ok g h4) hA (sw2 g.kind (lcl_ok g h3) (lcl_ok g h4) h7 h5 h8 h9)) (rd_par2 h6 (chkEs_len h10).symm)
      · cases h
    · split at h
      · simp only [Bool.and_eq_true, decide_eq_true_eq, Bool.not_eq_true'] at h
        obtain ⟨⟨⟨⟨⟨⟨⟨⟨⟨⟨⟨⟨⟨⟨⟨⟨h1, h2⟩, h3⟩, h4⟩, h5⟩, h6⟩, h7⟩, h8⟩, h9⟩, h10⟩, h11⟩, h12⟩, h13⟩, h14⟩, h15⟩, h16⟩, h17⟩ := h
        have hA := sndA es _ Γ X g h17
        rename_i ys _ _ _ _ _ _ _
        obtain ⟨y1, y2, y3, rfl⟩ : ∃ y1 y2 y3, ys = [y1, y2, y3] := by
          match ys, h15 with
          | [a, b, d], _ => exact ⟨a, b, d, rfl⟩
        exact PS.wk (ps_par3 g.calm g.nd (at_ok g h1) (at_ok g h2) (at_ok g h3) h10 h11 h12 (lcl_ok g h4) (lcl_ok g h5) (lcl_ok g h6) hA (sw3 g.kind (lcl_ok g h4) (lcl_ok g h5) (lcl_ok g h6) h13 h14 h7 h8 h9 h15 h16)) (rd_par3 h10 h11 h12)
      · cases h
    · cases h
  | .setIx i ix e, x, h => by
    rw [chkS.eq_def] at h; dsimp only at h
    split at h
    · rename_i f p1 j p2 y pos
      simp only [Bool.and_eq_true] at h
      obtain ⟨⟨⟨h0, h1⟩, h2⟩, h3⟩ := h
      exact PS.wk (ps_asg (sndE e _ Γ X g h3) (pg_sub (g.rd h1) (sndE ix _ Γ X g h2) (PSet.or set_list (set_dictE g.pg g.wd (by have := g.un; omega))) (assign_sub h0)) (by cases y <;> rfl) (by cases y <;> rfl)) rd_setIx
    · cases h
  | .aug i p e, x, h => by
    rw [chkS.eq_def] at h; dsimp only at h
    split at h
    · simp only [Bool.and_eq_true] at h
      obtain ⟨⟨⟨h1, h2⟩, h3⟩, h4⟩ := h
      have q := g.fn _ h2
      split at h4
      · exact PS.wk (ps_aug g.nd (at_ok g h1) q.1 (sndE e _ Γ X g h3) ip_add q.2) (rd_aug fun a b t e => by simp only [Prim.sem, two, sAdd, Option.some.injEq] at e; exact e.symm)
      · exact PS.wk (ps_aug g.nd (at_ok g h1) q.1 (sndE e _ Γ X g h3) ip_sub q.2) (rd_aug fun a b t e => by simp only [Prim.sem, two, sSub, Option.some.injEq] at e; exact e.symm)
      · cases h4
    · cases h
  | .augIx _ _ _ _, x, h => by rw [chkS.eq_def] at h; cases h
  | .expr e, x, h => by
    rw [chkS.eq_def] at h; dsimp only at h
    split at h
    · rename_i y pos
      rw [Bool.and_eq_true] at h
      exact PS.wk (ps_expr (sndE e _ Γ X g h.2) (by cases y <;> first | rfl | exact absurd h.1 Bool.false_ne_true)) rd_expr
    · cases h
  | .app i e, x, h => by
    rw [chkS.eq_def] at h; dsimp only at h
    split at h
    · simp only [Bool.and_eq_true, beq_iff_eq] at h
      obtain ⟨⟨⟨⟨h1, rfl⟩, h3⟩, h4⟩, h5⟩ := h
      exact PS.wk (ps_expr (pe_bm F.plainAttrs_list slot_list_append type_list_append mt_append (g.rd h1) (pa_cons (sndE e _ Γ X g h5) pa_nil (star_cons h4)) rfl (by rw [star_cons h4]; rfl) (by rw [h3]; exact beq_self_eq_true _) (star_cons h4) rfl) rfl) rd_app
    · cases h
  | .ext i e, x, h => by
    rw [chkS.eq_def] at h; dsimp only at h
    split at h
    · simp only [Bool.and_eq_true, beq_iff_eq] at h
      obtain ⟨⟨⟨⟨h1, rfl⟩, h3⟩, h4⟩, h5⟩ := h
      exact PS.wk (ps_expr (pe_bm F.plainAttrs_list F.slot_list_extend F.type_list_extend mt_extend (g.rd h1) (pa_cons (sndE e _ Γ X g h5) pa_nil (star_cons h4)) rfl (by rw [star_cons h4]; rfl) (by rw [h3]; exact beq_self_eq_true _) (star_cons h4) rfl) rfl) rd_ext
    · cases h
  | .ret e, x, h => by
    rw [chkS.eq_def] at h; dsimp only at h
    split at h
    · exact PS.wk (ps_ret (sndE e _ Γ X g h)) rd_ret
    · cases h
  | .retN, x, h => by
    rw [chkS.eq_def] at h; dsimp only at h
    split at h
    · exact PS.wk ps_retN rd_retN
    · cases h
  | .ite d a b, x, h => by
    rw [chkS.eq_def] at h; dsimp only at h
    split at h
    · simp only [Bool.and_eq_true] at h
      exact PS.wk (ps_if (sndT d _ Γ X g h.1.1) (sndSs Γ X g hp a _ h.1.2) (sndSs Γ X g hp b _ h.2)) rd_if
    · cases h
  | .forr p k es body, x, h => by
    rw [chkS.eq_def] at h; dsimp only at h
    split at h
    · rename_i tg it bs pos
      simp only [Bool.and_eq_true] at h
      obtain ⟨⟨⟨h1, h2⟩, h3⟩, h4⟩ := h
      split at h3
      · rename_i xs hit
        have pi := sndI (nf := NoFrz X) g (fun _ => rfl) hit (chkEs_star h3) (sndA es xs Γ X g h3) (fun e y he hx => by subst hx; exact sndI1 es 0 e y Γ X g (by rw [he]; rfl) (by subst he; rw [chkEs, Bool.and_eq_true, Bool.and_eq_true] at h3; exact h3.1.2)) (chkEs_len h3) (chkP_tup h2)
        exact PS.wk (ps_unl (ps_for hp g.calm pi (sndP g p tg h2) (sndSs Γ X g hp body bs h4) (noSet_ok h1))) rd_for
      · cases h3
    · cases h
  | .forK i p body, x, h => by
    rw [chkS.eq_def] at h; dsimp only at h
    split at h
    · rename_i tg f pf bs pos
      simp only [Bool.and_eq_true] at h
      obtain ⟨⟨h1, h2⟩, h3⟩ := h
      exact PS.wk (ps_unl (ps_for hp g.calm (pi_keysN g.pg g.wd (pe_lk (g.rd h1))) (sndP g p tg h2) (sndSs Γ X g hp body bs h3) (noSet_ok rfl))) rd_forK
    · cases h
  | .whil d body, x, h => by
    rw [chkS.eq_def] at h; dsimp only at h
    split at h
    · rw [Bool.and_eq_true] at h
      exact PS.wk (ps_while hp (sndT d _ Γ X g h.1) (sndSs Γ X g hp body _ h.2)) rd_while
    · cases h
  | .brk, x, h => by
    rw [chkS.eq_def] at h; dsimp only at h
    split at h
    · refine PS.wk ps_break fun E σ H ⟨F, env, stk, ws, fl, env', A, h, d⟩ => ?_
      rw [exec] at h; cases h; exact d _ _ A
    · cases h
  | .cont, x, h => by
    rw [chkS.eq_def] at h; dsimp only at h
    split at h
    · refine PS.wk ps_continue fun E σ H ⟨F, env, stk, ws, fl, env', A, h, d⟩ => ?_
      rw [exec] at h; cases h; exact d _ _ A
    · cases h
  | .pass, x, h => by
    rw [chkS.eq_def] at h; dsimp only at h
    split at h
    · refine PS.wk ps_pass fun E σ H ⟨F, env, stk, ws, fl, env', A, h, d⟩ => ?_
      rw [exec] at h; cases h; exact d _ _ A
    · cases h
  | .raise, x, h => PS.wk ps_never fun E σ H ⟨F, env, stk, ws, fl, env', A, h, d⟩ => by
      rw [exec] at h; cases h
theorem sndSs (Γ : Gm) (X : Cx) (g : Good c W D Γ n X) (hp : PassesOwn (model X.prog X.w) X.A X.env X.xe) : ∀ (ss : List S) (xs : List Stmt), chkSs Γ ss xs = true → PSs X xs (rSs c W D n ss)
  | [], [], h => PSs.wk pss_nil rds_nil
  | [], x :: xs, h => by rw [chkSs] at h; cases h
  | s :: ss, [], h => by rw [chkSs] at h; cases h
  | s :: ss, x :: xs, h => by
    rw [chkSs, Bool.and_eq_true] at h
    exact PSs.wk (pss_cons (sndS Γ X g hp s x h.1) (sndSs Γ X g hp ss xs h.2)) rds_cons
end
end
end DD
/-! DDef: the defs of the text keep the evaluator's promise. -/
namespace DD
variable [Mode]
open PySem L2
/-- a def of the text, with what says what it does -/
structure Dr where
  d : He.DefD
  N : List Str
  ps : List Str
  df : Df
def isFn : ScopeKind → Bool
  | .function => true
  | _ => false
def scOk (N ps : List Str) (sc : Scope) : Bool := isFn sc.kind && !sc.isCoroutine && !sc.isGenerator && decide N.Nodup && decide (N.take ps.length = ps) && (ps.all fun x => match sc.names.lookup x with
  | some .local => true
  | some .cell => true
  | _ => false) && sc.names.all fun y => match y.2 with
  | .free => false
  | _ => true
theorem scOk_ok {N ps : List Str} {sc : Scope} (h : scOk N ps sc = true) : FnScope N ps sc := by
  unfold scOk at h
  simp only [Bool.and_eq_true, Bool.not_eq_true', decide_eq_true_eq] at h
  obtain ⟨⟨⟨⟨⟨⟨h1, h2⟩, h3⟩, h4⟩, h5⟩, h6⟩, h7⟩ := h
  refine ⟨?_, h2, h3, h4, h5, fun x hx => ?_, fun y hy e => ?_⟩
  · unfold isFn at h1
    split at h1
    · assumption
    · cases h1
  · have := List.all_eq_true.mp h6 x hx
    split at this
    · exact .inl (by assumption)
    · exact .inr (by assumption)
    · cases this
  · have := List.all_eq_true.mp h7 y hy
    rw [e] at this
    cases this
/-- the def's body says what the language says -/
def Dr.ok (G : List (Str × GE)) (r : Dr) : Bool := scOk r.N r.ps r.d.scope && decide (r.N.length = r.df.slots) && decide (r.ps.length = r.df.np) && (match r.df.io with | none => true | some q => decide (q < r.df.np)) && decide (r.df.np ≤ r.df.slots) && chkSs { N := r.N, names := r.d.scope.names, own := none, G := G, stg := Mode.st } r.df.body r.d.body
section
variable {c : Cn} {W : Nat} {D : Nat → Option Df} {n : Nat} {P : Program} {w : World} {mg : Str → Option Value} {base : Heap}
noncomputable def ownS (io : Option Nat) (vs : List V) (a : Addr) : Option Nat := match io with
  | some q => if vs[q]? = some (.ref a) then some q else none
  | none => none
def ioF (io : Option Nat) (vs : List V) (i : Nat) : Option Addr := if io = some i then (match vs[i]? with
  | some (.ref a) => some a
  | _ => none) else none
theorem ownS_iff {io : Option Nat} {vs : List V} (a : Addr) : (ownS io vs a).isSome = true ↔ ioAt io vs a := by
  unfold ownS
  cases io with
  | none => exact ⟨(fun z => nomatch z), fun ⟨q, e, _⟩ => nomatch e⟩
  | some q =>
    by_cases e : vs[q]? = some (.ref a)
    · simp only [if_pos e]; exact ⟨fun _ => ⟨q, rfl, e⟩, fun _ => rfl⟩
    · simp only [if_neg e]; exact ⟨(fun z => nomatch z), fun ⟨q', e1, e2⟩ => by cases e1; exact absurd e2 e⟩
/-- the frame of a def at its entry -/
theorem At.start {io : Option Nat} {A : Addr → Prop} {H : Hp} {ts : List T} {vs : List V} {N : List Str} (p : PreF c io A H ts vs) (hN : ts.length ≤ N.length) (hio : ∀ q, io = some q → q < ts.length) :
    At c { A := A, H0 := H, io := ioF io vs } (startE io ts N.length) [] (L2.start N vs) [] H := by
  have lE : (startE io ts N.length).length = N.length := by simp [startE]; omega
  have lS : (L2.start N vs).length = N.length := by simp [L2.start, p.len]; omega
  refine ⟨by rw [lE, lS], rfl, ownS io vs, ?_⟩
  rw [List.append_nil, List.append_nil]
  have own : ∀ a, (ownS io vs a).isSome = true ↔ ioAt io vs a := ownS_iff
  have ent : ∀ i t, ts[i]? = some t → ∃ v, vs[i]? = some v ∧ if io = some i then ∃ a, v = .ref a ∧ CellOk c H (fun b => A b ∨ ioAt io vs b) t a else Rep c H (fun b => A b ∨ ioAt io vs b) t v := p.par
  have iodom : ∀ a, ioAt io vs a → H a ≠ none := fun a ⟨q, e1, e2⟩ => by
    have hq := hio q e1
    obtain ⟨v, v1, v2⟩ := ent q ts[q] (List.getElem?_eq_getElem hq)
    rw [if_pos e1] at v2
    obtain ⟨b, rfl, v3⟩ := v2
    rw [e2] at v1
    cases v1
    obtain ⟨o, ho, _⟩ := v3.dom
    rw [ho]; exact fun z => nomatch z
  refine ⟨by rw [lE, lS], fun a q => p.nio a ((own a).mp q), p.ad, fun a q => iodom a ((own a).mp q), fun i b e => ?_, fun b o e _ => e, fun i sl hi => ?_⟩
  · have e : ioF io vs i = some b := e
    unfold ioF at e
    by_cases z : io = some i
    · simp only [if_pos z] at e
      cases hv : vs[i]? with
      | none => rw [hv] at e; cases e
      | some v =>
        rw [hv] at e
        cases v <;> simp only [reduceCtorEq, Option.some.injEq] at e
        subst e
        have := iodom _ ⟨i, z, hv⟩
        exact ⟨this, this⟩
    · simp only [if_neg z] at e
      cases e
  · have av : ∀ b, (A b ∨ (ownS io vs b).isSome = true) ↔ (A b ∨ ioAt io vs b) := fun b => or_congr Iff.rfl (own b)
    have kp : ∀ {Av : Addr → Prop}, Kp Av H H := fun a o e _ => e
    unfold startE at hi
    by_cases lt : i < ts.length
    · rw [List.getElem?_append_left (by simpa using lt), List.getElem?_mapIdx, List.getElem?_eq_getElem lt] at hi
      simp only [Option.map_some, Option.some.injEq] at hi
      obtain ⟨v, v1, v2⟩ := ent i ts[i] (List.getElem?_eq_getElem lt)
      have hs : (L2.start N vs)[i]? = some (some v) := by
        unfold L2.start
        rw [List.getElem?_append_left (by simp [p.len]; exact lt), List.getElem?_map, v1]; rfl
      refine ⟨v, hs, ?_⟩
      subst hi
      by_cases z : io = some i
      · rw [if_pos z] at v2
        obtain ⟨a, rfl, v3⟩ := v2
        unfold Ent
        simp only [if_pos z]
        refine ⟨a, rfl, ?_, by show ioF io vs i = some a; unfold ioF; rw [if_pos z, v1], CellOk.mono kp (fun b _ _ q => (av b).mp q) rfl v3⟩
        subst z
        unfold ownS
        simp only [v1, if_true]
      · rw [if_neg z] at v2
        unfold Ent
        simp only [if_neg z]
        exact Rep.mono kp (fun b _ _ q => (av b).mp q) _ _ v2
    · rw [List.getElem?_append_right (by simp; omega), List.getElem?_replicate] at hi
      split at hi <;> cases hi
theorem ioF_some {io : Option Nat} {vs : List V} {i : Nat} {b : Addr} (h : ioF io vs i = some b) : io = some i ∧ vs[i]? = some (.ref b) := by
  unfold ioF at h
  by_cases z : io = some i
  · rw [if_pos z] at h
    cases hv : vs[i]? with
    | none => rw [hv] at h; cases h
    | some v =>
      rw [hv] at h
      cases v <;> simp only [reduceCtorEq, Option.some.injEq] at h
      subst h
      exact ⟨z, rfl⟩
  · rw [if_neg z] at h; cases h
/-- what a run of the body leaves, for the caller -/
theorem At.post {io : Option Nat} {A : Addr → Prop} {H H' : Hp} {vs : List V} {t : T} {fr : Bool} {out : Option T} {v : V} {env : En} {σ : St}
    (S : At c { A := A, H0 := H, io := ioF io vs } env ([] ++ [(OV.v t fr).sl]) σ ([] ++ [some v]) H') (ho : outOf io env = some out) (hst : ∀ q, io = some q → ∃ a, vs[q]? = some (.ref a)) : PostF c io A H vs t fr out v H' := by
  have hl := S.hl
  obtain ⟨O, S⟩ := S.sim
  simp only [List.nil_append] at S
  -- the changed argument
  have lent : ∀ q, io = some q → ∃ a t', vs[q]? = some (.ref a) ∧ out = some t' ∧ O a = some q ∧ CellOk c H' (Fr.av { A := A, H0 := H, io := ioF io vs } O) t' a := fun q e => by
    subst e
    unfold outOf at ho
    simp only at ho
    split at ho
    · rename_i t' hg
      cases ho
      obtain ⟨v', h1, a, rfl, h3, h4, h5⟩ := S.ent q ⟨t', .io⟩ (by rw [List.getElem?_append_left (List.getElem?_eq_some_iff.mp (getS_some hg)).1]; exact getS_some hg)
      exact ⟨a, t', (ioF_some h4).2, rfl, h3, h5⟩
    · cases ho
  have ioO : ∀ b, ioAt io vs b → (O b).isSome = true := fun b ⟨q, e1, e2⟩ => by
    obtain ⟨a, t', h1, _, h3, _⟩ := lent q e1
    rw [e2] at h1
    cases h1
    rw [h3]; rfl
  obtain ⟨v', h1, h2⟩ := S.ent env.length ⟨t, if fr = true then .own else .sh⟩ (by rw [List.getElem?_append_right (Nat.le_refl _), Nat.sub_self]; rfl)
  rw [hl, List.getElem?_append_right (Nat.le_refl _), Nat.sub_self] at h1
  cases h1
  have kp : ∀ {Av : Addr → Prop}, Kp Av H' H' := fun a o e _ => e
  have av1 : ∀ b, A b ∨ ioAt io vs b → Fr.av { A := A, H0 := H, io := ioF io vs } O b := fun b z => z.elim .inl fun z => .inr (ioO b z)
  have keep : ∀ b o, H b = some o → ¬ioAt io vs b → H' b = some o := fun b o e n => S.keep b o e fun i z => n ⟨i, (ioF_some z).1, (ioF_some z).2⟩
  refine ⟨keep, fun b hb => ?_, ?_, fun q e => ?_, fun e => ?_⟩
  · by_cases z : ioAt io vs b
    · exact S.od b (ioO b z)
    · cases e : H b with
      | none => exact absurd e hb
      | some o => rw [keep b o e z]; exact fun z => nomatch z
  · cases fr with
    | false =>
      rw [if_neg Bool.false_ne_true]
      exact Rep.mono kp (fun b _ _ z => av1 b z) _ _ h2
    | true =>
      rw [if_pos rfl]
      obtain ⟨p, rfl, h3, h4, h5⟩ := h2
      exact ⟨p, rfl, h4, CellOk.mono kp (fun b _ _ z => z.elim (av1 b) fun z => .inr (by rw [z, h3]; rfl)) rfl h5⟩
  · obtain ⟨a, t', h3, h4, h5, h6⟩ := lent q e
    refine ⟨a, t', h3, h4, CellOk.mono kp (fun b _ _ z => z.elim (av1 b) fun ⟨z1, z2⟩ => ?_) rfl h6⟩
    subst z1
    obtain ⟨p, rfl, h7, h8, h9⟩ := h2
    cases z2
    exact .inr (by rw [h7]; rfl)
  · subst e
    unfold outOf at ho
    cases ho
    rfl
/-- what the global names are -/
def GlOk (c : Cn) (rs : List Dr) (mg : Str → Option Value) (fA : Nat → Addr) (x : Str) : GE → Prop
  | .fn i np io => ∃ r, rs[i]? = some r ∧ np = r.df.np ∧ io = r.df.io ∧ mg x = some (.ref (fA i))
  | .cst t => ∃ u v, mg x = some u ∧ RelV v u ∧ ∀ H Av, Rep c H Av t v
  | .free => mg x = none
def dfs (rs : List Dr) (i : Nat) : Option Df := (rs[i]?).map (·.df)
/-- ALL DEFS: what the language says, the text does, n calls deep -/
theorem all_ok {K : PySem.W.Frag} {G : List (Str × GE)} {rs : List Dr} {fA : Nat → Addr} {fd : Nat → FuncData} (hK : c.K = K) (hP : c.P = P) (hW : c.w = w) (hG : ∀ x g, G.lookup x = some g → GlOk c rs mg fA x g)
    (hF : ∀ i r, rs[i]? = some r → FunD K r.d.name r.d.qual r.d.params r.d.body r.d.scope [] [] (fA i) (fd i)) (hB : ∀ i r, rs[i]? = some r → Binds K (fd i) r.ps []) (hok : ∀ r ∈ rs, r.ok G = true) :
    ∀ n i r, rs[i]? = some r → FnOk P w K mg base CX0 n (fA i) (fd i) r.ps (spF c (fnS W (dfs rs) n i) r.df.np r.df.io) := by
  have len : ∀ (Φ : Fn) r, r ∈ rs → ∀ vs H Q E, spF c Φ r.df.np r.df.io vs H Q E → vs.length = r.ps.length := fun Φ r hr vs H Q E h => by
    have := hok r hr
    unfold Dr.ok at this
    simp only [Bool.and_eq_true, decide_eq_true_eq] at this
    rw [h.1, this.1.1.1.2]
  intro n
  induction n with
  | zero =>
    intro i r hr
    refine ⟨len _ r (List.mem_of_getElem? hr), fun A outer s H args us vs Q E _ _ _ _ h => ?_⟩
    obtain ⟨_, A, ts, t, fr, out, _, h, _⟩ := h
    cases h
  | succ n ih =>
    intro i r hr
    have hmem := List.mem_of_getElem? hr
    have ok := hok r hmem
    unfold Dr.ok at ok
    simp only [Bool.and_eq_true, decide_eq_true_eq] at ok
    obtain ⟨⟨⟨⟨⟨o1, o2⟩, o3⟩, o5⟩, o6⟩, o4⟩ := ok
    have sc := scOk_ok o1
    refine FunD.ok (hF i r hr) sc (len _ r hmem) fun cdv A outer s H vs Q E room h => ?_
    obtain ⟨hl, Av, ts, t, fr, out, pre, hrun, post⟩ := h
    refine ⟨rSs c W (dfs rs) n r.df.body, PSs.nox (sndSs _ _ ⟨hK.symm, rfl, sc.nd, rfl, sc.kind, rfl, room, fun x hx => ?_, fun x g hx => ?_, rfl, hP.symm, hW.symm⟩ PassesOwn.never _ _ o4), ?_⟩
    · unfold Gm.st at hx
      rw [Bool.or_eq_true, Bool.and_eq_true] at hx
      refine ⟨?_, .inl rfl⟩
      rcases hx with hx | ⟨hx, _⟩
      · unfold Gm.lcl at hx
        split at hx
        · exact .inl (by assumption)
        · cases hx
      · unfold Gm.cel at hx
        split at hx
        · exact .inr (by assumption)
        · cases hx
    · have q := hG x g hx
      cases g with
      | free => exact q
      | cst t => exact q
      | fn j np io =>
        obtain ⟨r', h1, rfl, rfl, h4⟩ := q
        exact ⟨fA j, fd j, r'.ps, h4, (hF j r' h1).kp, hB j r' h1, ih j r' h1⟩
    · have lts : ts.length = r.df.np := pre.len.symm.trans hl
      have hrun : fnS W (dfs rs) (n + 1) i ts = .ok (t, fr, out) := hrun
      have hd : dfs rs i = some r.df := by unfold dfs; rw [hr]; rfl
      simp only [fnS, hd] at hrun
      unfold runDf at hrun
      split at hrun
      · obtain ⟨⟨fl, env⟩, h1, h2⟩ := R.bind_ok hrun
        -- the changed argument's place
        have hio : ∀ q, r.df.io = some q → q < ts.length := fun q e => by
          rw [e] at o5
          have := of_decide_eq_true o5
          omega
        have S0 := At.start (N := r.N) pre (by omega) hio
        rw [o2] at S0
        have hst : ∀ q, r.df.io = some q → ∃ a, vs[q]? = some (.ref a) := fun q e => by
          obtain ⟨v, v1, v2⟩ := pre.par q (ts[q]'(hio q e)) (List.getElem?_eq_getElem (hio q e))
          rw [if_pos e] at v2
          obtain ⟨a, rfl, _⟩ := v2
          exact ⟨a, v1⟩
        refine ⟨_, _, [], [], fl, env, S0, h1, ?_⟩
        cases fl with
        | nx =>
          obtain ⟨ou, h3, h4⟩ := R.bind_ok h2
          cases h4
          exact fun σ' H' A' => post _ _ (At.post (A'.push_sh fun Av => by rw [Rep]) (R.opt_ok h3) hst)
        | bk => cases h2
        | ct => cases h2
        | rt t' fr' =>
          obtain ⟨ou, h3, h4⟩ := R.bind_ok h2
          cases h4
          exact fun v σ' H' A' => post _ _ (At.post A' (R.opt_ok h3) hst)
      · cases hrun
end
end DD
/-! DFin: a law by the evaluator. -/
namespace DD
variable [Mode]
open PySem L2
/-- the names bind as they stand -/
def BndOk (r : Dr) : Prop := ∀ (kV doc pm : Value) (an : Option Addr) (cdv ct : Value) (us : List Value), us.length = r.ps.length → bindArgs (PySem.W.fnOf r.d.name r.d.qual r.d.params r.d.body r.d.scope .none kV doc pm an cdv ct) ⟨us, []⟩ = pure (r.ps.zip us)
def gFact (rs : List Dr) (fa : List He.Fa) (p : Str × GE) : Bool := match p.2 with
  | .fn i np io => (match rs[i]? with
    | some r => decide (r.d.at_ = (p.1, none)) && decide (np = r.df.np) && decide (io = r.df.io)
    | none => false) && fa.any fun f => match f with
      | .glo x => x == p.1
      | _ => false
  | .cst (.int n) => fa.any fun f => match f with
      | .int x m => x == p.1 && m == n
      | _ => false
  | .cst _ => false
  | .free => fa.any fun f => match f with
      | .free x => x == p.1
      | _ => false
def noDfl (r : Dr) : Bool := r.d.dfl.isEmpty && r.d.kwd.isEmpty
def allOk (rs : List Dr) (G : List (Str × GE)) (fa : List He.Fa) : Bool := rs.all (Dr.ok G) && G.all (gFact rs fa) && rs.all noDfl
theorem facts_mem {fa : List He.Fa} {fn : List He.DefD} {K : PySem.W.Frag} (c : He.SaysD fa fn K) {f : He.Fa} (h : f ∈ fa) : f.ok K = true := by
  obtain ⟨i, hi, e⟩ := List.mem_iff_getElem.mp h
  exact c.fact i (f := f) (by rw [List.getElem?_eq_getElem hi, e])
theorem lookup_mem {G : List (Str × GE)} {x : Str} {g : GE} (h : G.lookup x = some g) : (x, g) ∈ G := by
  induction G with
  | nil => cases h
  | cons p G ih =>
    obtain ⟨y, k⟩ := p
    rw [List.lookup_cons] at h
    split at h
    · rename_i e
      cases h
      rw [beq_iff_eq] at e
      subst e
      exact List.mem_cons_self
    · exact List.mem_cons_of_mem _ (ih h)
theorem fin {P : Program} {w : World} {fa : List He.Fa} {rs : List Dr} {G : List (Str × GE)} (ok : allOk rs G fa = true) (bnd : ∀ r ∈ rs, BndOk r) {K : PySem.W.Frag} {h : Heap} {mg : Str → Option Value} (X : K.In h) (NS : h.Ns mainGlobals mg) (c : He.SaysD fa (rs.map (·.d)) K)
    {f : Addr} {x : Str} {i : Nat} {r : Dr} (hr : rs[i]? = some r) (hat : r.d.at_ = (x, none)) (hg : He.Fa.glo x ∈ fa) (hps : r.ps = [("script" : Str)]) (hio : r.df.io = none) (hnp : r.df.np = 1) (hfa : mg x = some (.ref f)) (W n : Nat)
    (law : ∀ ns : List Int, ns.length ≤ 63 → fnS W (dfs rs) n i [.scr ns] = .ok (.bl true, false, none)) :
    ∃ fd : FuncData, (∀ (s : Shared) (v : Value), BindsTo s fd ⟨[v], []⟩ [("script", v)]) ∧ ∃ sp : Sp, (∀ (H : Hp) (a : Addr) (ns : List Int), ns.length ≤ 63 → Only H → SqL K H a (ns.map V.int) → sp [.ref a] H (fun v _ => v = .bl true) fun _ _ _ => False) ∧
      ∀ base : Heap, K.In base → base.Ns mainGlobals mg → FnOk P w K mg base CX0 n f fd [("script" : Str)] sp := by
  unfold allOk at ok
  rw [Bool.and_eq_true, Bool.and_eq_true] at ok
  obtain ⟨⟨ok1, ok2⟩, ok3⟩ := ok
  have hfun : ∀ (j : Nat) (q : Dr), rs[j]? = some q → ∃ fd, FunD K q.d.name q.d.qual q.d.params q.d.body q.d.scope [] [] (He.fAd K q.d.at_) fd := fun j q hq => by
    obtain ⟨fd, F⟩ := c.def_ j (d := q.d) (by rw [List.getElem?_map, hq]; rfl)
    have z := List.all_eq_true.mp ok3 q (List.mem_of_getElem? hq)
    unfold noDfl at z
    rw [Bool.and_eq_true, List.isEmpty_iff, List.isEmpty_iff] at z
    unfold He.DefD.dvs He.DefD.kws at F
    rw [z.1, z.2] at F
    exact ⟨fd, F⟩
  classical
  let fA : Nat → Addr := fun j => match rs[j]? with
    | some q => He.fAd K q.d.at_
    | none => 0
  let fd : Nat → FuncData := fun j => if z : ∃ q, rs[j]? = some q then (hfun j z.choose z.choose_spec).choose else (hfun i r hr).choose
  have hF : ∀ j q, rs[j]? = some q → FunD K q.d.name q.d.qual q.d.params q.d.body q.d.scope [] [] (fA j) (fd j) := fun j q hq => by
    have z : ∃ q, rs[j]? = some q := ⟨q, hq⟩
    have e1 : fA j = He.fAd K q.d.at_ := by show (match rs[j]? with | some q => He.fAd K q.d.at_ | none => 0) = _; rw [hq]
    have e2 : fd j = (hfun j z.choose z.choose_spec).choose := dif_pos z
    have e3 : z.choose = q := Option.some.inj (z.choose_spec.symm.trans hq)
    have s := (hfun j z.choose z.choose_spec).choose_spec
    rw [← e2] at s
    rw [e3] at s
    rw [e1]
    exact s
  have hB : ∀ j q, rs[j]? = some q → Binds K (fd j) q.ps [] := fun j q hq => (hF j q hq).bindsN (bnd q (List.mem_of_getElem? hq))
  have hG : ∀ y g, G.lookup y = some g → GlOk ⟨K, fun _ => 0, P, w⟩ rs mg fA y g := fun y g hy => by
    have z := List.all_eq_true.mp ok2 _ (lookup_mem hy)
    unfold gFact at z
    simp only at z
    split at z
    · rename_i j np io
      rw [Bool.and_eq_true] at z
      obtain ⟨z1, z2⟩ := z
      split at z1
      · rename_i q hq
        simp only [Bool.and_eq_true, decide_eq_true_eq] at z1
        obtain ⟨f, hf, hx⟩ := List.any_eq_true.mp z2
        split at hx
        · rw [beq_iff_eq] at hx
          subst hx
          refine ⟨q, hq, z1.1.2, z1.2, ?_⟩
          have e1 : fA j = He.fAd K q.d.at_ := by show (match rs[j]? with | some q => He.fAd K q.d.at_ | none => 0) = _; rw [hq]
          rw [e1, z1.1.1]
          exact He.glo_ok X NS (facts_mem c hf)
        · cases hx
      · cases z1
    · obtain ⟨f, hf, hx⟩ := List.any_eq_true.mp z
      split at hx
      · rw [Bool.and_eq_true, beq_iff_eq, beq_iff_eq] at hx
        obtain ⟨rfl, rfl⟩ := hx
        obtain ⟨t, ht⟩ := He.int_ok X NS (facts_mem c hf)
        exact ⟨_, .int _, ht, ⟨t, rfl⟩, fun H Av => by rw [Rep]⟩
      · cases hx
    · cases z
    · obtain ⟨f, hf, hx⟩ := List.any_eq_true.mp z
      split at hx
      · rw [beq_iff_eq] at hx
        subst hx
        exact He.free_ok X NS (facts_mem c hf)
      · cases hx
  have e0 : fA i = f := by
    have e1 : fA i = He.fAd K r.d.at_ := by show (match rs[i]? with | some q => He.fAd K q.d.at_ | none => 0) = _; rw [hr]
    rw [e1, hat]
    have := He.glo_ok X NS (facts_mem c hg)
    rw [hfa] at this
    cases this
    rfl
  refine ⟨fd i, fun s v => ?_, spF ⟨K, fun _ => 0, P, w⟩ (fnS W (dfs rs) n i) r.df.np r.df.io, fun H a ns hl hO hS => ?_, fun base _ _ => ?_⟩
  · have b := FunD.bindsA (ps := r.ps) (hF i r hr) (bnd r (List.mem_of_getElem? hr)) s [v] (by rw [hps]; rfl)
    rw [hps] at b
    exact b
  · refine ⟨by rw [hnp]; rfl, fun _ => False, [.scr ns], .bl true, false, none, ⟨fun _ z => z.elim, rfl, (fun a ⟨q, e, _⟩ => by rw [hio] at e; cases e), fun j t ht => ?_⟩, law ns hl, fun v H' p => ?_⟩
    · cases j with
      | succ j => simp at ht
      | zero =>
        simp only [List.getElem?_cons_zero, Option.some.injEq] at ht
        subst ht
        refine ⟨.ref a, rfl, ?_⟩
        rw [hio, if_neg (fun z => nomatch z), Rep]
        refine ⟨a, rfl, ?_⟩
        rcases hS with (hS | ⟨o, hS⟩) | hS
        · rcases hO a with z | ⟨o, xs, z⟩
          · rw [z] at hS; cases hS
          · rw [z] at hS; cases hS
        · exact .inl ⟨o, hS⟩
        · exact .inr (.inr hS)
    · have q := p.res
      rw [if_neg Bool.false_ne_true, Rep] at q
      exact q
  · have F := all_ok (P := P) (w := w) (base := base) (W := W) (c := ⟨K, fun _ => 0, P, w⟩) (mg := mg) rfl rfl rfl hG hF hB (fun r hr => List.all_eq_true.mp ok1 r hr) n i r hr
    rw [e0, hps] at F
    exact F
end DD
/-! DHand: steps of the evaluator; the laws' own hand and draws. -/
namespace DD
variable [Mode]
open PySem
section
variable {Φ Ψ : Nat → Fn} {W : Nat}
theorem loopC_step {f : En → R (OV × En)} {c : En → R (Bool × En)} {g : P} {own : List Nat} {x : T} {xs acc : List T} {env e1 e2 e3 : En} {t : T} {fr : Bool} (h1 : asgP g x (wipeE env own) = .ok e1) (h2 : c e1 = .ok (true, e2)) (h3 : f e2 = .ok (.v t fr, e3)) (h4 : acc.length < line) :
    loopC f c g own (x :: xs) acc env = loopC f c g own xs (acc ++ [t]) e3 := by
  simp only [loopC, h1, R.bind, h2, h3, if_true, h4]
theorem ev_comp {own : List Nat} {g : P} {k : ItK} {es : List E} {cond : Option E} {elt : E} {env e1 eZ : En} {os : List OV} {ts xs ys : List T} (h1 : evs Φ Ψ es env = .ok (os, e1)) (h2 : plainK k os = some ts) (h3 : k.walk ts = some xs)
    (h4 : loopC (fun e => ev Φ Ψ elt e) (fun e => evc Φ Ψ cond e) g own xs [] e1 = .ok (ys, eZ)) : ev Φ Ψ (.comp own g k es cond elt) env = .ok (.v (.lst ys) true, backE e1 eZ own) := by
  rw [ev, h1]
  simp only [R.bind, h2, R.opt, h3, h4]
theorem ex_set {i : Nat} {e : E} {env e1 e2 : En} {t : T} {fr : Bool} (h1 : ev Φ Ψ e env = .ok (.v t fr, e1)) (h2 : setS e1 i t fr = .ok e2) : exec Φ Ψ W (.set i e) env = .ok (.nx, e2) := by
  rw [exec, h1]
  simp only [R.bind, h2]
theorem exs_cons {s : S} {ss : List S} {env e1 : En} (h : exec Φ Ψ W s env = .ok (.nx, e1)) : execs Φ Ψ W (s :: ss) env = execs Φ Ψ W ss e1 := by
  rw [execs, h]; rfl
theorem exs_ret {s : S} {ss : List S} {env e1 : En} {t : T} {fr : Bool} (h : exec Φ Ψ W s env = .ok (.rt t fr, e1)) : execs Φ Ψ W (s :: ss) env = .ok (.rt t fr, e1) := by
  rw [execs, h]; rfl
theorem fn_ret {D : Nat → Option Df} {n i : Nat} {d : Df} {ts : List T} {t : T} {fr : Bool} {env : En} {out : Option T} (hD : D i = some d) (hl : ts.length = d.np) (h : execs (fnS W D n) (fun _ _ => .bad) W d.body (startE d.io ts d.slots) = .ok (.rt t fr, env)) (ho : outOf d.io env = some out) : fnS W D (n + 1) i ts = .ok (t, fr, out) := by
  simp only [fnS, hD, runDf, hl, beq_self_eq_true, if_true, h, R.bind, R.opt, ho]
theorem ex_if {c : E} {a b : List S} {env e1 : En} {d fr : Bool} (h : ev Φ Ψ c env = .ok (.v (.bl d) fr, e1)) : exec Φ Ψ W (.ite c a b) env = if d = true then execs Φ Ψ W a e1 else execs Φ Ψ W b e1 := by
  rw [exec, h]; rfl
theorem ex_ret {e : E} {env e1 : En} {t : T} {fr : Bool} (h : ev Φ Ψ e env = .ok (.v t fr, e1)) : exec Φ Ψ W (.ret e) env = .ok (.rt t fr, e1) := by
  rw [exec, h]; rfl
end
theorem sEq_int (a b : Int) : sEq (.int a) (.int b) = some (.bl (decide (a = b))) := by
  unfold sEq
  have e : T.eqv (.int a) (.int b) = decide (a = b) := by
    unfold T.eqv
    simp only [T.toD]
    simp only [PyData.eqv]
    by_cases h : a = b
    · subst h; simp
    · simp [h]
  rw [e]; rfl
/-- a hand as the laws hold it -/
def hdT (cs : List Int) (a b c d : Int) : T := .lst [.lst (cs.map .int), .int a, .int b, .int c, .int d]
def Hd (t : T) : Prop := ∃ (cs : List Int) (a b c d : Int), t = hdT cs a b c d ∧ 0 ≤ a ∧ 0 ≤ b ∧ 0 ≤ c ∧ 0 ≤ d ∧ ∀ x ∈ cs, 0 ≤ x
def absI (i : Int) : Int := if i < 0 then -i else i
def dHand (rt : E) : Df := ⟨1, none, 3, [
    .set 1 (.comp [2] (.s 2) .val [.prim .slU [.peek 0, .cst (.int 63)]] none (.prim .abs [.prim .int [.peek 2]])),
    .ret rt]⟩
theorem loopC_abs (Φ Ψ : Nat → Fn) (e0 e1 : Option Sl) : ∀ (l : List Int) (acc : List T) (z : Option Sl), acc.length + l.length ≤ line → ∃ z', loopC (fun e => ev Φ Ψ (.prim .abs [.prim .int [.peek 2]]) e) (fun e => evc Φ Ψ none e) (.s 2) [2] (l.map .int) acc [e0, e1, z] = .ok (acc ++ (l.map absI).map .int, [e0, e1, z'])
  | [], acc, z, h => ⟨z, by simp [loopC]⟩
  | i :: l, acc, z, h => by
    simp only [List.length_cons] at h
    obtain ⟨z', hz⟩ := loopC_abs Φ Ψ e0 e1 l (acc ++ [.int (absI i)]) (some ⟨.int i, .sh⟩) (by simp; omega)
    refine ⟨z', ?_⟩
    have hl : acc.length < line := by omega
    rw [List.map_cons, loopC_step (e1 := [e0, e1, some ⟨.int i, .sh⟩]) (e2 := [e0, e1, some ⟨.int i, .sh⟩]) (e3 := [e0, e1, some ⟨.int i, .sh⟩]) (t := .int (absI i)) (fr := false) rfl (by rw [evc]) rfl hl, hz]
    simp
theorem cut_map (ns : List Int) (u : Option Int) : ∃ l : List Int, cutT (ns.map T.int) none u = l.map T.int ∧ l.length ≤ ns.length := by
  refine ⟨(ns.drop (clipO ns.length 0 none)).take (clipO ns.length ns.length u - clipO ns.length 0 none), ?_, ?_⟩
  · unfold cutT
    rw [List.map_take, List.map_drop, List.length_map]
  · rw [List.length_take, List.length_drop]; omega
theorem hand_ok {W : Nat} {D : Nat → Option Df} {n i : Nat} {rt : E} {k : Int → Int} (hD : D i = some (dHand rt))
    (hrt : ∀ (Φ Ψ : Nat → Fn) (s z : Option Sl) (l : List Int), ev Φ Ψ rt [s, some ⟨.lst (l.map .int), .own⟩, z] = .ok (.v (hdT l 0 0 (k ((l.map T.int).length : Int)) 0) true, [s, some ⟨.lst (l.map .int), .sh⟩, z])) (hk : ∀ x, 0 ≤ x → 0 ≤ k x) (ns : List Int) (hn : ns.length ≤ 63) : ∃ t, fnS W D (n + 1) i [.scr ns] = .ok (t, true, none) ∧ Hd t := by
  obtain ⟨l, e, hl⟩ := cut_map ns (some 63)
  obtain ⟨z', hz⟩ := loopC_abs (fnS W D n) (fun _ _ => .bad) (some ⟨.scr ns, .sh⟩) none l [] none (by simp [line]; omega)
  rw [List.nil_append] at hz
  have s1 : evs (fnS W D n) (fun _ _ => .bad) [.prim .slU [.peek 0, .cst (.int 63)]] [some ⟨.scr ns, .sh⟩, none, none] = .ok ([.v (.lst (l.map .int)) true], [some ⟨.scr ns, .sh⟩, none, none]) := by
    rw [← e]; rfl
  refine ⟨_, fn_ret hD rfl ((exs_cons (ex_set (ev_comp s1 rfl rfl hz) rfl)).trans (exs_ret (ex_ret (hrt _ _ _ _ _)))) rfl, l.map absI, 0, 0, _, 0, rfl, by omega, by omega, hk _ (by omega), by omega, ?_⟩
  intro x hx
  obtain ⟨y, _, rfl⟩ := List.mem_map.mp hx
  unfold absI
  split <;> omega
end DD
/-! DDraw: the laws' draws. -/
namespace DD
variable [Mode]
open PySem
section
variable {Φ Ψ : Nat → Fn} {W : Nat}
theorem mul_r {i k : Int} (h : small64 k = true) : sMul (.int i) (.int k) = some (.int (i * k)) := by
  show (if mulOk i k = true then _ else _) = _
  unfold mulOk
  rw [h, Bool.or_true]; rfl
theorem mul_l {i k : Int} (h : small64 i = true) : sMul (.int i) (.int k) = some (.int (i * k)) := by
  show (if mulOk i k = true then _ else _) = _
  unfold mulOk
  rw [h, Bool.true_or]; rfl
theorem mod_ok {i j : Int} (h : 0 < j) : sMod (.int i) (.int j) = some (.int (i % j)) := by
  show (if 0 < j then _ else _) = _
  rw [if_pos h]
theorem fdiv_ok {i j : Int} (h : 0 < j) (h2 : j < 1073741824) : sFdiv (.int i) (.int j) = some (.int (i / j)) := by
  have q : 0 < j ∧ j < 115792089237316195423570985008687907853269984665640564039457584007913129639936 := ⟨h, by omega⟩
  unfold sFdiv
  exact if_pos q
theorem ev_p1 {p : Prim} {a : E} {env e1 : En} {o : OV} {x t : T} (h1 : ev Φ Ψ a env = .ok (o, e1)) (h2 : o.res e1 = some x) (h3 : p.sem [x] = some t) : ev Φ Ψ (.prim p [a]) env = .ok (.v t (p.makes && isCell t), e1) := by
  simp only [ev, evs, h1, R.bind, vals, h2, R.opt, h3]
theorem ev_p2 {p : Prim} {a b : E} {env e1 e2 : En} {o u : OV} {x y t : T} (h1 : ev Φ Ψ a env = .ok (o, e1)) (h2 : ev Φ Ψ b e1 = .ok (u, e2)) (h3 : o.res e2 = some x) (h4 : u.res e2 = some y) (h5 : p.sem [x, y] = some t) : ev Φ Ψ (.prim p [a, b]) env = .ok (.v t (p.makes && isCell t), e2) := by
  simp only [ev, evs, h1, h2, R.bind, vals, h3, h4, R.opt, h5]
end
def hI (k : Int) : E := .prim .ix [.peek 0, .cst (.int k)]
def cD : E := .and (.prim .eq [hI 2, .cst (.int 0)]) (.prim .lt [hI 1, .prim .len [hI 0]])
def bD (nx : E) : List S := [.set 2 (.prim .ix [hI 0, hI 1]), .setIx 0 (.cst (.int 1)) (.prim .add [hI 1, .cst (.int 1)]), .setIx 0 (.cst (.int 3)) nx, .ite (.prim .ge [.peek 2, .prim .pow [.cst (.int 10), .cst (.int 18)]]) [.setIx 0 (.cst (.int 2)) (.var 2)] []]
def s1D : List S := [.set 3 (.prim .mod [.prim .int [hI 2], .peek 1]), .setIx 0 (.cst (.int 2)) (.prim .fdiv [hI 2, .peek 1]), .ret (.mv 3)]
def dDraw (m1 m2 m3 m4 m5 : Int) (nx : E) : Df := ⟨2, (some 0), 5, [
    .ite cD (bD nx) [],
    .ite (.prim .gt [hI 2, .cst (.int 0)]) s1D [],
    .setIx 0 (.cst (.int 4)) (.prim .add [hI 4, .cst (.int 1)]),
    .set 4 (.prim .mod [.prim .int [.prim .mul [.prim .int [.prim .add [hI 3, .prim .mul [.cst (.int m1), hI 4]]], .cst (.int 48271)]], .cst (.int 2147483647)]),
    .set 4 (.prim .mod [.prim .int [.prim .mul [.peek 4, .prim .add [.prim .fdiv [.peek 4, .cst (.int m2)], .cst (.int 69621)]]], .cst (.int 2147483647)]),
    .set 4 (.prim .mod [.prim .int [.prim .mul [.peek 4, .prim .add [.prim .fdiv [.peek 4, .cst (.int m3)], .cst (.int m4)]]], .cst (.int m5)]),
    .ret (.prim .mod [.prim .int [.prim .fdiv [.peek 4, .cst (.int 16)]], .peek 1])]⟩
/-- the state of a draw -/
def dE (t : T) (m : Int) (x y z : Option Sl) : En := [some ⟨t, .io⟩, some ⟨.int m, .sh⟩, x, y, z]
theorem ix_map {cs : List Int} {a : Int} (h0 : 0 ≤ a) (h : a < (cs.map T.int).length) : ∃ x, ixAt (cs.map T.int) a = some (.int x) ∧ x ∈ cs := by
  have hl : a.toNat < cs.length := by simp at h; omega
  refine ⟨cs[a.toNat], ?_, List.getElem_mem _⟩
  unfold ixAt
  rw [if_pos h0, List.getElem?_map, List.getElem?_eq_getElem hl]
  rfl
theorem small_of {k : Int} (h1 : -(2 ^ 64) < k) (h2 : k < 2 ^ 64) : small64 k = true := by
  unfold small64
  rw [decide_eq_true h1, decide_eq_true h2]; rfl
section
variable {Φ Ψ : Nat → Fn} {W : Nat}
theorem ev_int {e : E} {env e1 : En} {i : Int} {fr : Bool} (h : ev Φ Ψ e env = .ok (.v (.int i) fr, e1)) : ev Φ Ψ (.prim .int [e]) env = .ok (.v (.int i) false, e1) := ev_p1 h rfl rfl
theorem mulmod {E0 : En} {e1 e2 : E} {i k q : Int} {o1 o2 : OV} (h1 : ev Φ Ψ e1 E0 = .ok (o1, E0)) (h2 : ev Φ Ψ e2 E0 = .ok (o2, E0)) (r1 : o1.res E0 = some (.int i)) (r2 : o2.res E0 = some (.int k)) (hs : sMul (.int i) (.int k) = some (.int (i * k))) (hq : 0 < q) :
    ev Φ Ψ (.prim .mod [.prim .int [.prim .mul [e1, e2]], .cst (.int q)]) E0 = .ok (.v (.int (i * k % q)) false, E0) :=
  ev_p2 (ev_int (ev_p2 (p := .mul) h1 h2 r1 r2 hs)) (u := .v (.int q) false) (by rw [ev]) rfl rfl (mod_ok hq)
/-- the first statement of a draw -/
theorem draw0 {nx : E} {f : Int → Int → Int} (hnx : ∀ (cs : List Int) (a b c d m x : Int) (y z : Option Sl), ev Φ Ψ nx (dE (hdT cs a b c d) m (some ⟨.int x, .sh⟩) y z) = .ok (.v (.int (f c x)) false, dE (hdT cs a b c d) m (some ⟨.int x, .sh⟩) y z)) (hf : ∀ c x, 0 ≤ f c x)
    {cs : List Int} {a b c d m : Int} (ha : 0 ≤ a) (hb : 0 ≤ b) (hc : 0 ≤ c) (hcs : ∀ x ∈ cs, 0 ≤ x) : ∃ a' b' c' x, exec Φ Ψ W (.ite cD (bD nx) []) (dE (hdT cs a b c d) m none none none) = .ok (.nx, dE (hdT cs a' b' c' d) m x none none) ∧ 0 ≤ a' ∧ 0 ≤ b' ∧ 0 ≤ c' := by
  by_cases hb0 : b = 0
  · subst hb0
    have c1 : ev Φ Ψ cD (dE (hdT cs a 0 c d) m none none none) = .ok (.v (.bl (decide (a < ((cs.map T.int).length : Int)))) false, dE (hdT cs a 0 c d) m none none none) := rfl
    by_cases hl : a < ((cs.map T.int).length : Int)
    · obtain ⟨x, hx, hxm⟩ := ix_map ha hl
      rw [decide_eq_true hl] at c1
      have e1 : ev Φ Ψ (.prim .ix [hI 0, hI 1]) (dE (hdT cs a 0 c d) m none none none) = .ok (.v (.int x) false, dE (hdT cs a 0 c d) m none none none) :=
        ev_p2 (x := .lst (cs.map T.int)) (y := .int a) (t := .int x) rfl rfl rfl rfl hx
      have e2 : exec Φ Ψ W (.setIx 0 (.cst (.int 1)) (.prim .add [hI 1, .cst (.int 1)])) (dE (hdT cs a 0 c d) m (some ⟨.int x, .sh⟩) none none) = .ok (.nx, dE (hdT cs (a + 1) 0 c d) m (some ⟨.int x, .sh⟩) none none) := rfl
      have e3 : exec Φ Ψ W (.setIx 0 (.cst (.int 3)) nx) (dE (hdT cs (a + 1) 0 c d) m (some ⟨.int x, .sh⟩) none none) = .ok (.nx, dE (hdT cs (a + 1) 0 (f c x) d) m (some ⟨.int x, .sh⟩) none none) := by
        rw [exec, hnx]; rfl
      have c2 : ev Φ Ψ (.prim .ge [.peek 2, .prim .pow [.cst (.int 10), .cst (.int 18)]]) (dE (hdT cs (a + 1) 0 (f c x) d) m (some ⟨.int x, .sh⟩) none none) = .ok (.v (.bl (decide ((10 : Int) ^ 18 ≤ x))) false, dE (hdT cs (a + 1) 0 (f c x) d) m (some ⟨.int x, .sh⟩) none none) := rfl
      by_cases hx2 : (10 : Int) ^ 18 ≤ x
      · rw [decide_eq_true hx2] at c2
        refine ⟨a + 1, x, f c x, some ⟨.int x, .sh⟩, ?_, by omega, hcs x hxm, hf c x⟩
        refine (ex_if c1).trans ?_
        rw [if_pos rfl]
        refine (exs_cons (ex_set e1 rfl)).trans ((exs_cons e2).trans ((exs_cons e3).trans ?_))
        refine (exs_cons ((ex_if c2).trans ?_)).trans rfl
        rw [if_pos rfl]
        rfl
      · rw [decide_eq_false hx2] at c2
        refine ⟨a + 1, 0, f c x, some ⟨.int x, .sh⟩, ?_, by omega, by omega, hf c x⟩
        refine (ex_if c1).trans ?_
        rw [if_pos rfl]
        refine (exs_cons (ex_set e1 rfl)).trans ((exs_cons e2).trans ((exs_cons e3).trans ?_))
        exact (exs_cons ((ex_if c2).trans rfl)).trans rfl
    · refine ⟨a, 0, c, none, ?_, ha, by omega, hc⟩
      rw [decide_eq_false hl] at c1
      exact (ex_if c1).trans rfl
  · refine ⟨a, b, c, none, ?_, ha, hb, hc⟩
    have c0 : ev Φ Ψ (.prim .eq [hI 2, .cst (.int 0)]) (dE (hdT cs a b c d) m none none none) = .ok (.v (.bl (decide (b = 0))) false, dE (hdT cs a b c d) m none none none) :=
      ev_p2 (x := .int b) (y := .int 0) (t := .bl (decide (b = 0))) rfl (u := .v (.int 0) false) (by rw [ev]) rfl rfl (sEq_int b 0)
    rw [decide_eq_false hb0] at c0
    have c1 : ev Φ Ψ cD (dE (hdT cs a b c d) m none none none) = .ok (.v (.bl false) false, dE (hdT cs a b c d) m none none none) := by
      rw [cD, ev, c0]; rfl
    exact (ex_if c1).trans rfl
end
theorem draw_ok {W : Nat} {D : Nat → Option Df} {n i : Nat} {m1 m2 m3 m4 m5 : Int} {nx : E} {f : Int → Int → Int} (hD : D i = some (dDraw m1 m2 m3 m4 m5 nx)) (hm1 : small64 m1 = true) (h01 : 0 ≤ m1) (hm2 : 0 < m2 ∧ m2 < 1073741824) (hm3 : 0 < m3 ∧ m3 < 1073741824) (hm4 : 0 ≤ m4) (hm5 : 0 < m5)
    (hnx : ∀ (Φ Ψ : Nat → Fn) (cs : List Int) (a b c d m x : Int) (y z : Option Sl), ev Φ Ψ nx (dE (hdT cs a b c d) m (some ⟨.int x, .sh⟩) y z) = .ok (.v (.int (f c x)) false, dE (hdT cs a b c d) m (some ⟨.int x, .sh⟩) y z)) (hf : ∀ c x, 0 ≤ f c x)
    {t : T} (h : Hd t) {m : Int} (hm : 0 < m) (hmb : m < 1073741824) : ∃ d t', fnS W D (n + 1) i [t, .int m] = .ok (.int d, false, some t') ∧ 0 ≤ d ∧ d < m ∧ Hd t' := by
  obtain ⟨cs, a, b, c, d, rfl, ha, hb, hc, hd, hcs⟩ := h
  obtain ⟨a, b, c, x, s0, ha, hb, hc⟩ := draw0 (Φ := fnS W D n) (Ψ := fun _ _ => .bad) (W := W) (hnx _ _) hf (m := m) (d := d) ha hb hc hcs
  have c1 : ev (fnS W D n) (fun _ _ => .bad) (.prim .gt [hI 2, .cst (.int 0)]) (dE (hdT cs a b c d) m x none none) = .ok (.v (.bl (decide (0 < b))) false, dE (hdT cs a b c d) m x none none) := rfl
  by_cases hb1 : 0 < b
  · rw [decide_eq_true hb1] at c1
    refine ⟨b % m, hdT cs a (b / m) c d, ?_, Int.emod_nonneg _ (by omega), Int.emod_lt_of_pos _ hm, cs, a, b / m, c, d, rfl, ha, Int.ediv_nonneg hb (by omega), hc, hd, hcs⟩
    refine fn_ret hD rfl (env := dE (hdT cs a (b / m) c d) m x none none) ((exs_cons s0).trans (exs_ret ((ex_if c1).trans ?_))) rfl
    rw [if_pos rfl]
    have e1 : ev (fnS W D n) (fun _ _ => .bad) (.prim .mod [.prim .int [hI 2], .peek 1]) (dE (hdT cs a b c d) m x none none) = .ok (.v (.int (b % m)) false, dE (hdT cs a b c d) m x none none) :=
      ev_p2 (x := .int b) (y := .int m) (t := .int (b % m)) rfl rfl rfl rfl (mod_ok hm)
    have e2 : ev (fnS W D n) (fun _ _ => .bad) (.prim .fdiv [hI 2, .peek 1]) (dE (hdT cs a b c d) m x (some ⟨.int (b % m), .sh⟩) none) = .ok (.v (.int (b / m)) false, dE (hdT cs a b c d) m x (some ⟨.int (b % m), .sh⟩) none) :=
      ev_p2 (x := .int b) (y := .int m) (t := .int (b / m)) rfl rfl rfl rfl (fdiv_ok hm hmb)
    have e3 : exec (fnS W D n) (fun _ _ => .bad) W (.setIx 0 (.cst (.int 2)) (.prim .fdiv [hI 2, .peek 1])) (dE (hdT cs a b c d) m x (some ⟨.int (b % m), .sh⟩) none) = .ok (.nx, dE (hdT cs a (b / m) c d) m x (some ⟨.int (b % m), .sh⟩) none) := by
      rw [exec, e2]; rfl
    exact (exs_cons (ex_set e1 rfl)).trans ((exs_cons e3).trans (exs_ret rfl))
  · rw [decide_eq_false hb1] at c1
    have hb0 : b = 0 := by omega
    subst hb0
    -- the number
    let E0 := dE (hdT cs a 0 c (d + 1)) m x none none
    have s2 : exec (fnS W D n) (fun _ _ => .bad) W (.setIx 0 (.cst (.int 4)) (.prim .add [hI 4, .cst (.int 1)])) (dE (hdT cs a 0 c d) m x none none) = .ok (.nx, dE (hdT cs a 0 c (d + 1)) m x none none) := rfl
    have e3 : ev (fnS W D n) (fun _ _ => .bad) (.prim .mod [.prim .int [.prim .mul [.prim .int [.prim .add [hI 3, .prim .mul [.cst (.int m1), hI 4]]], .cst (.int 48271)]], .cst (.int 2147483647)]) E0 = .ok (.v (.int ((c + m1 * (d + 1)) * 48271 % 2147483647)) false, E0) := by
      refine mulmod (ev_int (ev_p2 (p := .add) (x := .int c) (y := .int (m1 * (d + 1))) (t := .int (c + m1 * (d + 1))) rfl (ev_p2 (p := .mul) (x := .int m1) (y := .int (d + 1)) (t := .int (m1 * (d + 1))) (o := .v (.int m1) false) (by rw [ev]) rfl rfl rfl (mul_l hm1)) rfl rfl rfl)) (o2 := .v (.int 48271) false) (by rw [ev]) rfl rfl (mul_r (small_of (by decide) (by decide))) (by decide)
    obtain ⟨y1, hy1⟩ : ∃ y, y = (c + m1 * (d + 1)) * 48271 % 2147483647 := ⟨_, rfl⟩
    rw [← hy1] at e3
    have y1a : 0 ≤ y1 := by rw [hy1]; exact Int.emod_nonneg _ (by decide)
    have y1b : y1 < 2147483647 := by rw [hy1]; exact Int.emod_lt_of_pos _ (by decide)
    let E1 := dE (hdT cs a 0 c (d + 1)) m x none (some ⟨.int y1, .sh⟩)
    have e4 : ev (fnS W D n) (fun _ _ => .bad) (.prim .mod [.prim .int [.prim .mul [.peek 4, .prim .add [.prim .fdiv [.peek 4, .cst (.int m2)], .cst (.int 69621)]]], .cst (.int 2147483647)]) E1 = .ok (.v (.int (y1 * (y1 / m2 + 69621) % 2147483647)) false, E1) := by
      refine mulmod (o1 := .s 4) rfl (ev_p2 (p := .add) (x := .int (y1 / m2)) (y := .int 69621) (t := .int (y1 / m2 + 69621)) (ev_p2 (p := .fdiv) (x := .int y1) (y := .int m2) (t := .int (y1 / m2)) (o := .s 4) rfl (u := .v (.int m2) false) (by rw [ev]) rfl rfl (fdiv_ok hm2.1 hm2.2)) (u := .v (.int 69621) false) (by rw [ev]) rfl rfl rfl) rfl rfl (mul_l (small_of (by omega) (by omega))) (by decide)
    obtain ⟨y2, hy2⟩ : ∃ y, y = y1 * (y1 / m2 + 69621) % 2147483647 := ⟨_, rfl⟩
    rw [← hy2] at e4
    have y2a : 0 ≤ y2 := by rw [hy2]; exact Int.emod_nonneg _ (by decide)
    have y2b : y2 < 2147483647 := by rw [hy2]; exact Int.emod_lt_of_pos _ (by decide)
    let E2 := dE (hdT cs a 0 c (d + 1)) m x none (some ⟨.int y2, .sh⟩)
    have e5 : ev (fnS W D n) (fun _ _ => .bad) (.prim .mod [.prim .int [.prim .mul [.peek 4, .prim .add [.prim .fdiv [.peek 4, .cst (.int m3)], .cst (.int m4)]]], .cst (.int m5)]) E2 = .ok (.v (.int (y2 * (y2 / m3 + m4) % m5)) false, E2) := by
      refine mulmod (o1 := .s 4) rfl (ev_p2 (p := .add) (x := .int (y2 / m3)) (y := .int m4) (t := .int (y2 / m3 + m4)) (ev_p2 (p := .fdiv) (x := .int y2) (y := .int m3) (t := .int (y2 / m3)) (o := .s 4) rfl (u := .v (.int m3) false) (by rw [ev]) rfl rfl (fdiv_ok hm3.1 hm3.2)) (u := .v (.int m4) false) (by rw [ev]) rfl rfl rfl) rfl rfl (mul_l (small_of (by omega) (by omega))) hm5
    obtain ⟨y3, hy3⟩ : ∃ y, y = y2 * (y2 / m3 + m4) % m5 := ⟨_, rfl⟩
    rw [← hy3] at e5
    let E3 := dE (hdT cs a 0 c (d + 1)) m x none (some ⟨.int y3, .sh⟩)
    have e6 : ev (fnS W D n) (fun _ _ => .bad) (.prim .mod [.prim .int [.prim .fdiv [.peek 4, .cst (.int 16)]], .peek 1]) E3 = .ok (.v (.int (y3 / 16 % m)) false, E3) :=
      ev_p2 (x := .int (y3 / 16)) (y := .int m) (t := .int (y3 / 16 % m)) (ev_int (ev_p2 (p := .fdiv) (x := .int y3) (y := .int 16) (t := .int (y3 / 16)) (o := .s 4) rfl (u := .v (.int 16) false) (by rw [ev]) rfl rfl (fdiv_ok (i := y3) (j := 16) (by decide) (by decide)))) rfl rfl rfl (mod_ok hm)
    refine ⟨y3 / 16 % m, hdT cs a 0 c (d + 1), ?_, Int.emod_nonneg _ (by omega), Int.emod_lt_of_pos _ hm, cs, a, 0, c, d + 1, rfl, ha, by omega, hc, by omega, hcs⟩
    refine fn_ret hD rfl (env := E3) ((exs_cons s0).trans ((exs_cons ((ex_if c1).trans rfl)).trans ((exs_cons s2).trans ((exs_cons (ex_set e3 rfl)).trans ((exs_cons (ex_set e4 rfl)).trans ((exs_cons (ex_set e5 rfl)).trans (exs_ret (ex_ret e6)))))))) rfl
end DD
/-! DLaw: calls, picks, the loop of a law's cases. -/
namespace DD
variable [Mode]
open PySem
section
variable {Φ Ψ : Nat → Fn} {W : Nat}
theorem ev_call {f : Nat} {es : List E} {env e1 e2 : En} {os : List OV} {ts : List T} {t : T} {fr : Bool} {out : Option T} (h1 : evs Φ Ψ es env = .ok (os, e1)) (h2 : vals e1 os = some ts) (h3 : argsOk es os = true) (h4 : Φ f ts = .ok (t, fr, out)) (h5 : putIo (ioO os) out e1 = .ok e2) :
    ev Φ Ψ (.call f es) env = .ok (.v t fr, e2) := by
  rw [ev, h1]
  simp only [R.bind, R.opt, h2, h3, if_true, h4, h5]
theorem evs_cons {e : E} {es : List E} {env e1 e2 : En} {o : OV} {os : List OV} (h1 : ev Φ Ψ e env = .ok (o, e1)) (h2 : evs Φ Ψ es e1 = .ok (os, e2)) : evs Φ Ψ (e :: es) env = .ok (o :: os, e2) := by
  simp only [evs, h1, R.bind, h2]
end
def dSome (f : Nat) : Df := ⟨2, (some 0), 2, [.ret (.prim .ix [.peek 1, .call f [.io 0, .prim .len [.peek 1]]])]⟩
/-- a draw below m keeps the hand -/
def DrawOk (Φ : Nat → Fn) (f : Nat) : Prop := ∀ t, Hd t → ∀ m : Int, 0 < m → m < 1073741824 → ∃ d t', Φ f [t, .int m] = .ok (.int d, false, some t') ∧ 0 ≤ d ∧ d < m ∧ Hd t'
theorem some_ok {W : Nat} {D : Nat → Option Df} {n i f : Nat} (hD : D i = some (dSome f)) (hf : DrawOk (fnS W D n) f) {t : T} (h : Hd t) {L : List T} (h0 : L ≠ []) (hl : L.length < 1073741824) : ∃ x t', fnS W D (n + 1) i [t, .lst L] = .ok (x, false, some t') ∧ x ∈ L ∧ Hd t' := by
  have hp : 0 < L.length := List.length_pos_iff.mpr h0
  obtain ⟨d, t', h1, h2, h3, h4⟩ := hf t h (L.length : Int) (by omega) (by omega)
  have hx : ixAt L d = some (L[d.toNat]'(by omega)) := by
    unfold ixAt
    rw [if_pos h2, List.getElem?_eq_getElem]
  refine ⟨_, t', fn_ret hD rfl (env := [some ⟨t', .io⟩, some ⟨.lst L, .sh⟩]) (exs_ret (ex_ret (ev_p2 (p := .ix) (a := .peek 1) (o := .s 1) (x := .lst L) (y := .int d) rfl (ev_call (os := [.s 0, .v (.int (L.length : Int)) false]) (ts := [t, .int (L.length : Int)]) rfl rfl rfl h1 rfl) rfl rfl hx))) rfl, List.getElem_mem _, h4⟩
/-- cases that all hold, one behind another -/
theorem loop_cases {Φ Ψ : Nat → Fn} {f : Nat} {P : T → Prop} (hf : ∀ t, P t → ∃ t', Φ f [t] = .ok (.bl true, false, some t') ∧ P t') (e0 e2 : Option Sl) : ∀ (xs acc : List T) (t : T) (z : Option Sl), P t → acc.length + xs.length ≤ line →
    ∃ t' z', loopC (fun e => ev Φ Ψ (.call f [.io 1]) e) (fun e => evc Φ Ψ none e) (.s 3) [3] xs acc [e0, some ⟨t, .own⟩, e2, z] = .ok (acc ++ List.replicate xs.length (.bl true), [e0, some ⟨t', .own⟩, e2, z'])
  | [], acc, t, z, hp, hl => ⟨t, z, by simp [loopC]⟩
  | x :: xs, acc, t, z, hp, hl => by
    simp only [List.length_cons] at hl
    obtain ⟨t1, h1, h2⟩ := hf t hp
    obtain ⟨t', z', hz⟩ := loop_cases hf e0 e2 xs (acc ++ [.bl true]) t1 (some ⟨x, .sh⟩) h2 (by simp; omega)
    refine ⟨t', z', ?_⟩
    rw [loopC_step (e1 := [e0, some ⟨t, .own⟩, e2, some ⟨x, .sh⟩]) (e2 := [e0, some ⟨t, .own⟩, e2, some ⟨x, .sh⟩]) (e3 := [e0, some ⟨t1, .own⟩, e2, some ⟨x, .sh⟩]) (t := .bl true) (fr := false) rfl (by rw [evc]) (ev_call (os := [.s 1]) (ts := [t]) rfl rfl rfl h1 rfl) (by omega), hz]
    simp [List.replicate_succ]
end DD
/-! DFast: the same language run with continuations, for the kernel; what it finds the evaluator finds. -/
noncomputable section
namespace FE
variable [DD.Mode]
open PySem DD
abbrev Ans := Option T
abbrev K := T → Bool → En → Ans
abbrev C := En → K → Ans
abbrev KE := En → Ans
abbrev SC := En → KE → K → KE → KE → Ans
abbrev FnC := List T → (T → Bool → Option T → Ans) → Ans

def cInt (t : T) (k : Int → Ans) (d : Ans) : Ans := T.rec (motive_1 := fun _ => Ans) (motive_2 := fun _ => Ans) (motive_3 := fun _ => Ans) (motive_4 := fun _ => Ans) (motive_5 := fun _ => Ans) (motive_6 := fun _ => Ans) d (fun _ => d) (fun i => k i) (fun _ => d) (fun _ _ => d) (fun _ _ => d) (fun _ _ => d) (fun _ _ _ => d) (fun _ => d) d (fun _ _ _ _ => d) d (fun _ _ _ _ => d) d (fun _ _ _ _ => d) (fun _ _ _ _ => d) (fun _ _ _ => d) t
theorem cInt_eq (t : T) (k : Int → Ans) (d : Ans) : cInt t k d = match t with | .int x => k x | _ => d := by cases t <;> rfl
def cBl (t : T) (k : Bool → Ans) (d : Ans) : Ans := T.rec (motive_1 := fun _ => Ans) (motive_2 := fun _ => Ans) (motive_3 := fun _ => Ans) (motive_4 := fun _ => Ans) (motive_5 := fun _ => Ans) (motive_6 := fun _ => Ans) d (fun b => k b) (fun _ => d) (fun _ => d) (fun _ _ => d) (fun _ _ => d) (fun _ _ => d) (fun _ _ _ => d) (fun _ => d) d (fun _ _ _ _ => d) d (fun _ _ _ _ => d) d (fun _ _ _ _ => d) (fun _ _ _ _ => d) (fun _ _ _ => d) t
theorem cBl_eq (t : T) (k : Bool → Ans) (d : Ans) : cBl t k d = match t with | .bl x => k x | _ => d := by cases t <;> rfl
def cTup (t : T) (k : List T → Ans) (d : Ans) : Ans := T.rec (motive_1 := fun _ => Ans) (motive_2 := fun _ => Ans) (motive_3 := fun _ => Ans) (motive_4 := fun _ => Ans) (motive_5 := fun _ => Ans) (motive_6 := fun _ => Ans) d (fun _ => d) (fun _ => d) (fun _ => d) (fun xs _ => k xs) (fun _ _ => d) (fun _ _ => d) (fun _ _ _ => d) (fun _ => d) d (fun _ _ _ _ => d) d (fun _ _ _ _ => d) d (fun _ _ _ _ => d) (fun _ _ _ _ => d) (fun _ _ _ => d) t
theorem cTup_eq (t : T) (k : List T → Ans) (d : Ans) : cTup t k d = match t with | .tup x => k x | _ => d := by cases t <;> rfl
def cLst (t : T) (k : List T → Ans) (d : Ans) : Ans := T.rec (motive_1 := fun _ => Ans) (motive_2 := fun _ => Ans) (motive_3 := fun _ => Ans) (motive_4 := fun _ => Ans) (motive_5 := fun _ => Ans) (motive_6 := fun _ => Ans) d (fun _ => d) (fun _ => d) (fun _ => d) (fun _ _ => d) (fun xs _ => k xs) (fun _ _ => d) (fun _ _ _ => d) (fun _ => d) d (fun _ _ _ _ => d) d (fun _ _ _ _ => d) d (fun _ _ _ _ => d) (fun _ _ _ _ => d) (fun _ _ _ => d) t
theorem cLst_eq (t : T) (k : List T → Ans) (d : Ans) : cLst t k d = match t with | .lst x => k x | _ => d := by cases t <;> rfl
def cSeq (t : T) (k : List T → Ans) (d : Ans) : Ans := T.rec (motive_1 := fun _ => Ans) (motive_2 := fun _ => Ans) (motive_3 := fun _ => Ans) (motive_4 := fun _ => Ans) (motive_5 := fun _ => Ans) (motive_6 := fun _ => Ans) d (fun _ => d) (fun _ => d) (fun _ => d) (fun xs _ => k xs) (fun xs _ => k xs) (fun _ _ => d) (fun _ _ _ => d) (fun _ => d) d (fun _ _ _ _ => d) d (fun _ _ _ _ => d) d (fun _ _ _ _ => d) (fun _ _ _ _ => d) (fun _ _ _ => d) t
theorem cSeq_eq (t : T) (k : List T → Ans) (d : Ans) : cSeq t k d = match t with | .tup x => k x | .lst x => k x | _ => d := by cases t <;> rfl
def cDct (t : T) (k : List (T × T) → Ans) (d : Ans) : Ans := T.rec (motive_1 := fun _ => Ans) (motive_2 := fun _ => Ans) (motive_3 := fun _ => Ans) (motive_4 := fun _ => Ans) (motive_5 := fun _ => Ans) (motive_6 := fun _ => Ans) d (fun _ => d) (fun _ => d) (fun _ => d) (fun _ _ => d) (fun _ _ => d) (fun xs _ => k xs) (fun _ _ _ => d) (fun _ => d) d (fun _ _ _ _ => d) d (fun _ _ _ _ => d) d (fun _ _ _ _ => d) (fun _ _ _ _ => d) (fun _ _ _ => d) t
theorem cDct_eq (t : T) (k : List (T × T) → Ans) (d : Ans) : cDct t k d = match t with | .dct x => k x | _ => d := by cases t <;> rfl
def cStr (t : T) (k : Str → Ans) (d : Ans) : Ans := T.rec (motive_1 := fun _ => Ans) (motive_2 := fun _ => Ans) (motive_3 := fun _ => Ans) (motive_4 := fun _ => Ans) (motive_5 := fun _ => Ans) (motive_6 := fun _ => Ans) d (fun _ => d) (fun _ => d) (fun x => k x) (fun _ _ => d) (fun _ _ => d) (fun _ _ => d) (fun _ _ _ => d) (fun _ => d) d (fun _ _ _ _ => d) d (fun _ _ _ _ => d) d (fun _ _ _ _ => d) (fun _ _ _ _ => d) (fun _ _ _ => d) t
theorem cStr_eq (t : T) (k : Str → Ans) (d : Ans) : cStr t k d = match t with | .str x => k x | _ => d := by cases t <;> rfl

def bIf (b : Bool) (x y : Ans) : Ans := Bool.rec y x b
theorem bIf_eq (b : Bool) (x y : Ans) : bIf b x y = if b then x else y := by cases b <;> rfl
/-! ### lists -/
def llen (xs : List T) : Nat → Nat := List.rec (fun n => n) (fun _ _ ih n => ih (Nat.succ n)) xs
theorem llen_eq : ∀ (xs : List T) (n : Nat), llen xs n = n + xs.length
  | [], n => rfl
  | x :: xs, n => by
    have h := llen_eq xs (n + 1)
    show llen xs (n + 1) = _
    rw [h, List.length_cons]; omega
def lapp (xs ys : List T) : List T := List.rec ys (fun x _ ih => x :: ih) xs
theorem lapp_eq : ∀ xs ys : List T, lapp xs ys = xs ++ ys
  | [], ys => rfl
  | x :: xs, ys => by
    have h := lapp_eq xs ys
    show x :: lapp xs ys = _
    rw [h]; rfl
def lrev (xs : List T) : List T → List T := List.rec (fun acc => acc) (fun x _ ih acc => ih (x :: acc)) xs
theorem lrev_eq : ∀ xs acc : List T, lrev xs acc = xs.reverse ++ acc
  | [], acc => rfl
  | x :: xs, acc => by
    have h := lrev_eq xs (x :: acc)
    show lrev xs (x :: acc) = _
    rw [h]; simp
def linit (xs : List T) : List T := List.rec (motive := fun _ => List T) [] (fun x r ih => List.rec (motive := fun _ => List T) [] (fun _ _ _ => x :: ih) r) xs
theorem linit_eq : ∀ xs : List T, linit xs = xs.dropLast
  | [] => rfl
  | [x] => rfl
  | x :: y :: xs => by
    have h := linit_eq (y :: xs)
    show x :: linit (y :: xs) = _
    rw [h]; rfl
def lsnoc (xs : List T) (y : T) : List T := List.rec [y] (fun x _ ih => x :: ih) xs
theorem lsnoc_eq : ∀ (xs : List T) (y : T), lsnoc xs y = xs ++ [y]
  | [], y => rfl
  | x :: xs, y => by
    have h := lsnoc_eq xs y
    show x :: lsnoc xs y = _
    rw [h]; rfl
def lget (xs : List T) (k : T → Ans) : Nat → Ans := List.rec (fun _ => none) (fun x _ ih n => Nat.rec (k x) (fun m _ => ih m) n) xs
theorem lget_eq (k : T → Ans) : ∀ (xs : List T) (n : Nat), lget xs k n = (xs[n]?).bind k
  | [], n => rfl
  | x :: xs, 0 => rfl
  | x :: xs, n + 1 => lget_eq k xs n
def lset (xs : List T) (y : T) (k : List T → Ans) : Nat → Ans := List.rec (motive := fun _ => (List T → Ans) → Nat → Ans) (fun _ _ => none) (fun x r ih k n => Nat.rec (k (y :: r)) (fun m _ => ih (fun zs => k (x :: zs)) m) n) xs k
theorem lset_eq (y : T) : ∀ (xs : List T) (k : List T → Ans) (n : Nat), lset xs y k n = if n < xs.length then k (xs.set n y) else none
  | [], k, n => rfl
  | x :: xs, k, 0 => rfl
  | x :: xs, k, n + 1 => by
    have h := lset_eq y xs (fun zs => k (x :: zs)) n
    show lset xs y (fun zs => k (x :: zs)) n = _
    rw [h]
    by_cases q : n < xs.length
    · rw [if_pos q, if_pos (by simpa using q)]; rfl
    · rw [if_neg q, if_neg (by simpa using q)]
/-! ### slots -/
def gs (env : En) : Nat → Option Sl := List.rec (fun _ => none) (fun o _ ih n => Nat.rec o (fun m _ => ih m) n) env
theorem gs_eq : ∀ (env : En) (i : Nat), gs env i = getS env i
  | [], i => rfl
  | o :: env, 0 => rfl
  | o :: env, i + 1 => gs_eq env i
def ss (env : En) : Nat → Option Sl → En := List.rec (fun _ _ => []) (fun o es ih n v => Nat.rec (v :: es) (fun m _ => o :: ih m v) n) env
theorem ss_eq : ∀ (env : En) (i : Nat) (v : Option Sl), ss env i v = env.set i v
  | [], i, v => rfl
  | o :: env, 0, v => rfl
  | o :: env, i + 1, v => by
    have h := ss_eq env i v
    show o :: ss env i v = _
    rw [h]; rfl
def oSl (o : Option Sl) (k : T → Md → Ans) : Ans := Option.rec none (fun s => Sl.rec k s) o
theorem oSl_eq (o : Option Sl) (k : T → Md → Ans) : oSl o k = match o with | some s => k s.t s.m | none => none := by
  cases o with
  | none => rfl
  | some s => rfl
def ioG (o : Option Sl) (x : Ans) : Ans := Option.rec x (fun s => Sl.rec (fun _ m => Md.rec x x none m) s) o
def setK (env : En) : Nat → Option Sl → (En → Ans) → Ans := List.rec (fun _ _ _ => none) (fun o es ih n v k => Nat.rec (ioG o (k (v :: es))) (fun m _ => ih m v fun es' => k (o :: es')) n) env
theorem setK_eq : ∀ (env : En) (i : Nat) (v : Option Sl) (k : En → Ans), setK env i v k = match env[i]? with
    | some (some ⟨_, .io⟩) => none
    | some _ => k (env.set i v)
    | none => none
  | [], i, v, k => rfl
  | o :: env, 0, v, k => by
    cases o with
    | none => rfl
    | some s => obtain ⟨t, m⟩ := s; cases m <;> rfl
  | o :: env, i + 1, v, k => setK_eq env i v fun es' => k (o :: es')
theorem setK_inv {env : En} {i : Nat} {t : T} {fr : Bool} {k : En → Ans} {r : T} (h : setK env i (some ⟨t, if fr then .own else .sh⟩) k = some r) : ∃ e, setS env i t fr = .ok e ∧ k e = some r := by
  rw [setK_eq] at h
  unfold setS
  generalize env[i]? = o at h ⊢
  cases o with
  | none => cases h
  | some o =>
    cases o with
    | none => exact ⟨_, rfl, h⟩
    | some s =>
      obtain ⟨u, m⟩ := s
      cases m with
      | io => cases h
      | own => exact ⟨_, rfl, h⟩
      | sh => exact ⟨_, rfl, h⟩
/-! ### ints -/
def iadd (i j : Int) : Int := Int.rec (fun m => Int.rec (fun n => Int.ofNat (Nat.add m n)) (fun n => Int.subNatNat m (Nat.succ n)) j) (fun m => Int.rec (fun n => Int.subNatNat n (Nat.succ m)) (fun n => Int.negSucc (Nat.succ (Nat.add m n))) j) i
theorem iadd_eq (i j : Int) : iadd i j = i + j := by cases i <;> cases j <;> rfl
def isub (i j : Int) : Int := Int.rec (fun m => Int.rec (fun n => Bool.rec (Int.negSucc (Nat.sub (Nat.sub n m) 1)) (Int.ofNat (Nat.sub m n)) (Nat.ble n m)) (fun n => Int.ofNat (Nat.add m (Nat.succ n))) j) (fun m => Int.rec (fun n => Int.negSucc (Nat.add m n)) (fun n => Int.subNatNat (Nat.succ n) (Nat.succ m)) j) i
theorem isub_eq (i j : Int) : isub i j = i - j := by
  cases i with
  | ofNat m =>
    cases j with
    | ofNat n =>
      show (Bool.rec (Int.negSucc (n - m - 1)) (Int.ofNat (m - n)) (Nat.ble n m) : Int) = _
      cases h : Nat.ble n m with
      | true =>
        have := Nat.le_of_ble_eq_true h
        show ((m - n : Nat) : Int) = (m : Int) - (n : Int)
        omega
      | false =>
        have : ¬ n ≤ m := fun q => by rw [Nat.ble_eq_true_of_le q] at h; cases h
        show Int.negSucc (n - m - 1) = (m : Int) - (n : Int)
        rw [Int.negSucc_eq]; omega
    | negSucc n =>
      show ((m + (n + 1) : Nat) : Int) = (m : Int) - Int.negSucc n
      rw [Int.negSucc_eq]; omega
  | negSucc m =>
    cases j with
    | ofNat n =>
      show Int.negSucc (m + n) = Int.negSucc m - (n : Int)
      rw [Int.negSucc_eq, Int.negSucc_eq]; omega
    | negSucc n =>
      show Int.subNatNat (n + 1) (m + 1) = Int.negSucc m - Int.negSucc n
      rw [Int.subNatNat_eq_coe, Int.negSucc_eq, Int.negSucc_eq]; omega
def imul (i j : Int) : Int := Int.rec (fun m => Int.rec (fun n => Int.ofNat (Nat.mul m n)) (fun n => Int.negOfNat (Nat.mul m (Nat.succ n))) j) (fun m => Int.rec (fun n => Int.negOfNat (Nat.mul (Nat.succ m) n)) (fun n => Int.ofNat (Nat.mul (Nat.succ m) (Nat.succ n))) j) i
theorem imul_eq (i j : Int) : imul i j = i * j := by cases i <;> cases j <;> rfl
def ieq (i j : Int) : Bool := Int.rec (fun m => Int.rec (fun n => Nat.beq m n) (fun _ => false) j) (fun m => Int.rec (fun _ => false) (fun n => Nat.beq m n) j) i
theorem ieq_eq (i j : Int) : ieq i j = decide (i = j) := by
  cases i with
  | ofNat m =>
    cases j with
    | ofNat n =>
      show Nat.beq m n = _
      cases h : Nat.beq m n with
      | true => have := Nat.eq_of_beq_eq_true h; subst this; simp
      | false => have := Nat.ne_of_beq_eq_false h; symm; rw [decide_eq_false_iff_not]; intro e; exact this (Int.ofNat.inj e)
    | negSucc n => symm; show decide (_ = _) = false; rw [decide_eq_false_iff_not]; exact fun e => nomatch e
  | negSucc m =>
    cases j with
    | ofNat n => symm; show decide (_ = _) = false; rw [decide_eq_false_iff_not]; exact fun e => nomatch e
    | negSucc n =>
      show Nat.beq m n = _
      cases h : Nat.beq m n with
      | true => have := Nat.eq_of_beq_eq_true h; subst this; simp
      | false => have := Nat.ne_of_beq_eq_false h; symm; rw [decide_eq_false_iff_not]; intro e; exact this (Int.negSucc.inj e)
def ile (i j : Int) : Bool := Int.rec (fun m => Int.rec (fun n => Nat.ble m n) (fun _ => false) j) (fun m => Int.rec (fun _ => true) (fun n => Nat.ble n m) j) i
theorem ble_dec (m n : Nat) : Nat.ble m n = decide (m ≤ n) := by
  cases h : Nat.ble m n with
  | true => rw [decide_eq_true (Nat.le_of_ble_eq_true h)]
  | false => symm; rw [decide_eq_false_iff_not]; intro q; rw [Nat.ble_eq_true_of_le q] at h; cases h
theorem ile_eq (i j : Int) : ile i j = decide (i ≤ j) := by
  cases i with
  | ofNat m =>
    cases j with
    | ofNat n => show Nat.ble m n = _; rw [ble_dec]; congr 1; exact propext ⟨fun h => Int.ofNat_le.mpr h, fun h => Int.ofNat_le.mp h⟩
    | negSucc n => symm; show decide (_ ≤ _) = false; rw [decide_eq_false_iff_not]; intro h; have : (m : Int) ≤ Int.negSucc n := h; rw [Int.negSucc_eq] at this; omega
  | negSucc m =>
    cases j with
    | ofNat n => symm; show decide (_ ≤ _) = true; rw [decide_eq_true_iff]; show Int.negSucc m ≤ (n : Int); rw [Int.negSucc_eq]; omega
    | negSucc n => show Nat.ble n m = _; rw [ble_dec]; congr 1; rw [Int.negSucc_eq, Int.negSucc_eq]; exact propext ⟨fun h => by omega, fun h => by omega⟩
def ilt (i j : Int) : Bool := Bool.rec true false (ile j i)
theorem ilt_eq (i j : Int) : ilt i j = decide (i < j) := by
  unfold ilt
  rw [ile_eq]
  by_cases h : j ≤ i
  · rw [decide_eq_true h, decide_eq_false (by omega)]
  · rw [decide_eq_false h, decide_eq_true (by omega)]
/-! ### operations -/
abbrev F1 := T → (T → Bool → Ans) → Ans
abbrev F2 := T → T → (T → Bool → Ans) → Ans
def SndP1 (p : Prim) (f : F1) : Prop := ∀ a k r, f a k = some r → ∃ t, p.sem [a] = some t ∧ k t (p.makes && isCell t) = some r
def SndP2 (p : Prim) (f : F2) : Prop := ∀ a b k r, f a b k = some r → ∃ t, p.sem [a, b] = some t ∧ k t (p.makes && isCell t) = some r
def gen1 (p : Prim) : F1 := fun a k => Option.rec none (fun t => k t (p.makes && isCell t)) (p.sem [a])
def gen2 (p : Prim) : F2 := fun a b k => Option.rec none (fun t => k t (p.makes && isCell t)) (p.sem [a, b])
theorem gen1_ok (p : Prim) : SndP1 p (gen1 p) := fun a k r h => by
  unfold gen1 at h
  cases e : p.sem [a] with
  | none => rw [e] at h; cases h
  | some t => rw [e] at h; exact ⟨t, rfl, h⟩
theorem gen2_ok (p : Prim) : SndP2 p (gen2 p) := fun a b k r h => by
  unfold gen2 at h
  cases e : p.sem [a, b] with
  | none => rw [e] at h; cases h
  | some t => rw [e] at h; exact ⟨t, rfl, h⟩
/-- two ints, or whatever else -/
def ints2 (f : Int → Int → (T → Bool → Ans) → Ans) (g : F2) : F2 := fun a b k => cInt a (fun i => cInt b (fun j => f i j k) (g a b k)) (g a b k)
theorem ints2_ok {p : Prim} {f : Int → Int → (T → Bool → Ans) → Ans} {g : F2} (hf : ∀ i j k r, f i j k = some r → ∃ t, p.sem [.int i, .int j] = some t ∧ k t (p.makes && isCell t) = some r) (hg : SndP2 p g) : SndP2 p (ints2 f g) := by
  intro a b k r h
  unfold ints2 at h
  rw [cInt_eq] at h
  split at h
  · rw [cInt_eq] at h
    split at h
    · exact hf _ _ _ _ h
    · exact hg _ _ _ _ h
  · exact hg _ _ _ _ h
def line_ := 16777216
def addS : F2 := fun a b k => cTup a (fun xs => cTup b (fun ys => bIf (Nat.ble (llen ys (llen xs 0)) 16777216) (k (.tup (lapp xs ys)) false) none) none) (cLst a (fun xs => cLst b (fun ys => bIf (Nat.ble (llen ys (llen xs 0)) 16777216) (k (.lst (lapp xs ys)) true) none) none) (gen2 .add a b k))
theorem noA {r : T} {P : Prop} (h : (none : Ans) = some r) : P := nomatch h
theorem addS_ok : SndP2 .add addS := by
  intro a b k r h
  cases a with
  | tup xs =>
    cases b with
    | tup ys =>
      replace h : bIf (Nat.ble (llen ys (llen xs 0)) 16777216) (k (.tup (lapp xs ys)) false) none = some r := h
      rw [bIf_eq] at h
      split at h
      · rename_i hl
        have hl := Nat.le_of_ble_eq_true hl
        rw [llen_eq, llen_eq] at hl
        refine ⟨.tup (xs ++ ys), ?_, by rw [lapp_eq] at h; exact h⟩
        show sAdd (.tup xs) (.tup ys) = _
        rw [sAdd, if_pos (show xs.length + ys.length ≤ line by unfold line; omega)]
      · cases h
    | _ => exact noA h
  | lst xs =>
    cases b with
    | lst ys =>
      replace h : bIf (Nat.ble (llen ys (llen xs 0)) 16777216) (k (.lst (lapp xs ys)) true) none = some r := h
      rw [bIf_eq] at h
      split at h
      · rename_i hl
        have hl := Nat.le_of_ble_eq_true hl
        rw [llen_eq, llen_eq] at hl
        refine ⟨.lst (xs ++ ys), ?_, by rw [lapp_eq] at h; exact h⟩
        show sAdd (.lst xs) (.lst ys) = _
        rw [sAdd, if_pos (show xs.length + ys.length ≤ line by unfold line; omega)]
      · cases h
    | _ => exact noA h
  | _ => exact gen2_ok _ _ _ _ _ h
def fAdd : F2 := ints2 (fun i j k => k (.int (iadd i j)) false) addS
theorem fAdd_ok : SndP2 .add fAdd := ints2_ok (fun i j k r h => ⟨.int (i + j), rfl, by rw [iadd_eq] at h; exact h⟩) addS_ok
def fSub : F2 := ints2 (fun i j k => k (.int (isub i j)) false) fun _ _ _ => none
theorem none_ok (p : Prim) : SndP2 p (fun _ _ _ => none) := fun _ _ _ _ h => nomatch h
theorem fSub_ok : SndP2 .sub fSub := ints2_ok (fun i j k r h => ⟨.int (i - j), rfl, by rw [isub_eq] at h; exact h⟩) (none_ok _)
def sm (i : Int) : Bool := Int.rec (fun n => Nat.ble n 18446744073709551615) (fun n => Nat.ble n 18446744073709551614) i
theorem sm_ok {i : Int} (h : sm i = true) : small64 i = true := by
  cases i with
  | ofNat n =>
    have h : Nat.ble n 18446744073709551615 = true := h
    have h := Nat.le_of_ble_eq_true h
    unfold small64
    rw [Bool.and_eq_true, decide_eq_true_eq, decide_eq_true_eq]
    show -(2 ^ 64) < (n : Int) ∧ (n : Int) < 2 ^ 64
    omega
  | negSucc n =>
    have h : Nat.ble n 18446744073709551614 = true := h
    have h := Nat.le_of_ble_eq_true h
    unfold small64
    rw [Bool.and_eq_true, decide_eq_true_eq, decide_eq_true_eq, Int.negSucc_eq]
    omega
def fMul : F2 := ints2 (fun i j k => bIf (sm j) (k (.int (imul i j)) false) (bIf (sm i) (k (.int (imul i j)) false) none)) (gen2 .mul)
theorem fMul_ok : SndP2 .mul fMul := ints2_ok (fun i j k r h => by
  have key : mulOk i j = true → k (.int (imul i j)) false = some r → ∃ t, Prim.sem .mul [.int i, .int j] = some t ∧ k t (Prim.makes .mul && isCell t) = some r := fun hm h => by
    refine ⟨.int (i * j), ?_, by rw [imul_eq] at h; exact h⟩
    show sMul (.int i) (.int j) = _
    rw [sMul, if_pos hm]
  rw [bIf_eq] at h
  split at h
  · rename_i hj
    exact key (by unfold mulOk; rw [sm_ok hj, Bool.or_true]) h
  · rw [bIf_eq] at h
    split at h
    · rename_i hi
      exact key (by unfold mulOk; rw [sm_ok hi, Bool.true_or]) h
    · cases h) (gen2_ok _)
/-- division of numbers from 0 on -/
def fDiv : F2 := ints2 (fun i j k => Int.rec (fun m => Int.rec (fun n => bIf (Nat.ble 1 n) (bIf (Nat.ble n 115792089237316195423570985008687907853269984665640564039457584007913129639935) (k (.int (Int.ofNat (Nat.div m n))) false) none) none) (fun _ => none) j) (fun _ => gen2 .fdiv (.int i) (.int j) k) i) fun _ _ _ => none
theorem fDiv_ok : SndP2 .fdiv fDiv := ints2_ok (fun i j k r h => by
  cases i with
  | negSucc m => exact gen2_ok _ _ _ _ _ h
  | ofNat m =>
    cases j with
    | negSucc n => cases h
    | ofNat n =>
      replace h : bIf (Nat.ble 1 n) (bIf (Nat.ble n 115792089237316195423570985008687907853269984665640564039457584007913129639935) (k (.int (Int.ofNat (Nat.div m n))) false) none) none = some r := h
      rw [bIf_eq] at h
      split at h
      · rename_i h1
        rw [bIf_eq] at h
        split at h
        · rename_i h2
          have h1 := Nat.le_of_ble_eq_true h1
          have h2 := Nat.le_of_ble_eq_true h2
          refine ⟨.int (Int.ofNat (Nat.div m n)), ?_, h⟩
          show sFdiv (.int (Int.ofNat m)) (.int (Int.ofNat n)) = _
          have q : (0 : Int) < (n : Int) ∧ (n : Int) < 115792089237316195423570985008687907853269984665640564039457584007913129639936 := by omega
          exact if_pos q
        · cases h
      · cases h) (none_ok _)
def fMod : F2 := ints2 (fun i j k => Int.rec (fun m => Int.rec (fun n => bIf (Nat.ble 1 n) (k (.int (Int.ofNat (Nat.mod m n))) false) none) (fun _ => none) j) (fun _ => gen2 .mod (.int i) (.int j) k) i) fun _ _ _ => none
theorem fMod_ok : SndP2 .mod fMod := ints2_ok (fun i j k r h => by
  cases i with
  | negSucc m => exact gen2_ok _ _ _ _ _ h
  | ofNat m =>
    cases j with
    | negSucc n => cases h
    | ofNat n =>
      replace h : bIf (Nat.ble 1 n) (k (.int (Int.ofNat (Nat.mod m n))) false) none = some r := h
      rw [bIf_eq] at h
      split at h
      · rename_i h1
        have h1 := Nat.le_of_ble_eq_true h1
        refine ⟨.int (Int.ofNat (Nat.mod m n)), ?_, h⟩
        show sMod (.int (Int.ofNat m)) (.int (Int.ofNat n)) = _
        have q : (0 : Int) < (n : Int) := by omega
        exact if_pos q
      · cases h) (none_ok _)
def fCmp (c : Int → Int → Bool) : F2 := ints2 (fun i j k => k (.bl (c i j)) false) fun _ _ _ => none
def fLt : F2 := fCmp ilt
def fLe : F2 := fCmp ile
def fGt : F2 := fCmp fun i j => ilt j i
def fGe : F2 := fCmp fun i j => ile j i
theorem fLt_ok : SndP2 .lt fLt := ints2_ok (fun i j k r h => ⟨.bl (decide (i < j)), rfl, by rw [ilt_eq] at h; exact h⟩) (none_ok _)
theorem fLe_ok : SndP2 .le fLe := ints2_ok (fun i j k r h => ⟨.bl (decide (i ≤ j)), rfl, by rw [ile_eq] at h; exact h⟩) (none_ok _)
theorem fGt_ok : SndP2 .gt fGt := ints2_ok (fun i j k r h => ⟨.bl (decide (j < i)), rfl, by dsimp only at h; rw [ilt_eq] at h; exact h⟩) (none_ok _)
theorem fGe_ok : SndP2 .ge fGe := ints2_ok (fun i j k r h => ⟨.bl (decide (j ≤ i)), rfl, by dsimp only at h; rw [ile_eq] at h; exact h⟩) (none_ok _)


def fMin2 : F2 := ints2 (fun i j k => bIf (ilt j i) (k (.int j) false) (k (.int i) false)) fun _ _ _ => none
theorem fMin2_ok : SndP2 .min2 fMin2 := ints2_ok (fun i j k r h => by
  rw [bIf_eq, ilt_eq] at h
  refine ⟨.int (if j < i then j else i), rfl, ?_⟩
  by_cases q : j < i
  · rw [if_pos (decide_eq_true q)] at h; rw [if_pos q]; exact h
  · rw [decide_eq_false q, if_neg Bool.false_ne_true] at h; rw [if_neg q]; exact h) (none_ok _)
def fMax2 : F2 := ints2 (fun i j k => bIf (ilt i j) (k (.int j) false) (k (.int i) false)) fun _ _ _ => none
theorem fMax2_ok : SndP2 .max2 fMax2 := ints2_ok (fun i j k r h => by
  rw [bIf_eq, ilt_eq] at h
  refine ⟨.int (if j > i then j else i), rfl, ?_⟩
  by_cases q : i < j
  · rw [if_pos (decide_eq_true q)] at h; rw [if_pos (show j > i from q)]; exact h
  · rw [decide_eq_false q, if_neg Bool.false_ne_true] at h; rw [if_neg (show ¬ j > i from q)]; exact h) (none_ok _)
/-! ### == -/
def datL (f : T → Ans → Ans) (xs : List T) (k : Ans) : Ans := List.rec k (fun x _ ih => f x ih) xs
def datF (n : Nat) : T → Ans → Ans := Nat.rec (motive := fun _ => T → Ans → Ans) (fun t k => cInt t (fun _ => k) (bIf (T.dat 0 t) k none)) (fun m ih t k => cInt t (fun _ => k) (cSeq t (fun xs => datL ih xs k) (bIf (T.dat (m + 1) t) k none))) n
theorem datF_ok : ∀ (n : Nat) (t : T) (k : Ans) (r : T), datF n t k = some r → T.dat n t = true ∧ k = some r
  | 0, t, k, r, h => by
    have gen : ∀ t, bIf (T.dat 0 t) k none = some r → T.dat 0 t = true ∧ k = some r := fun t h => by
      rw [bIf_eq] at h
      split at h
      · exact ⟨by assumption, h⟩
      · cases h
    cases t with
    | int i => exact ⟨rfl, h⟩
    | _ => exact gen _ h
  | n + 1, t, k, r, h => by
    have gen : ∀ t, bIf (T.dat (n + 1) t) k none = some r → T.dat (n + 1) t = true ∧ k = some r := fun t h => by
      rw [bIf_eq] at h
      split at h
      · exact ⟨by assumption, h⟩
      · cases h
    have lst : ∀ (xs : List T), datL (datF n) xs k = some r → T.dats n xs = true ∧ k = some r := by
      intro xs
      induction xs with
      | nil => exact fun h => ⟨by rw [T.dats], h⟩
      | cons x xs ih =>
        intro h
        replace h : datF n x (datL (datF n) xs k) = some r := h
        obtain ⟨h1, h2⟩ := datF_ok n x _ r h
        obtain ⟨h3, h4⟩ := ih h2
        exact ⟨by rw [T.dats, h1, h3]; rfl, h4⟩
    cases t with
    | int i => exact ⟨rfl, h⟩
    | tup xs => obtain ⟨a, b⟩ := lst xs h; exact ⟨by rw [T.dat]; exact a, b⟩
    | lst xs => obtain ⟨a, b⟩ := lst xs h; exact ⟨by rw [T.dat]; exact a, b⟩
    | _ => exact gen _ h
def band (a b : Bool) : Bool := Bool.rec false b a
def bor (a b : Bool) : Bool := Bool.rec b true a
theorem band_eq (a b : Bool) : band a b = (a && b) := by cases a <;> rfl
theorem bor_eq (a b : Bool) : bor a b = (a || b) := by cases a <;> rfl
def eqL (f : T → T → (Bool → Ans) → Ans) (d : T → Ans → Ans) (xs : List T) : List T → (Bool → Ans) → Ans :=
  List.rec (motive := fun _ => List T → (Bool → Ans) → Ans) (fun ys k => List.rec (motive := fun _ => Ans) (k true) (fun y r _ => datL d (y :: r) (k false)) ys) (fun x r ih ys k => List.rec (motive := fun _ => Ans) (datL d (x :: r) (k false)) (fun y s _ => f x y fun b => ih s fun c => k (band b c)) ys) xs
def gEq (n : Nat) (a b : T) (k : Bool → Ans) : Ans := datF n a (datF n b (k (T.eqv a b)))
def eqF (n : Nat) : T → T → (Bool → Ans) → Ans := Nat.rec (motive := fun _ => T → T → (Bool → Ans) → Ans) (fun a b k => gEq 0 a b k)
  (fun m ih a b k => cInt a (fun i => cInt b (fun j => k (ieq i j)) (gEq (m + 1) a b k)) (cTup a (fun xs => cTup b (fun ys => eqL ih (datF m) xs ys k) (gEq (m + 1) a b k)) (cLst a (fun xs => cLst b (fun ys => eqL ih (datF m) xs ys k) (gEq (m + 1) a b k)) (gEq (m + 1) a b k)))) n
theorem gEq_ok {n : Nat} {a b : T} {k : Bool → Ans} {r : T} (h : gEq n a b k = some r) : T.dat n a = true ∧ T.dat n b = true ∧ k (T.eqv a b) = some r := by
  obtain ⟨h1, h2⟩ := datF_ok _ _ _ _ h
  obtain ⟨h3, h4⟩ := datF_ok _ _ _ _ h2
  exact ⟨h1, h3, h4⟩
theorem datL_ok {n : Nat} {k : Ans} {r : T} : ∀ {xs : List T}, datL (datF n) xs k = some r → T.dats n xs = true ∧ k = some r
  | [], h => ⟨by rw [T.dats], h⟩
  | x :: xs, h => by
    replace h : datF n x (datL (datF n) xs k) = some r := h
    obtain ⟨h1, h2⟩ := datF_ok n x _ r h
    obtain ⟨h3, h4⟩ := datL_ok h2
    exact ⟨by rw [T.dats, h1, h3]; rfl, h4⟩
theorem eqF_ok : ∀ (n : Nat) (a b : T) (k : Bool → Ans) (r : T), eqF n a b k = some r → T.dat n a = true ∧ T.dat n b = true ∧ k (T.eqv a b) = some r
  | 0, a, b, k, r, h => gEq_ok h
  | n + 1, a, b, k, r, h => by
    have lst : ∀ (xs ys : List T) (k : Bool → Ans), eqL (eqF n) (datF n) xs ys k = some r → T.dats n xs = true ∧ T.dats n ys = true ∧ k (PyData.eqvAll (T.toDs xs) (T.toDs ys)) = some r := by
      intro xs
      induction xs with
      | nil =>
        intro ys k h
        cases ys with
        | nil => exact ⟨by rw [T.dats], by rw [T.dats], by rw [T.toDs, PyData.eqvAll]; exact h⟩
        | cons y ys =>
          obtain ⟨h1, h2⟩ := datL_ok (show datL (datF n) (y :: ys) (k false) = some r from h)
          exact ⟨by rw [T.dats], h1, by rw [T.toDs, T.toDs, PyData.eqvAll]; exact h2⟩
      | cons x xs ih =>
        intro ys k h
        cases ys with
        | nil =>
          obtain ⟨h1, h2⟩ := datL_ok (show datL (datF n) (x :: xs) (k false) = some r from h)
          exact ⟨h1, by rw [T.dats], by rw [T.toDs, T.toDs, PyData.eqvAll]; exact h2⟩
        | cons y ys =>
          replace h : eqF n x y (fun b => eqL (eqF n) (datF n) xs ys fun c => k (band b c)) = some r := h
          obtain ⟨h1, h2, h3⟩ := eqF_ok n x y _ r h
          obtain ⟨h4, h5, h6⟩ := ih ys _ h3
          refine ⟨by rw [T.dats, h1, h4]; rfl, by rw [T.dats, h2, h5]; rfl, ?_⟩
          rw [band_eq] at h6
          rw [T.toDs, T.toDs, PyData.eqvAll]
          exact h6
    cases a with
    | int i =>
      cases b with
      | int j =>
        replace h : k (ieq i j) = some r := h
        rw [ieq_eq] at h
        refine ⟨rfl, rfl, ?_⟩
        show k (PyData.eqv (.int i) (.int j)) = some r
        rw [PyData.eqv]
        have e : (i == j) = decide (i = j) := by rw [Bool.beq_eq_decide_eq]
        rw [e]; exact h
      | _ => exact gEq_ok h
    | tup xs =>
      cases b with
      | tup ys =>
        obtain ⟨h1, h2, h3⟩ := lst xs ys k h
        refine ⟨by rw [T.dat]; exact h1, by rw [T.dat]; exact h2, ?_⟩
        show k (PyData.eqv (.tuple (T.toDs xs)) (.tuple (T.toDs ys))) = some r
        rw [PyData.eqv]; exact h3
      | _ => exact gEq_ok h
    | lst xs =>
      cases b with
      | lst ys =>
        obtain ⟨h1, h2, h3⟩ := lst xs ys k h
        refine ⟨by rw [T.dat]; exact h1, by rw [T.dat]; exact h2, ?_⟩
        show k (PyData.eqv (.list (T.toDs xs)) (.list (T.toDs ys))) = some r
        rw [PyData.eqv]; exact h3
      | _ => exact gEq_ok h
    | _ => exact gEq_ok h
def bnot (b : Bool) : Bool := Bool.rec true false b
theorem bnot_eq (b : Bool) : bnot b = !b := by cases b <;> rfl
def fEq : F2 := fun a b k => eqF 60 a b fun c => k (.bl c) false
def fNe : F2 := fun a b k => eqF 60 a b fun c => k (.bl (bnot c)) false
theorem fEq_ok : SndP2 .eq fEq := fun a b k r h => by
  obtain ⟨h1, h2, h3⟩ := eqF_ok 60 a b _ r h
  refine ⟨.bl (T.eqv a b), ?_, h3⟩
  show sEq a b = _
  rw [sEq, h1, h2]; rfl
theorem fNe_ok : SndP2 .ne fNe := fun a b k r h => by
  obtain ⟨h1, h2, h3⟩ := eqF_ok 60 a b _ r h
  rw [bnot_eq] at h3
  refine ⟨.bl (!T.eqv a b), ?_, h3⟩
  show sNe a b = _
  rw [sNe, h1, h2]; rfl
/-! ### in -/
def inL (x : T) (ys : List T) (acc : Bool) (k : Bool → Ans) : Ans := List.rec (motive := fun _ => Bool → Ans) (fun acc => datF 59 x (k acc)) (fun y _ ih acc => eqF 59 y x fun b => ih (bor acc b)) ys acc
theorem inL_ok {x : T} {k : Bool → Ans} {r : T} : ∀ {ys : List T} {acc : Bool}, inL x ys acc k = some r → T.dat 59 x = true ∧ T.dats 59 ys = true ∧ k (acc || ys.any fun y => T.eqv y x) = some r
  | [], acc, h => by
    obtain ⟨h1, h2⟩ := datF_ok _ _ _ _ (show datF 59 x (k acc) = some r from h)
    exact ⟨h1, by rw [T.dats], by rw [List.any_nil, Bool.or_false]; exact h2⟩
  | y :: ys, acc, h => by
    obtain ⟨h1, h2, h3⟩ := eqF_ok 59 y x _ r (show eqF 59 y x (fun b => inL x ys (bor acc b) k) = some r from h)
    obtain ⟨h4, h5, h6⟩ := inL_ok h3
    rw [bor_eq] at h6
    exact ⟨h4, by rw [T.dats, h1, h5]; rfl, by rw [List.any_cons, ← Bool.or_assoc]; exact h6⟩
/-- an int among ints -/
def inI (i : Int) (x : T) (ys : List T) (acc : Bool) (k : Bool → Ans) : Ans := List.rec (motive := fun _ => Bool → Ans) (fun acc => k acc) (fun y r ih acc => cInt y (fun j => ih (bor acc (ieq j i))) (inL x (y :: r) acc k)) ys acc
theorem inI_ok {i : Int} {k : Bool → Ans} {r : T} : ∀ {ys : List T} {acc : Bool}, inI i (.int i) ys acc k = some r → T.dats 59 ys = true ∧ k (acc || ys.any fun y => T.eqv y (.int i)) = some r
  | [], acc, h => ⟨by rw [T.dats], by rw [List.any_nil, Bool.or_false]; exact h⟩
  | y :: ys, acc, h => by
    replace h : cInt y (fun j => inI i (.int i) ys (bor acc (ieq j i)) k) (inL (.int i) (y :: ys) acc k) = some r := h
    have gen : ∀ y, inL (.int i) (y :: ys) acc k = some r → T.dats 59 (y :: ys) = true ∧ k (acc || (y :: ys).any fun y => T.eqv y (.int i)) = some r := fun y h => by
      obtain ⟨_, h2, h3⟩ := inL_ok h
      exact ⟨h2, h3⟩
    cases y with
    | int j =>
      obtain ⟨h1, h2⟩ := inI_ok (show inI i (.int i) ys (bor acc (ieq j i)) k = some r from h)
      rw [bor_eq, ieq_eq] at h2
      refine ⟨by rw [T.dats, h1]; rfl, ?_⟩
      rw [List.any_cons, ← Bool.or_assoc]
      have e : T.eqv (.int j) (.int i) = decide (j = i) := by
        show PyData.eqv (.int j) (.int i) = _
        rw [PyData.eqv, Bool.beq_eq_decide_eq]
      rw [e]; exact h2
    | _ => exact gen _ h
def inS (x : T) (ys : List T) (k : Bool → Ans) : Ans := cInt x (fun i => inI i x ys false k) (inL x ys false k)
theorem inS_ok {x : T} {ys : List T} {k : Bool → Ans} {r : T} (h : inS x ys k = some r) : (T.dat 59 x && T.dats 59 ys) = true ∧ k (ys.any fun y => T.eqv y x) = some r := by
  cases x with
  | int i =>
    obtain ⟨h1, h2⟩ := inI_ok (show inI i (.int i) ys false k = some r from h)
    rw [Bool.false_or] at h2
    exact ⟨by rw [h1]; rfl, h2⟩
  | _ =>
    obtain ⟨h1, h2, h3⟩ := inL_ok (show inL _ ys false k = some r from h)
    rw [Bool.false_or] at h3
    exact ⟨by rw [h1, h2]; rfl, h3⟩
/-! ### dicts -/
def keyL (xs : List T) : List T → (Bool → Ans) → (Unit → Ans) → Ans := List.rec (motive := fun _ => List T → (Bool → Ans) → (Unit → Ans) → Ans) (fun ys k _ => List.rec (motive := fun _ => Ans) (k true) (fun _ _ _ => k false) ys)
  (fun x _ ih ys k d => List.rec (motive := fun _ => Ans) (k false) (fun y s _ => cInt x (fun i => cInt y (fun j => bIf (ieq i j) (ih s k d) (k false)) (d ())) (d ())) ys) xs
def keyF (a b : T) (k : Bool → Ans) : Ans := cInt a (fun i => cInt b (fun j => k (ieq i j)) (k (T.beq a b))) (cTup a (fun xs => cTup b (fun ys => keyL xs ys k fun _ => k (T.beq a b)) (k (T.beq a b))) (k (T.beq a b)))
theorem keyL_ok {a b : T} {k : Bool → Ans} {r : T} {z : Bool} : ∀ {xs ys : List T}, (T.beqs xs ys = true → z = T.beq a b) → keyL xs ys k (fun _ => k (T.beq a b)) = some r → k (T.beqs xs ys) = some r ∨ k (T.beq a b) = some r
  | [], [], _, h => .inl (by rw [T.beqs]; exact h)
  | [], y :: ys, _, h => .inl (by rw [show T.beqs [] (y :: ys) = false by simp [T.beqs]]; exact h)
  | x :: xs, [], _, h => .inl (by rw [show T.beqs (x :: xs) [] = false by simp [T.beqs]]; exact h)
  | x :: xs, y :: ys, z, h => by
    replace h : cInt x (fun i => cInt y (fun j => bIf (ieq i j) (keyL xs ys k fun _ => k (T.beq a b)) (k false)) (k (T.beq a b))) (k (T.beq a b)) = some r := h
    cases x with
    | int i =>
      cases y with
      | int j =>
        replace h : bIf (ieq i j) (keyL xs ys k fun _ => k (T.beq a b)) (k false) = some r := h
        rw [bIf_eq, ieq_eq] at h
        rw [T.beqs, T.beq, Bool.beq_eq_decide_eq]
        by_cases q : i = j
        · rw [decide_eq_true q, if_pos rfl] at h
          rw [decide_eq_true q, Bool.true_and]
          exact keyL_ok (z := T.beq a b) (fun _ => rfl) h
        · rw [decide_eq_false q, if_neg Bool.false_ne_true] at h
          rw [decide_eq_false q, Bool.false_and]
          exact .inl h
      | _ => exact .inr h
    | _ => exact .inr h
theorem keyF_ok {a b : T} {k : Bool → Ans} {r : T} (h : keyF a b k = some r) : k (T.beq a b) = some r := by
  cases a with
  | int i =>
    cases b with
    | int j =>
      replace h : k (ieq i j) = some r := h
      rw [ieq_eq] at h
      rw [T.beq, Bool.beq_eq_decide_eq]; exact h
    | _ => exact h
  | tup xs =>
    cases b with
    | tup ys =>
      rcases keyL_ok (a := .tup xs) (b := .tup ys) (z := T.beq (.tup xs) (.tup ys)) (fun _ => rfl) (show keyL xs ys k (fun _ => k (T.beq (.tup xs) (.tup ys))) = some r from h) with h | h
      · rw [T.beq]; exact h
      · exact h
    | _ => exact h
  | _ => exact h
def look (x : T) (kvs : List (T × T)) (f : T → Ans) (d : Ans) : Ans := List.rec d (fun p _ ih => Prod.rec (fun a b => keyF a x fun c => bIf c (f b) ih) p) kvs
theorem look_ok {x : T} {f : T → Ans} {d : Ans} {r : T} : ∀ {kvs : List (T × T)}, look x kvs f d = some r → (match lookT x kvs with | some t => f t | none => d) = some r
  | [], h => h
  | (a, b) :: kvs, h => by
    replace h := keyF_ok (show keyF a x (fun c => bIf c (f b) (look x kvs f d)) = some r from h)
    rw [bIf_eq] at h
    rw [lookT]
    split at h
    · rename_i q; rw [if_pos q]; exact h
    · rename_i q; rw [if_neg q]; exact look_ok h
def fitF (x : T) (kvs : List (T × T)) (k : Ans) : Ans := cInt x (fun _ => List.rec k (fun p _ _ => Prod.rec (fun a _ => cInt a (fun _ => k) (bIf (fitK x kvs) k none)) p) kvs) (bIf (fitK x kvs) k none)
theorem fitF_ok {x : T} {kvs : List (T × T)} {k : Ans} {r : T} (h : fitF x kvs k = some r) : fitK x kvs = true ∧ k = some r := by
  have gen : bIf (fitK x kvs) k none = some r → fitK x kvs = true ∧ k = some r := fun h => by
    rw [bIf_eq] at h
    split at h
    · exact ⟨by assumption, h⟩
    · cases h
  cases x with
  | int i =>
    cases kvs with
    | nil => exact ⟨rfl, h⟩
    | cons p kvs =>
      obtain ⟨a, b⟩ := p
      cases a with
      | int j => exact ⟨rfl, h⟩
      | _ => exact gen h
  | _ => exact gen h
def fIn : F2 := fun a b k => cSeq b (fun ys => inS a ys fun c => k (.bl c) false) (cDct b (fun kvs => fitF a kvs (look a kvs (fun _ => k (.bl true) false) (k (.bl false) false))) none)
def fNotin : F2 := fun a b k => cSeq b (fun ys => inS a ys fun c => k (.bl (bnot c)) false) (cDct b (fun kvs => fitF a kvs (look a kvs (fun _ => k (.bl false) false) (k (.bl true) false))) none)
theorem fIn_ok : SndP2 .inn fIn := fun a b k r h => by
  cases b with
  | tup ys =>
    obtain ⟨h1, h2⟩ := inS_ok (show inS a ys (fun c => k (.bl c) false) = some r from h)
    exact ⟨_, (show sIn a (.tup ys) = _ by rw [sIn, if_pos h1]), h2⟩
  | lst ys =>
    obtain ⟨h1, h2⟩ := inS_ok (show inS a ys (fun c => k (.bl c) false) = some r from h)
    exact ⟨_, (show sIn a (.lst ys) = _ by rw [sIn, if_pos h1]), h2⟩
  | dct kvs =>
    obtain ⟨h1, h2⟩ := fitF_ok (show fitF a kvs (look a kvs (fun _ => k (.bl true) false) (k (.bl false) false)) = some r from h)
    refine ⟨_, (show sIn a (.dct kvs) = _ by rw [sIn, if_pos h1]), ?_⟩
    have h3 := look_ok h2
    cases e : lookT a kvs with
    | none => rw [e] at h3; exact h3
    | some t => rw [e] at h3; exact h3
  | _ => exact noA h
theorem fNotin_ok : SndP2 .notin fNotin := fun a b k r h => by
  cases b with
  | tup ys =>
    obtain ⟨h1, h2⟩ := inS_ok (show inS a ys (fun c => k (.bl (bnot c)) false) = some r from h)
    rw [bnot_eq] at h2
    exact ⟨_, (show sNotin a (.tup ys) = _ by rw [sNotin, if_pos h1]), h2⟩
  | lst ys =>
    obtain ⟨h1, h2⟩ := inS_ok (show inS a ys (fun c => k (.bl (bnot c)) false) = some r from h)
    rw [bnot_eq] at h2
    exact ⟨_, (show sNotin a (.lst ys) = _ by rw [sNotin, if_pos h1]), h2⟩
  | dct kvs =>
    obtain ⟨h1, h2⟩ := fitF_ok (show fitF a kvs (look a kvs (fun _ => k (.bl false) false) (k (.bl true) false)) = some r from h)
    refine ⟨_, (show sNotin a (.dct kvs) = _ by rw [sNotin, if_pos h1]), ?_⟩
    have h3 := look_ok h2
    cases e : lookT a kvs with
    | none => rw [e] at h3; exact h3
    | some t => rw [e] at h3; exact h3
  | _ => exact noA h
/-! ### places, lengths, sums -/
def fIx : F2 := fun a b k => cSeq a (fun xs => cInt b (fun j => Int.rec (fun n => lget xs (fun t => k t false) n) (fun n => bIf (Nat.ble (Nat.succ n) (llen xs 0)) (lget xs (fun t => k t false) (Nat.sub (llen xs 0) (Nat.succ n))) none) j) none) (cDct a (fun kvs => fitF b kvs (look b kvs (fun t => k t false) none)) none)
theorem bind_some {o : Option T} {k : T → Ans} {r : T} (h : o.bind k = some r) : ∃ t, o = some t ∧ k t = some r := by
  cases o with
  | none => cases h
  | some t => exact ⟨t, rfl, h⟩
theorem fIx_seq {xs : List T} {b : T} {k : T → Bool → Ans} {r : T} (h : cInt b (fun j => Int.rec (fun n => lget xs (fun t => k t false) n) (fun n => bIf (Nat.ble (Nat.succ n) (llen xs 0)) (lget xs (fun t => k t false) (Nat.sub (llen xs 0) (Nat.succ n))) none) j) none = some r) : ∃ j t, b = .int j ∧ ixAt xs j = some t ∧ k t false = some r := by
  cases b with
  | int j =>
    cases j with
    | ofNat n =>
      replace h : lget xs (fun t => k t false) n = some r := h
      rw [lget_eq] at h
      obtain ⟨t, h1, h2⟩ := bind_some h
      exact ⟨_, t, rfl, by unfold ixAt; rw [if_pos (show (0 : Int) ≤ Int.ofNat n from Int.ofNat_nonneg n)]; exact h1, h2⟩
    | negSucc n =>
      replace h : bIf (Nat.ble (Nat.succ n) (llen xs 0)) (lget xs (fun t => k t false) (Nat.sub (llen xs 0) (Nat.succ n))) none = some r := h
      rw [bIf_eq] at h
      split at h
      · rename_i q
        have q := Nat.le_of_ble_eq_true q
        rw [llen_eq] at q h
        rw [lget_eq] at h
        obtain ⟨t, h1, h2⟩ := bind_some h
        refine ⟨_, t, rfl, ?_, h2⟩
        unfold ixAt
        rw [if_neg (show ¬ (0 : Int) ≤ Int.negSucc n by rw [Int.negSucc_eq]; omega), if_pos (show -(xs.length : Int) ≤ Int.negSucc n by rw [Int.negSucc_eq]; omega)]
        have e : (Int.negSucc n + (xs.length : Int)).toNat = 0 + xs.length - (n + 1) := by rw [Int.negSucc_eq]; omega
        rw [e]; exact h1
      · cases h
  | _ => exact noA h
theorem fIx_ok : SndP2 .ix fIx := fun a b k r h => by
  cases a with
  | tup xs => obtain ⟨j, t, rfl, h1, h2⟩ := fIx_seq (show _ = some r from h); exact ⟨t, h1, h2⟩
  | lst xs => obtain ⟨j, t, rfl, h1, h2⟩ := fIx_seq (show _ = some r from h); exact ⟨t, h1, h2⟩
  | dct kvs =>
    obtain ⟨h1, h2⟩ := fitF_ok (show fitF b kvs (look b kvs (fun t => k t false) none) = some r from h)
    have h3 := look_ok h2
    cases e : lookT b kvs with
    | none => rw [e] at h3; cases h3
    | some t =>
      rw [e] at h3
      refine ⟨t, ?_, h3⟩
      show sIx (.dct kvs) b = _
      rw [sIx, if_pos h1]; exact e
  | _ => exact noA h
def fLen : F1 := fun a k => cSeq a (fun xs => k (.int (Int.ofNat (llen xs 0))) false) (gen1 .len a k)
theorem fLen_ok : SndP1 .len fLen := fun a k r h => by
  cases a with
  | tup xs =>
    replace h : k (.int (Int.ofNat (llen xs 0))) false = some r := h
    rw [llen_eq, Nat.zero_add] at h
    exact ⟨_, rfl, h⟩
  | lst xs =>
    replace h : k (.int (Int.ofNat (llen xs 0))) false = some r := h
    rw [llen_eq, Nat.zero_add] at h
    exact ⟨_, rfl, h⟩
  | _ => exact gen1_ok _ _ _ _ h
def lsum (xs : List T) (k : Int → Ans) : Int → Ans := List.rec (fun a => k a) (fun x _ ih a => cInt x (fun i => ih (iadd a i)) none) xs
theorem lsum_ok {k : Int → Ans} {r : T} : ∀ {xs : List T} {a : Int}, lsum xs k a = some r → ∃ s, sumI xs = some s ∧ k (a + s) = some r
  | [], a, h => ⟨0, rfl, by rw [Int.add_zero]; exact h⟩
  | x :: xs, a, h => by
    replace h : cInt x (fun i => lsum xs k (iadd a i)) none = some r := h
    cases x with
    | int i =>
      obtain ⟨s, h1, h2⟩ := lsum_ok (show lsum xs k (iadd a i) = some r from h)
      rw [iadd_eq] at h2
      exact ⟨i + s, by rw [sumI, h1]; rfl, by rw [← Int.add_assoc]; exact h2⟩
    | _ => exact noA h
def fSum : F1 := fun a k => cSeq a (fun xs => lsum xs (fun i => k (.int i) false) 0) none
theorem fSum_ok : SndP1 .sum fSum := fun a k r h => by
  have key : ∀ xs, lsum xs (fun i => k (.int i) false) 0 = some r → ∃ s, sumI xs = some s ∧ k (.int s) false = some r := fun xs h => by
    obtain ⟨s, h1, h2⟩ := lsum_ok h
    rw [Int.zero_add] at h2
    exact ⟨s, h1, h2⟩
  cases a with
  | tup xs => obtain ⟨s, h1, h2⟩ := key xs h; exact ⟨.int s, (show (sumI xs).map T.int = _ by rw [h1]; rfl), h2⟩
  | lst xs => obtain ⟨s, h1, h2⟩ := key xs h; exact ⟨.int s, (show (sumI xs).map T.int = _ by rw [h1]; rfl), h2⟩
  | _ => exact noA h
def fInt : F1 := fun a k => cInt a (fun i => k (.int i) false) (gen1 .int a k)
theorem fInt_ok : SndP1 .int fInt := fun a k r h => by
  cases a with
  | int i => exact ⟨_, rfl, h⟩
  | _ => exact gen1_ok _ _ _ _ h
def fTuple : F1 := fun a k => cSeq a (fun xs => k (.tup xs) false) none
def fList : F1 := fun a k => cSeq a (fun xs => k (.lst xs) true) none
theorem fTuple_ok : SndP1 .tuple fTuple := fun a k r h => by
  cases a with
  | tup xs => exact ⟨_, rfl, h⟩
  | lst xs => exact ⟨_, rfl, h⟩
  | _ => exact noA h
theorem fList_ok : SndP1 .list fList := fun a k r h => by
  cases a with
  | tup xs => exact ⟨_, rfl, h⟩
  | lst xs => exact ⟨_, rfl, h⟩
  | _ => exact noA h
def fSlRev : F1 := fun a k => cLst a (fun xs => k (.lst (lrev xs [])) true) none
theorem fSlRev_ok : SndP1 .slRev fSlRev := fun a k r h => by
  cases a with
  | lst xs =>
    replace h : k (.lst (lrev xs [])) true = some r := h
    rw [lrev_eq, List.append_nil] at h
    exact ⟨_, rfl, h⟩
  | _ => exact noA h
def lall (xs : List T) (k : Bool → Ans) : Bool → Ans := List.rec (fun a => k a) (fun x _ ih a => cBl x (fun b => ih (band a b)) none) xs
theorem lall_ok {k : Bool → Ans} {r : T} : ∀ {xs : List T} {a : Bool}, lall xs k a = some r → ∃ bs, blsT xs = some bs ∧ k (a && bs.all id) = some r
  | [], a, h => ⟨[], rfl, by rw [List.all_nil, Bool.and_true]; exact h⟩
  | x :: xs, a, h => by
    replace h : cBl x (fun b => lall xs k (band a b)) none = some r := h
    cases x with
    | bl b =>
      obtain ⟨s, h1, h2⟩ := lall_ok (show lall xs k (band a b) = some r from h)
      rw [band_eq] at h2
      exact ⟨b :: s, by rw [blsT, h1]; rfl, by rw [List.all_cons, ← Bool.and_assoc]; exact h2⟩
    | _ => exact noA h
def lany (xs : List T) (k : Bool → Ans) : Bool → Ans := List.rec (fun a => k a) (fun x _ ih a => cBl x (fun b => ih (bor a b)) none) xs
theorem lany_ok {k : Bool → Ans} {r : T} : ∀ {xs : List T} {a : Bool}, lany xs k a = some r → ∃ bs, blsT xs = some bs ∧ k (a || bs.any id) = some r
  | [], a, h => ⟨[], rfl, by rw [List.any_nil, Bool.or_false]; exact h⟩
  | x :: xs, a, h => by
    replace h : cBl x (fun b => lany xs k (bor a b)) none = some r := h
    cases x with
    | bl b =>
      obtain ⟨s, h1, h2⟩ := lany_ok (show lany xs k (bor a b) = some r from h)
      rw [bor_eq] at h2
      exact ⟨b :: s, by rw [blsT, h1]; rfl, by rw [List.any_cons, ← Bool.or_assoc]; exact h2⟩
    | _ => exact noA h
def fAll : F1 := fun a k => cLst a (fun xs => lall xs (fun b => k (.bl b) false) true) none
def fAny : F1 := fun a k => cLst a (fun xs => lany xs (fun b => k (.bl b) false) false) none
theorem fAll_ok : SndP1 .all fAll := fun a k r h => by
  cases a with
  | lst xs =>
    obtain ⟨bs, h1, h2⟩ := lall_ok (show lall xs (fun b => k (.bl b) false) true = some r from h)
    rw [Bool.true_and] at h2
    exact ⟨_, (show (blsT xs).map _ = _ by rw [h1]; rfl), h2⟩
  | _ => exact noA h
theorem fAny_ok : SndP1 .any fAny := fun a k r h => by
  cases a with
  | lst xs =>
    obtain ⟨bs, h1, h2⟩ := lany_ok (show lany xs (fun b => k (.bl b) false) false = some r from h)
    rw [Bool.false_or] at h2
    exact ⟨_, (show (blsT xs).map _ = _ by rw [h1]; rfl), h2⟩
  | _ => exact noA h

def fIsInt : F1 := fun t k => T.rec (motive_1 := fun _ => Ans) (motive_2 := fun _ => Ans) (motive_3 := fun _ => Ans) (motive_4 := fun _ => Ans) (motive_5 := fun _ => Ans) (motive_6 := fun _ => Ans) (k (.bl false) false) (fun _ => (k (.bl true) false)) (fun _ => (k (.bl true) false)) (fun _ => (k (.bl false) false)) (fun _ _ => (k (.bl false) false)) (fun _ _ => (k (.bl false) false)) (fun _ _ => none) (fun _ _ _ => none) (fun _ => none) none (fun _ _ _ _ => none) none (fun _ _ _ _ => none) none (fun _ _ _ _ => none) (fun _ _ _ _ => none) (fun _ _ _ => none) t
theorem fIsInt_ok : SndP1 .isInt fIsInt := fun a k r h => by
  cases a <;> first | exact noA h | exact ⟨_, rfl, h⟩
def fIsBool : F1 := fun t k => T.rec (motive_1 := fun _ => Ans) (motive_2 := fun _ => Ans) (motive_3 := fun _ => Ans) (motive_4 := fun _ => Ans) (motive_5 := fun _ => Ans) (motive_6 := fun _ => Ans) (k (.bl false) false) (fun _ => (k (.bl true) false)) (fun _ => (k (.bl false) false)) (fun _ => (k (.bl false) false)) (fun _ _ => (k (.bl false) false)) (fun _ _ => (k (.bl false) false)) (fun _ _ => none) (fun _ _ _ => none) (fun _ => none) none (fun _ _ _ _ => none) none (fun _ _ _ _ => none) none (fun _ _ _ _ => none) (fun _ _ _ _ => none) (fun _ _ _ => none) t
theorem fIsBool_ok : SndP1 .isBool fIsBool := fun a k r h => by
  cases a <;> first | exact noA h | exact ⟨_, rfl, h⟩
def fIsTup : F1 := fun t k => T.rec (motive_1 := fun _ => Ans) (motive_2 := fun _ => Ans) (motive_3 := fun _ => Ans) (motive_4 := fun _ => Ans) (motive_5 := fun _ => Ans) (motive_6 := fun _ => Ans) (k (.bl false) false) (fun _ => (k (.bl false) false)) (fun _ => (k (.bl false) false)) (fun _ => (k (.bl false) false)) (fun _ _ => (k (.bl true) false)) (fun _ _ => (k (.bl false) false)) (fun _ _ => none) (fun _ _ _ => none) (fun _ => none) none (fun _ _ _ _ => none) none (fun _ _ _ _ => none) none (fun _ _ _ _ => none) (fun _ _ _ _ => none) (fun _ _ _ => none) t
theorem fIsTup_ok : SndP1 .isTup fIsTup := fun a k r h => by
  cases a <;> first | exact noA h | exact ⟨_, rfl, h⟩
def fIsList : F1 := fun t k => T.rec (motive_1 := fun _ => Ans) (motive_2 := fun _ => Ans) (motive_3 := fun _ => Ans) (motive_4 := fun _ => Ans) (motive_5 := fun _ => Ans) (motive_6 := fun _ => Ans) (k (.bl false) false) (fun _ => (k (.bl false) false)) (fun _ => (k (.bl false) false)) (fun _ => (k (.bl false) false)) (fun _ _ => (k (.bl false) false)) (fun _ _ => (k (.bl true) false)) (fun _ _ => none) (fun _ _ _ => none) (fun _ => none) none (fun _ _ _ _ => none) none (fun _ _ _ _ => none) none (fun _ _ _ _ => none) (fun _ _ _ _ => none) (fun _ _ _ => none) t
theorem fIsList_ok : SndP1 .isList fIsList := fun a k r h => by
  cases a <;> first | exact noA h | exact ⟨_, rfl, h⟩
def fIsStr : F1 := fun t k => T.rec (motive_1 := fun _ => Ans) (motive_2 := fun _ => Ans) (motive_3 := fun _ => Ans) (motive_4 := fun _ => Ans) (motive_5 := fun _ => Ans) (motive_6 := fun _ => Ans) (k (.bl false) false) (fun _ => (k (.bl false) false)) (fun _ => (k (.bl false) false)) (fun _ => (k (.bl true) false)) (fun _ _ => (k (.bl false) false)) (fun _ _ => (k (.bl false) false)) (fun _ _ => none) (fun _ _ _ => none) (fun _ => none) none (fun _ _ _ _ => none) none (fun _ _ _ _ => none) none (fun _ _ _ _ => none) (fun _ _ _ _ => none) (fun _ _ _ => none) t
theorem fIsStr_ok : SndP1 .isStr fIsStr := fun a k r h => by
  cases a <;> first | exact noA h | exact ⟨_, rfl, h⟩
def fIsDict : F1 := fun t k => T.rec (motive_1 := fun _ => Ans) (motive_2 := fun _ => Ans) (motive_3 := fun _ => Ans) (motive_4 := fun _ => Ans) (motive_5 := fun _ => Ans) (motive_6 := fun _ => Ans) (k (.bl false) false) (fun _ => (k (.bl false) false)) (fun _ => (k (.bl false) false)) (fun _ => (k (.bl false) false)) (fun _ _ => (k (.bl false) false)) (fun _ _ => (k (.bl false) false)) (fun _ _ => none) (fun _ _ _ => none) (fun _ => none) none (fun _ _ _ _ => none) none (fun _ _ _ _ => none) none (fun _ _ _ _ => none) (fun _ _ _ _ => none) (fun _ _ _ => none) t
theorem fIsDict_ok : SndP1 .isDict fIsDict := fun a k r h => by
  cases a <;> first | exact noA h | exact ⟨_, rfl, h⟩
def fIsSeq : F1 := fun t k => T.rec (motive_1 := fun _ => Ans) (motive_2 := fun _ => Ans) (motive_3 := fun _ => Ans) (motive_4 := fun _ => Ans) (motive_5 := fun _ => Ans) (motive_6 := fun _ => Ans) (k (.bl false) false) (fun _ => (k (.bl false) false)) (fun _ => (k (.bl false) false)) (fun _ => (k (.bl false) false)) (fun _ _ => (k (.bl true) false)) (fun _ _ => (k (.bl true) false)) (fun _ _ => none) (fun _ _ _ => none) (fun _ => none) none (fun _ _ _ _ => none) none (fun _ _ _ _ => none) none (fun _ _ _ _ => none) (fun _ _ _ _ => none) (fun _ _ _ => none) t
theorem fIsSeq_ok : SndP1 .isSeq fIsSeq := fun a k r h => by
  cases a <;> first | exact noA h | exact ⟨_, rfl, h⟩
end FE
end
/-! DFast2: expressions with continuations. -/
noncomputable section
namespace FE
variable [DD.Mode]
open PySem DD
def cCst (t : T) : C := fun env k => k t false env
def cVar (i : Nat) : C := fun env k => oSl (gs env i) fun t m => Md.rec (k t false (ss env i (some ⟨t, .sh⟩))) (k t false env) none m
def cMv (i : Nat) : C := fun env k => oSl (gs env i) fun t m => Md.rec (k t true (ss env i none)) (k t false (ss env i none)) none m
inductive Op where
  | v (c : C)
  | p (i : Nat)
  | i (i : Nat)
def opE (o : Op) (env : En) (k : OV → En → Ans) : Ans := Op.rec (fun c => c env fun t fr env => k (.v t fr) env) (fun i => oSl (gs env i) fun _ _ => k (.s i) env) (fun i => oSl (gs env i) fun _ m => Md.rec (k (.s i) env) none (k (.s i) env) m) o
def resK (x : OV) (env : En) (k : T → Ans) : Ans := OV.rec (fun t _ => k t) (fun i => oSl (gs env i) fun t _ => k t) x
def opEs (os : List Op) : En → (List OV → En → Ans) → Ans := List.rec (fun env k => k [] env) (fun o _ ih env k => opE o env fun x env => ih env fun xs env => k (x :: xs) env) os
def valsK (xs : List OV) (env : En) : (List T → Ans) → Ans := List.rec (fun k => k []) (fun x _ ih k => resK x env fun t => ih fun ts => k (t :: ts)) xs
def evL (cs : List C) : En → (List T → En → Ans) → Ans := List.rec (fun env k => k [] env) (fun c _ ih env k => c env fun t _ env => ih env fun ts env => k (t :: ts) env) cs
section
variable (Φ Ψ : Nat → Fn)
def SndC (e : E) (c : C) : Prop := ∀ env k r, c env k = some r → ∃ t fr env', ev Φ Ψ e env = .ok (.v t fr, env') ∧ k t fr env' = some r
inductive SndO : E → Op → Prop where
  | v {e : E} {c : C} : SndC Φ Ψ e c → SndO e (.v c)
  | p {i : Nat} : SndO (.peek i) (.p i)
  | i {i : Nat} : SndO (.io i) (.i i)
inductive SndOs : List E → List Op → Prop where
  | nil : SndOs [] []
  | cons {e : E} {o : Op} {es : List E} {os : List Op} : SndO Φ Ψ e o → SndOs es os → SndOs (e :: es) (o :: os)
inductive SndCs : List E → List C → Prop where
  | nil : SndCs [] []
  | cons {e : E} {c : C} {es : List E} {cs : List C} : SndC Φ Ψ e c → SndCs es cs → SndCs (e :: es) (c :: cs)
end
variable {Φ Ψ : Nat → Fn} {W : Nat}
theorem md_io {m : Md} {a b : Ans} {r : T} (h : (Md.rec a b none m : Ans) = some r) : (m = .own ∧ a = some r) ∨ (m = .sh ∧ b = some r) := by
  cases m with
  | own => exact .inl ⟨rfl, h⟩
  | sh => exact .inr ⟨rfl, h⟩
  | io => exact noA h
theorem md_w {m : Md} {a b : Ans} {r : T} (h : (Md.rec a none b m : Ans) = some r) : (m = .own ∧ a = some r) ∨ (m = .io ∧ b = some r) := by
  cases m with
  | own => exact .inl ⟨rfl, h⟩
  | io => exact .inr ⟨rfl, h⟩
  | sh => exact noA h
theorem oSl_ok {env : En} {i : Nat} {k : T → Md → Ans} {r : T} (h : oSl (gs env i) k = some r) : ∃ t m, getS env i = some ⟨t, m⟩ ∧ k t m = some r := by
  rw [gs_eq, oSl_eq] at h
  split at h
  · rename_i s e
    exact ⟨s.t, s.m, e, h⟩
  · cases h
theorem getS_set {env : En} {i : Nat} {s : Sl} (h : getS env i = some s) : env.set i (some s) = env := by
  have e : env[i]? = some (some s) := by
    unfold getS at h
    cases q : env[i]? with
    | none => rw [q] at h; cases h
    | some o => rw [q] at h; cases o with
      | none => cases h
      | some x => cases h; rfl
  obtain ⟨hi, e⟩ := List.getElem?_eq_some_iff.mp e
  rw [← e]
  exact List.set_getElem_self hi
theorem s_cst {t : T} : SndC Φ Ψ (.cst t) (cCst t) := fun env k r h => ⟨t, false, env, by rw [ev], h⟩
theorem s_var {i : Nat} : SndC Φ Ψ (.var i) (cVar i) := fun env k r h => by
  obtain ⟨t, m, h1, h2⟩ := oSl_ok h
  rcases md_io h2 with ⟨rfl, h3⟩ | ⟨rfl, h3⟩
  · rw [ss_eq] at h3
    exact ⟨t, false, _, by rw [ev, h1], h3⟩
  · exact ⟨t, false, env, by rw [ev, h1]; simp only [getS_set h1], h3⟩
theorem s_mv {i : Nat} : SndC Φ Ψ (.mv i) (cMv i) := fun env k r h => by
  obtain ⟨t, m, h1, h2⟩ := oSl_ok h
  rcases md_io h2 with ⟨rfl, h3⟩ | ⟨rfl, h3⟩
  · rw [ss_eq] at h3
    exact ⟨t, true, _, by rw [ev, h1], h3⟩
  · rw [ss_eq] at h3
    exact ⟨t, false, _, by rw [ev, h1], h3⟩
theorem opE_ok {e : E} {o : Op} (s : SndO Φ Ψ e o) {env : En} {k : OV → En → Ans} {r : T} (h : opE o env k = some r) : ∃ x env', ev Φ Ψ e env = .ok (x, env') ∧ k x env' = some r ∧ ((∃ c t fr, o = .v c ∧ x = .v t fr) ∨ (∃ i, o = .p i ∧ e = .peek i ∧ x = .s i) ∨ ∃ i, o = .i i ∧ e = .io i ∧ x = .s i) := by
  cases s with
  | v s =>
    obtain ⟨t, fr, env', h1, h2⟩ := s env _ r h
    exact ⟨_, env', h1, h2, .inl ⟨_, t, fr, rfl, rfl⟩⟩
  | p =>
    rename_i i
    obtain ⟨t, m, h1, h2⟩ := oSl_ok (i := i) (k := fun _ _ => k (.s i) env) h
    exact ⟨_, env, by rw [ev, h1], h2, .inr (.inl ⟨_, rfl, rfl, rfl⟩)⟩
  | i =>
    rename_i i
    replace h : oSl (gs env i) (fun _ m => Md.rec (motive := fun _ => Ans) (k (.s i) env) none (k (.s i) env) m) = some r := h
    obtain ⟨t, m, h1, h2⟩ := oSl_ok h
    rcases md_w h2 with ⟨rfl, h3⟩ | ⟨rfl, h3⟩
    · exact ⟨_, env, by rw [ev, h1], h3, .inr (.inr ⟨_, rfl, rfl, rfl⟩)⟩
    · exact ⟨_, env, by rw [ev, h1], h3, .inr (.inr ⟨_, rfl, rfl, rfl⟩)⟩
theorem resK_ok {x : OV} {env : En} {k : T → Ans} {r : T} (h : resK x env k = some r) : ∃ t, x.res env = some t ∧ k t = some r := by
  cases x with
  | v t fr => exact ⟨t, rfl, h⟩
  | s i =>
    obtain ⟨t, m, h1, h2⟩ := oSl_ok (i := i) (k := fun t _ => k t) h
    exact ⟨t, by show (getS env i).map _ = _; rw [h1]; rfl, h2⟩
theorem opEs_ok : ∀ {es : List E} {os : List Op}, SndOs Φ Ψ es os → ∀ {env : En} {k : List OV → En → Ans} {r : T}, opEs os env k = some r → ∃ xs env', evs Φ Ψ es env = .ok (xs, env') ∧ k xs env' = some r ∧ ((∀ o ∈ os, ∀ i, o ≠ .p i) → argsOk es xs = true)
  | _, _, .nil, env, k, r, h => ⟨[], env, by rw [evs], h, fun _ => rfl⟩
  | _, _, .cons (e := e) (o := o) (es := es) (os := os) s ss, env, k, r, h => by
    obtain ⟨x, e1, h1, h2, hx⟩ := opE_ok s (show opE o env (fun x env => opEs os env fun xs env => k (x :: xs) env) = some r from h)
    obtain ⟨xs, e2, h3, h4, h5⟩ := opEs_ok ss h2
    refine ⟨x :: xs, e2, by simp only [evs, h1, h3, R.bind], h4, fun hp => ?_⟩
    have h6 := h5 fun o ho => hp o (List.mem_cons_of_mem _ ho)
    rcases hx with ⟨c, t, fr, rfl, rfl⟩ | ⟨i, rfl, rfl, rfl⟩ | ⟨i, rfl, rfl, rfl⟩
    · cases s with
      | v s =>
        cases e <;> first | exact h6 | (rw [argsOk]; exact h6) | skip
        rename_i j
        exfalso
        rw [ev] at h1
        split at h1 <;> cases h1
    · exact absurd rfl (hp _ List.mem_cons_self i)
    · exact h6
theorem valsK_ok {env : En} : ∀ {xs : List OV} {k : List T → Ans} {r : T}, valsK xs env k = some r → ∃ ts, vals env xs = some ts ∧ k ts = some r
  | [], k, r, h => ⟨[], by rw [vals], h⟩
  | x :: xs, k, r, h => by
    obtain ⟨t, h1, h2⟩ := resK_ok (show resK x env (fun t => valsK xs env fun ts => k (t :: ts)) = some r from h)
    obtain ⟨ts, h3, h4⟩ := valsK_ok h2
    exact ⟨t :: ts, by rw [vals, h1, h3], h4⟩
theorem evL_ok : ∀ {es : List E} {cs : List C}, SndCs Φ Ψ es cs → ∀ {env : En} {k : List T → En → Ans} {r : T}, evL cs env k = some r → ∃ os ts env', evs Φ Ψ es env = .ok (os, env') ∧ plain os = some ts ∧ vals env' os = some ts ∧ ts.length = es.length ∧ ioO os = none ∧ argsOk es os = true ∧ (∀ e1, vals e1 os = some ts) ∧ k ts env' = some r
  | _, _, .nil, env, k, r, h => ⟨[], [], env, by rw [evs], rfl, by rw [vals], rfl, rfl, rfl, fun _ => by rw [vals], h⟩
  | _, _, .cons (e := e) (c := c) (es := es) (cs := cs) s ss, env, k, r, h => by
    obtain ⟨t, fr, e1, h1, h2⟩ := s env _ r (show c env (fun t _ env => evL cs env fun ts env => k (t :: ts) env) = some r from h)
    obtain ⟨os, ts, e2, h3, h4, h5, h6, h7, h8, h9, h10⟩ := evL_ok ss h2
    refine ⟨.v t fr :: os, t :: ts, e2, by simp only [evs, h1, h3, R.bind], by rw [DD.plain, h4]; rfl, by rw [vals, h5]; rfl, by simp [h6], by rw [ioO]; exact h7, ?_, fun e1 => by rw [vals, h9]; rfl, h10⟩
    cases e <;> first | exact h8 | (rw [argsOk]; exact h8) | skip
    exfalso
    rw [ev] at h1
    split at h1 <;> cases h1
/-! ### operations -/
def e1 (f : F1) (o : Op) : C := fun env k => opE o env fun x env => resK x env fun a => f a fun t fr => k t fr env
def e2 (f : F2) (o1 o2 : Op) : C := fun env k => opE o1 env fun x env => opE o2 env fun y env => resK x env fun a => resK y env fun b => f a b fun t fr => k t fr env
def eN (p : Prim) (os : List Op) : C := fun env k => opEs os env fun xs env => valsK xs env fun ts => Option.rec none (fun t => k t (p.makes && isCell t) env) (p.sem ts)
theorem s_p1 {p : Prim} {f : F1} (hf : SndP1 p f) {a : E} {o : Op} (s : SndO Φ Ψ a o) : SndC Φ Ψ (.prim p [a]) (e1 f o) := fun env k r h => by
  obtain ⟨x, ea, h1, h2, _⟩ := opE_ok s h
  obtain ⟨t, h3, h4⟩ := resK_ok h2
  obtain ⟨u, h5, h6⟩ := hf t _ r h4
  exact ⟨u, _, ea, by simp only [ev, evs, h1, R.bind, vals, h3, R.opt, h5], h6⟩
theorem s_p2 {p : Prim} {f : F2} (hf : SndP2 p f) {a b : E} {o1 o2 : Op} (s1 : SndO Φ Ψ a o1) (s2 : SndO Φ Ψ b o2) : SndC Φ Ψ (.prim p [a, b]) (e2 f o1 o2) := fun env k r h => by
  obtain ⟨x, ea, h1, h2, _⟩ := opE_ok s1 h
  obtain ⟨y, eb, h3, h4, _⟩ := opE_ok s2 h2
  obtain ⟨t, h5, h6⟩ := resK_ok h4
  obtain ⟨u, h7, h8⟩ := resK_ok h6
  obtain ⟨w, h9, h10⟩ := hf t u _ r h8
  exact ⟨w, _, eb, by simp only [ev, evs, h1, h3, R.bind, vals, h5, h7, R.opt, h9], h10⟩
theorem s_pN {p : Prim} {es : List E} {os : List Op} (s : SndOs Φ Ψ es os) : SndC Φ Ψ (.prim p es) (eN p os) := fun env k r h => by
  obtain ⟨xs, ea, h1, h2, _⟩ := opEs_ok s h
  obtain ⟨ts, h3, h4⟩ := valsK_ok h2
  cases e : p.sem ts with
  | none => rw [e] at h4; exact noA h4
  | some t =>
    rw [e] at h4
    exact ⟨t, _, ea, by simp only [ev, h1, R.bind, h3, R.opt, e], h4⟩
/-- the common shapes of two operands -/
def e2vv (f : F2) (a b : C) : C := fun env k => a env fun x _ env => b env fun y _ env => f x y fun t fr => k t fr env
def e2vc (f : F2) (a : C) (y : T) : C := fun env k => a env fun x _ env => f x y fun t fr => k t fr env
def e2pc (f : F2) (i : Nat) (y : T) : C := fun env k => oSl (gs env i) fun x _ => f x y fun t fr => k t fr env
def e2pp (f : F2) (i j : Nat) : C := fun env k => oSl (gs env i) fun x _ => oSl (gs env j) fun y _ => f x y fun t fr => k t fr env
def e2pv (f : F2) (i : Nat) (b : C) : C := fun env k => oSl (gs env i) fun _ _ => b env fun y _ env => oSl (gs env i) fun x _ => f x y fun t fr => k t fr env
def e2vp (f : F2) (a : C) (j : Nat) : C := fun env k => a env fun x _ env => oSl (gs env j) fun y _ => f x y fun t fr => k t fr env
theorem s_vv {p : Prim} {f : F2} (hf : SndP2 p f) {a b : E} {ca cb : C} (s1 : SndC Φ Ψ a ca) (s2 : SndC Φ Ψ b cb) : SndC Φ Ψ (.prim p [a, b]) (e2vv f ca cb) := fun env k r h => s_p2 hf (.v s1) (.v s2) env k r h
theorem s_vc {p : Prim} {f : F2} (hf : SndP2 p f) {a : E} {y : T} {ca : C} (s1 : SndC Φ Ψ a ca) : SndC Φ Ψ (.prim p [a, .cst y]) (e2vc f ca y) := fun env k r h => s_p2 hf (.v s1) (.v s_cst) env k r h
theorem s_pc {p : Prim} {f : F2} (hf : SndP2 p f) {i : Nat} {y : T} : SndC Φ Ψ (.prim p [.peek i, .cst y]) (e2pc f i y) := fun env k r h => by
  refine s_p2 hf .p (.v s_cst) env k r ?_
  obtain ⟨t, m, h1, h2⟩ := oSl_ok h
  show oSl (gs env i) (fun _ _ => oSl (gs env i) fun x _ => f x y fun t fr => k t fr env) = some r
  rw [gs_eq, h1]
  exact h2
theorem s_pp {p : Prim} {f : F2} (hf : SndP2 p f) {i j : Nat} : SndC Φ Ψ (.prim p [.peek i, .peek j]) (e2pp f i j) := fun env k r h => by
  refine s_p2 hf .p .p env k r ?_
  obtain ⟨t, m, h1, h2⟩ := oSl_ok h
  obtain ⟨u, m', h3, h4⟩ := oSl_ok h2
  show oSl (gs env i) (fun _ _ => oSl (gs env j) fun _ _ => oSl (gs env i) fun x _ => oSl (gs env j) fun y _ => f x y fun t fr => k t fr env) = some r
  rw [gs_eq, gs_eq, h1, h3]
  exact h4
theorem s_pv {p : Prim} {f : F2} (hf : SndP2 p f) {i : Nat} {b : E} {cb : C} (s2 : SndC Φ Ψ b cb) : SndC Φ Ψ (.prim p [.peek i, b]) (e2pv f i cb) := fun env k r h => s_p2 hf .p (.v s2) env k r h
theorem s_vp {p : Prim} {f : F2} (hf : SndP2 p f) {j : Nat} {a : E} {ca : C} (s1 : SndC Φ Ψ a ca) : SndC Φ Ψ (.prim p [a, .peek j]) (e2vp f ca j) := fun env k r h => by
  refine s_p2 hf (.v s1) .p env k r ?_
  show ca env (fun x fr env => oSl (gs env j) fun _ _ => oSl (gs env j) fun y _ => f x y fun t fr => k t fr env) = some r
  have e : (fun (x : T) (fr : Bool) (env : En) => oSl (gs env j) fun _ _ => oSl (gs env j) fun y _ => f x y fun t fr => k t fr env) = fun x fr env => oSl (gs env j) fun y _ => f x y fun t fr => k t fr env := by
    funext x fr env
    rw [oSl_eq, oSl_eq]
    split <;> rfl
  rw [e]
  exact h
def e1p (f : F1) (i : Nat) : C := fun env k => oSl (gs env i) fun a _ => f a fun t fr => k t fr env
def e1v (f : F1) (c : C) : C := fun env k => c env fun a _ env => f a fun t fr => k t fr env
theorem s_1p {p : Prim} {f : F1} (hf : SndP1 p f) {i : Nat} : SndC Φ Ψ (.prim p [.peek i]) (e1p f i) := fun env k r h => by
  refine s_p1 hf .p env k r ?_
  obtain ⟨t, m, h1, h2⟩ := oSl_ok h
  show oSl (gs env i) (fun _ _ => oSl (gs env i) fun x _ => f x fun t fr => k t fr env) = some r
  rw [gs_eq, h1]
  exact h2
theorem s_1v {p : Prim} {f : F1} (hf : SndP1 p f) {a : E} {c : C} (s : SndC Φ Ψ a c) : SndC Φ Ψ (.prim p [a]) (e1v f c) := fun env k r h => s_p1 hf (.v s) env k r h
/-! ### displays -/
def cTupD (cs : List C) : C := fun env k => evL cs env fun ts env => k (.tup ts) false env
def cLstD (cs : List C) : C := fun env k => evL cs env fun ts env => k (.lst ts) true env
theorem s_tup {es : List E} {cs : List C} (s : SndCs Φ Ψ es cs) (hl : es.length ≤ line) : SndC Φ Ψ (.tup es) (cTupD cs) := fun env k r h => by
  obtain ⟨os, ts, ea, h1, h2, h3, h4, h5, h6, h7, h8⟩ := evL_ok s h
  exact ⟨.tup ts, false, ea, by simp only [ev, h1, R.bind, h2, R.opt, h4, hl, if_true], h8⟩
theorem s_lst {es : List E} {cs : List C} (s : SndCs Φ Ψ es cs) (hl : es.length ≤ line) : SndC Φ Ψ (.lst es) (cLstD cs) := fun env k r h => by
  obtain ⟨os, ts, ea, h1, h2, h3, h4, h5, h6, h7, h8⟩ := evL_ok s h
  exact ⟨.lst ts, true, ea, by simp only [ev, h1, R.bind, h2, R.opt, h4, hl, if_true], h8⟩
/-! ### truth -/
theorem cBl_ok {t : T} {k : Bool → Ans} {r : T} (h : cBl t k none = some r) : ∃ b, t = .bl b ∧ k b = some r := by
  cases t with
  | bl b => exact ⟨b, rfl, h⟩
  | _ => exact noA h
theorem cInt_ok {t : T} {k : Int → Ans} {r : T} (h : cInt t k none = some r) : ∃ b, t = .int b ∧ k b = some r := by
  cases t with
  | int b => exact ⟨b, rfl, h⟩
  | _ => exact noA h
theorem cLst_ok {t : T} {k : List T → Ans} {r : T} (h : cLst t k none = some r) : ∃ b, t = .lst b ∧ k b = some r := by
  cases t with
  | lst b => exact ⟨b, rfl, h⟩
  | _ => exact noA h
def cAnd (a b : C) : C := fun env k => a env fun x _ env => cBl x (fun c => bIf c (b env fun y _ env => cBl y (fun d => k (.bl d) false env) none) (k (.bl false) false env)) none
def cOr (a b : C) : C := fun env k => a env fun x _ env => cBl x (fun c => bIf c (k (.bl true) false env) (b env fun y _ env => cBl y (fun d => k (.bl d) false env) none)) none
def cNot (a : C) : C := fun env k => a env fun x _ env => cBl x (fun c => k (.bl (bnot c)) false env) none
def cIte (c a b : C) : C := fun env k => c env fun x _ env => cBl x (fun d => bIf d (a env k) (b env k)) none
theorem s_and {a b : E} {ca cb : C} (s1 : SndC Φ Ψ a ca) (s2 : SndC Φ Ψ b cb) : SndC Φ Ψ (.and a b) (cAnd ca cb) := fun env k r h => by
  obtain ⟨t, fr, ea, h1, h2⟩ := s1 env _ r h
  obtain ⟨c, rfl, h3⟩ := cBl_ok h2
  rw [bIf_eq] at h3
  cases c with
  | true =>
    obtain ⟨u, fr2, eb, h4, h5⟩ := s2 ea _ r h3
    obtain ⟨d, rfl, h6⟩ := cBl_ok h5
    exact ⟨_, _, eb, by simp only [ev, h1, R.bind, asBl, if_true, h4], h6⟩
  | false => exact ⟨_, _, ea, by simp only [ev, h1, R.bind, asBl, Bool.false_eq_true, if_false], h3⟩
theorem s_or {a b : E} {ca cb : C} (s1 : SndC Φ Ψ a ca) (s2 : SndC Φ Ψ b cb) : SndC Φ Ψ (.or a b) (cOr ca cb) := fun env k r h => by
  obtain ⟨t, fr, ea, h1, h2⟩ := s1 env _ r h
  obtain ⟨c, rfl, h3⟩ := cBl_ok h2
  rw [bIf_eq] at h3
  cases c with
  | false =>
    obtain ⟨u, fr2, eb, h4, h5⟩ := s2 ea _ r h3
    obtain ⟨d, rfl, h6⟩ := cBl_ok h5
    exact ⟨_, _, eb, by simp only [ev, h1, R.bind, asBl, Bool.false_eq_true, if_false, h4], h6⟩
  | true => exact ⟨_, _, ea, by simp only [ev, h1, R.bind, asBl, if_true], h3⟩
theorem s_not {a : E} {ca : C} (s1 : SndC Φ Ψ a ca) : SndC Φ Ψ (.not a) (cNot ca) := fun env k r h => by
  obtain ⟨t, fr, ea, h1, h2⟩ := s1 env _ r h
  obtain ⟨c, rfl, h3⟩ := cBl_ok h2
  rw [bnot_eq] at h3
  exact ⟨_, _, ea, by simp only [ev, h1, R.bind, asBl], h3⟩
theorem s_ite {c a b : E} {cc ca cb : C} (s0 : SndC Φ Ψ c cc) (s1 : SndC Φ Ψ a ca) (s2 : SndC Φ Ψ b cb) : SndC Φ Ψ (.ite c a b) (cIte cc ca cb) := fun env k r h => by
  obtain ⟨t, fr, ea, h1, h2⟩ := s0 env _ r h
  obtain ⟨d, rfl, h3⟩ := cBl_ok h2
  rw [bIf_eq] at h3
  cases d with
  | true =>
    obtain ⟨u, fr2, eb, h4, h5⟩ := s1 ea _ r h3
    exact ⟨u, fr2, eb, by simp only [ev, h1, R.bind, asBl, if_true, h4], h5⟩
  | false =>
    obtain ⟨u, fr2, eb, h4, h5⟩ := s2 ea _ r h3
    exact ⟨u, fr2, eb, by simp only [ev, h1, R.bind, asBl, Bool.false_eq_true, if_false, h4], h5⟩
def cChain (f g : F2) (a b c : Op) : C := fun env k => opE a env fun x env => opE b env fun y env => resK x env fun t => resK y env fun u => f t u fun w _ => cBl w (fun d => bIf d (opE c env fun z env => resK y env fun u => resK z env fun v => g u v fun w _ => k w false env) (k (.bl false) false env)) none
theorem s_chain {o1 o2 : Prim} {f g : F2} (hf : SndP2 o1 f) (hg : SndP2 o2 g) {a b c : E} {oa ob oc : Op} (s1 : SndO Φ Ψ a oa) (s2 : SndO Φ Ψ b ob) (s3 : SndO Φ Ψ c oc) : SndC Φ Ψ (.chain o1 o2 a b c) (cChain f g oa ob oc) := fun env k r h => by
  obtain ⟨x, ea, h1, h2, _⟩ := opE_ok s1 h
  obtain ⟨y, eb, h3, h4, _⟩ := opE_ok s2 h2
  obtain ⟨t, h5, h6⟩ := resK_ok h4
  obtain ⟨u, h7, h8⟩ := resK_ok h6
  obtain ⟨w, h9, h10⟩ := hf t u _ r h8
  obtain ⟨d, rfl, h11⟩ := cBl_ok h10
  rw [bIf_eq] at h11
  cases d with
  | false => exact ⟨_, _, eb, by simp only [ev, h1, h3, R.bind, vals, h5, h7, R.opt, h9, asBl, Bool.false_eq_true, if_false], h11⟩
  | true =>
    rw [if_pos rfl] at h11
    obtain ⟨z, ec, h12, h13, _⟩ := opE_ok s3 h11
    obtain ⟨u', h14, h15⟩ := resK_ok h13
    obtain ⟨v, h16, h17⟩ := resK_ok h15
    obtain ⟨w', h18, h19⟩ := hg u' v _ r h17
    exact ⟨w', false, ec, by simp only [ev, h1, h3, R.bind, vals, h5, h7, R.opt, h9, asBl, if_true, h12, h14, h16, h18], h19⟩
/-! ### calls -/
def SndF (Φ : Nat → Fn) (f : Nat) (c : FnC) : Prop := ∀ ts k r, c ts k = some r → ∃ t fr out, Φ f ts = .ok (t, fr, out) ∧ k t fr out = some r
def cCallV (fn : FnC) (cs : List C) : C := fun env k => evL cs env fun ts env => fn ts fun t fr out => Option.rec (k t fr env) (fun _ => none) out
theorem s_callV {f : Nat} {fn : FnC} (hf : SndF Φ f fn) {es : List E} {cs : List C} (s : SndCs Φ Ψ es cs) : SndC Φ Ψ (.call f es) (cCallV fn cs) := fun env k r h => by
  obtain ⟨os, ts, ea, h1, h2, h3, h4, h5, h6, h7, h8⟩ := evL_ok s h
  obtain ⟨t, fr, out, h9, h10⟩ := hf ts _ r h8
  cases out with
  | some o => exact noA h10
  | none => exact ⟨t, fr, ea, by simp only [ev, h1, R.bind, h3, R.opt, h6, if_true, h9, h5, putIo], h10⟩
def putK (i : Option Nat) (o : Option T) (env : En) (k : En → Ans) : Ans := Option.rec (Option.rec (k env) (fun _ => none) o) (fun i => Option.rec none (fun t => oSl (gs env i) fun _ m => Md.rec (k (ss env i (some ⟨t, .own⟩))) none (k (ss env i (some ⟨t, .io⟩))) m) o) i
theorem putK_ok {i : Option Nat} {o : Option T} {env : En} {k : En → Ans} {r : T} (h : putK i o env k = some r) : ∃ e, putIo i o env = .ok e ∧ k e = some r := by
  cases i with
  | none =>
    cases o with
    | none => exact ⟨env, rfl, h⟩
    | some t => exact noA h
  | some i =>
    cases o with
    | none => exact noA h
    | some t =>
      replace h : oSl (gs env i) (fun _ m => Md.rec (motive := fun _ => Ans) (k (ss env i (some ⟨t, .own⟩))) none (k (ss env i (some ⟨t, .io⟩))) m) = some r := h
      obtain ⟨u, m, h1, h2⟩ := oSl_ok h
      rcases md_w h2 with ⟨rfl, h3⟩ | ⟨rfl, h3⟩
      · rw [ss_eq] at h3
        exact ⟨_, by rw [putIo, upS, h1]; rfl, h3⟩
      · rw [ss_eq] at h3
        exact ⟨_, by rw [putIo, upS, h1]; rfl, h3⟩
def cCall (fn : FnC) (os : List Op) : C := fun env k => opEs os env fun xs env => valsK xs env fun ts => fn ts fun t fr out => putK (ioO xs) out env fun env => k t fr env
theorem s_call {f : Nat} {fn : FnC} (hf : SndF Φ f fn) {es : List E} {os : List Op} (s : SndOs Φ Ψ es os) (hp : ∀ o ∈ os, ∀ i, o ≠ .p i) : SndC Φ Ψ (.call f es) (cCall fn os) := fun env k r h => by
  obtain ⟨xs, ea, h1, h2, h3⟩ := opEs_ok s h
  have h3 := h3 hp
  obtain ⟨ts, h4, h5⟩ := valsK_ok h2
  obtain ⟨t, fr, out, h6, h7⟩ := hf ts _ r h5
  obtain ⟨eb, h8, h9⟩ := putK_ok h7
  exact ⟨t, fr, eb, by simp only [ev, h1, R.bind, h4, R.opt, h3, if_true, h6, h8], h9⟩
end FE
end
/-! DFast3: comprehensions, dicts, pops, statements, defs with continuations. -/
noncomputable section
namespace FE
variable [DD.Mode]
open PySem DD
variable {Φ Ψ : Nat → Fn} {W : Nat}
/-! ### targets -/
theorem bk {α β : Type} {r : R α} {f : α → R β} {a : α} (h : r = .ok a) : r.bind f = f a := by rw [h]; rfl
theorem ro {α : Type} {o : Option α} {a : α} (h : o = some a) : R.opt o = .ok a := by rw [h]; rfl
abbrev PC := T → En → (En → Ans) → Ans
def SndP (g : P) (pc : PC) : Prop := ∀ t env f r, pc t env f = some r → ∃ e, asgP g t env = .ok e ∧ f e = some r
inductive SndPs : List P → List PC → Prop where
  | nil : SndPs [] []
  | cons {g : P} {pc : PC} {gs : List P} {pcs : List PC} : SndP g pc → SndPs gs pcs → SndPs (g :: gs) (pc :: pcs)
def pS (i : Nat) : PC := fun t env f => setK env i (some ⟨t, .sh⟩) f
theorem sp_s {i : Nat} : SndP (.s i) (pS i) := fun t env f r h => by
  obtain ⟨e, h1, h2⟩ := setK_inv (fr := false) h
  exact ⟨e, by rw [asgP]; exact h1, h2⟩
def pTs (pcs : List PC) : List T → En → (En → Ans) → Ans := List.rec (motive := fun _ => List T → En → (En → Ans) → Ans) (fun ts env f => List.rec (motive := fun _ => Ans) (f env) (fun _ _ _ => none) ts) (fun pc _ ih ts env f => List.rec (motive := fun _ => Ans) none (fun t r _ => pc t env fun env => ih r env f) ts) pcs
theorem pTs_ok : ∀ {gs : List P} {pcs : List PC}, SndPs gs pcs → ∀ {ts : List T} {env : En} {f : En → Ans} {r : T}, pTs pcs ts env f = some r → gs.length = ts.length ∧ ∃ e, asgPs gs ts env = .ok e ∧ f e = some r
  | _, _, .nil, ts, env, f, r, h => by
    cases ts with
    | nil => exact ⟨rfl, env, by rw [asgPs], h⟩
    | cons t ts => exact noA h
  | _, _, .cons (g := g) (pc := pc) (gs := gs) (pcs := pcs) s ss, ts, env, f, r, h => by
    cases ts with
    | nil => exact noA h
    | cons t ts =>
      obtain ⟨e, h1, h2⟩ := s t env _ r (show pc t env (fun env => pTs pcs ts env f) = some r from h)
      obtain ⟨h3, e', h4, h5⟩ := pTs_ok ss h2
      exact ⟨by simp [h3], e', by simp only [asgPs, h1, R.bind, h4], h5⟩
def pT (pcs : List PC) : PC := fun t env f => cTup t (fun ts => pTs pcs ts env f) none
theorem sp_t {gs : List P} {pcs : List PC} (s : SndPs gs pcs) : SndP (.t gs) (pT pcs) := fun t env f r h => by
  cases t with
  | tup ts =>
    obtain ⟨h1, e, h2, h3⟩ := pTs_ok s (show pTs pcs ts env f = some r from h)
    exact ⟨e, by rw [asgP, if_pos (by rw [h1]; exact beq_self_eq_true _)]; exact h2, h3⟩
  | _ => exact noA h
/-! ### what is walked -/
abbrev IC := En → (List T → En → Ans) → Ans
def SndI (Φ Ψ : Nat → Fn) (k : ItK) (es : List E) (ic : IC) : Prop := ∀ env f r, ic env f = some r → ∃ os env' ts xs, evs Φ Ψ es env = .ok (os, env') ∧ plainK k os = some ts ∧ k.walk ts = some xs ∧ f xs env' = some r
def iVal (c : C) : IC := fun env f => c env fun t _ env => cSeq t (fun xs => f xs env) none
theorem si_val {e : E} {c : C} (s : SndC Φ Ψ e c) : SndI Φ Ψ .val [e] (iVal c) := fun env f r h => by
  obtain ⟨t, fr, ea, h1, h2⟩ := s env _ r h
  cases t with
  | tup xs => exact ⟨[.v (.tup xs) fr], ea, [.tup xs], xs, by simp only [evs, h1, R.bind], rfl, rfl, h2⟩
  | lst xs => exact ⟨[.v (.lst xs) fr], ea, [.lst xs], xs, by simp only [evs, h1, R.bind], rfl, rfl, h2⟩
  | _ => exact noA h2
def rng (lo : Int) (n : Nat) : List T := Nat.rec (motive := fun _ => Int → List T) (fun _ => []) (fun _ ih lo => .int lo :: ih (iadd lo 1)) n lo
theorem rng_eq : ∀ (n : Nat) (lo : Int), rng lo n = rangeT lo n
  | 0, lo => rfl
  | n + 1, lo => by
    show T.int lo :: rng (iadd lo 1) n = _
    rw [rng_eq n, iadd_eq, rangeT]
def nmax := 4611686018427387903
def toN (i : Int) : Nat := Int.rec (fun n => n) (fun _ => 0) i
theorem toN_eq (i : Int) : toN i = i.toNat := by cases i <;> rfl
def in6 (i : Int) : Bool := Int.rec (fun n => Nat.ble n 4611686018427387903) (fun n => Nat.ble n 4611686018427387903) i
theorem in6_ok {i : Int} (h : in6 i = true) : in62 i = true := by
  unfold in62
  cases i with
  | ofNat n =>
    have h := Nat.le_of_ble_eq_true (show Nat.ble n 4611686018427387903 = true from h)
    rw [Bool.and_eq_true, decide_eq_true_eq, decide_eq_true_eq]
    show -(2 ^ 62) ≤ (n : Int) ∧ (n : Int) < 2 ^ 62
    omega
  | negSucc n =>
    have h := Nat.le_of_ble_eq_true (show Nat.ble n 4611686018427387903 = true from h)
    rw [Bool.and_eq_true, decide_eq_true_eq, decide_eq_true_eq, Int.negSucc_eq]
    omega
def iR1 (c : C) : IC := fun env f => c env fun t _ env => cInt t (fun j => bIf (in6 j) (f (rng 0 (toN j)) env) none) none
theorem si_r1 {e : E} {c : C} (s : SndC Φ Ψ e c) : SndI Φ Ψ .range1 [e] (iR1 c) := fun env f r h => by
  obtain ⟨t, fr, ea, h1, h2⟩ := s env _ r h
  obtain ⟨j, rfl, h3⟩ := cInt_ok h2
  rw [bIf_eq] at h3
  split at h3
  · rename_i q
    rw [rng_eq, toN_eq] at h3
    exact ⟨[.v (.int j) fr], ea, [.int j], _, by simp only [evs, h1, R.bind], rfl, by simp only [ItK.walk, in6_ok q, if_true], h3⟩
  · cases h3
def iR2 (c d : C) : IC := fun env f => c env fun t _ env => d env fun u _ env => cInt t (fun i => cInt u (fun j => bIf (in6 i) (bIf (in6 j) (f (rng i (toN (isub j i))) env) none) none) none) none
theorem si_r2 {e e' : E} {c d : C} (s : SndC Φ Ψ e c) (s' : SndC Φ Ψ e' d) : SndI Φ Ψ .range2 [e, e'] (iR2 c d) := fun env f r h => by
  obtain ⟨t, fr, ea, h1, h2⟩ := s env _ r h
  obtain ⟨u, fr2, eb, h4, h5⟩ := s' ea _ r h2
  obtain ⟨i, rfl, h6⟩ := cInt_ok h5
  obtain ⟨j, rfl, h3⟩ := cInt_ok h6
  rw [bIf_eq] at h3
  split at h3
  · rename_i q
    rw [bIf_eq] at h3
    split at h3
    · rename_i q'
      rw [rng_eq, toN_eq, isub_eq] at h3
      exact ⟨[.v (.int i) fr, .v (.int j) fr2], eb, [.int i, .int j], _, by simp only [evs, h1, h4, R.bind], rfl, by simp only [ItK.walk, in6_ok q, in6_ok q', Bool.and_self, if_true], h3⟩
    · cases h3
  · cases h3
def enumN (xs : List T) : Nat → List T := List.rec (motive := fun _ => Nat → List T) (fun _ => []) (fun x _ ih n => .tup [.int (Int.ofNat n), x] :: ih (Nat.succ n)) xs
theorem enumN_eq : ∀ (xs : List T) (n : Nat), enumN xs n = enumT n xs
  | [], n => rfl
  | x :: xs, n => by
    show T.tup [.int (Int.ofNat n), x] :: enumN xs (n + 1) = _
    rw [enumN_eq xs, enumT]; rfl
def iEnum (c : C) : IC := fun env f => c env fun t _ env => cSeq t (fun xs => f (enumN xs 0) env) none
theorem si_enum {e : E} {c : C} (s : SndC Φ Ψ e c) : SndI Φ Ψ .enum [e] (iEnum c) := fun env f r h => by
  obtain ⟨t, fr, ea, h1, h2⟩ := s env _ r h
  cases t with
  | tup xs =>
    replace h2 : f (enumN xs 0) ea = some r := h2
    rw [enumN_eq] at h2
    exact ⟨[.v (.tup xs) fr], ea, [.tup xs], _, by simp only [evs, h1, R.bind], rfl, rfl, h2⟩
  | lst xs =>
    replace h2 : f (enumN xs 0) ea = some r := h2
    rw [enumN_eq] at h2
    exact ⟨[.v (.lst xs) fr], ea, [.lst xs], _, by simp only [evs, h1, R.bind], rfl, rfl, h2⟩
  | _ => exact noA h2
def zipN (xs : List T) : List T → List T := List.rec (motive := fun _ => List T → List T) (fun _ => []) (fun x _ ih ys => List.rec (motive := fun _ => List T) [] (fun y s _ => .tup [x, y] :: ih s) ys) xs
theorem zipN_eq : ∀ (xs ys : List T), zipN xs ys = zipT xs ys
  | [], ys => by simp [zipN, zipT]
  | x :: xs, [] => by simp [zipT]; rfl
  | x :: xs, y :: ys => by
    show T.tup [x, y] :: zipN xs ys = _
    rw [zipN_eq xs, zipT]
def iZip (c d : C) : IC := fun env f => c env fun t _ env => d env fun u _ env => cTup t (fun xs => cTup u (fun ys => f (zipN xs ys) env) none) (cLst t (fun xs => cLst u (fun ys => f (zipN xs ys) env) none) none)
theorem si_zip {e e' : E} {c d : C} (s : SndC Φ Ψ e c) (s' : SndC Φ Ψ e' d) : SndI Φ Ψ .zip [e, e'] (iZip c d) := fun env f r h => by
  obtain ⟨t, fr, ea, h1, h2⟩ := s env _ r h
  obtain ⟨u, fr2, eb, h4, h5⟩ := s' ea _ r h2
  cases t with
  | tup xs =>
    cases u with
    | tup ys =>
      replace h5 : f (zipN xs ys) eb = some r := h5
      rw [zipN_eq] at h5
      exact ⟨[.v _ fr, .v _ fr2], eb, [.tup xs, .tup ys], _, by simp only [evs, h1, h4, R.bind], rfl, rfl, h5⟩
    | _ => exact noA h5
  | lst xs =>
    cases u with
    | lst ys =>
      replace h5 : f (zipN xs ys) eb = some r := h5
      rw [zipN_eq] at h5
      exact ⟨[.v _ fr, .v _ fr2], eb, [.lst xs, .lst ys], _, by simp only [evs, h1, h4, R.bind], rfl, rfl, h5⟩
    | _ => exact noA h5
  | _ => exact noA h5
def keysN (kvs : List (T × T)) : List T := List.rec (motive := fun _ => List T) [] (fun p _ ih => p.1 :: ih) kvs
theorem keysN_eq : ∀ kvs : List (T × T), keysN kvs = kvs.map (·.1)
  | [] => rfl
  | p :: kvs => by show p.1 :: keysN kvs = _; rw [keysN_eq kvs]; rfl
def itemsN (kvs : List (T × T)) : List T := List.rec (motive := fun _ => List T) [] (fun p _ ih => .tup [p.1, p.2] :: ih) kvs
theorem itemsN_eq : ∀ kvs : List (T × T), itemsN kvs = kvs.map fun p => .tup [p.1, p.2]
  | [] => rfl
  | p :: kvs => by show T.tup [p.1, p.2] :: itemsN kvs = _; rw [itemsN_eq kvs]; rfl
def iKeys (c : C) : IC := fun env f => c env fun t fr env => bIf fr (cDct t (fun kvs => f (keysN kvs) env) none) none
def iItems (c : C) : IC := fun env f => c env fun t fr env => bIf fr (cDct t (fun kvs => f (itemsN kvs) env) none) none
theorem si_keys {e : E} {c : C} (s : SndC Φ Ψ e c) : SndI Φ Ψ .keys [e] (iKeys c) := fun env f r h => by
  obtain ⟨t, fr, ea, h1, h2⟩ := s env _ r h
  rw [bIf_eq] at h2
  cases fr with
  | false => exact noA h2
  | true =>
    cases t with
    | dct kvs =>
      replace h2 : f (keysN kvs) ea = some r := h2
      rw [keysN_eq] at h2
      exact ⟨[.v _ true], ea, [.dct kvs], _, by simp only [evs, h1, R.bind], rfl, rfl, h2⟩
    | _ => exact noA h2
theorem si_items {e : E} {c : C} (s : SndC Φ Ψ e c) : SndI Φ Ψ .items [e] (iItems c) := fun env f r h => by
  obtain ⟨t, fr, ea, h1, h2⟩ := s env _ r h
  rw [bIf_eq] at h2
  cases fr with
  | false => exact noA h2
  | true =>
    cases t with
    | dct kvs =>
      replace h2 : f (itemsN kvs) ea = some r := h2
      rw [itemsN_eq] at h2
      exact ⟨[.v _ true], ea, [.dct kvs], _, by simp only [evs, h1, R.bind], rfl, rfl, h2⟩
    | _ => exact noA h2
/-! ### comprehensions -/
def wp (own : List Nat) (env : En) : En := List.rec (motive := fun _ => En) env (fun i _ ih => ss ih i none) own
theorem wp_eq : ∀ (own : List Nat) (env : En), wp own env = wipeE env own
  | [], env => rfl
  | i :: is, env => by show ss (wp is env) i none = _; rw [ss_eq, wp_eq is, wipeE]
def svF (o : Option Sl) : Option Sl := Option.rec none (fun s => Sl.rec (fun t m => Md.rec (some ⟨t, .own⟩) (some ⟨t, .sh⟩) none m) s) o
def ub (old : En) (own : List Nat) : En → En := List.rec (motive := fun _ => En → En) (fun e => e) (fun i _ ih e => ih (ss e i (svF (gs old i)))) own
theorem svF_eq (old : En) (i : Nat) : svF (gs old i) = sav old i := by
  rw [gs_eq]
  unfold sav
  cases e : getS old i with
  | none => rfl
  | some s => obtain ⟨t, m⟩ := s; cases m <;> rfl
theorem ub_eq (old : En) : ∀ (own : List Nat) (e : En), ub old own e = unE old e own
  | [], e => by rw [unE]; rfl
  | i :: is, e => by
    show ub old is (ss e i (svF (gs old i))) = _
    rw [svF_eq, ss_eq, ub_eq old is, unE]
abbrev CC := En → (Bool → En → Ans) → Ans
def SndCC (Φ Ψ : Nat → Fn) (c : Option E) (cc : CC) : Prop := ∀ env f r, cc env f = some r → ∃ b env', evc Φ Ψ c env = .ok (b, env') ∧ f b env' = some r
def ccN : CC := fun env f => f true env
def ccS (c : C) : CC := fun env f => c env fun t _ env => cBl t (fun b => f b env) none
theorem sc_none : SndCC Φ Ψ none ccN := fun env f r h => ⟨true, env, by rw [evc], h⟩
theorem sc_some {e : E} {c : C} (s : SndC Φ Ψ e c) : SndCC Φ Ψ (some e) (ccS c) := fun env f r h => by
  obtain ⟨t, fr, ea, h1, h2⟩ := s env _ r h
  obtain ⟨b, rfl, h3⟩ := cBl_ok h2
  exact ⟨b, ea, by simp only [evc, h1, R.bind, asBl], h3⟩
def lpC (pc : PC) (own : List Nat) (cc : CC) (c : C) (xs : List T) : List T → En → (List T → En → Ans) → Ans :=
  List.rec (motive := fun _ => List T → En → (List T → En → Ans) → Ans) (fun acc env f => f acc env) (fun x _ ih acc env f => pc x (wp own env) fun env => cc env fun b env => bIf b (c env fun t _ env => ih (t :: acc) env f) (ih acc env f)) xs
theorem lpC_ok {g : P} {pc : PC} {own : List Nat} {cond : Option E} {cc : CC} {e : E} {c : C} (sp : SndP g pc) (scc : SndCC Φ Ψ cond cc) (sc : SndC Φ Ψ e c) :
    ∀ {xs acc : List T} {env : En} {f : List T → En → Ans} {r : T}, lpC pc own cc c xs acc env f = some r → ∃ ys env', acc.length ≤ ys.length ∧ (ys.length ≤ line → loopC (fun e' => ev Φ Ψ e e') (fun e' => evc Φ Ψ cond e') g own xs acc.reverse env = .ok (ys.reverse, env')) ∧ f ys env' = some r
  | [], acc, env, f, r, h => ⟨acc, env, Nat.le_refl _, fun _ => by rw [loopC], h⟩
  | x :: xs, acc, env, f, r, h => by
    obtain ⟨e1, h1, h2⟩ := sp x (wp own env) _ r h
    rw [wp_eq] at h1
    obtain ⟨b, e2, h3, h4⟩ := scc e1 _ r h2
    rw [bIf_eq] at h4
    cases b with
    | false =>
      rw [if_neg Bool.false_ne_true] at h4
      obtain ⟨ys, e3, l, h5, h6⟩ := lpC_ok sp scc sc h4
      exact ⟨ys, e3, l, fun q => by simp only [loopC, h1, R.bind, h3, Bool.false_eq_true, if_false]; exact h5 q, h6⟩
    | true =>
      rw [if_pos rfl] at h4
      obtain ⟨t, fr, e3, h7, h8⟩ := sc e2 _ r h4
      obtain ⟨ys, e4, l, h5, h6⟩ := lpC_ok sp scc sc (acc := t :: acc) h8
      refine ⟨ys, e4, by simp at l; omega, fun q => ?_, h6⟩
      have hl : acc.reverse.length < line := by rw [List.length_reverse]; simp at l; omega
      simp only [loopC, h1, R.bind, h3, if_true, h7, hl]
      have := h5 q
      rw [List.reverse_cons] at this
      exact this
def cComp (own : List Nat) (pc : PC) (ic : IC) (cc : CC) (c : C) : C := fun env k => ic env fun xs env => lpC pc own cc c xs [] env fun ys env' => bIf (Nat.ble (llen ys 0) 16777216) (k (.lst (lrev ys [])) true (ub env own (wp own env'))) none
theorem s_comp {own : List Nat} {g : P} {k : ItK} {es : List E} {cond : Option E} {e : E} {pc : PC} {ic : IC} {cc : CC} {c : C} (sp : SndP g pc) (si : SndI Φ Ψ k es ic) (scc : SndCC Φ Ψ cond cc) (sc : SndC Φ Ψ e c) : SndC Φ Ψ (.comp own g k es cond e) (cComp own pc ic cc c) := fun env kk r h => by
  obtain ⟨os, e1, ts, xs, h1, h2, h3, h4⟩ := si env _ r h
  obtain ⟨ys, e2, _, h5, h6⟩ := lpC_ok sp scc sc h4
  rw [bIf_eq] at h6
  split at h6
  · rename_i q
    have q := Nat.le_of_ble_eq_true q
    rw [llen_eq] at q
    have h7 := h5 (by unfold line; omega)
    rw [lrev_eq, List.append_nil, ub_eq, wp_eq] at h6
    exact ⟨_, _, _, by rw [ev]; exact (bk h1).trans ((bk (ro h2)).trans ((bk (ro h3)).trans (bk h7))), h6⟩
  · cases h6
def lpC2 (pc : PC) (own : List Nat) (h : List T → En → (List T → En → Ans) → Ans) (xs : List T) : List T → En → (List T → En → Ans) → Ans :=
  List.rec (motive := fun _ => List T → En → (List T → En → Ans) → Ans) (fun acc env f => f acc env) (fun x _ ih acc env f => pc x (wp own env) fun env => h acc env fun acc env => ih acc env f) xs
def cComp2 (own : List Nat) (pc : PC) (ic : IC) (pc2 : PC) (ic2 : IC) (own2 : List Nat) (cc : CC) (c : C) : C := fun env k => ic env fun xs env => lpC2 pc own (fun acc env f => ic2 env fun ys env => lpC pc2 own2 cc c ys acc env f) xs [] env fun ys env' => bIf (Nat.ble (llen ys 0) 16777216) (k (.lst (lrev ys [])) true (ub env own (wp own env'))) none
theorem lpC2_ok {g g2 : P} {pc pc2 : PC} {own own2 : List Nat} {k2 : ItK} {es2 : List E} {ic2 : IC} {cond : Option E} {cc : CC} {e : E} {c : C} (sp : SndP g pc) (si2 : SndI Φ Ψ k2 es2 ic2) (sp2 : SndP g2 pc2) (scc : SndCC Φ Ψ cond cc) (sc : SndC Φ Ψ e c) :
    ∀ {xs acc : List T} {env : En} {f : List T → En → Ans} {r : T}, lpC2 pc own (fun acc env f => ic2 env fun ys env => lpC pc2 own2 cc c ys acc env f) xs acc env f = some r → ∃ ys env', acc.length ≤ ys.length ∧ (ys.length ≤ line → loopC2 (fun acc env => (evs Φ Ψ es2 env).bind fun (os, env) => (R.opt (plainK k2 os)).bind fun ts => (R.opt (k2.walk ts)).bind fun ys => loopC (fun e' => ev Φ Ψ e e') (fun e' => evc Φ Ψ cond e') g2 own2 ys acc env) g own xs acc.reverse env = .ok (ys.reverse, env')) ∧ f ys env' = some r
  | [], acc, env, f, r, h => ⟨acc, env, Nat.le_refl _, fun _ => by rw [loopC2], h⟩
  | x :: xs, acc, env, f, r, h => by
    obtain ⟨e1, h1, h2⟩ := sp x (wp own env) _ r h
    rw [wp_eq] at h1
    obtain ⟨os, e2, ts, ys, h3, h4, h5, h6⟩ := si2 e1 _ r h2
    obtain ⟨zs, e3, l1, h7, h8⟩ := lpC_ok sp2 scc sc h6
    obtain ⟨us, e4, l2, h9, h10⟩ := lpC2_ok sp si2 sp2 scc sc h8
    refine ⟨us, e4, Nat.le_trans l1 l2, fun q => ?_, h10⟩
    simp only [loopC2, h1, R.bind, h3, h4, R.opt, h5, h7 (Nat.le_trans l2 q)]
    exact h9 q
theorem s_comp2 {own own2 : List Nat} {g g2 : P} {k k2 : ItK} {es es2 : List E} {cond : Option E} {e : E} {pc pc2 : PC} {ic ic2 : IC} {cc : CC} {c : C} (sp : SndP g pc) (si : SndI Φ Ψ k es ic) (sp2 : SndP g2 pc2) (si2 : SndI Φ Ψ k2 es2 ic2) (scc : SndCC Φ Ψ cond cc) (sc : SndC Φ Ψ e c) : SndC Φ Ψ (.comp2 own g k es g2 k2 es2 own2 cond e) (cComp2 own pc ic pc2 ic2 own2 cc c) := fun env kk r h => by
  obtain ⟨os, e1, ts, xs, h1, h2, h3, h4⟩ := si env _ r h
  obtain ⟨ys, e2, _, h5, h6⟩ := lpC2_ok sp si2 sp2 scc sc h4
  rw [bIf_eq] at h6
  split at h6
  · rename_i q
    have q := Nat.le_of_ble_eq_true q
    rw [llen_eq] at q
    have h7 := h5 (by unfold line; omega)
    rw [lrev_eq, List.append_nil, ub_eq, wp_eq] at h6
    rw [List.reverse_nil] at h7
    exact ⟨_, _, _, by rw [ev]; exact (bk h1).trans ((bk (ro h2)).trans ((bk (ro h3)).trans (bk h7))), h6⟩
  · cases h6
/-! ### dicts -/
def mpF (k v : T) (kvs : List (T × T)) : (List (T × T) → Ans) → Ans := List.rec (motive := fun _ => (List (T × T) → Ans) → Ans) (fun f => f []) (fun p _ ih f => Prod.rec (fun a b => keyF a k fun c => bIf c (ih fun r => f ((a, v) :: r)) (ih fun r => f ((a, b) :: r))) p) kvs
theorem mpF_ok {k v : T} : ∀ {kvs : List (T × T)} {f : List (T × T) → Ans} {r : T}, mpF k v kvs f = some r → f (kvs.map fun p => if T.beq p.1 k then (p.1, v) else p) = some r
  | [], f, r, h => h
  | (a, b) :: kvs, f, r, h => by
    have h := keyF_ok (show keyF a k (fun c => bIf c (mpF k v kvs fun r => f ((a, v) :: r)) (mpF k v kvs fun r => f ((a, b) :: r))) = some r from h)
    rw [bIf_eq] at h
    rw [List.map_cons]
    split at h
    · rename_i q; simp only [q, if_true]; exact mpF_ok h
    · rename_i q; simp only [q, Bool.false_eq_true, if_false]; exact mpF_ok h
def snocD (kvs : List (T × T)) (p : T × T) : List (T × T) := List.rec (motive := fun _ => List (T × T)) [p] (fun x _ ih => x :: ih) kvs
theorem snocD_eq : ∀ (kvs : List (T × T)) (p : T × T), snocD kvs p = kvs ++ [p]
  | [], p => rfl
  | x :: kvs, p => by show x :: snocD kvs p = _; rw [snocD_eq kvs]; rfl
theorem look_any {k : T} : ∀ {kvs : List (T × T)}, (kvs.any fun p => T.beq p.1 k) = (lookT k kvs).isSome
  | [] => rfl
  | (a, b) :: kvs => by
    rw [List.any_cons, lookT]
    cases q : T.beq a k with
    | true => simp
    | false => simp only [Bool.false_or, Bool.false_eq_true, if_false]; exact look_any
def putF (k v : T) (kvs : List (T × T)) (f : List (T × T) → Ans) : Ans := look k kvs (fun _ => mpF k v kvs f) (f (snocD kvs (k, v)))
theorem putF_ok {k v : T} {kvs : List (T × T)} {f : List (T × T) → Ans} {r : T} (h : putF k v kvs f = some r) : f (putT k v kvs) = some r := by
  have h := look_ok h
  unfold putT
  rw [look_any]
  cases e : lookT k kvs with
  | none => rw [e] at h; rw [snocD_eq] at h; exact h
  | some t => rw [e] at h; exact mpF_ok h
def dlen (kvs : List (T × T)) : Nat → Nat := List.rec (motive := fun _ => Nat → Nat) (fun n => n) (fun _ _ ih n => ih (Nat.succ n)) kvs
theorem dlen_eq : ∀ (xs : List (T × T)) (n : Nat), dlen xs n = n + xs.length
  | [], n => rfl
  | x :: xs, n => by show dlen xs (n + 1) = _; rw [dlen_eq xs, List.length_cons]; omega
/-- a dict with one pair more -/
def putDF (k v : T) (kvs : List (T × T)) (f : List (T × T) → Ans) : Ans := fitF k kvs (bIf (Nat.ble (dlen kvs 1) 16777216) (putF k v kvs f) none)
theorem putDF_ok {k v : T} {kvs : List (T × T)} {f : List (T × T) → Ans} {r : T} (h : putDF k v kvs f = some r) : ∃ d, putD k v kvs = some d ∧ f d = some r := by
  obtain ⟨h1, h2⟩ := fitF_ok h
  rw [bIf_eq] at h2
  split at h2
  · rename_i q
    have q := Nat.le_of_ble_eq_true q
    rw [dlen_eq] at q
    refine ⟨_, ?_, putF_ok h2⟩
    unfold putD
    rw [h1, decide_eq_true (show kvs.length < line by unfold line; omega)]
    rfl
  · cases h2
def key0F (k : T) (a : Ans) : Ans := cInt k (fun _ => a) (bIf (isKey0 k) a none)
theorem key0F_ok {k : T} {a : Ans} {r : T} (h : key0F k a = some r) : isKey0 k = true ∧ a = some r := by
  have gen : ∀ k, bIf (isKey0 k) a none = some r → isKey0 k = true ∧ a = some r := fun k h => by
    rw [bIf_eq] at h
    split at h
    · exact ⟨by assumption, h⟩
    · cases h
  cases k with
  | int i => exact ⟨rfl, h⟩
  | _ => exact gen _ h
def lpD (pc : PC) (own : List Nat) (ck cv : C) (xs : List T) : List (T × T) → En → (List (T × T) → En → Ans) → Ans :=
  List.rec (motive := fun _ => List (T × T) → En → (List (T × T) → En → Ans) → Ans) (fun acc env f => f acc env) (fun x _ ih acc env f => pc x (wp own env) fun env => ck env fun kt _ env => cv env fun vt _ env => fitF kt acc (bIf (Nat.ble (dlen acc 1) 16777216) (putF kt vt acc fun acc => ih acc env f) none)) xs
theorem lpD_ok {g : P} {pc : PC} {own : List Nat} {ke ve : E} {ck cv : C} (sp : SndP g pc) (sk : SndC Φ Ψ ke ck) (sv : SndC Φ Ψ ve cv) :
    ∀ {xs : List T} {acc : List (T × T)} {env : En} {f : List (T × T) → En → Ans} {r : T}, lpD pc own ck cv xs acc env f = some r → ∃ ys env', loopD (fun e => (ev Φ Ψ ke e).bind fun (o, e) => (ev Φ Ψ ve e).bind fun (p, e) => match o, p with
        | .v a _, .v b _ => .ok (a, b, e)
        | _, _ => .bad) g own xs acc env = .ok (ys, env') ∧ f ys env' = some r
  | [], acc, env, f, r, h => ⟨acc, env, by rw [loopD], h⟩
  | x :: xs, acc, env, f, r, h => by
    obtain ⟨e1, h1, h2⟩ := sp x (wp own env) _ r h
    rw [wp_eq] at h1
    obtain ⟨kt, f1, e2, h3, h4⟩ := sk e1 _ r h2
    obtain ⟨vt, f2, e3, h5, h6⟩ := sv e2 _ r h4
    obtain ⟨h7, h8⟩ := fitF_ok h6
    rw [bIf_eq] at h8
    split at h8
    · rename_i q
      have q := Nat.le_of_ble_eq_true q
      rw [dlen_eq] at q
      have hl : acc.length < line := by unfold line; omega
      obtain ⟨ys, e4, h9, h10⟩ := lpD_ok sp sk sv (putF_ok h8)
      refine ⟨ys, e4, ?_, h10⟩
      simp only [loopD, h1, R.bind, h3, h5, h7, decide_eq_true hl, Bool.and_self, if_true]
      simp only [R.bind] at h9
      exact h9
    · cases h8
def cDcomp (own : List Nat) (pc : PC) (ic : IC) (ck cv : C) : C := fun env k => ic env fun xs env => lpD pc own ck cv xs [] env fun ys env' => k (.dct ys) true (ub env own (wp own env'))
theorem s_dcomp {own : List Nat} {g : P} {k : ItK} {es : List E} {ke ve : E} {pc : PC} {ic : IC} {ck cv : C} (sp : SndP g pc) (si : SndI Φ Ψ k es ic) (sk : SndC Φ Ψ ke ck) (sv : SndC Φ Ψ ve cv) : SndC Φ Ψ (.dcomp own g k es ke ve) (cDcomp own pc ic ck cv) := fun env kk r h => by
  obtain ⟨os, e1, ts, xs, h1, h2, h3, h4⟩ := si env _ r h
  obtain ⟨ys, e2, h5, h6⟩ := lpD_ok sp sk sv h4
  rw [ub_eq, wp_eq] at h6
  exact ⟨_, _, _, by rw [ev]; exact (bk h1).trans ((bk (ro h2)).trans ((bk (ro h3)).trans (bk h5))), h6⟩
def cDct0 : C := fun env k => k (.dct []) true env
def cDct1 (a b : C) : C := fun env k => a env fun x _ env => b env fun y _ env => putDF x y [] fun d => k (.dct d) true env
theorem s_dct0 : SndC Φ Ψ (.dct []) cDct0 := fun env k r h => ⟨_, _, env, by simp only [ev, evkv, R.bind, mkD, R.opt], h⟩
theorem s_dct1 {a b : E} {ca cb : C} (s1 : SndC Φ Ψ a ca) (s2 : SndC Φ Ψ b cb) : SndC Φ Ψ (.dct [(a, b)]) (cDct1 ca cb) := fun env k r h => by
  obtain ⟨x, f1, e1, h1, h2⟩ := s1 env _ r h
  obtain ⟨y, f2, e2, h3, h4⟩ := s2 e1 _ r h2
  obtain ⟨d, h5, h6⟩ := putDF_ok h4
  exact ⟨_, _, e2, by simp only [ev, evkv, h1, h3, R.bind, mkD, h5, Option.bind_some, R.opt], h6⟩
theorem cDct_ok {t : T} {k : List (T × T) → Ans} {r : T} (h : cDct t k none = some r) : ∃ b, t = .dct b ∧ k b = some r := by
  cases t with
  | dct b => exact ⟨b, rfl, h⟩
  | _ => exact noA h
def notCell (t : T) (a : Ans) : Ans := cInt t (fun _ => a) (bIf (isCell0 t) none a)
theorem notCell_ok {t : T} {a : Ans} {r : T} (h : notCell t a = some r) : isCell0 t = false ∧ a = some r := by
  have gen : ∀ t, bIf (isCell0 t) none a = some r → isCell0 t = false ∧ a = some r := fun t h => by
    rw [bIf_eq] at h
    split at h
    · cases h
    · rename_i q; exact ⟨(Bool.not_eq_true _).mp q, h⟩
  cases t with
  | int i => exact ⟨rfl, h⟩
  | _ => exact gen _ h
def cGet (o : Op) (a d : C) : C := fun env k => opE o env fun x env => resK x env fun t => cDct t (fun _ => a env fun y _ env => d env fun z _ env => resK x env fun t => cDct t (fun kvs => fitF y kvs (notCell z (look y kvs (fun u => k u false env) (k z false env)))) none) none
theorem s_get {o a d : E} {oo : Op} {ca cd : C} (s0 : SndO Φ Ψ o oo) (s1 : SndC Φ Ψ a ca) (s2 : SndC Φ Ψ d cd) : SndC Φ Ψ (.get o a d) (cGet oo ca cd) := fun env k r h => by
  obtain ⟨x, e1, h1, h2, _⟩ := opE_ok s0 h
  obtain ⟨t, h3, h4⟩ := resK_ok h2
  obtain ⟨kvs0, rfl, h5⟩ := cDct_ok h4
  obtain ⟨y, f1, e2, h6, h7⟩ := s1 e1 _ r h5
  obtain ⟨z, f2, e3, h8, h9⟩ := s2 e2 _ r h7
  obtain ⟨t', h10, h11⟩ := resK_ok h9
  obtain ⟨kvs, rfl, h12⟩ := cDct_ok h11
  obtain ⟨h13, h14⟩ := fitF_ok h12
  obtain ⟨h15, h16⟩ := notCell_ok h14
  have h17 := look_ok h16
  have sem : sGet2 (.dct kvs) y z = some ((lookT y kvs).getD z) := by rw [sGet2, h13, h15]; rfl
  refine ⟨(lookT y kvs).getD z, false, e3, ?_, ?_⟩
  · have hv : vals e3 [x, .v y f1, .v z f2] = some [.dct kvs, y, z] := by rw [vals, h10]; rfl
    rw [ev]
    refine (bk h1).trans ?_
    dsimp only
    rw [h3]
    exact (bk h6).trans ((bk h8).trans ((bk (ro hv)).trans (bk (ro sem))))
  cases e : lookT y kvs with
  | none => rw [e] at h17; exact h17
  | some u => rw [e] at h17; exact h17
def cCnt (c a : C) : C := fun env k => c env fun t _ env => cSeq t (fun _ => a env fun x _ env => Option.rec none (fun u => k u false env) (sCount t x)) none
theorem s_cnt {o a : E} {c ca : C} (s0 : SndC Φ Ψ o c) (s1 : SndC Φ Ψ a ca) : SndC Φ Ψ (.cnt o a) (cCnt c ca) := fun env k r h => by
  obtain ⟨t, f1, e1, h1, h2⟩ := s0 env _ r h
  have h3 : ∃ xs, lstOf t = some xs ∧ (ca e1 fun x _ env => Option.rec none (fun u => k u false env) (sCount t x)) = some r := by
    cases t with
    | lst xs => exact ⟨xs, rfl, h2⟩
    | tup xs => exact ⟨xs, rfl, h2⟩
    | _ => exact noA h2
  obtain ⟨xs, hx, h3⟩ := h3
  obtain ⟨x, f2, e2, h4, h5⟩ := s1 e1 _ r h3
  cases e : sCount t x with
  | none => rw [e] at h5; exact noA h5
  | some u =>
    rw [e] at h5
    exact ⟨u, false, e2, by simp only [ev, h1, R.bind, hx, Option.isSome_some, if_true, h4, OV.res, R.opt, e], h5⟩
/-! ### pops -/
def mW (m : Md) (a b : Ans) : Ans := Md.rec a none b m
theorem mW_ok {m : Md} {a b : Ans} {r : T} (h : mW m a b = some r) : (m = .own ∧ a = some r) ∨ (m = .io ∧ b = some r) := md_w h
theorem upS_own {env : En} {i : Nat} {t : T} {m : Md} {f : T → Option T} {t' : T} (h : getS env i = some ⟨t, m⟩) (hm : m = .own ∨ m = .io) (hf : f t = some t') : upS env i f = .ok (env.set i (some ⟨t', m⟩)) := by
  unfold upS
  rw [h]
  rcases hm with rfl | rfl <;> (dsimp only; rw [hf]; rfl)
/-- a slot that is owned or lent gets another value -/
def upK (env : En) (i : Nat) (m : Md) (t : T) (f : En → Ans) : Ans := mW m (f (ss env i (some ⟨t, .own⟩))) (f (ss env i (some ⟨t, .io⟩)))
theorem upK_ok {env : En} {i : Nat} {m : Md} {t : T} {f : En → Ans} {r : T} (h : upK env i m t f = some r) : (m = .own ∨ m = .io) ∧ f (env.set i (some ⟨t, m⟩)) = some r := by
  unfold upK at h
  rcases mW_ok h with ⟨e, q⟩ | ⟨e, q⟩
  · rw [ss_eq] at q; subst e; exact ⟨.inl rfl, q⟩
  · rw [ss_eq] at q; subst e; exact ⟨.inr rfl, q⟩
def cPop (i : Nat) : C := fun env k => oSl (gs env i) fun u m => cLst u (fun xs => lget xs (fun t => upK env i m (.lst (linit xs)) fun env => k t false env) (Nat.sub (llen xs 0) 1)) none
theorem s_pop {i : Nat} : SndC Φ Ψ (.pop i) (cPop i) := fun env k r h => by
  obtain ⟨u, m, h1, h2⟩ := oSl_ok h
  obtain ⟨xs, rfl, h3⟩ := cLst_ok h2
  rw [lget_eq, llen_eq] at h3
  obtain ⟨t, h4, h5⟩ := bind_some h3
  obtain ⟨hm, h6⟩ := upK_ok h5
  rw [linit_eq] at h6
  have h4 : xs[xs.length - 1]? = some t := by rw [show xs.length - 1 = Nat.sub (0 + xs.length) 1 by show _ = 0 + xs.length - 1; omega]; exact h4
  refine ⟨t, false, _, ?_, h6⟩
  rw [ev, h1]
  exact (bk (ro h4)).trans (bk (upS_own h1 hm (f := fun _ => some (.lst xs.dropLast)) rfl))
def cPopAt (i : Nat) (c : C) : C := fun env k => oSl (gs env i) fun u _ => cLst u (fun _ => c env fun a _ env => cInt a (fun j => oSl (gs env i) fun u m => cLst u (fun xs => bIf (small63 j) (Option.rec none (fun n => Option.rec none (fun t => upK env i m (.lst (xs.eraseIdx n)) fun env => k t false env) (xs[n]?)) (ixPl xs.length j)) none) none) none) none
theorem s_popAt {i : Nat} {e : E} {c : C} (s : SndC Φ Ψ e c) : SndC Φ Ψ (.popAt i e) (cPopAt i c) := fun env k r h => by
  obtain ⟨u, m, h1, h2⟩ := oSl_ok h
  obtain ⟨ys, rfl, h3⟩ := cLst_ok h2
  obtain ⟨a, f1, e1, h4, h5⟩ := s env _ r h3
  obtain ⟨j, rfl, h6⟩ := cInt_ok h5
  obtain ⟨u, m', h7, h8⟩ := oSl_ok h6
  obtain ⟨xs, rfl, h9⟩ := cLst_ok h8
  rw [bIf_eq] at h9
  split at h9
  · rename_i q
    cases e1' : ixPl xs.length j with
    | none => rw [e1'] at h9; exact noA h9
    | some n =>
      rw [e1'] at h9
      dsimp only at h9
      cases e2 : xs[n]? with
      | none => rw [e2] at h9; exact noA h9
      | some t =>
        rw [e2] at h9
        obtain ⟨hm, h10⟩ := upK_ok h9
        refine ⟨t, false, _, ?_, h10⟩
        rw [ev, h1]
        refine (bk h4).trans ?_
        dsimp only
        rw [h7]
        dsimp only
        rw [if_pos q]
        exact (bk (ro e1')).trans ((bk (ro e2)).trans (bk (upS_own h7 hm (f := fun _ => some (.lst (xs.eraseIdx n))) rfl)))
  · cases h9
end FE
end
/-! DFast4: statements and defs with continuations. -/
noncomputable section
namespace FE
variable [DD.Mode]
open PySem DD
section
variable (Φ Ψ : Nat → Fn) (W : Nat)
def endK (fl : Fl) (env : En) (nx : KE) (rt : K) (bk ct : KE) : Ans := match fl with
  | .nx => nx env
  | .rt t fr => rt t fr env
  | .bk => bk env
  | .ct => ct env
def SndS (s : S) (c : SC) : Prop := ∀ env nx rt bk ct r, c env nx rt bk ct = some r → ∃ fl e, exec Φ Ψ W s env = .ok (fl, e) ∧ endK fl e nx rt bk ct = some r
def SndSs (s : List S) (c : SC) : Prop := ∀ env nx rt bk ct r, c env nx rt bk ct = some r → ∃ fl e, execs Φ Ψ W s env = .ok (fl, e) ∧ endK fl e nx rt bk ct = some r
end
variable {Φ Ψ : Nat → Fn} {W : Nat}
def mdF (fr : Bool) : Md := Bool.rec .sh .own fr
theorem mdF_eq (fr : Bool) : mdF fr = if fr then .own else .sh := by cases fr <;> rfl
/-! ### blocks -/
def cNil : SC := fun env nx _ _ _ => nx env
def cCons (s ss : SC) : SC := fun env nx rt bk ct => s env (fun env => ss env nx rt bk ct) rt bk ct
theorem b_nil : SndSs Φ Ψ W [] cNil := fun env nx rt bk ct r h => ⟨.nx, env, by rw [DD.execs], h⟩
theorem b_cons {s : S} {ss : List S} {c cs : SC} (h1 : SndS Φ Ψ W s c) (h2 : SndSs Φ Ψ W ss cs) : SndSs Φ Ψ W (s :: ss) (cCons c cs) := fun env nx rt bk ct r h => by
  obtain ⟨fl, e, h3, h4⟩ := h1 env _ rt bk ct r h
  cases fl with
  | nx =>
    obtain ⟨fl, e', h5, h6⟩ := h2 e nx rt bk ct r h4
    exact ⟨fl, e', by rw [DD.execs]; exact (FE.bk h3).trans h5, h6⟩
  | rt t fr => exact ⟨_, e, by rw [DD.execs]; exact FE.bk h3, h4⟩
  | bk => exact ⟨_, e, by rw [DD.execs]; exact FE.bk h3, h4⟩
  | ct => exact ⟨_, e, by rw [DD.execs]; exact FE.bk h3, h4⟩
/-! ### plain statements -/
def cSet (i : Nat) (c : C) : SC := fun env nx _ _ _ => c env fun t fr env => setK env i (some ⟨t, mdF fr⟩) nx
theorem b_set {i : Nat} {e : E} {c : C} (s : SndC Φ Ψ e c) : SndS Φ Ψ W (.set i e) (cSet i c) := fun env nx rt bk ct r h => by
  obtain ⟨t, fr, ea, h1, h2⟩ := s env _ r h
  rw [mdF_eq] at h2
  obtain ⟨eb, h3, h4⟩ := setK_inv h2
  exact ⟨.nx, eb, by rw [DD.exec]; exact (FE.bk h1).trans (FE.bk h3), h4⟩
def cAsg (p : PC) (c : C) : SC := fun env nx _ _ _ => c env fun t _ env => p t env nx
theorem b_asg {g : P} {p : PC} {e : E} {c : C} (sp : SndP g p) (s : SndC Φ Ψ e c) : SndS Φ Ψ W (.asg g e) (cAsg p c) := fun env nx rt bk ct r h => by
  obtain ⟨t, fr, ea, h1, h2⟩ := s env _ r h
  obtain ⟨eb, h3, h4⟩ := sp t ea _ r h2
  exact ⟨.nx, eb, by rw [DD.exec]; exact (FE.bk h1).trans (FE.bk h3), h4⟩
/-- a subscript is stored to -/
def setIxK (x k t : T) (f : T → Ans) : Ans := cLst x (fun xs => cInt k (fun j => Int.rec (fun n => lset xs t (fun ys => f (.lst ys)) n) (fun n => bIf (Nat.ble (Nat.succ n) (llen xs 0)) (lset xs t (fun ys => f (.lst ys)) (Nat.sub (llen xs 0) (Nat.succ n))) none) j) none) (cDct x (fun kvs => putDF k t kvs fun d => f (.dct d)) none)
theorem setIxK_ok {x k t : T} {f : T → Ans} {r : T} (h : setIxK x k t f = some r) : ∃ u, setIxT x k t = some u ∧ f u = some r := by
  cases x with
  | lst xs =>
    obtain ⟨j, rfl, h⟩ := cInt_ok (show cInt k (fun j => Int.rec (fun n => lset xs t (fun ys => f (.lst ys)) n) (fun n => bIf (Nat.ble (Nat.succ n) (llen xs 0)) (lset xs t (fun ys => f (.lst ys)) (Nat.sub (llen xs 0) (Nat.succ n))) none) j) none = some r from h)
    cases j with
    | ofNat n =>
      replace h : lset xs t (fun ys => f (.lst ys)) n = some r := h
      rw [lset_eq] at h
      split at h
      · rename_i q
        refine ⟨.lst (xs.set n t), ?_, h⟩
        have : ixPl xs.length (Int.ofNat n) = some n := by
          unfold ixPl
          rw [if_pos (by simp), if_pos (by simpa using q)]
          rfl
        show (ixPl xs.length (Int.ofNat n)).map _ = _
        rw [this]; rfl
      · cases h
    | negSucc n =>
      replace h : bIf (Nat.ble (Nat.succ n) (llen xs 0)) (lset xs t (fun ys => f (.lst ys)) (Nat.sub (llen xs 0) (Nat.succ n))) none = some r := h
      rw [bIf_eq] at h
      split at h
      · rename_i q
        have q := Nat.le_of_ble_eq_true q
        rw [llen_eq, Nat.zero_add] at h q
        rw [lset_eq] at h
        split at h
        · refine ⟨_, ?_, h⟩
          have : ixPl xs.length (Int.negSucc n) = some (xs.length - (n + 1)) := by
            unfold ixPl
            rw [if_neg (by rw [Int.negSucc_eq]; omega), if_pos (by rw [Int.negSucc_eq]; omega)]
            congr 1
            rw [Int.negSucc_eq]; omega
          show (ixPl xs.length (Int.negSucc n)).map _ = _
          rw [this]; rfl
        · cases h
      · cases h
  | dct kvs =>
    obtain ⟨d, h1, h2⟩ := putDF_ok (show putDF k t kvs (fun d => f (.dct d)) = some r from h)
    exact ⟨.dct d, by show (putD k t kvs).map _ = _; rw [h1]; rfl, h2⟩
  | _ => exact noA h
def cSetIx (i : Nat) (o : Op) (c : C) : SC := fun env nx _ _ _ => c env fun t _ env => oSl (gs env i) fun _ _ => opE o env fun y env => resK y env fun k => oSl (gs env i) fun x m => setIxK x k t fun u => upK env i m u nx
theorem b_setIx {i : Nat} {ix e : E} {o : Op} {c : C} (so : SndO Φ Ψ ix o) (s : SndC Φ Ψ e c) : SndS Φ Ψ W (.setIx i ix e) (cSetIx i o c) := fun env nx rt bk ct r h => by
  obtain ⟨t, fr, ea, h1, h2⟩ := s env _ r h
  obtain ⟨u, m, h3, h4⟩ := oSl_ok h2
  obtain ⟨y, eb, h5, h6, _⟩ := opE_ok so h4
  obtain ⟨k, h7, h8⟩ := resK_ok h6
  obtain ⟨x, m', h9, h10⟩ := oSl_ok h8
  obtain ⟨u', h11, h12⟩ := setIxK_ok h10
  obtain ⟨hm, h13⟩ := upK_ok h12
  refine ⟨.nx, _, ?_, h13⟩
  rw [DD.exec]
  refine (FE.bk h1).trans ?_
  dsimp only
  rw [h3]
  exact (FE.bk h5).trans ((FE.bk (ro h7)).trans (FE.bk (upS_own h9 hm (f := fun x => setIxT x k t) h11)))
def shK (m : Md) (a : Ans) : Ans := Md.rec none a none m
theorem shK_ok {m : Md} {a : Ans} {r : T} (h : shK m a = some r) : m = .sh ∧ a = some r := by
  cases m with
  | sh => exact ⟨rfl, h⟩
  | _ => exact noA h
def cAug (i : Nat) (f : F2) (c : C) : SC := fun env nx _ _ _ => oSl (gs env i) fun a m => cInt a (fun _ => shK m (c env fun b _ env => cInt b (fun _ => oSl (gs env i) fun a m => cInt a (fun _ => shK m (f a b fun t _ => setK env i (some ⟨t, .sh⟩) nx)) none) none)) none
theorem b_aug {i : Nat} {p : Prim} {f : F2} (hf : SndP2 p f) {e : E} {c : C} (s : SndC Φ Ψ e c) : SndS Φ Ψ W (.aug i p e) (cAug i f c) := fun env nx rt bk ct r h => by
  obtain ⟨a, m, h1, h2⟩ := oSl_ok h
  obtain ⟨j, rfl, h3⟩ := cInt_ok h2
  obtain ⟨rfl, h4⟩ := shK_ok h3
  obtain ⟨b, fr, ea, h5, h6⟩ := s env _ r h4
  obtain ⟨j', rfl, h7⟩ := cInt_ok h6
  obtain ⟨a, m, h8, h9⟩ := oSl_ok h7
  obtain ⟨j2, rfl, h10⟩ := cInt_ok h9
  obtain ⟨rfl, h11⟩ := shK_ok h10
  obtain ⟨t, h12, h13⟩ := hf _ _ _ r h11
  obtain ⟨eb, h14, h15⟩ := setK_inv (fr := false) h13
  refine ⟨.nx, eb, ?_, h15⟩
  rw [DD.exec, h1]
  refine (FE.bk h5).trans ?_
  dsimp only
  rw [h8]
  exact (FE.bk (ro h12)).trans (FE.bk h14)
def cExpr (c : C) : SC := fun env nx _ _ _ => c env fun _ _ env => nx env
theorem b_expr {e : E} {c : C} (s : SndC Φ Ψ e c) : SndS Φ Ψ W (.expr e) (cExpr c) := fun env nx rt bk ct r h => by
  obtain ⟨t, fr, ea, h1, h2⟩ := s env _ r h
  exact ⟨.nx, ea, by rw [DD.exec]; exact FE.bk h1, h2⟩
def cApp (i : Nat) (c : C) : SC := fun env nx _ _ _ => oSl (gs env i) fun u _ => cLst u (fun _ => c env fun t _ env => oSl (gs env i) fun u m => cLst u (fun xs => bIf (Nat.ble (llen xs 1) 16777216) (upK env i m (.lst (lsnoc xs t)) nx) none) none) none
theorem b_app {i : Nat} {e : E} {c : C} (s : SndC Φ Ψ e c) : SndS Φ Ψ W (.app i e) (cApp i c) := fun env nx rt bk ct r h => by
  obtain ⟨u, m, h1, h2⟩ := oSl_ok h
  obtain ⟨zs, rfl, h3⟩ := cLst_ok h2
  obtain ⟨t, fr, ea, h4, h5⟩ := s env _ r h3
  obtain ⟨u, m', h6, h7⟩ := oSl_ok h5
  obtain ⟨xs, rfl, h8⟩ := cLst_ok h7
  rw [bIf_eq] at h8
  split at h8
  · rename_i q
    have q := Nat.le_of_ble_eq_true q
    rw [llen_eq] at q
    obtain ⟨hm, h9⟩ := upK_ok h8
    rw [lsnoc_eq] at h9
    refine ⟨.nx, _, ?_, h9⟩
    rw [DD.exec, h1]
    refine (FE.bk h4).trans (FE.bk (upS_own h6 hm ?_))
    dsimp only
    rw [if_pos (by unfold line; omega)]
  · cases h8
def cExt (i : Nat) (c : C) : SC := fun env nx _ _ _ => oSl (gs env i) fun u _ => cLst u (fun _ => c env fun t _ env => cLst t (fun ys => oSl (gs env i) fun u m => cLst u (fun xs => bIf (Nat.ble (llen ys (llen xs 0)) 16777216) (upK env i m (.lst (lapp xs ys)) nx) none) none) none) none
theorem b_ext {i : Nat} {e : E} {c : C} (s : SndC Φ Ψ e c) : SndS Φ Ψ W (.ext i e) (cExt i c) := fun env nx rt bk ct r h => by
  obtain ⟨u, m, h1, h2⟩ := oSl_ok h
  obtain ⟨zs, rfl, h3⟩ := cLst_ok h2
  obtain ⟨t, fr, ea, h4, h5⟩ := s env _ r h3
  obtain ⟨ys, rfl, h5b⟩ := cLst_ok h5
  obtain ⟨u, m', h6, h7⟩ := oSl_ok h5b
  obtain ⟨xs, rfl, h8⟩ := cLst_ok h7
  rw [bIf_eq] at h8
  split at h8
  · rename_i q
    have q := Nat.le_of_ble_eq_true q
    rw [llen_eq, llen_eq] at q
    obtain ⟨hm, h9⟩ := upK_ok h8
    rw [lapp_eq] at h9
    refine ⟨.nx, _, ?_, h9⟩
    rw [DD.exec, h1]
    refine (FE.bk h4).trans (FE.bk (upS_own h6 hm ?_))
    dsimp only
    rw [if_pos (by unfold line; omega)]
  · cases h8
def cRet (c : C) : SC := fun env _ rt _ _ => c env rt
theorem b_ret {e : E} {c : C} (s : SndC Φ Ψ e c) : SndS Φ Ψ W (.ret e) (cRet c) := fun env nx rt bk ct r h => by
  obtain ⟨t, fr, ea, h1, h2⟩ := s env _ r h
  exact ⟨.rt t fr, ea, by rw [DD.exec]; exact FE.bk h1, h2⟩
def cRetN : SC := fun env _ rt _ _ => rt .non false env
theorem b_retN : SndS Φ Ψ W .retN cRetN := fun env nx rt bk ct r h => ⟨.rt .non false, env, by rw [DD.exec], h⟩
def cBrk : SC := fun env _ _ bk _ => bk env
theorem b_brk : SndS Φ Ψ W .brk cBrk := fun env nx rt bk ct r h => ⟨.bk, env, by rw [DD.exec], h⟩
def cCont : SC := fun env _ _ _ ct => ct env
theorem b_cont : SndS Φ Ψ W .cont cCont := fun env nx rt bk ct r h => ⟨.ct, env, by rw [DD.exec], h⟩
def cPass : SC := fun env nx _ _ _ => nx env
theorem b_pass : SndS Φ Ψ W .pass cPass := fun env nx rt bk ct r h => ⟨.nx, env, by rw [DD.exec], h⟩
def cBad : SC := fun _ _ _ _ _ => none
theorem b_bad {s : S} : SndS Φ Ψ W s cBad := fun env nx rt bk ct r h => noA h
def cIf (c : C) (a b : SC) : SC := fun env nx rt bk ct => c env fun t _ env => cBl t (fun d => bIf d (a env nx rt bk ct) (b env nx rt bk ct)) none
theorem b_if {c : E} {a b : List S} {cc : C} {ca cb : SC} (s : SndC Φ Ψ c cc) (s1 : SndSs Φ Ψ W a ca) (s2 : SndSs Φ Ψ W b cb) : SndS Φ Ψ W (.ite c a b) (cIf cc ca cb) := fun env nx rt bk ct r h => by
  obtain ⟨t, fr, ea, h1, h2⟩ := s env _ r h
  obtain ⟨d, rfl, h3⟩ := cBl_ok h2
  rw [bIf_eq] at h3
  cases d with
  | true =>
    obtain ⟨fl, eb, h4, h5⟩ := s1 ea nx rt bk ct r h3
    exact ⟨fl, eb, by rw [DD.exec]; exact (FE.bk h1).trans h4, h5⟩
  | false =>
    obtain ⟨fl, eb, h4, h5⟩ := s2 ea nx rt bk ct r h3
    exact ⟨fl, eb, by rw [DD.exec]; exact (FE.bk h1).trans h4, h5⟩
/-! ### loops -/
def lpF (p : PC) (b : SC) (nx : KE) (rt : K) (xs : List T) : KE := List.rec (motive := fun _ => KE) nx (fun x _ ih env => p x env fun env => b env ih rt nx ih) xs
theorem lpF_ok {g : P} {p : PC} {ss : List S} {b : SC} (sp : SndP g p) (s : SndSs Φ Ψ W ss b) {nx : KE} {rt : K} {bk ct : KE} {r : T} : ∀ {xs : List T} {env : En}, lpF p b nx rt xs env = some r → ∃ fl e, loopF (fun env => execs Φ Ψ W ss env) g xs env = .ok (fl, e) ∧ endK fl e nx rt bk ct = some r
  | [], env, h => ⟨.nx, env, by rw [loopF], h⟩
  | x :: xs, env, h => by
    obtain ⟨e1, h1, h2⟩ := sp x env _ r (show p x env (fun env => b env (lpF p b nx rt xs) rt nx (lpF p b nx rt xs)) = some r from h)
    obtain ⟨fl, e2, h3, h4⟩ := s e1 _ rt _ _ r h2
    cases fl with
    | nx =>
      obtain ⟨fl, e3, h5, h6⟩ := lpF_ok sp s (bk := bk) (ct := ct) (show lpF p b nx rt xs e2 = some r from h4)
      exact ⟨fl, e3, by rw [loopF]; exact (FE.bk h1).trans ((FE.bk h3).trans h5), h6⟩
    | ct =>
      obtain ⟨fl, e3, h5, h6⟩ := lpF_ok sp s (bk := bk) (ct := ct) (show lpF p b nx rt xs e2 = some r from h4)
      exact ⟨fl, e3, by rw [loopF]; exact (FE.bk h1).trans ((FE.bk h3).trans h5), h6⟩
    | bk => exact ⟨.nx, e2, by rw [loopF]; exact (FE.bk h1).trans (FE.bk h3), h4⟩
    | rt t fr => exact ⟨.rt t fr, e2, by rw [loopF]; exact (FE.bk h1).trans (FE.bk h3), h4⟩
def cFor (p : PC) (ic : IC) (b : SC) : SC := fun env nx rt _ _ => ic env fun xs env => lpF p b nx rt xs env
theorem b_for {g : P} {k : ItK} {es : List E} {ss : List S} {p : PC} {ic : IC} {b : SC} (sp : SndP g p) (si : SndI Φ Ψ k es ic) (s : SndSs Φ Ψ W ss b) : SndS Φ Ψ W (.forr g k es ss) (cFor p ic b) := fun env nx rt bk ct r h => by
  obtain ⟨os, e1, ts, xs, h1, h2, h3, h4⟩ := si env _ r h
  obtain ⟨fl, e2, h5, h6⟩ := lpF_ok sp s (bk := bk) (ct := ct) h4
  exact ⟨fl, e2, by rw [DD.exec]; exact (FE.bk h1).trans ((FE.bk (ro h2)).trans ((FE.bk (ro h3)).trans h5)), h6⟩
/-- an own dict's keys, the dict being read meanwhile -/
def cForK (i : Nat) (p : PC) (b : SC) : SC := fun env nx rt _ _ => oSl (gs env i) fun u m => cDct u (fun kvs => Md.rec (List.rec (nx env) (fun _ _ _ => lpF p b nx rt (keysN kvs) (ss env i (some ⟨.dct kvs, .sh⟩))) kvs) none none m) none
theorem b_forK {i : Nat} {g : P} {ss : List S} {p : PC} {b : SC} (sp : SndP g p) (s : SndSs Φ Ψ W ss b) : SndS Φ Ψ W (.forK i g ss) (cForK i p b) := fun env nx rt bk ct r h => by
  obtain ⟨u, m, h1, h2⟩ := oSl_ok h
  obtain ⟨kvs, rfl, h3⟩ := cDct_ok h2
  cases m with
  | sh => exact noA h3
  | io => exact noA h3
  | own =>
    cases kvs with
    | nil => exact ⟨.nx, env, by rw [DD.exec, h1]; rfl, h3⟩
    | cons q kvs =>
      replace h3 : lpF p b nx rt (keysN (q :: kvs)) (FE.ss env i (some ⟨.dct (q :: kvs), .sh⟩)) = some r := h3
      rw [keysN_eq, ss_eq] at h3
      obtain ⟨fl, e2, h5, h6⟩ := lpF_ok sp s (bk := bk) (ct := ct) h3
      exact ⟨fl, e2, by rw [DD.exec, h1]; exact h5, h6⟩
def lpW (c : C) (b : SC) (nx : KE) (rt : K) (n : Nat) : KE := Nat.rec (motive := fun _ => KE) (fun _ => none) (fun _ ih env => c env fun t _ env => cBl t (fun d => bIf d (b env ih rt nx ih) (nx env)) none) n
theorem lpW_ok {e : E} {c : C} {ss : List S} {b : SC} (sc : SndC Φ Ψ e c) (s : SndSs Φ Ψ W ss b) {nx : KE} {rt : K} {bk ct : KE} {r : T} : ∀ {n : Nat} {env : En}, lpW c b nx rt n env = some r → ∃ fl e', loopW (fun env => (ev Φ Ψ e env).bind fun (o, env) => (asBl o).bind fun b => .ok (b, env)) (fun env => execs Φ Ψ W ss env) n env = .ok (fl, e') ∧ endK fl e' nx rt bk ct = some r
  | 0, env, h => noA h
  | n + 1, env, h => by
    obtain ⟨t, fr, e1, h1, h2⟩ := sc env _ r (show c env (fun t _ env => cBl t (fun d => bIf d (b env (lpW c b nx rt n) rt nx (lpW c b nx rt n)) (nx env)) none) = some r from h)
    obtain ⟨d, rfl, h3⟩ := cBl_ok h2
    rw [bIf_eq] at h3
    have hc : ((ev Φ Ψ e env).bind fun (o, env) => (asBl o).bind fun b => R.ok (b, env)) = .ok (d, e1) := by rw [h1]; rfl
    cases d with
    | false => exact ⟨.nx, e1, by rw [loopW]; exact (FE.bk hc), h3⟩
    | true =>
      obtain ⟨fl, e2, h4, h5⟩ := s e1 _ rt _ _ r h3
      cases fl with
      | nx =>
        obtain ⟨fl, e3, h6, h7⟩ := lpW_ok sc s (bk := bk) (ct := ct) (show lpW c b nx rt n e2 = some r from h5)
        exact ⟨fl, e3, by rw [loopW]; exact (FE.bk hc).trans ((FE.bk h4).trans h6), h7⟩
      | ct =>
        obtain ⟨fl, e3, h6, h7⟩ := lpW_ok sc s (bk := bk) (ct := ct) (show lpW c b nx rt n e2 = some r from h5)
        exact ⟨fl, e3, by rw [loopW]; exact (FE.bk hc).trans ((FE.bk h4).trans h6), h7⟩
      | bk => exact ⟨.nx, e2, by rw [loopW]; exact (FE.bk hc).trans (FE.bk h4), h5⟩
      | rt t fr => exact ⟨.rt t fr, e2, by rw [loopW]; exact (FE.bk hc).trans (FE.bk h4), h5⟩
def cWhile (W : Nat) (c : C) (b : SC) : SC := fun env nx rt _ _ => lpW c b nx rt W env
theorem b_while {e : E} {ss : List S} {c : C} {b : SC} (sc : SndC Φ Ψ e c) (s : SndSs Φ Ψ W ss b) : SndS Φ Ψ W (.whil e ss) (cWhile W c b) := fun env nx rt bk ct r h => by
  obtain ⟨fl, e2, h5, h6⟩ := lpW_ok sc s (bk := bk) (ct := ct) (show lpW c b nx rt W env = some r from h)
  exact ⟨fl, e2, by rw [DD.exec]; exact h5, h6⟩
/-! ### stores of more than one -/
abbrev TC := T → Bool → En → (En → Ans) → Ans
def SndT (Φ Ψ : Nat → Fn) (g : Tg) (tc : TC) : Prop := ∀ t fr env f r, tc t fr env f = some r → ∃ e, asgT Φ Ψ g t fr env = .ok e ∧ f e = some r
def tS (i : Nat) : TC := fun t fr env f => setK env i (some ⟨t, mdF fr⟩) f
theorem t_s {i : Nat} : SndT Φ Ψ (.s i) (tS i) := fun t fr env f r h => by
  replace h : setK env i (some ⟨t, mdF fr⟩) f = some r := h
  rw [mdF_eq] at h
  obtain ⟨eb, h3, h4⟩ := setK_inv h
  exact ⟨eb, by rw [asgT]; exact h3, h4⟩
def tIx (i : Nat) (o : Op) : TC := fun t _ env f => opE o env fun y env => resK y env fun k => oSl (gs env i) fun x m => setIxK x k t fun u => upK env i m u f
theorem t_ix {i : Nat} {e : E} {o : Op} (so : SndO Φ Ψ e o) : SndT Φ Ψ (.ix i e) (tIx i o) := fun t fr env f r h => by
  obtain ⟨y, eb, h5, h6, _⟩ := opE_ok so h
  obtain ⟨k, h7, h8⟩ := resK_ok h6
  obtain ⟨x, m', h9, h10⟩ := oSl_ok h8
  obtain ⟨u', h11, h12⟩ := setIxK_ok h10
  obtain ⟨hm, h13⟩ := upK_ok h12
  exact ⟨_, by rw [asgT]; exact (FE.bk h5).trans ((FE.bk (ro h7)).trans (upS_own h9 hm (f := fun x => setIxT x k t) h11)), h13⟩
def cPar2 (g h : TC) (a b : C) : SC := fun env nx _ _ _ => a env fun x fx env => b env fun y fy env => g x fx env fun env => h y fy env nx
theorem b_par2 {g g' : Tg} {a b : E} {tg tg' : TC} {ca cb : C} (q1 : SndT Φ Ψ g tg) (q2 : SndT Φ Ψ g' tg') (s1 : SndC Φ Ψ a ca) (s2 : SndC Φ Ψ b cb) : SndS Φ Ψ W (.par [g, g'] [a, b]) (cPar2 tg tg' ca cb) := fun env nx rt bk ct r h => by
  obtain ⟨x, fx, e1, h1, h2⟩ := s1 env _ r h
  obtain ⟨y, fy, e2, h3, h4⟩ := s2 e1 _ r h2
  obtain ⟨e3, h5, h6⟩ := q1 _ _ _ _ r h4
  obtain ⟨e4, h7, h8⟩ := q2 _ _ _ _ r h6
  have hv : evs Φ Ψ [a, b] env = .ok ([.v x fx, .v y fy], e2) := by simp only [evs, h1, h3, R.bind]
  have ht : asgTs Φ Ψ [g, g'] [.v x fx, .v y fy] e2 = .ok e4 := by rw [asgTs]; refine (FE.bk h5).trans ?_; rw [asgTs]; refine (FE.bk h7).trans ?_; rw [asgTs]
  exact ⟨.nx, e4, by rw [DD.exec]; exact (FE.bk hv).trans (FE.bk ht), h8⟩
def cPar3 (g h i : TC) (a b c : C) : SC := fun env nx _ _ _ => a env fun x fx env => b env fun y fy env => c env fun z fz env => g x fx env fun env => h y fy env fun env => i z fz env nx
theorem b_par3 {g g' g2 : Tg} {a b c : E} {tg tg' tg2 : TC} {ca cb cc : C} (q1 : SndT Φ Ψ g tg) (q2 : SndT Φ Ψ g' tg') (q3 : SndT Φ Ψ g2 tg2) (s1 : SndC Φ Ψ a ca) (s2 : SndC Φ Ψ b cb) (s3 : SndC Φ Ψ c cc) : SndS Φ Ψ W (.par [g, g', g2] [a, b, c]) (cPar3 tg tg' tg2 ca cb cc) := fun env nx rt bk ct r h => by
  obtain ⟨x, fx, e1, h1, h2⟩ := s1 env _ r h
  obtain ⟨y, fy, e2, h3, h4⟩ := s2 e1 _ r h2
  obtain ⟨z, fz, e3, h5, h6⟩ := s3 e2 _ r h4
  obtain ⟨f1, h7, h8⟩ := q1 _ _ _ _ r h6
  obtain ⟨f2, h9, h10⟩ := q2 _ _ _ _ r h8
  obtain ⟨f3, h11, h12⟩ := q3 _ _ _ _ r h10
  have hv : evs Φ Ψ [a, b, c] env = .ok ([.v x fx, .v y fy, .v z fz], e3) := by simp only [evs, h1, h3, h5, R.bind]
  have ht : asgTs Φ Ψ [g, g', g2] [.v x fx, .v y fy, .v z fz] e3 = .ok f3 := by rw [asgTs]; refine (FE.bk h7).trans ?_; rw [asgTs]; refine (FE.bk h9).trans ?_; rw [asgTs]; refine (FE.bk h11).trans ?_; rw [asgTs]
  exact ⟨.nx, f3, by rw [DD.exec]; exact (FE.bk hv).trans (FE.bk ht), h12⟩
/-! ### defs -/
def mdI (io : Option Nat) (i : Nat) : Md := Option.rec .sh (fun j => Bool.rec .sh .io (Nat.beq j i)) io
theorem mdI_eq (io : Option Nat) (i : Nat) : mdI io i = if io = some i then Md.io else Md.sh := by
  cases io with
  | none => rw [if_neg (by simp)]; rfl
  | some j =>
    show Bool.rec (motive := fun _ => Md) .sh .io (Nat.beq j i) = _
    by_cases e : j = i
    · subst e; rw [if_pos rfl, Nat.beq_refl]
    · rw [if_neg (by simpa using e)]
      have : Nat.beq j i = false := by
        cases q : Nat.beq j i with
        | false => rfl
        | true => exact absurd (Nat.eq_of_beq_eq_true q) e
      rw [this]
def stE (io : Option Nat) (pad : En) (ts : List T) : Nat → En := List.rec (motive := fun _ => Nat → En) (fun _ => pad) (fun t _ ih i => some ⟨t, mdI io i⟩ :: ih (Nat.succ i)) ts
theorem stE_eq (io : Option Nat) (pad : En) : ∀ (ts : List T) (i : Nat), stE io pad ts i = (ts.mapIdx fun j t => some (Sl.mk t (if io = some (j + i) then Md.io else Md.sh))) ++ pad
  | [], i => rfl
  | t :: ts, i => by
    show some (Sl.mk t (mdI io i)) :: stE io pad ts (i + 1) = _
    rw [stE_eq io pad ts (i + 1), mdI_eq, List.mapIdx_cons, List.cons_append, Nat.zero_add]
    congr 2
    congr 1
    funext j x
    rw [Nat.add_assoc, Nat.add_comm i 1]
def outK (io : Option Nat) (env : En) (f : Option T → Ans) : Ans := Option.rec (f none) (fun i => oSl (gs env i) fun t m => Md.rec none none (f (some t)) m) io
theorem outK_ok {io : Option Nat} {env : En} {f : Option T → Ans} {r : T} (h : outK io env f = some r) : ∃ o, outOf io env = some o ∧ f o = some r := by
  cases io with
  | none => exact ⟨none, rfl, h⟩
  | some i =>
    obtain ⟨t, m, h1, h2⟩ := oSl_ok (i := i) (k := fun t m => Md.rec (motive := fun _ => Ans) none none (f (some t)) m) h
    cases m with
    | io => exact ⟨some t, by rw [outOf, h1], h2⟩
    | own => exact noA h2
    | sh => exact noA h2
def fDef (np : Nat) (io : Option Nat) (pad : En) (b : SC) : FnC := fun ts k => bIf (Nat.beq (llen ts 0) np) (b (stE io pad ts 0) (fun env => outK io env fun o => k .non false o) (fun t fr env => outK io env fun o => k t fr o) (fun _ => none) (fun _ => none)) none
theorem runDf_ok {np sl : Nat} {io : Option Nat} {body : List S} {pad : En} {b : SC} (hp : pad = List.replicate (sl - np) none) (s : SndSs Φ Ψ W body b) {ts : List T} {k : T → Bool → Option T → Ans} {r : T} (h : fDef np io pad b ts k = some r) :
    ∃ t fr out, runDf Φ Ψ W ⟨np, io, sl, body⟩ ts = .ok (t, fr, out) ∧ k t fr out = some r := by
  unfold fDef at h
  rw [bIf_eq] at h
  split at h
  · rename_i q
    have q := Nat.eq_of_beq_eq_true q
    rw [llen_eq, Nat.zero_add] at q
    have hs : stE io pad ts 0 = startE io ts sl := by
      rw [stE_eq, hp, ← q]
      rfl
    rw [hs] at h
    obtain ⟨fl, e, h1, h2⟩ := s _ _ _ _ _ r h
    have hq : (ts.length == np) = true := by rw [q]; exact beq_self_eq_true _
    cases fl with
    | nx =>
      obtain ⟨o, h3, h4⟩ := outK_ok h2
      refine ⟨.non, false, o, ?_, h4⟩
      unfold runDf
      rw [if_pos hq]
      exact (FE.bk h1).trans (FE.bk (ro h3))
    | rt t fr =>
      obtain ⟨o, h3, h4⟩ := outK_ok h2
      refine ⟨t, fr, o, ?_, h4⟩
      unfold runDf
      rw [if_pos hq]
      exact (FE.bk h1).trans (FE.bk (ro h3))
    | bk => exact noA h2
    | ct => exact noA h2
  · cases h
/-- a def, from a depth on, in a family of meanings -/
def Snd (Fm : Nat → Nat → Fn) (i d : Nat) (fc : FnC) : Prop := ∀ n, d ≤ n → SndF (Fm n) i fc
def NoC : Nat → Fn := fun _ _ => .bad
theorem snd_def {Fm : Nat → Nat → Fn} {i d : Nat} {df : Df} {pad : En} {b : SC} (hD : ∀ n ts, Fm (n + 1) i ts = runDf (Fm n) NoC W df ts) (hp : pad = List.replicate (df.slots - df.np) none)
    (s : ∀ n, d ≤ n → SndSs (Fm n) NoC W df.body b) : Snd Fm i (d + 1) (fDef df.np df.io pad b) := fun n hn ts k r h => by
  obtain ⟨m, rfl⟩ : ∃ m, n = m + 1 := ⟨n - 1, by omega⟩
  obtain ⟨t, fr, out, h1, h2⟩ := runDf_ok (Φ := Fm m) hp (s m (by omega)) h
  exact ⟨t, fr, out, by rw [hD]; exact h1, h2⟩
/-- a def that calls itself: at most `N` deep -/
theorem snd_rec {Fm : Nat → Nat → Fn} {i d : Nat} {df : Df} {pad : En} {b : FnC → SC} (hD : ∀ n ts, Fm (n + 1) i ts = runDf (Fm n) NoC W df ts) (hp : pad = List.replicate (df.slots - df.np) none)
    (s : ∀ n fc, d ≤ n → SndF (Fm n) i fc → SndSs (Fm n) NoC W df.body (b fc)) : ∀ N, Snd Fm i (d + N) (Nat.rec (motive := fun _ => FnC) (fun _ _ => none) (fun _ ih => fDef df.np df.io pad (b ih)) N)
  | 0 => fun n hn ts k r h => noA h
  | N + 1 => fun n hn ts k r h => by
    obtain ⟨m, rfl⟩ : ∃ m, n = m + 1 := ⟨n - 1, by omega⟩
    obtain ⟨t, fr, out, h1, h2⟩ := runDf_ok (Φ := Fm m) hp (s m _ (by omega) (snd_rec hD hp s N m (by omega))) (show fDef df.np df.io pad (b _) ts k = some r from h)
    exact ⟨t, fr, out, by rw [hD]; exact h1, h2⟩
end FE
end
/-! DFast5: sorting, for the kernel. -/
noncomputable section
namespace FE
variable [DD.Mode]
open PySem DD
/-! ### what sorts well: whole numbers, tuples of these, tuples with both in fixed places -/
inductive Pat where
  | i | t | r (bs : List Bool)
def IsI (t : T) : Prop := ∃ i, t = .int i
def IsT (t : T) : Prop := ∃ ts, t = .tup ts ∧ ∀ x ∈ ts, IsI x
def MtR : List Bool → List T → Prop
  | [], [] => True
  | b :: bs, t :: ts => (if b then IsT t else IsI t) ∧ MtR bs ts
  | _, _ => False
def Mt : Pat → T → Prop
  | .i, t => IsI t
  | .t, t => IsT t ∧ isTupC t = true
  | .r bs, t => ∃ ts, t = .tup ts ∧ MtR bs ts ∧ isTupC t = true
theorem alkI {a b : T} (h : IsI a) (q : IsI b) : T.alk a b = true := by
  obtain ⟨i, rfl⟩ := h
  obtain ⟨j, rfl⟩ := q
  simp [T.alk, T.toD, PySem.W.alike]
theorem alkIs : ∀ {xs ys : List T}, (∀ x ∈ xs, IsI x) → (∀ x ∈ ys, IsI x) → PySem.W.alikeAll (T.toDs xs) (T.toDs ys) = true
  | [], ys, _, _ => by rw [T.toDs, PySem.W.alikeAll]
  | x :: xs, [], _, _ => by rw [T.toDs, T.toDs, PySem.W.alikeAll]
  | x :: xs, y :: ys, h, q => by
    rw [T.toDs, T.toDs, PySem.W.alikeAll, Bool.and_eq_true]
    exact ⟨alkI (h x List.mem_cons_self) (q y List.mem_cons_self), alkIs (fun z hz => h z (List.mem_cons_of_mem _ hz)) fun z hz => q z (List.mem_cons_of_mem _ hz)⟩
theorem alkT {a b : T} (h : IsT a) (q : IsT b) : T.alk a b = true := by
  obtain ⟨xs, rfl, h⟩ := h
  obtain ⟨ys, rfl, q⟩ := q
  unfold T.alk
  rw [T.toD, T.toD, PySem.W.alike]
  exact alkIs h q
theorem alkR : ∀ {bs : List Bool} {xs ys : List T}, MtR bs xs → MtR bs ys → PySem.W.alikeAll (T.toDs xs) (T.toDs ys) = true
  | [], [], [], _, _ => by rw [T.toDs, PySem.W.alikeAll]
  | b :: bs, x :: xs, y :: ys, h, q => by
    rw [T.toDs, T.toDs, PySem.W.alikeAll, Bool.and_eq_true]
    refine ⟨?_, alkR h.2 q.2⟩
    have h1 := h.1
    have q1 := q.1
    cases b with
    | true => exact alkT h1 q1
    | false => exact alkI h1 q1
theorem Mt.alk {p : Pat} {a b : T} (h : Mt p a) (q : Mt p b) : T.alk a b = true := by
  cases p with
  | i => exact alkI h q
  | t => exact alkT h.1 q.1
  | r bs =>
    obtain ⟨xs, rfl, h, _⟩ := h
    obtain ⟨ys, rfl, q, _⟩ := q
    unfold T.alk
    rw [T.toD, T.toD, PySem.W.alike]
    exact alkR h q
theorem datI {n : Nat} {t : T} (h : IsI t) : T.dat n t = true := by
  obtain ⟨i, rfl⟩ := h
  rw [T.dat]
theorem datIs {n : Nat} : ∀ {ts : List T}, (∀ x ∈ ts, IsI x) → T.dats n ts = true
  | [], _ => by rw [T.dats]
  | x :: xs, h => by
    rw [T.dats, Bool.and_eq_true]
    exact ⟨datI (h x List.mem_cons_self), datIs fun z hz => h z (List.mem_cons_of_mem _ hz)⟩
theorem datT {n : Nat} {t : T} (h : IsT t) : T.dat (n + 1) t = true := by
  obtain ⟨ts, rfl, h⟩ := h
  rw [T.dat]
  exact datIs h
theorem datR {n : Nat} : ∀ {bs : List Bool} {ts : List T}, MtR bs ts → T.dats (n + 1) ts = true
  | [], [], _ => by rw [T.dats]
  | b :: bs, x :: xs, h => by
    rw [T.dats, Bool.and_eq_true]
    refine ⟨?_, datR h.2⟩
    have h1 := h.1
    cases b with
    | true => exact datT h1
    | false => exact datI h1
theorem Mt.dat {p : Pat} {t : T} (h : Mt p t) : T.dat 40 t = true := by
  cases p with
  | i => exact datI h
  | t => exact datT h.1
  | r bs =>
    obtain ⟨xs, rfl, h, _⟩ := h
    rw [T.dat]
    exact datR h
theorem srt_of {p : Pat} {xs : List T} (h : ∀ x ∈ xs, Mt p x) : srtOk xs = true := by
  have h1 : ∀ ys : List T, (∀ x ∈ ys, Mt p x) → T.dats 40 ys = true := by
    intro ys
    induction ys with
    | nil => intro _; rw [T.dats]
    | cons y ys ih =>
      intro h
      rw [T.dats, Bool.and_eq_true]
      exact ⟨(h y List.mem_cons_self).dat, ih fun z hz => h z (List.mem_cons_of_mem _ hz)⟩
  have h2 : alkAll xs = true := by
    unfold alkAll
    rw [List.all_eq_true]
    intro x hx
    rw [List.all_eq_true]
    intro y hy
    exact (h x hx).alk (h y hy)
  unfold srtOk
  rw [h1 xs h, h2, Bool.and_self, Bool.true_and, Bool.or_eq_true]
  cases p with
  | i =>
    refine .inr (List.all_eq_true.mpr fun x hx => ?_)
    obtain ⟨i, rfl⟩ := h x hx
    rfl
  | t => exact .inl (List.all_eq_true.mpr fun x hx => (h x hx).2)
  | r bs =>
    refine .inl (List.all_eq_true.mpr fun x hx => ?_)
    obtain ⟨ts, rfl, _, q⟩ := h x hx
    exact q
/-! ### the check -/
def ckIs (ts : List T) (k : Ans) : Ans := List.rec (motive := fun _ => Ans) k (fun x _ ih => cInt x (fun _ => ih) none) ts
theorem ckIs_ok : ∀ {ts : List T} {k : Ans} {r : T}, ckIs ts k = some r → (∀ x ∈ ts, IsI x) ∧ k = some r
  | [], k, r, h => ⟨fun _ q => (nomatch q), h⟩
  | x :: xs, k, r, h => by
    obtain ⟨i, rfl, h'⟩ := cInt_ok (show cInt x (fun _ => ckIs xs k) none = some r from h)
    obtain ⟨h1, h2⟩ := ckIs_ok (ts := xs) h'
    exact ⟨fun y hy => (List.mem_cons.mp hy).elim (fun e => ⟨i, e⟩) (h1 y), h2⟩
def ckR (bs : List Bool) (k : Ans) : List T → Ans := List.rec (motive := fun _ => List T → Ans) (fun ts => List.rec (motive := fun _ => Ans) k (fun _ _ _ => none) ts) (fun b _ ih ts => List.rec (motive := fun _ => Ans) none (fun t r _ => bIf b (cTup t (fun us => ckIs us (ih r)) none) (cInt t (fun _ => ih r) none)) ts) bs
theorem cTup_ok {t : T} {k : List T → Ans} {r : T} (h : cTup t k none = some r) : ∃ b, t = .tup b ∧ k b = some r := by
  cases t with
  | tup b => exact ⟨b, rfl, h⟩
  | _ => exact noA h
theorem ckR_ok : ∀ {bs : List Bool} {ts : List T} {k : Ans} {r : T}, ckR bs k ts = some r → MtR bs ts ∧ k = some r
  | [], [], k, r, h => ⟨trivial, h⟩
  | [], _ :: _, k, r, h => noA h
  | b :: bs, [], k, r, h => noA h
  | b :: bs, t :: ts, k, r, h => by
    replace h : bIf b (cTup t (fun us => ckIs us (ckR bs k ts)) none) (cInt t (fun _ => ckR bs k ts) none) = some r := h
    rw [bIf_eq] at h
    cases b with
    | true =>
      obtain ⟨us, rfl, h⟩ := cTup_ok h
      obtain ⟨h1, h2⟩ := ckIs_ok h
      obtain ⟨h3, h4⟩ := ckR_ok h2
      exact ⟨⟨⟨us, rfl, h1⟩, h3⟩, h4⟩
    | false =>
      obtain ⟨i, rfl, h⟩ := cInt_ok h
      obtain ⟨h3, h4⟩ := ckR_ok h
      exact ⟨⟨⟨i, rfl⟩, h3⟩, h4⟩
def neL (ts : List T) (k : Ans) : Ans := List.rec (motive := fun _ => Ans) none (fun _ _ _ => k) ts
theorem neL_ok {ts : List T} {k : Ans} {r : T} (h : neL ts k = some r) : isTupC (.tup ts) = true ∧ k = some r := by
  cases ts with
  | nil => exact noA h
  | cons x xs => exact ⟨rfl, h⟩
def ckP (p : Pat) (t : T) (k : Ans) : Ans := Pat.rec (motive := fun _ => Ans) (cInt t (fun _ => k) none) (cTup t (fun ts => neL ts (ckIs ts k)) none) (fun bs => cTup t (fun ts => neL ts (ckR bs k ts)) none) p
theorem ckP_ok {p : Pat} {t : T} {k : Ans} {r : T} (h : ckP p t k = some r) : Mt p t ∧ k = some r := by
  cases p with
  | i =>
    obtain ⟨i, rfl, h⟩ := cInt_ok (k := fun _ => k) h
    exact ⟨⟨i, rfl⟩, h⟩
  | t =>
    obtain ⟨us, rfl, h⟩ := cTup_ok (k := fun ts => neL ts (ckIs ts k)) h
    obtain ⟨h0, h⟩ := neL_ok h
    obtain ⟨h1, h2⟩ := ckIs_ok h
    exact ⟨⟨⟨us, rfl, h1⟩, h0⟩, h2⟩
  | r bs =>
    obtain ⟨us, rfl, h⟩ := cTup_ok (k := fun ts => neL ts (ckR bs k ts)) h
    obtain ⟨h0, h⟩ := neL_ok h
    obtain ⟨h1, h2⟩ := ckR_ok h
    exact ⟨⟨us, rfl, h1, h0⟩, h2⟩
def ckPs (p : Pat) (ts : List T) (k : Ans) : Ans := List.rec (motive := fun _ => Ans) k (fun x _ ih => ckP p x ih) ts
theorem ckPs_ok {p : Pat} : ∀ {ts : List T} {k : Ans} {r : T}, ckPs p ts k = some r → (∀ x ∈ ts, Mt p x) ∧ k = some r
  | [], k, r, h => ⟨fun _ q => (nomatch q), h⟩
  | x :: xs, k, r, h => by
    obtain ⟨h1, h⟩ := ckP_ok (show ckP p x (ckPs p xs k) = some r from h)
    obtain ⟨h2, h3⟩ := ckPs_ok h
    exact ⟨fun y hy => (List.mem_cons.mp hy).elim (fun e => e ▸ h1) (h2 y), h3⟩
/-- the pattern of a thing -/
def knd (t : T) (k : Bool → Ans) : Ans := cInt t (fun _ => k false) (cTup t (fun _ => k true) none)
def knds (ts : List T) : Bool → (Bool → List Bool → Ans) → Ans := List.rec (motive := fun _ => Bool → (Bool → List Bool → Ans) → Ans) (fun b k => k b []) (fun x _ ih b k => knd x fun c => ih (bor b c) fun b bs => k b (c :: bs)) ts
def patOf (t : T) (k : Pat → Ans) : Ans := cInt t (fun _ => k .i) (cTup t (fun ts => knds ts false fun b bs => bIf b (k (.r bs)) (k .t)) none)
theorem knds_ok : ∀ {ts : List T} {b : Bool} {k : Bool → List Bool → Ans} {r : T}, knds ts b k = some r → ∃ b bs, k b bs = some r
  | [], b, k, r, h => ⟨_, _, h⟩
  | x :: xs, b, k, r, h => by
    replace h : cInt x (fun _ => knds xs (bor b false) fun b bs => k b (false :: bs)) (cTup x (fun _ => knds xs (bor b true) fun b bs => k b (true :: bs)) none) = some r := h
    cases x with
    | int i => obtain ⟨b, bs, h⟩ := knds_ok (k := fun b bs => k b (false :: bs)) h; exact ⟨_, _, h⟩
    | tup us => obtain ⟨b, bs, h⟩ := knds_ok (k := fun b bs => k b (true :: bs)) h; exact ⟨_, _, h⟩
    | _ => exact noA h
theorem patOf_ok {t : T} {k : Pat → Ans} {r : T} (h : patOf t k = some r) : ∃ p, k p = some r := by
  cases t with
  | int i => exact ⟨_, h⟩
  | tup us =>
    obtain ⟨b, bs, h⟩ := knds_ok (show knds us false (fun b bs => bIf b (k (.r bs)) (k .t)) = some r from h)
    rw [bIf_eq] at h
    split at h
    · exact ⟨_, h⟩
    · exact ⟨_, h⟩
  | _ => exact noA h
/-! ### less -/
def cmpL (f : T → T → Ans → Ans → Ans → Ans) (l e g : Ans) (xs : List T) : List T → Ans := List.rec (motive := fun _ => List T → Ans) (fun ys => List.rec (motive := fun _ => Ans) e (fun _ _ _ => l) ys) (fun x _ ih ys => List.rec (motive := fun _ => Ans) g (fun y r _ => f x y l (ih r) g) ys) xs
def cmpF (n : Nat) : T → T → Ans → Ans → Ans → Ans := Nat.rec (motive := fun _ => T → T → Ans → Ans → Ans → Ans) (fun _ _ _ _ _ => none) (fun _ ih a b l e g => cInt a (fun i => cInt b (fun j => bIf (ieq i j) e (bIf (ilt i j) l g)) none) (cTup a (fun xs => cTup b (fun ys => cmpL ih l e g xs ys) none) none)) n
def rowV (xs ys : List T) : Bool := PyProof.Rows.lexLt PyProof.Rows.itemOrd (PySem.W.keyToksAll (T.toDs xs)) (PySem.W.keyToksAll (T.toDs ys))
theorem cmpL_ok {f : T → T → Ans → Ans → Ans → Ans} (hf : ∀ a b l e g r, T.alk a b = true → f a b l e g = some r → (T.eqv a b = false ∧ T.ltv a b = true ∧ l = some r) ∨ (T.eqv a b = true ∧ T.ltv a b = false ∧ e = some r) ∨ (T.eqv a b = false ∧ T.ltv a b = false ∧ g = some r)) {l e g : Ans} {r : T} :
    ∀ {xs ys : List T}, PySem.W.alikeAll (T.toDs xs) (T.toDs ys) = true → cmpL f l e g xs ys = some r → (PyData.eqvAll (T.toDs xs) (T.toDs ys) = false ∧ rowV xs ys = true ∧ l = some r) ∨ (PyData.eqvAll (T.toDs xs) (T.toDs ys) = true ∧ rowV xs ys = false ∧ e = some r) ∨ (PyData.eqvAll (T.toDs xs) (T.toDs ys) = false ∧ rowV xs ys = false ∧ g = some r)
  | [], [], _, h => .inr (.inl ⟨by simp [T.toDs, PyData.eqvAll], PyProof.Rows.lex_irrefl _, h⟩)
  | [], y :: ys, _, h => .inl ⟨by simp [T.toDs, PyData.eqvAll], (PyProof.Rows.lex_diff (O := PyProof.Rows.itemOrd) (by simp)).trans rfl, h⟩
  | x :: xs, [], _, h => .inr (.inr ⟨by simp [T.toDs, PyData.eqvAll], (PyProof.Rows.lex_diff (O := PyProof.Rows.itemOrd) (by simp)).trans rfl, h⟩)
  | x :: xs, y :: ys, ha, h => by
    rw [T.toDs, T.toDs, PySem.W.alikeAll, Bool.and_eq_true] at ha
    have e1 : PyData.eqvAll (T.toDs (x :: xs)) (T.toDs (y :: ys)) = (T.eqv x y && PyData.eqvAll (T.toDs xs) (T.toDs ys)) := by rw [T.toDs, T.toDs, PyData.eqvAll]; rfl
    have e2 : rowV (x :: xs) (y :: ys) = if T.eqv x y = true then rowV xs ys else T.ltv x y := by
      unfold rowV
      rw [T.toDs, T.toDs, PySem.W.dataLt_cons ha.1]
      rfl
    rw [e1, e2]
    rcases hf x y l _ g r ha.1 (show f x y l (cmpL f l e g xs ys) g = some r from h) with ⟨q1, q2, q3⟩ | ⟨q1, q2, q3⟩ | ⟨q1, q2, q3⟩
    · exact .inl ⟨by rw [q1]; rfl, by rw [q1, if_neg Bool.false_ne_true, q2], q3⟩
    · have := cmpL_ok hf ha.2 q3
      rw [q1, Bool.true_and, if_pos rfl]
      exact this
    · exact .inr (.inr ⟨by rw [q1]; rfl, by rw [q1, if_neg Bool.false_ne_true, q2], q3⟩)
theorem cmpF_ok : ∀ (n : Nat) (a b : T) (l e g : Ans) (r : T), T.alk a b = true → cmpF n a b l e g = some r → (T.eqv a b = false ∧ T.ltv a b = true ∧ l = some r) ∨ (T.eqv a b = true ∧ T.ltv a b = false ∧ e = some r) ∨ (T.eqv a b = false ∧ T.ltv a b = false ∧ g = some r)
  | 0, a, b, l, e, g, r, _, h => noA h
  | n + 1, a, b, l, e, g, r, ha, h => by
    cases a with
    | int i =>
      obtain ⟨j, rfl, h'⟩ := cInt_ok (show cInt b (fun j => bIf (ieq i j) e (bIf (ilt i j) l g)) none = some r from h)
      clear h
      have h := h'
      clear h'
      have e1 : T.eqv (.int i) (.int j) = decide (i = j) := by unfold T.eqv; rw [T.toD, T.toD, PyData.eqv]; by_cases q : i = j <;> simp [q]
      have e2 : T.ltv (.int i) (.int j) = decide (i < j) := PySem.W.dataLt_int i j
      rw [e1, e2]
      rw [ieq_eq, ilt_eq, bIf_eq, bIf_eq] at h
      by_cases q : i = j
      · subst q
        rw [if_pos (by simp)] at h
        exact .inr (.inl ⟨by simp, by simp, h⟩)
      · rw [if_neg (by simpa using q)] at h
        by_cases q2 : i < j
        · rw [if_pos (by simpa using q2)] at h
          exact .inl ⟨by simpa using q, by simpa using q2, h⟩
        · rw [if_neg (by simpa using q2)] at h
          exact .inr (.inr ⟨by simpa using q, by simpa using q2, h⟩)
    | tup xs =>
      obtain ⟨ys, rfl, h⟩ := cTup_ok (show cTup b (fun ys => cmpL (cmpF n) l e g xs ys) none = some r from h)
      have e1 : T.eqv (.tup xs) (.tup ys) = PyData.eqvAll (T.toDs xs) (T.toDs ys) := by unfold T.eqv; rw [T.toD, T.toD, PyData.eqv]
      have e2 : T.ltv (.tup xs) (.tup ys) = rowV xs ys := by unfold T.ltv; rw [T.toD, T.toD, PySem.W.dataLt_tuple]; rfl
      have ha : PySem.W.alikeAll (T.toDs xs) (T.toDs ys) = true := by
        unfold T.alk at ha
        rw [T.toD, T.toD, PySem.W.alike] at ha
        exact ha
      rw [e1, e2]
      exact cmpL_ok (cmpF_ok n) ha h
    | _ => exact noA h
/-! ### sorting -/
def insF (x : T) (ys : List T) : (List T → Ans) → Ans := List.rec (motive := fun _ => (List T → Ans) → Ans) (fun k => k [x]) (fun y r ih k => cmpF 3 y x (ih fun zs => k (y :: zs)) (k (x :: y :: r)) (k (x :: y :: r))) ys
def insR (x : T) (ys : List T) : (List T → Ans) → Ans := List.rec (motive := fun _ => (List T → Ans) → Ans) (fun k => k [x]) (fun y r ih k => cmpF 3 x y (ih fun zs => k (y :: zs)) (k (x :: y :: r)) (k (x :: y :: r))) ys
def srtF (ins : T → List T → (List T → Ans) → Ans) (xs : List T) : (List T → Ans) → Ans := List.rec (motive := fun _ => (List T → Ans) → Ans) (fun k => k []) (fun x _ ih k => ih fun s => ins x s k) xs
theorem insF_ok {p : Pat} {x : T} (hx : Mt p x) : ∀ {ys : List T} {k : List T → Ans} {r : T}, (∀ y ∈ ys, Mt p y) → insF x ys k = some r → k (insT x ys) = some r
  | [], k, r, _, h => h
  | y :: ys, k, r, hy, h => by
    have h1 := cmpF_ok 3 y x _ _ _ r ((hy y List.mem_cons_self).alk hx) (show cmpF 3 y x (insF x ys fun zs => k (y :: zs)) (k (x :: y :: ys)) (k (x :: y :: ys)) = some r from h)
    rw [insT]
    rcases h1 with ⟨q1, q2, q3⟩ | ⟨q1, q2, q3⟩ | ⟨q1, q2, q3⟩
    · rw [if_pos q2]; exact insF_ok hx (fun z hz => hy z (List.mem_cons_of_mem _ hz)) (k := fun zs => k (y :: zs)) q3
    · rw [q2, if_neg Bool.false_ne_true]; exact q3
    · rw [q2, if_neg Bool.false_ne_true]; exact q3
theorem insR_ok {p : Pat} {x : T} (hx : Mt p x) : ∀ {ys : List T} {k : List T → Ans} {r : T}, (∀ y ∈ ys, Mt p y) → insR x ys k = some r → k (insTr x ys) = some r
  | [], k, r, _, h => h
  | y :: ys, k, r, hy, h => by
    have h1 := cmpF_ok 3 x y _ _ _ r (hx.alk (hy y List.mem_cons_self)) (show cmpF 3 x y (insR x ys fun zs => k (y :: zs)) (k (x :: y :: ys)) (k (x :: y :: ys)) = some r from h)
    rw [insTr]
    rcases h1 with ⟨q1, q2, q3⟩ | ⟨q1, q2, q3⟩ | ⟨q1, q2, q3⟩
    · rw [if_pos q2]; exact insR_ok hx (fun z hz => hy z (List.mem_cons_of_mem _ hz)) (k := fun zs => k (y :: zs)) q3
    · rw [q2, if_neg Bool.false_ne_true]; exact q3
    · rw [q2, if_neg Bool.false_ne_true]; exact q3
theorem mem_insT {p : Pat} {x : T} (hx : Mt p x) : ∀ {ys : List T}, (∀ y ∈ ys, Mt p y) → ∀ y ∈ insT x ys, Mt p y
  | [], _, y, hy => by rw [insT] at hy; rw [List.mem_singleton.mp hy]; exact hx
  | z :: ys, h, y, hy => by
    rw [insT] at hy
    split at hy
    · rcases List.mem_cons.mp hy with rfl | hy
      · exact h y List.mem_cons_self
      · exact mem_insT hx (fun w hw => h w (List.mem_cons_of_mem _ hw)) y hy
    · rcases List.mem_cons.mp hy with rfl | hy
      · exact hx
      · exact h y hy
theorem mem_insTr {p : Pat} {x : T} (hx : Mt p x) : ∀ {ys : List T}, (∀ y ∈ ys, Mt p y) → ∀ y ∈ insTr x ys, Mt p y
  | [], _, y, hy => by rw [insTr] at hy; rw [List.mem_singleton.mp hy]; exact hx
  | z :: ys, h, y, hy => by
    rw [insTr] at hy
    split at hy
    · rcases List.mem_cons.mp hy with rfl | hy
      · exact h y List.mem_cons_self
      · exact mem_insTr hx (fun w hw => h w (List.mem_cons_of_mem _ hw)) y hy
    · rcases List.mem_cons.mp hy with rfl | hy
      · exact hx
      · exact h y hy
theorem srt_ok {p : Pat} {ins : T → List T → (List T → Ans) → Ans} {I : T → List T → List T} {S : List T → List T} (h0 : S [] = []) (hS : ∀ x xs, S (x :: xs) = I x (S xs))
    (hi : ∀ {x : T}, Mt p x → ∀ {ys : List T} {k : List T → Ans} {r : T}, (∀ y ∈ ys, Mt p y) → ins x ys k = some r → k (I x ys) = some r) (hm : ∀ {x : T}, Mt p x → ∀ {ys : List T}, (∀ y ∈ ys, Mt p y) → ∀ y ∈ I x ys, Mt p y) :
    ∀ {xs : List T}, (∀ x ∈ xs, Mt p x) → (∀ y ∈ S xs, Mt p y) ∧ ∀ {k : List T → Ans} {r : T}, srtF ins xs k = some r → k (S xs) = some r
  | [], _ => ⟨by rw [h0]; exact fun _ q => (nomatch q), fun {k r} h => by rw [h0]; exact h⟩
  | x :: xs, h => by
    have hx := h x List.mem_cons_self
    obtain ⟨h1, h2⟩ := srt_ok h0 hS hi hm (xs := xs) fun z hz => h z (List.mem_cons_of_mem _ hz)
    rw [hS]
    exact ⟨hm hx h1, fun {k r} q => hi hx h1 (h2 (show srtF ins xs (fun s => ins x s k) = some r from q))⟩
def fSrt (ins : T → List T → (List T → Ans) → Ans) (g : F1) : F1 := fun a k => cLst a (fun xs => List.rec (motive := fun _ => Ans) (k (.lst []) true) (fun x _ _ => patOf x fun p => ckPs p xs (srtF ins xs fun ys => k (.lst ys) true)) xs) (g a k)
def fSorted : F1 := fSrt insF fun _ _ => none
def fSortedRev : F1 := fSrt insR fun _ _ => none
theorem fSorted_ok : SndP1 .sorted fSorted := fun a k r h => by
  obtain ⟨xs, rfl, h⟩ := cLst_ok (t := a) (k := fun xs => List.rec (motive := fun _ => Ans) (k (.lst []) true) (fun x _ _ => patOf x fun p => ckPs p xs (srtF insF xs fun ys => k (.lst ys) true)) xs) h
  cases xs with
  | nil => exact ⟨.lst [], rfl, h⟩
  | cons x xs =>
    obtain ⟨p, h⟩ := patOf_ok (k := fun p => ckPs p (x :: xs) (srtF insF (x :: xs) fun ys => k (.lst ys) true)) h
    obtain ⟨h1, h2⟩ := ckPs_ok h
    have h3 := (srt_ok (p := p) (I := insT) (S := sortT) (by rw [sortT]) (fun _ _ => by rw [sortT]) insF_ok mem_insT h1).2 h2
    exact ⟨.lst (sortT (x :: xs)), by show sSorted (.lst (x :: xs)) = _; rw [sSorted, if_pos (srt_of h1)], h3⟩
theorem fSortedRev_ok : SndP1 .sortedRev fSortedRev := fun a k r h => by
  obtain ⟨xs, rfl, h⟩ := cLst_ok (t := a) (k := fun xs => List.rec (motive := fun _ => Ans) (k (.lst []) true) (fun x _ _ => patOf x fun p => ckPs p xs (srtF insR xs fun ys => k (.lst ys) true)) xs) h
  cases xs with
  | nil => exact ⟨.lst [], rfl, h⟩
  | cons x xs =>
    obtain ⟨p, h⟩ := patOf_ok (k := fun p => ckPs p (x :: xs) (srtF insR (x :: xs) fun ys => k (.lst ys) true)) h
    obtain ⟨h1, h2⟩ := ckPs_ok h
    have h3 := (srt_ok (p := p) (I := insTr) (S := sortTr) (by rw [sortTr]) (fun _ _ => by rw [sortTr]) insR_ok mem_insTr h1).2 h2
    exact ⟨.lst (sortTr (x :: xs)), by show sSortedRev (.lst (x :: xs)) = _; rw [sSortedRev, if_pos (srt_of h1)], h3⟩
end FE
end
/-! DAg: two meanings of the defs that agree where hands are right: a body that just hands its hand on runs alike under both. -/
namespace DD
variable [Mode]
open PySem
def AgR {α : Type} (Q : α → Prop) (c' c : R α) : Prop := ∀ a, c' = .ok a → c = .ok a ∧ Q a
theorem AgR.bind {α β : Type} {Q : α → Prop} {P : β → Prop} {c' c : R α} {f' f : α → R β} (h : AgR Q c' c) (k : ∀ a, Q a → AgR P (f' a) (f a)) : AgR P (c'.bind f') (c.bind f) := fun b hb => by
  cases e : c' with
  | bad => rw [e] at hb; cases hb
  | exc _ _ _ => rw [e] at hb; cases hb
  | ok a =>
    rw [e] at hb
    obtain ⟨h1, h2⟩ := h a e
    rw [h1]
    exact k a h2 b hb
theorem AgR.ok {α : Type} {P : α → Prop} {a : α} (h : P a) : AgR P (.ok a) (.ok a) := fun b hb => by cases hb; exact ⟨rfl, h⟩
theorem AgR.bad {α : Type} {P : α → Prop} {c : R α} : AgR P .bad c := fun b hb => by cases hb
theorem AgR.same {α : Type} {P : α → Prop} {c : R α} (h : ∀ a, c = .ok a → P a) : AgR P c c := fun a ha => ⟨ha, h a ha⟩
theorem AgR.any {α : Type} {c : R α} : AgR (fun _ => True) c c := .same fun _ _ => trivial
theorem AgR.wk {α : Type} {P Q : α → Prop} {c' c : R α} (h : AgR P c' c) (k : ∀ a, P a → Q a) : AgR Q c' c := fun a ha => ⟨(h a ha).1, k a (h a ha).2⟩
/-- not the hand's slot -/
def neH (h : Option Nat) (i : Nat) : Bool := !(h == some i)
theorem neH_ok {h : Option Nat} {i : Nat} (q : neH h i = true) : h ≠ some i := by
  unfold neH at q
  intro e
  subst e
  simp at q
def hdIo (h : Option Nat) : List E → Bool
  | .io i :: _ => h == some i
  | _ => false
mutual
def okP (h : Option Nat) : P → Bool
  | .s i => neH h i
  | .t ps => okPs h ps
def okPs (h : Option Nat) : List P → Bool
  | [] => true
  | p :: ps => okP h p && okPs h ps
end
section
variable (HF : Nat → Bool) (h : Option Nat)
mutual
def okE : E → Bool
  | .cst _ => true
  | .var i => neH h i
  | .mv i => neH h i
  | .peek i => neH h i
  | .io i => neH h i
  | .tup es => okEs false es
  | .lst es => okEs false es
  | .prim _ es => okEs false es
  | .and a b => okE a && okE b
  | .or a b => okE a && okE b
  | .not a => okE a
  | .ite c a b => okE c && okE a && okE b
  | .chain _ _ a b c => okE a && okE b && okE c
  | .call f es => if HF f then hdIo h es && okEs true es else okEs false es
  | .mk _ es => okEs false es
  | .fld e _ => okE e
  | .pop i => neH h i
  | .popAt i e => neH h i && okE e
  | .comp own g _ es cond elt => own.all (neH h) && okP h g && okEs false es && okC cond && okE elt
  | .comp2 own g _ es g2 _ es2 own2 cond elt => own.all (neH h) && own2.all (neH h) && okP h g && okP h g2 && okEs false es && okEs false es2 && okC cond && okE elt
  | .dcomp own g _ es k v => own.all (neH h) && okP h g && okEs false es && okE k && okE v
  | .dct kvs => okKv kvs
  | .get o a d => okE o && okE a && okE d
  | .cnt o a => okE o && okE a
def okEs (b : Bool) : List E → Bool
  | [] => true
  | e :: es => (b || okE e) && okEs false es
def okC : Option E → Bool
  | none => true
  | some e => okE e
def okKv : List (E × E) → Bool
  | [] => true
  | (k, v) :: r => okE k && okE v && okKv r
end
def okTg : Tg → Bool
  | .s i => neH h i
  | .ix i e => neH h i && okE HF h e
  | .p g => okP h g
def okTgs : List Tg → Bool
  | [] => true
  | g :: gs => okTg HF h g && okTgs gs
mutual
def okS : S → Bool
  | .set i e => neH h i && okE HF h e
  | .asg g e => okP h g && okE HF h e
  | .par gs es => okTgs HF h gs && okEs HF h false es
  | .setIx i ix e => neH h i && okE HF h ix && okE HF h e
  | .aug i _ e => neH h i && okE HF h e
  | .augIx i ix _ e => neH h i && okE HF h ix && okE HF h e
  | .expr e => okE HF h e
  | .app i e => neH h i && okE HF h e
  | .ext i e => neH h i && okE HF h e
  | .ret e => okE HF h e
  | .retN => true
  | .ite c a b => okE HF h c && okSs a && okSs b
  | .forr g _ es body => okP h g && okEs HF h false es && okSs body
  | .forK i g body => neH h i && okP h g && okSs body
  | .whil c body => okE HF h c && okSs body
  | .brk => true | .cont => true | .pass => true | .raise => true
def okSs : List S → Bool
  | [] => true
  | s :: ss => okS s && okSs ss
end
end
section
variable {Hd : T → Prop} {HF : Nat → Bool} {h : Option Nat} {Φ' Φ Ψ : Nat → Fn} {W : Nat}
/-- the hand is right -/
def GH (Hd : T → Prop) (h : Option Nat) (env : En) : Prop := ∀ i, h = some i → ∃ t m, getS env i = some ⟨t, m⟩ ∧ m ≠ .sh ∧ Hd t
theorem getS_set_ne {env : En} {i j : Nat} {x : Option Sl} (n : i ≠ j) : getS (env.set i x) j = getS env j := by
  unfold getS
  rw [List.getElem?_set_ne n]
theorem GH.set {env : En} {i : Nat} {x : Option Sl} (g : GH Hd h env) (q : neH h i = true) : GH Hd h (env.set i x) := fun j e => by
  rw [getS_set_ne (fun z => neH_ok q (by rw [z]; exact e))]
  exact g j e
theorem GH.setS {env e : En} {i : Nat} {t : T} {fr : Bool} (g : GH Hd h env) (q : neH h i = true) (s : setS env i t fr = .ok e) : GH Hd h e := by
  unfold DD.setS at s
  split at s
  · cases s
  · cases s; exact g.set q
  · cases s
theorem GH.upS {env e : En} {i : Nat} {f : T → Option T} (g : GH Hd h env) (q : neH h i = true) (s : upS env i f = .ok e) : GH Hd h e := by
  unfold DD.upS at s
  split at s
  · rename_i t _
    cases e1 : f t with
    | none => rw [e1] at s; cases s
    | some u => rw [e1] at s; cases s; exact g.set q
  · rename_i t _
    cases e1 : f t with
    | none => rw [e1] at s; cases s
    | some u => rw [e1] at s; cases s; exact g.set q
  · cases s
mutual
theorem GH.asgP : ∀ {p : P} {t : T} {env e : En}, GH Hd h env → okP h p = true → asgP p t env = .ok e → GH Hd h e
  | .s i, t, env, e, g, q, s => by
    rw [okP] at q
    rw [DD.asgP] at s
    exact g.setS q s
  | .t ps, t, env, e, g, q, s => by
    rw [okP] at q
    cases t with
    | tup ts =>
      rw [DD.asgP] at s
      split at s
      · exact GH.asgPs g q s
      · cases s
    | _ => simp [DD.asgP] at s
theorem GH.asgPs : ∀ {ps : List P} {ts : List T} {env e : En}, GH Hd h env → okPs h ps = true → asgPs ps ts env = .ok e → GH Hd h e
  | [], ts, env, e, g, q, s => by
    rw [DD.asgPs] at s; cases s; exact g
  | p :: ps, [], env, e, g, q, s => by rw [DD.asgPs.eq_def] at s; try dsimp only at s
                                       cases s
  | p :: ps, t :: ts, env, e, g, q, s => by
    rw [okPs, Bool.and_eq_true] at q
    rw [DD.asgPs] at s
    cases e1 : DD.asgP p t env with
    | bad => rw [e1] at s; cases s
    | exc _ _ _ => rw [e1] at s; cases s
    | ok e' => rw [e1] at s; exact GH.asgPs (GH.asgP g q.1 e1) q.2 s
end
theorem GH.wipe : ∀ {own : List Nat} {env : En}, GH Hd h env → own.all (neH h) = true → GH Hd h (wipeE env own)
  | [], env, g, _ => by rw [wipeE]; exact g
  | i :: own, env, g, q => by
    rw [List.all_cons, Bool.and_eq_true] at q
    rw [wipeE]
    exact (GH.wipe g q.2).set q.1
theorem GH.un {old : En} : ∀ {own : List Nat} {env : En}, GH Hd h env → own.all (neH h) = true → GH Hd h (unE old env own)
  | [], env, g, _ => by rw [unE]; exact g
  | i :: own, env, g, q => by
    rw [List.all_cons, Bool.and_eq_true] at q
    rw [unE]
    exact GH.un (g.set q.1) q.2
theorem GH.back {old env : En} {own : List Nat} (g : GH Hd h env) (q : own.all (neH h) = true) : GH Hd h (backE old env own) := GH.un (g.wipe q) q
/-- what is found, the hand still right -/
def PO (Hd : T → Prop) (h : Option Nat) (p : OV × En) : Prop := GH Hd h p.2 ∧ ∀ j, p.1 = .s j → neH h j = true
def POs (Hd : T → Prop) (h : Option Nat) (p : List OV × En) : Prop := GH Hd h p.2 ∧ ∀ o ∈ p.1, ∀ j, o = .s j → neH h j = true
theorem PO.v {t : T} {fr : Bool} {e : En} (g : GH Hd h e) : PO Hd h (.v t fr, e) := ⟨g, fun _ z => by cases z⟩
structure AgF (Hd : T → Prop) (HF : Nat → Bool) (Φ' Φ : Nat → Fn) : Prop where
  no : ∀ f ts, HF f = false → AgR (fun _ => True) (Φ' f ts) (Φ f ts)
  yes : ∀ f t ts, HF f = true → Hd t → AgR (fun r => ∃ t', r.2.2 = some t' ∧ Hd t') (Φ' f (t :: ts)) (Φ f (t :: ts))
theorem ag_loopC {f' f : En → R (OV × En)} {c' c : En → R (Bool × En)} {g : P} {own : List Nat} (hf : ∀ e, GH Hd h e → AgR (PO Hd h) (f' e) (f e)) (hc : ∀ e, GH Hd h e → AgR (fun p => GH Hd h p.2) (c' e) (c e)) (hp : okP h g = true) (ho : own.all (neH h) = true) :
    ∀ (xs acc : List T) (env : En), GH Hd h env → AgR (fun p => GH Hd h p.2) (loopC f' c' g own xs acc env) (loopC f c g own xs acc env)
  | [], acc, env, q => by rw [loopC, loopC]; exact .ok q
  | x :: xs, acc, env, q => by
    rw [loopC, loopC]
    refine AgR.bind (.same fun e s => GH.asgP (q.wipe ho) hp s) fun e1 q1 => ?_
    refine AgR.bind (hc e1 q1) fun a q2 => ?_
    obtain ⟨b, e2⟩ := a
    dsimp only
    cases b with
    | true =>
      rw [if_pos rfl, if_pos rfl]
      refine AgR.bind (hf e2 q2) fun a q3 => ?_
      obtain ⟨o, e3⟩ := a
      cases o with
      | s i => exact .bad
      | v t fr =>
        dsimp only
        split
        · exact ag_loopC hf hc hp ho xs _ e3 q3.1
        · exact .bad
    | false => rw [if_neg Bool.false_ne_true, if_neg Bool.false_ne_true]; exact ag_loopC hf hc hp ho xs acc e2 q2
theorem ag_loopC2 {f' f : List T → En → R (List T × En)} {g : P} {own : List Nat} (hf : ∀ a e, GH Hd h e → AgR (fun p => GH Hd h p.2) (f' a e) (f a e)) (hp : okP h g = true) (ho : own.all (neH h) = true) :
    ∀ (xs acc : List T) (env : En), GH Hd h env → AgR (fun p => GH Hd h p.2) (loopC2 f' g own xs acc env) (loopC2 f g own xs acc env)
  | [], acc, env, q => by rw [loopC2, loopC2]; exact .ok q
  | x :: xs, acc, env, q => by
    rw [loopC2, loopC2]
    refine AgR.bind (.same fun e s => GH.asgP (q.wipe ho) hp s) fun e1 q1 => ?_
    refine AgR.bind (hf acc e1 q1) fun a q2 => ?_
    obtain ⟨b, e2⟩ := a
    exact ag_loopC2 hf hp ho xs b e2 q2
theorem ag_loopD {f' f : En → R (T × T × En)} {g : P} {own : List Nat} (hf : ∀ e, GH Hd h e → AgR (fun p => GH Hd h p.2.2) (f' e) (f e)) (hp : okP h g = true) (ho : own.all (neH h) = true) :
    ∀ (xs : List T) (acc : List (T × T)) (env : En), GH Hd h env → AgR (fun p => GH Hd h p.2) (loopD f' g own xs acc env) (loopD f g own xs acc env)
  | [], acc, env, q => by rw [loopD, loopD]; exact .ok q
  | x :: xs, acc, env, q => by
    rw [loopD, loopD]
    refine AgR.bind (.same fun e s => GH.asgP (q.wipe ho) hp s) fun e1 q1 => ?_
    refine AgR.bind (hf e1 q1) fun a q2 => ?_
    obtain ⟨k, v, e2⟩ := a
    dsimp only
    split
    · exact ag_loopD hf hp ho xs _ e2 q2
    · exact .bad
theorem ag_bl {o : OV} : AgR (fun _ => True) (asBl o) (asBl o) := .any
theorem ag_opt {α : Type} {o : Option α} : AgR (fun a => o = some a) (R.opt o) (R.opt o) := .same fun a e => by cases o with
  | none => cases e
  | some x => cases e; rfl
theorem ioO_ne : ∀ {os : List OV} {i : Nat}, (∀ o ∈ os, ∀ j, o = .s j → neH h j = true) → ioO os = some i → neH h i = true
  | [], i, _, e => by rw [ioO] at e; cases e
  | .s j :: os, i, q, e => by rw [ioO] at e; cases e; exact q _ List.mem_cons_self _ rfl
  | .v t fr :: os, i, q, e => by rw [ioO] at e; exact ioO_ne (fun o ho => q o (List.mem_cons_of_mem _ ho)) e
theorem GH.put {os : List OV} {out : Option T} {env e : En} (g : GH Hd h env) (q : ∀ o ∈ os, ∀ j, o = .s j → neH h j = true) (s : putIo (ioO os) out env = .ok e) : GH Hd h e := by
  revert s
  cases e1 : ioO os with
  | none =>
    cases out with
    | none => intro s; cases s; exact g
    | some t => intro s; cases s
  | some i =>
    cases out with
    | none => intro s; cases s
    | some t => intro s; exact g.upS (ioO_ne q e1) s
variable (A : AgF Hd HF Φ' Φ)
include A
mutual
theorem agE : ∀ (e : E) (env : En), okE HF h e = true → GH Hd h env → AgR (PO Hd h) (ev Φ' Ψ e env) (ev Φ Ψ e env)
  | .cst t, env, q, g => by rw [ev, ev]; exact .ok (.v g)
  | .var i, env, q, g => by
    rw [okE] at q
    rw [ev, ev]
    split
    · exact .bad
    · exact .ok (.v (g.set q))
    · exact .bad
  | .mv i, env, q, g => by
    rw [okE] at q
    rw [ev, ev]
    split
    · exact .ok (.v (g.set q))
    · exact .ok (.v (g.set q))
    · exact .bad
  | .peek i, env, q, g => by
    rw [okE] at q
    rw [ev, ev]
    split
    · exact .ok ⟨g, fun j z => by cases z; exact q⟩
    · exact .bad
  | .io i, env, q, g => by
    rw [okE] at q
    rw [ev, ev]
    split
    · exact .ok ⟨g, fun j z => by cases z; exact q⟩
    · exact .ok ⟨g, fun j z => by cases z; exact q⟩
    · exact .bad
  | .tup es, env, q, g => by
    rw [okE] at q
    rw [ev, ev]
    refine AgR.bind (agEs es env q g) fun ⟨os, e1⟩ q1 => AgR.bind .any fun ts _ => ?_
    split
    · exact .ok (.v q1.1)
    · exact .bad
  | .lst es, env, q, g => by
    rw [okE] at q
    rw [ev, ev]
    refine AgR.bind (agEs es env q g) fun ⟨os, e1⟩ q1 => AgR.bind .any fun ts _ => ?_
    split
    · exact .ok (.v q1.1)
    · exact .bad
  | .prim p es, env, q, g => by
    rw [okE] at q
    rw [ev, ev]
    exact AgR.bind (agEs es env q g) fun ⟨os, e1⟩ q1 => AgR.bind .any fun ts _ => AgR.bind .any fun t _ => .ok (.v q1.1)
  | .and a b, env, q, g => by
    rw [okE, Bool.and_eq_true] at q
    rw [ev, ev]
    refine AgR.bind (agE a env q.1 g) fun ⟨o, e1⟩ q1 => AgR.bind ag_bl fun c _ => ?_
    cases c with
    | true => exact AgR.bind (agE b e1 q.2 q1.1) fun ⟨o, e2⟩ q2 => AgR.bind ag_bl fun d _ => .ok (.v q2.1)
    | false => exact .ok (.v q1.1)
  | .or a b, env, q, g => by
    rw [okE, Bool.and_eq_true] at q
    rw [ev, ev]
    refine AgR.bind (agE a env q.1 g) fun ⟨o, e1⟩ q1 => AgR.bind ag_bl fun c _ => ?_
    cases c with
    | false => exact AgR.bind (agE b e1 q.2 q1.1) fun ⟨o, e2⟩ q2 => AgR.bind ag_bl fun d _ => .ok (.v q2.1)
    | true => exact .ok (.v q1.1)
  | .not a, env, q, g => by
    rw [okE] at q
    rw [ev, ev]
    exact AgR.bind (agE a env q g) fun ⟨o, e1⟩ q1 => AgR.bind ag_bl fun c _ => .ok (.v q1.1)
  | .ite c a b, env, q, g => by
    rw [okE, Bool.and_eq_true, Bool.and_eq_true] at q
    rw [ev, ev]
    refine AgR.bind (agE c env q.1.1 g) fun ⟨o, e1⟩ q1 => AgR.bind ag_bl fun d _ => ?_
    cases d with
    | true => exact agE a e1 q.1.2 q1.1
    | false => exact agE b e1 q.2 q1.1
  | .chain o1 o2 a b c, env, q, g => by
    rw [okE, Bool.and_eq_true, Bool.and_eq_true] at q
    rw [ev, ev]
    refine AgR.bind (agE a env q.1.1 g) fun ⟨x, e1⟩ q1 => AgR.bind (agE b e1 q.1.2 q1.1) fun ⟨y, e2⟩ q2 => AgR.bind .any fun ts _ => AgR.bind .any fun t _ => AgR.bind ag_bl fun d _ => ?_
    cases d with
    | true => exact AgR.bind (agE c e2 q.2 q2.1) fun ⟨z, e3⟩ q3 => AgR.bind .any fun ts _ => AgR.bind .any fun t _ => .ok (.v q3.1)
    | false => exact .ok (.v q2.1)
  | .call f es, env, q, g => by
    rw [okE] at q
    cases hf : HF f with
    | false =>
      rw [hf, if_neg Bool.false_ne_true] at q
      rw [ev, ev]
      refine AgR.bind (agEs es env q g) fun ⟨os, e1⟩ q1 => AgR.bind .any fun ts _ => ?_
      try dsimp only
      split
      · cases e2 : Φ' f ts with
        | bad => exact .bad
        | exc _ _ _ => exact .bad
        | ok r =>
          rw [(A.no f ts hf r e2).1]
          obtain ⟨t, fr, out⟩ := r
          exact AgR.bind (.same fun e s => q1.1.put q1.2 s) fun e3 q3 => .ok (.v q3)
      · exact .bad
    | true =>
      rw [hf, if_pos rfl, Bool.and_eq_true] at q
      obtain ⟨qa, qb⟩ := q
      cases es with
      | nil => rw [hdIo.eq_def] at qa; cases qa
      | cons e es =>
        rw [okEs, Bool.true_or, Bool.true_and] at qb
        cases e <;> first | (exfalso; rw [hdIo.eq_def] at qa; exact Bool.false_ne_true qa) | skip
        rename_i i
        rw [hdIo] at qa
        have hi : h = some i := eq_of_beq qa
        obtain ⟨t, m, g1, g2, g3⟩ := g i hi
        have hio : ∀ Φ0 : Nat → Fn, ev Φ0 Ψ (.io i) env = .ok (.s i, env) := fun Φ0 => by
          rw [ev, g1]
          cases m with
          | sh => exact absurd rfl g2
          | own => rfl
          | io => rfl
        rw [ev, ev, evs, evs, hio Φ', hio Φ]
        refine AgR.bind (Q := fun p => GH Hd h p.2 ∧ ∃ os, p.1 = .s i :: os) (AgR.bind (Q := fun p => p = (.s i, env)) (.ok rfl) fun a ea => ?_) fun ⟨os, e1⟩ q1 => ?_
        · subst ea
          exact AgR.bind (agEs es env qb g) fun ⟨os, e1⟩ q1 => .ok ⟨q1.1, os, rfl⟩
        obtain ⟨q1, os, rfl⟩ := q1
        obtain ⟨t1, m1, g4, g5, g6⟩ := q1 i hi
        refine AgR.bind ag_opt fun ts hts => ?_
        have hts : ∃ r, ts = t1 :: r := by
          rw [vals] at hts
          have : OV.res e1 (.s i) = some t1 := by show (getS e1 i).map _ = _; rw [g4]; rfl
          rw [this] at hts
          cases e2 : vals e1 os with
          | none => rw [e2] at hts; cases hts
          | some r => rw [e2] at hts; exact ⟨r, (Option.some.inj hts).symm⟩
        obtain ⟨r, rfl⟩ := hts
        split
        · cases e2 : Φ' f (t1 :: r) with
          | bad => exact .bad
          | exc _ _ _ => exact .bad
          | ok res =>
            obtain ⟨a1, t', a2, a3⟩ := A.yes f t1 r hf g6 res e2
            rw [a1]
            obtain ⟨tt, fr, out⟩ := res
            cases a2
            refine AgR.bind (Q := fun e => GH Hd h e) (.same fun e s => ?_) fun e3 q3 => .ok (.v q3)
            replace s : upS e1 i (fun _ => some t') = .ok e := s
            intro j hj
            rw [hi] at hj
            cases hj
            unfold upS at s
            rw [g4] at s
            have hlt : i < e1.length := by
              have : e1[i]? = some (some ⟨t1, m1⟩) := by
                unfold getS at g4
                cases e3 : e1[i]? with
                | none => rw [e3] at g4; cases g4
                | some o => rw [e3] at g4; cases o with
                  | none => cases g4
                  | some x => cases g4; rfl
              exact (List.getElem?_eq_some_iff.mp this).1
            cases m1 with
            | sh => exact absurd rfl g5
            | own => cases s; exact ⟨t', .own, by unfold getS; rw [List.getElem?_set_self hlt]; rfl, by simp, a3⟩
            | io => cases s; exact ⟨t', .io, by unfold getS; rw [List.getElem?_set_self hlt]; rfl, by simp, a3⟩
        · exact .bad
  | .mk c es, env, q, g => by
    rw [okE] at q
    rw [ev, ev]
    refine AgR.bind (agEs es env q g) fun ⟨os, e1⟩ q1 => AgR.bind .any fun ts _ => ?_
    split
    · exact .ok (.v q1.1)
    · exact .bad
  | .fld e x, env, q, g => by
    rw [okE] at q
    rw [ev, ev]
    refine AgR.bind (agE e env q g) fun ⟨o, e1⟩ q1 => ?_
    dsimp only
    split
    · exact AgR.bind .any fun t _ => .ok (.v q1.1)
    · exact .bad
  | .pop i, env, q, g => by
    rw [okE] at q
    rw [ev, ev]
    split
    · exact AgR.bind .any fun t _ => AgR.bind (.same fun e s => g.upS q s) fun e2 q2 => .ok (.v q2)
    · exact .bad
  | .popAt i e, env, q, g => by
    rw [okE, Bool.and_eq_true] at q
    rw [ev, ev]
    split
    · refine AgR.bind (agE e env q.2 g) fun ⟨o, e1⟩ q1 => ?_
      dsimp only
      split
      · split
        · exact AgR.bind .any fun j _ => AgR.bind .any fun t _ => AgR.bind (.same fun e s => q1.1.upS q.1 s) fun e2 q2 => .ok (.v q2)
        · exact .bad
      · exact .bad
    · exact .bad
  | .comp own p k es cond elt, env, q, g => by
    rw [okE] at q
    simp only [Bool.and_eq_true] at q
    obtain ⟨⟨⟨⟨qo, qp⟩, qe⟩, qc⟩, ql⟩ := q
    rw [ev, ev]
    refine AgR.bind (agEs es env qe g) fun ⟨os, e1⟩ q1 => AgR.bind .any fun ts _ => AgR.bind .any fun xs _ => ?_
    exact AgR.bind (ag_loopC (fun e ge => agE elt e ql ge) (fun e ge => agC cond e qc ge) qp qo xs [] e1 q1.1) fun ⟨ys, e2⟩ q2 => .ok (.v (GH.back q2 qo))
  | .comp2 own p k es p2 k2 es2 own2 cond elt, env, q, g => by
    rw [okE] at q
    simp only [Bool.and_eq_true] at q
    obtain ⟨⟨⟨⟨⟨⟨⟨qo, qo2⟩, qp⟩, qp2⟩, qe⟩, qe2⟩, qc⟩, ql⟩ := q
    rw [ev, ev]
    refine AgR.bind (agEs es env qe g) fun ⟨os, e1⟩ q1 => AgR.bind .any fun ts _ => AgR.bind .any fun xs _ => ?_
    refine AgR.bind (ag_loopC2 (fun acc e ge => ?_) qp qo xs [] e1 q1.1) fun ⟨ys, e2⟩ q2 => .ok (.v (GH.back q2 qo))
    exact AgR.bind (agEs es2 e qe2 ge) fun ⟨os2, e3⟩ q3 => AgR.bind .any fun ts _ => AgR.bind .any fun ys _ => ag_loopC (fun e ge => agE elt e ql ge) (fun e ge => agC cond e qc ge) qp2 qo2 ys acc e3 q3.1
  | .dcomp own p k es key val, env, q, g => by
    rw [okE] at q
    simp only [Bool.and_eq_true] at q
    obtain ⟨⟨⟨⟨qo, qp⟩, qe⟩, qk⟩, qv⟩ := q
    rw [ev, ev]
    refine AgR.bind (agEs es env qe g) fun ⟨os, e1⟩ q1 => AgR.bind .any fun ts _ => AgR.bind .any fun xs _ => ?_
    refine AgR.bind (ag_loopD (fun e ge => ?_) qp qo xs [] e1 q1.1) fun ⟨ys, e2⟩ q2 => .ok (.v (GH.back q2 qo))
    refine AgR.bind (agE key e qk ge) fun ⟨o, e3⟩ q3 => AgR.bind (agE val e3 qv q3.1) fun ⟨o2, e4⟩ q4 => ?_
    dsimp only
    split
    · exact .ok q4.1
    · exact .bad
  | .dct kvs, env, q, g => by
    rw [okE] at q
    rw [ev, ev]
    exact AgR.bind (agKv kvs env q g) fun ⟨ys, e1⟩ q1 => AgR.bind .any fun d _ => .ok (.v q1)
  | .get o a d, env, q, g => by
    rw [okE, Bool.and_eq_true, Bool.and_eq_true] at q
    rw [ev, ev]
    refine AgR.bind (agE o env q.1.1 g) fun ⟨x, e1⟩ q1 => ?_
    dsimp only
    split
    · exact AgR.bind (agE a e1 q.1.2 q1.1) fun ⟨y, e2⟩ q2 => AgR.bind (agE d e2 q.2 q2.1) fun ⟨z, e3⟩ q3 => AgR.bind .any fun ts _ => AgR.bind .any fun t _ => .ok (.v q3.1)
    · exact .bad
  | .cnt o a, env, q, g => by
    rw [okE, Bool.and_eq_true] at q
    rw [ev, ev]
    refine AgR.bind (agE o env q.1 g) fun ⟨x, e1⟩ q1 => ?_
    dsimp only
    split
    · split
      · exact AgR.bind (agE a e1 q.2 q1.1) fun ⟨y, e2⟩ q2 => AgR.bind .any fun k _ => AgR.bind .any fun t _ => .ok (.v q2.1)
      · exact .bad
    · exact .bad
theorem agEs : ∀ (es : List E) (env : En), okEs HF h false es = true → GH Hd h env → AgR (POs Hd h) (evs Φ' Ψ es env) (evs Φ Ψ es env)
  | [], env, q, g => by rw [evs, evs]; exact .ok ⟨g, fun _ z => (nomatch z)⟩
  | e :: es, env, q, g => by
    rw [okEs, Bool.false_or, Bool.and_eq_true] at q
    rw [evs, evs]
    refine AgR.bind (agE e env q.1 g) fun ⟨o, e1⟩ q1 => AgR.bind (agEs es e1 q.2 q1.1) fun ⟨os, e2⟩ q2 => .ok ⟨q2.1, fun o' ho j z => ?_⟩
    rcases List.mem_cons.mp ho with rfl | ho
    · exact q1.2 j z
    · exact q2.2 o' ho j z
theorem agC : ∀ (c : Option E) (env : En), okC HF h c = true → GH Hd h env → AgR (fun p => GH Hd h p.2) (evc Φ' Ψ c env) (evc Φ Ψ c env)
  | none, env, q, g => by rw [evc, evc]; exact .ok g
  | some e, env, q, g => by
    rw [okC] at q
    rw [evc, evc]
    exact AgR.bind (agE e env q g) fun ⟨o, e1⟩ q1 => AgR.bind ag_bl fun b _ => .ok q1.1
theorem agKv : ∀ (kvs : List (E × E)) (env : En), okKv HF h kvs = true → GH Hd h env → AgR (fun p => GH Hd h p.2) (evkv Φ' Ψ kvs env) (evkv Φ Ψ kvs env)
  | [], env, q, g => by rw [evkv, evkv]; exact .ok g
  | (k, v) :: r, env, q, g => by
    rw [okKv, Bool.and_eq_true, Bool.and_eq_true] at q
    rw [evkv, evkv]
    refine AgR.bind (agE k env q.1.1 g) fun ⟨o, e1⟩ q1 => AgR.bind (agE v e1 q.1.2 q1.1) fun ⟨p, e2⟩ q2 => ?_
    dsimp only
    split
    · exact AgR.bind (agKv r e2 q.2 q2.1) fun ⟨ys, e3⟩ q3 => .ok q3
    · exact .bad
end
end
end DD
/-! DAg2: the same for statements and defs. -/
namespace DD
variable [Mode]
open PySem
variable {Hd : T → Prop} {HF : Nat → Bool} {h : Option Nat} {Φ' Φ Ψ : Nat → Fn} {W : Nat}
theorem ag_loopF {f' f : En → R (Fl × En)} {g : P} (hf : ∀ e, GH Hd h e → AgR (fun p => GH Hd h p.2) (f' e) (f e)) (hp : okP h g = true) :
    ∀ (xs : List T) (env : En), GH Hd h env → AgR (fun p => GH Hd h p.2) (loopF f' g xs env) (loopF f g xs env)
  | [], env, q => by rw [loopF, loopF]; exact .ok q
  | x :: xs, env, q => by
    rw [loopF, loopF]
    refine AgR.bind (.same fun e s => GH.asgP q hp s) fun e1 q1 => AgR.bind (hf e1 q1) fun ⟨fl, e2⟩ q2 => ?_
    cases fl with
    | nx => exact ag_loopF hf hp xs e2 q2
    | ct => exact ag_loopF hf hp xs e2 q2
    | bk => exact .ok q2
    | rt t fr => exact .ok q2
theorem ag_loopW {c' c : En → R (Bool × En)} {f' f : En → R (Fl × En)} (hc : ∀ e, GH Hd h e → AgR (fun p => GH Hd h p.2) (c' e) (c e)) (hf : ∀ e, GH Hd h e → AgR (fun p => GH Hd h p.2) (f' e) (f e)) :
    ∀ (n : Nat) (env : En), GH Hd h env → AgR (fun p => GH Hd h p.2) (loopW c' f' n env) (loopW c f n env)
  | 0, env, q => by rw [loopW]; exact .bad
  | n + 1, env, q => by
    rw [loopW, loopW]
    refine AgR.bind (hc env q) fun ⟨b, e1⟩ q1 => ?_
    dsimp only
    cases b with
    | false => rw [if_neg Bool.false_ne_true, if_neg Bool.false_ne_true]; exact .ok q1
    | true =>
      rw [if_pos rfl, if_pos rfl]
      refine AgR.bind (hf e1 q1) fun ⟨fl, e2⟩ q2 => ?_
      cases fl with
      | nx => exact ag_loopW hc hf n e2 q2
      | ct => exact ag_loopW hc hf n e2 q2
      | bk => exact .ok q2
      | rt t fr => exact .ok q2
section
variable (A : AgF Hd HF Φ' Φ)
include A
theorem agT : ∀ (g : Tg) (t : T) (fr : Bool) (env : En), okTg HF h g = true → GH Hd h env → AgR (fun e => GH Hd h e) (asgT Φ' Ψ g t fr env) (asgT Φ Ψ g t fr env)
  | .s i, t, fr, env, q, g => by rw [okTg] at q; rw [asgT, asgT]; exact .same fun e s => g.setS q s
  | .ix i e, t, fr, env, q, g => by
    rw [okTg, Bool.and_eq_true] at q
    rw [asgT, asgT]
    exact AgR.bind (agE A e env q.2 g) fun ⟨o, e1⟩ q1 => AgR.bind .any fun k _ => .same fun e s => q1.1.upS q.1 s
  | .p p, t, fr, env, q, g => by rw [okTg] at q; rw [asgT, asgT]; exact .same fun e s => g.asgP q s
theorem agTs : ∀ (gs : List Tg) (os : List OV) (env : En), okTgs HF h gs = true → GH Hd h env → AgR (fun e => GH Hd h e) (asgTs Φ' Ψ gs os env) (asgTs Φ Ψ gs os env)
  | [], [], env, q, g => by rw [asgTs, asgTs]; exact .ok g
  | [], _ :: _, env, q, g => by rw [asgTs.eq_def]; exact .bad
  | _ :: _, [], env, q, g => by rw [asgTs.eq_def]; exact .bad
  | g' :: gs, .s i :: os, env, q, g => by rw [asgTs.eq_def]; exact .bad
  | g' :: gs, .v t fr :: os, env, q, g => by
    rw [okTgs, Bool.and_eq_true] at q
    rw [asgTs, asgTs]
    exact AgR.bind (agT A g' t fr env q.1 g) fun e1 q1 => agTs gs os e1 q.2 q1
mutual
theorem agS : ∀ (s : S) (env : En), okS HF h s = true → GH Hd h env → AgR (fun p => GH Hd h p.2) (exec Φ' Ψ W s env) (exec Φ Ψ W s env)
  | .set i e, env, q, g => by
    rw [okS, Bool.and_eq_true] at q
    rw [DD.exec, DD.exec]
    refine AgR.bind (agE A e env q.2 g) fun ⟨o, e1⟩ q1 => ?_
    cases o with
    | s j => exact .bad
    | v t fr => exact AgR.bind (.same fun e s => q1.1.setS q.1 s) fun e2 q2 => .ok q2
  | .asg p e, env, q, g => by
    rw [okS, Bool.and_eq_true] at q
    rw [DD.exec, DD.exec]
    refine AgR.bind (agE A e env q.2 g) fun ⟨o, e1⟩ q1 => ?_
    cases o with
    | s j => exact .bad
    | v t fr => exact AgR.bind (.same fun e s => q1.1.asgP q.1 s) fun e2 q2 => .ok q2
  | .par gs es, env, q, g => by
    rw [okS, Bool.and_eq_true] at q
    rw [DD.exec, DD.exec]
    exact AgR.bind (agEs A es env q.2 g) fun ⟨os, e1⟩ q1 => AgR.bind (agTs A gs os e1 q.1 q1.1) fun e2 q2 => .ok q2
  | .setIx i ix e, env, q, g => by
    rw [okS, Bool.and_eq_true, Bool.and_eq_true] at q
    rw [DD.exec, DD.exec]
    refine AgR.bind (agE A e env q.2 g) fun ⟨o, e1⟩ q1 => ?_
    dsimp only
    split
    · exact AgR.bind (agE A ix e1 q.1.2 q1.1) fun ⟨k, e2⟩ q2 => AgR.bind .any fun k _ => AgR.bind (.same fun e s => q2.1.upS q.1.1 s) fun e3 q3 => .ok q3
    · exact .bad
  | .aug i p e, env, q, g => by
    rw [okS, Bool.and_eq_true] at q
    rw [DD.exec, DD.exec]
    split
    · refine AgR.bind (agE A e env q.2 g) fun ⟨o, e1⟩ q1 => ?_
      dsimp only
      split
      · split
        · exact AgR.bind .any fun t _ => AgR.bind (.same fun e s => q1.1.setS q.1 s) fun e2 q2 => .ok q2
        · exact .bad
      · exact .bad
    · exact .bad
  | .augIx i ix p e, env, q, g => by
    rw [okS, Bool.and_eq_true, Bool.and_eq_true] at q
    rw [DD.exec, DD.exec]
    refine AgR.bind (agE A ix env q.1.2 g) fun ⟨k, e1⟩ q1 => ?_
    dsimp only
    split
    · split
      · refine AgR.bind .any fun a _ => AgR.bind (agE A e e1 q.2 q1.1) fun ⟨o, e2⟩ q2 => AgR.bind .any fun b _ => ?_
        dsimp only
        split
        · exact AgR.bind .any fun t _ => AgR.bind (.same fun e s => q2.1.upS q.1.1 s) fun e3 q3 => .ok q3
        · exact .bad
      · exact .bad
    · exact .bad
  | .expr e, env, q, g => by
    rw [okS] at q
    rw [DD.exec, DD.exec]
    exact AgR.bind (agE A e env q g) fun ⟨o, e1⟩ q1 => .ok q1.1
  | .app i e, env, q, g => by
    rw [okS, Bool.and_eq_true] at q
    rw [DD.exec, DD.exec]
    split
    · refine AgR.bind (agE A e env q.2 g) fun ⟨o, e1⟩ q1 => ?_
      cases o with
      | s j => exact .bad
      | v t fr => exact AgR.bind (.same fun e s => q1.1.upS q.1 s) fun e2 q2 => .ok q2
    · exact .bad
  | .ext i e, env, q, g => by
    rw [okS, Bool.and_eq_true] at q
    rw [DD.exec, DD.exec]
    split
    · refine AgR.bind (agE A e env q.2 g) fun ⟨o, e1⟩ q1 => ?_
      dsimp only
      split
      · exact AgR.bind (.same fun e s => q1.1.upS q.1 s) fun e2 q2 => .ok q2
      · exact .bad
    · exact .bad
  | .ret e, env, q, g => by
    rw [okS] at q
    rw [DD.exec, DD.exec]
    refine AgR.bind (agE A e env q g) fun ⟨o, e1⟩ q1 => ?_
    cases o with
    | s j => exact .bad
    | v t fr => exact .ok q1.1
  | .retN, env, q, g => by rw [DD.exec, DD.exec]; exact .ok g
  | .ite c a b, env, q, g => by
    rw [okS, Bool.and_eq_true, Bool.and_eq_true] at q
    rw [DD.exec, DD.exec]
    refine AgR.bind (agE A c env q.1.1 g) fun ⟨o, e1⟩ q1 => AgR.bind ag_bl fun d _ => ?_
    cases d with
    | true => exact agSs a e1 q.1.2 q1.1
    | false => exact agSs b e1 q.2 q1.1
  | .forr p k es body, env, q, g => by
    rw [okS, Bool.and_eq_true, Bool.and_eq_true] at q
    rw [DD.exec, DD.exec]
    exact AgR.bind (agEs A es env q.1.2 g) fun ⟨os, e1⟩ q1 => AgR.bind .any fun ts _ => AgR.bind .any fun xs _ => ag_loopF (fun e ge => agSs body e q.2 ge) q.1.1 xs e1 q1.1
  | .forK i p body, env, q, g => by
    rw [okS, Bool.and_eq_true, Bool.and_eq_true] at q
    rw [DD.exec, DD.exec]
    split
    · split
      · exact .ok g
      · exact ag_loopF (fun e ge => agSs body e q.2 ge) q.1.2 _ _ (g.set q.1.1)
    · exact .bad
  | .whil c body, env, q, g => by
    rw [okS, Bool.and_eq_true] at q
    rw [DD.exec, DD.exec]
    refine ag_loopW (fun e ge => ?_) (fun e ge => agSs body e q.2 ge) W env g
    refine AgR.bind (agE A c e q.1 ge) fun ⟨o, e1⟩ q1 => ?_
    exact AgR.bind ag_bl fun b _ => .ok q1.1
  | .brk, env, q, g => by rw [DD.exec, DD.exec]; exact .ok g
  | .cont, env, q, g => by rw [DD.exec, DD.exec]; exact .ok g
  | .pass, env, q, g => by rw [DD.exec, DD.exec]; exact .ok g
  | .raise, env, q, g => by rw [DD.exec]; exact .bad
theorem agSs : ∀ (ss : List S) (env : En), okSs HF h ss = true → GH Hd h env → AgR (fun p => GH Hd h p.2) (execs Φ' Ψ W ss env) (execs Φ Ψ W ss env)
  | [], env, q, g => by rw [DD.execs, DD.execs]; exact .ok g
  | s :: ss, env, q, g => by
    rw [okSs, Bool.and_eq_true] at q
    rw [DD.execs, DD.execs]
    refine AgR.bind (agS s env q.1 g) fun ⟨fl, e1⟩ q1 => ?_
    cases fl with
    | nx => exact agSs ss e1 q.2 q1
    | rt t fr => exact .ok q1
    | bk => exact .ok q1
    | ct => exact .ok q1
end
/-- a def that has no hand -/
theorem ag_run0 {d : Df} (ok : okSs HF none d.body = true) (ts : List T) : AgR (fun _ => True) (runDf Φ' Ψ W d ts) (runDf Φ Ψ W d ts) := by
  unfold runDf
  split
  · refine AgR.bind (agSs A d.body _ ok fun _ e => (nomatch e)) fun ⟨fl, e1⟩ _ => ?_
    cases fl with
    | nx => exact AgR.bind .any fun o _ => .ok trivial
    | rt t fr => exact AgR.bind .any fun o _ => .ok trivial
    | bk => exact .bad
    | ct => exact .bad
  · exact .bad
/-- a def whose first parameter is the hand -/
theorem ag_run1 {d : Df} (ok : okSs HF (some 0) d.body = true) (hio : d.io = some 0) {t : T} (ht : Hd t) (ts : List T) : AgR (fun r => ∃ t', r.2.2 = some t' ∧ Hd t') (runDf Φ' Ψ W d (t :: ts)) (runDf Φ Ψ W d (t :: ts)) := by
  unfold runDf
  split
  · refine AgR.bind (agSs A d.body _ ok fun i e => ?_) fun ⟨fl, e1⟩ q1 => ?_
    · cases e
      refine ⟨t, .io, ?_, (by simp), ht⟩
      unfold getS startE
      rw [hio, List.mapIdx_cons]
      rfl
    · obtain ⟨t', m, g1, g2, g3⟩ := q1 0 rfl
      have hout : ∀ o, outOf d.io e1 = some o → ∃ u, o = some u ∧ Hd u := by
        intro o ho
        rw [hio, outOf, g1] at ho
        cases m with
        | io => cases ho; exact ⟨_, rfl, g3⟩
        | own => cases ho
        | sh => cases ho
      cases fl with
      | nx => exact AgR.bind ag_opt fun o ho => .ok (hout o ho)
      | rt t fr => exact AgR.bind ag_opt fun o ho => .ok (hout o ho)
      | bk => exact .bad
      | ct => exact .bad
  · exact .bad
end
def NoC0 : Nat → Fn := fun _ _ => .bad
/-- the defs' meaning, some of it given -/
def fnO (W : Nat) (D : Nat → Option Df) (O : Nat → Nat → Option Fn) : Nat → Nat → Fn
  | 0, _ => fun _ => .bad
  | n + 1, f => fun ts => match O n f with
    | some g => g ts
    | none => match D f with
      | some d => runDf (fnO W D O n) (fun _ _ => .bad) W d ts
      | none => .bad
/-- deeper calls answer the same -/
theorem fn_mono {D : Nat → Option Df} (ok : ∀ i d, D i = some d → okSs (fun _ => false) none d.body = true) : ∀ n, AgF (fun _ => True) (fun _ => false) (fnS W D n) (fnS W D (n + 1))
  | 0 => ⟨fun f ts _ => by rw [fnS]; exact .bad, fun f t ts e => (nomatch e)⟩
  | n + 1 => ⟨fun f ts _ => by
      rw [fnS, fnS.eq_def]
      dsimp only
      cases e : D f with
      | none => exact .bad
      | some d => exact ag_run0 (fn_mono ok n) (ok f d e) ts, fun f t ts e => (nomatch e)⟩
theorem fn_up {D : Nat → Option Df} (ok : ∀ i d, D i = some d → okSs (fun _ => false) none d.body = true) {n m f : Nat} {ts : List T} {r : T × Bool × Option T} (hm : n ≤ m) (e : fnS W D n f ts = .ok r) : fnS W D m f ts = .ok r := by
  obtain ⟨k, rfl⟩ := Nat.exists_eq_add_of_le hm
  clear hm
  induction k with
  | zero => exact e
  | succ k ih => exact ((fn_mono ok (n + k)).no f ts rfl r ih).1
/-- where hands are right the given meaning is the meaning -/
theorem ag_fnO {D' D : Nat → Option Df} {O : Nat → Nat → Option Fn} (hD : ∀ i d, D' i = some d → D i = some d ∧ (if HF i then okSs HF (some 0) d.body && decide (d.io = some 0) else okSs HF none d.body) = true)
    (hO : ∀ n f g, O n f = some g → HF f = true ∧ ∀ t ts, Hd t → AgR (fun r => ∃ t', r.2.2 = some t' ∧ Hd t') (g (t :: ts)) (fnS W D (n + 1) f (t :: ts))) : ∀ n, AgF Hd HF (fnO W D' O n) (fnS W D n)
  | 0 => ⟨fun f ts _ => by rw [fnO]; exact .bad, fun f t ts _ _ => by rw [fnO]; exact .bad⟩
  | n + 1 => by
    have A := ag_fnO hD hO n
    refine ⟨fun f ts hf => ?_, fun f t ts hf ht => ?_⟩
    · rw [fnO]
      cases e : O n f with
      | some g => exact absurd (hO n f g e).1 (by rw [hf]; exact Bool.false_ne_true)
      | none =>
        dsimp only
        cases e2 : D' f with
        | none => exact .bad
        | some d =>
          obtain ⟨h1, h2⟩ := hD f d e2
          rw [hf, if_neg Bool.false_ne_true] at h2
          rw [fnS, h1]
          exact ag_run0 A h2 ts
    · rw [fnO]
      cases e : O n f with
      | some g => exact (hO n f g e).2 t ts ht
      | none =>
        dsimp only
        cases e2 : D' f with
        | none => exact .bad
        | some d =>
          obtain ⟨h1, h2⟩ := hD f d e2
          rw [hf, if_pos rfl, Bool.and_eq_true, decide_eq_true_eq] at h2
          rw [fnS, h1]
          exact ag_run1 A h2.1 h2.2 ht ts
end DD
/-! DOra: draws as choices: a run that answers the same whatever is drawn. -/
noncomputable section
namespace FE
variable [DD.Mode]
open PySem DD
/-! ### all branches -/
def yes : Ans := some (.bl true)
def both (a b : Ans) : Ans := Option.rec none (fun x => cBl x (fun c => bIf c b none) none) a
theorem both_ok {a b : Ans} {r : T} (h : both a b = some r) : a = some (.bl true) ∧ b = some r := by
  cases a with
  | none => exact noA h
  | some x =>
    obtain ⟨c, rfl, h'⟩ := cBl_ok (show cBl x (fun c => bIf c b none) none = some r from h)
    rw [bIf_eq] at h'
    cases c with
    | true => exact ⟨rfl, h'⟩
    | false => exact noA h'
def alls (n : Nat) (f : Nat → Ans) : Ans := Nat.rec yes (fun i ih => both (f i) ih) n
theorem alls_ok {f : Nat → Ans} : ∀ {n : Nat} {r : T}, alls n f = some r → r = .bl true ∧ ∀ i, i < n → f i = some (.bl true)
  | 0, r, h => ⟨by cases h; rfl, fun i hi => absurd hi (Nat.not_lt_zero _)⟩
  | n + 1, r, h => by
    obtain ⟨h1, h2⟩ := both_ok (show both (f n) (alls n f) = some r from h)
    obtain ⟨h3, h4⟩ := alls_ok h2
    refine ⟨h3, fun i hi => ?_⟩
    by_cases e : i = n
    · rw [e]; exact h1
    · exact h4 i (by omega)
def isTrue (v : T) (fr : Bool) : Ans := cBl v (fun b => bIf b (bIf fr none yes) none) none
theorem isTrue_ok {v : T} {fr : Bool} {r : T} (h : isTrue v fr = some r) : v = .bl true ∧ fr = false := by
  obtain ⟨b, rfl, q⟩ := cBl_ok h
  rw [bIf_eq, bIf_eq] at q
  cases b with
  | false => exact noA q
  | true =>
    cases fr with
    | true => exact noA q
    | false => exact ⟨rfl, rfl⟩
/-! ### defs whose answers are chosen -/
structure IsOrc (Hd : T → Prop) (F : Fn) (fz : Bool) (pre : List T → Prop) (post : List T → T → Prop) : Prop where
  ok : ∀ t as, Hd t → pre as → ∃ x t', F (t :: as) = .ok (x, fz, some t') ∧ post as x ∧ Hd t'
open Classical in
def gO (Hd : T → Prop) (F : Fn) (fz : Bool) (pre : List T → Prop) (df : List T → T) : Fn := fun ts => match ts with
  | [] => .bad
  | t :: as => if pre as then (if Hd t then F (t :: as) else .ok (df as, fz, some t)) else .bad
def nxt (g : Fn) (t : T) (as : List T) : T := match g (t :: as) with
  | .ok (_, _, some t') => t'
  | _ => t
def gAt (n0 : Nat) (g : Fn) (n : Nat) : Fn := if n0 ≤ n + 1 then g else fun _ => .bad
section
variable {Hd : T → Prop} {F : Fn} {fz : Bool} {pre : List T → Prop} {post : List T → T → Prop} {df : List T → T}
theorem gO_ok (I : IsOrc Hd F fz pre post) (hdf : ∀ as, pre as → post as (df as)) {t : T} {as : List T} (hp : pre as) : ∃ x, gO Hd F fz pre df (t :: as) = .ok (x, fz, some (nxt (gO Hd F fz pre df) t as)) ∧ post as x := by
  have : ∃ x t', gO Hd F fz pre df (t :: as) = .ok (x, fz, some t') ∧ post as x := by
    by_cases ht : Hd t
    · obtain ⟨x, t', h1, h2, _⟩ := I.ok t as ht hp
      exact ⟨x, t', by unfold gO; dsimp only; rw [if_pos hp, if_pos ht]; exact h1, h2⟩
    · exact ⟨df as, t, by unfold gO; dsimp only; rw [if_pos hp, if_neg ht], hdf as hp⟩
  obtain ⟨x, t', h1, h2⟩ := this
  refine ⟨x, ?_, h2⟩
  unfold nxt
  rw [h1]
theorem gO_ag (I : IsOrc Hd F fz pre post) {t : T} (ht : Hd t) (as : List T) : AgR (fun r => ∃ t', r.2.2 = some t' ∧ Hd t') (gO Hd F fz pre df (t :: as)) (F (t :: as)) := by
  by_cases hp : pre as
  · obtain ⟨x, t', h1, h2, h3⟩ := I.ok t as ht hp
    have : gO Hd F fz pre df (t :: as) = F (t :: as) := by unfold gO; dsimp only; rw [if_pos hp, if_pos ht]
    rw [this, h1]
    exact .ok ⟨t', rfl, h3⟩
  · have : gO Hd F fz pre df (t :: as) = .bad := by unfold gO; dsimp only; rw [if_neg hp]
    rw [this]
    exact .bad
theorem gAt_ag {W : Nat} {D : Nat → Option Df} {n0 f : Nat} (mono : ∀ i d, D i = some d → okSs (fun _ => false) none d.body = true) (I : IsOrc Hd (fnS W D n0 f) fz pre post) (n : Nat) {t : T} (ht : Hd t) (as : List T) :
    AgR (fun r => ∃ t', r.2.2 = some t' ∧ Hd t') (gAt n0 (gO Hd (fnS W D n0 f) fz pre df) n (t :: as)) (fnS W D (n + 1) f (t :: as)) := by
  unfold gAt
  split
  · rename_i hn
    intro r hr
    obtain ⟨h1, h2⟩ := gO_ag I ht as r hr
    exact ⟨fn_up mono hn h1, h2⟩
  · exact .bad
theorem orc_snd {Fm : Nat → Nat → Fn} {f n0 : Nat} {fc : FnC} (I : IsOrc Hd F fz pre post) (hdf : ∀ as, pre as → post as (df as)) (hn : 1 ≤ n0) (hF : ∀ n ts, Fm (n + 1) f ts = gAt n0 (gO Hd F fz pre df) n ts)
    (hc : ∀ ts k r, fc ts k = some r → ∃ t as, ts = t :: as ∧ pre as ∧ ∀ x, post as x → k x fz (some (nxt (gO Hd F fz pre df) t as)) = some r) : Snd Fm f n0 fc := fun n hle ts k r h => by
  obtain ⟨m, rfl⟩ : ∃ m, n = m + 1 := ⟨n - 1, by omega⟩
  obtain ⟨t, as, rfl, h1, h2⟩ := hc ts k r h
  obtain ⟨x, h3, h4⟩ := gO_ok I hdf (t := t) h1
  refine ⟨x, fz, _, ?_, h2 x h4⟩
  rw [hF]
  unfold gAt
  rw [if_pos hle]
  exact h3
end
/-! ### a draw -/
def preD (as : List T) : Prop := ∃ m : Nat, as = [.int (Int.ofNat m)] ∧ 1 ≤ m ∧ m < 1073741824
def postD (as : List T) (x : T) : Prop := ∃ m d : Nat, as = [.int (Int.ofNat m)] ∧ x = .int (Int.ofNat d) ∧ d < m
def dfD (_ : List T) : T := .int 0
theorem dfD_ok (as : List T) (h : preD as) : postD as (dfD as) := by
  obtain ⟨m, rfl, h1, h2⟩ := h
  exact ⟨m, 0, rfl, rfl, by omega⟩
theorem draw_orc {Φ : Nat → Fn} {f : Nat} (h : DrawOk Φ f) : IsOrc Hd (Φ f) false preD postD := ⟨fun t as ht hp => by
  obtain ⟨m, rfl, h1, h2⟩ := hp
  obtain ⟨d, t', q1, q2, q3, q4⟩ := h t ht (Int.ofNat m) (by simp; omega) (by simp; omega)
  refine ⟨_, t', q1, ⟨m, d.toNat, rfl, ?_, ?_⟩, q4⟩
  · congr 1
    exact (Int.toNat_of_nonneg q2).symm
  · have : d < (m : Int) := q3
    omega⟩
def drawC (g : Fn) : FnC := fun ts k => List.rec (motive := fun _ => Ans) none (fun t as _ => List.rec (motive := fun _ => Ans) none (fun a bs _ => List.rec (motive := fun _ => Ans) (cInt a (fun i => Int.rec (motive := fun _ => Ans) (fun m => bIf (Nat.ble 1 m) (bIf (Nat.ble m 1073741823) (alls m fun d => k (.int (Int.ofNat d)) false (some (nxt g t as))) none) none) (fun _ => none) i) none) (fun _ _ _ => none) bs) as) ts
theorem drawC_ok {g : Fn} (ts : List T) (k : T → Bool → Option T → Ans) (r : T) (h : drawC g ts k = some r) : ∃ t as, ts = t :: as ∧ preD as ∧ ∀ x, postD as x → k x false (some (nxt g t as)) = some r := by
  cases ts with
  | nil => exact noA h
  | cons t as =>
    cases as with
    | nil => exact noA h
    | cons a bs =>
      cases bs with
      | cons _ _ => exact noA h
      | nil =>
        obtain ⟨i, rfl, h'⟩ := cInt_ok (show cInt a (fun i => Int.rec (motive := fun _ => Ans) (fun m => bIf (Nat.ble 1 m) (bIf (Nat.ble m 1073741823) (alls m fun d => k (.int (Int.ofNat d)) false (some (nxt g t [a]))) none) none) (fun _ => none) i) none = some r from h)
        cases i with
        | negSucc n => exact noA h'
        | ofNat m =>
          replace h' : bIf (Nat.ble 1 m) (bIf (Nat.ble m 1073741823) (alls m fun d => k (.int (Int.ofNat d)) false (some (nxt g t [.int (Int.ofNat m)]))) none) none = some r := h'
          rw [bIf_eq] at h'
          split at h'
          · rename_i q1
            rw [bIf_eq] at h'
            split at h'
            · rename_i q2
              have q1 := Nat.le_of_ble_eq_true q1
              have q2 := Nat.le_of_ble_eq_true q2
              obtain ⟨rfl, h2⟩ := alls_ok h'
              refine ⟨t, _, rfl, ⟨m, rfl, q1, by omega⟩, fun x hx => ?_⟩
              obtain ⟨m', d, e1, rfl, e3⟩ := hx
              cases e1
              exact h2 d e3
            · cases h'
          · cases h'
/-! ### a row that is mixed -/
def dMix (f : Nat) : Df := ⟨2, (some 0), 4, [
    .par [.s 2, .s 3] [.prim .list [.peek 1], .lst []],
    .whil (.prim .gt [.prim .len [.peek 2], .cst (.int 0)]) [.app 3 (.popAt 2 (.call f [.io 0, .prim .len [.peek 2]]))],
    .ret (.mv 3)]⟩
def mE (t u : T) (rest found : List T) : En := [some ⟨t, .io⟩, some ⟨u, .sh⟩, some ⟨.lst rest, .own⟩, some ⟨.lst found, .own⟩]
theorem eidx_perm : ∀ (L : List T) {j : Nat} (h : j < L.length), (L[j] :: L.eraseIdx j).Perm L
  | [], j, h => absurd h (Nat.not_lt_zero _)
  | x :: L, 0, h => .refl _
  | x :: L, j + 1, h => (List.Perm.swap _ _ _).trans (List.Perm.cons _ (eidx_perm L (Nat.lt_of_succ_lt_succ h)))
theorem mix_loop {Φ Ψ : Nat → Fn} {W f : Nat} (hf : DrawOk Φ f) (u : T) : ∀ (n : Nat) (rest found : List T) (t : T) (V : Nat), Hd t → rest.length = n → n < V → n < 1073741824 → found.length + n ≤ line →
    ∃ M t', loopW (fun env => (ev Φ Ψ (.prim .gt [.prim .len [.peek 2], .cst (.int 0)]) env).bind fun (o, env) => (asBl o).bind fun b => .ok (b, env)) (fun env => execs Φ Ψ W [.app 3 (.popAt 2 (.call f [.io 0, .prim .len [.peek 2]]))] env) V (mE t u rest found) = .ok (.nx, mE t' u [] (found ++ M)) ∧ M.Perm rest ∧ Hd t'
  | 0, rest, found, t, V, ht, hl, hV, hb, hq => by
    obtain ⟨V, rfl⟩ : ∃ v, V = v + 1 := ⟨V - 1, by omega⟩
    have : rest = [] := List.length_eq_zero_iff.mp hl
    subst this
    exact ⟨[], t, by rw [loopW, List.append_nil]; rfl, .refl _, ht⟩
  | n + 1, rest, found, t, V, ht, hl, hV, hb, hq => by
    obtain ⟨V, rfl⟩ : ∃ v, V = v + 1 := ⟨V - 1, by omega⟩
    obtain ⟨d, t', h1, h2, h3, h4⟩ := hf t ht (rest.length : Int) (by omega) (by omega)
    have hj : d.toNat < rest.length := by omega
    obtain ⟨M, t2, m1, m2, m3⟩ := mix_loop hf u n (rest.eraseIdx d.toNat) (found ++ [rest[d.toNat]]) t' V h4 (by rw [List.length_eraseIdx, if_pos hj]; omega) (by omega) (by omega) (by simp; omega)
    refine ⟨rest[d.toNat] :: M, t2, ?_, ((List.Perm.cons _ m2).trans (eidx_perm rest hj)), m3⟩
    have hc : ((ev Φ Ψ (.prim .gt [.prim .len [.peek 2], .cst (.int 0)]) (mE t u rest found)).bind fun (o, env) => (asBl o).bind fun b => R.ok (b, env)) = .ok (true, mE t u rest found) := by
      show R.ok (decide ((rest.length : Int) > 0), mE t u rest found) = _
      rw [decide_eq_true (by omega)]
    have hcall : ev Φ Ψ (.call f [.io 0, .prim .len [.peek 2]]) (mE t u rest found) = .ok (.v (.int d) false, mE t' u rest found) := ev_call (os := [.s 0, .v (.int rest.length) false]) (ts := [t, .int rest.length]) rfl rfl rfl h1 rfl
    have hpop : ev Φ Ψ (.popAt 2 (.call f [.io 0, .prim .len [.peek 2]])) (mE t u rest found) = .ok (.v (rest[d.toNat]) false, mE t' u (rest.eraseIdx d.toNat) found) := by
      rw [ev]
      have g1 : getS (mE t u rest found) 2 = some ⟨.lst rest, .own⟩ := rfl
      have g2 : getS (mE t' u rest found) 2 = some ⟨.lst rest, .own⟩ := rfl
      rw [g1]
      refine (FE.bk hcall).trans ?_
      dsimp only
      rw [g2]
      dsimp only
      rw [if_pos (by unfold small63; rw [Bool.and_eq_true, decide_eq_true_eq, decide_eq_true_eq]; omega)]
      have e1 : ixPl rest.length d = some d.toNat := by unfold ixPl; rw [if_pos h2, if_pos (by omega)]
      refine (FE.bk (ro e1)).trans ((FE.bk (ro (List.getElem?_eq_getElem hj))).trans ?_)
      rfl
    have happ : execs Φ Ψ W [.app 3 (.popAt 2 (.call f [.io 0, .prim .len [.peek 2]]))] (mE t u rest found) = .ok (.nx, mE t' u (rest.eraseIdx d.toNat) (found ++ [rest[d.toNat]])) := by
      rw [DD.execs, DD.exec]
      have g1 : getS (mE t u rest found) 3 = some ⟨.lst found, .own⟩ := rfl
      rw [g1]
      dsimp only
      rw [hpop]
      have hup : upS (mE t' u (rest.eraseIdx d.toNat) found) 3 (fun x => match x with
          | .lst xs => if xs.length < line then some (.lst (xs ++ [rest[d.toNat]])) else none
          | _ => none) = .ok (mE t' u (rest.eraseIdx d.toNat) (found ++ [rest[d.toNat]])) := by
        have g2 : getS (mE t' u (rest.eraseIdx d.toNat) found) 3 = some ⟨.lst found, .own⟩ := rfl
        unfold upS
        rw [g2]
        dsimp only
        rw [if_pos (by omega)]
        rfl
      refine Eq.trans (FE.bk (a := (Fl.nx, mE t' u (rest.eraseIdx d.toNat) (found ++ [rest[d.toNat]]))) ?_) ?_
      · exact FE.bk hup
      · show DD.execs Φ Ψ W [] _ = _
        rw [DD.execs]
    rw [loopW]
    refine (FE.bk hc).trans ?_
    dsimp only
    rw [if_pos rfl]
    refine (FE.bk happ).trans ?_
    dsimp only
    rw [m1, List.append_assoc]
    rfl
theorem mix_ok {W : Nat} {D : Nat → Option Df} {n i f : Nat} (hD : D i = some (dMix f)) (hf : DrawOk (fnS W D n) f) {t : T} (h : Hd t) {L : List T} (hl : L.length < W) (hb : L.length < 1048576) :
    ∃ M t', fnS W D (n + 1) i [t, .lst L] = .ok (.lst M, true, some t') ∧ M.Perm L ∧ Hd t' := by
  obtain ⟨M, t', h1, h2, h3⟩ := mix_loop (Φ := fnS W D n) (Ψ := fun _ _ => .bad) (W := W) hf (.lst L) L.length L [] t W h rfl hl (by omega) (by unfold line; simp; omega)
  refine ⟨M, t', fn_ret hD rfl (env := [some ⟨t', .io⟩, some ⟨.lst L, .sh⟩, some ⟨.lst [], .own⟩, none]) ?_ rfl, h2, h3⟩
  have e1 : exec (fnS W D n) (fun _ _ => .bad) W (.par [.s 2, .s 3] [.prim .list [.peek 1], .lst []]) [some ⟨t, .io⟩, some ⟨.lst L, .sh⟩, none, none] = .ok (.nx, mE t (.lst L) L []) := rfl
  refine (exs_cons e1).trans ?_
  rw [DD.execs, DD.exec]
  refine (FE.bk h1).trans ?_
  rfl
/-! ### the orders of a row -/
def memK (x : T) (ys : List T) : (Bool → Ans) → Ans := List.rec (motive := fun _ => (Bool → Ans) → Ans) (fun k => k false) (fun y _ ih k => keyF y x fun c => bIf c (k true) (ih k)) ys
theorem memK_ok {x : T} : ∀ {ys : List T} {k : Bool → Ans} {r : T}, memK x ys k = some r → ∃ b, (b = true → x ∈ ys) ∧ k b = some r
  | [], k, r, h => ⟨false, fun e => absurd e (by simp), h⟩
  | y :: ys, k, r, h => by
    have h := keyF_ok (show keyF y x (fun c => bIf c (k true) (memK x ys k)) = some r from h)
    rw [bIf_eq] at h
    split at h
    · rename_i q
      exact ⟨true, fun _ => by rw [T.beq_eq q]; exact List.mem_cons_self, h⟩
    · obtain ⟨b, h1, h2⟩ := memK_ok h
      exact ⟨b, fun e => List.mem_cons_of_mem _ (h1 e), h2⟩
def selK (f : T → List T → Ans) (suf : List T) : List T → Ans := List.rec (motive := fun _ => List T → Ans) (fun _ => yes) (fun x s ih pre => memK x pre fun b => bIf b (ih (x :: pre)) (both (f x (lrev pre s)) (ih (x :: pre)))) suf
theorem selK_ok {f : T → List T → Ans} : ∀ {suf pre : List T} {r : T}, selK f suf pre = some r → r = .bl true ∧ ∀ x s1 s2, suf = s1 ++ x :: s2 → x ∉ pre → x ∉ s1 → f x (pre.reverse ++ s1 ++ s2) = some (.bl true)
  | [], pre, r, h => ⟨by cases h; rfl, fun x s1 s2 e => absurd e (by simp)⟩
  | y :: suf, pre, r, h => by
    obtain ⟨b, h1, h2⟩ := memK_ok (show memK y pre (fun b => bIf b (selK f suf (y :: pre)) (both (f y (lrev pre suf)) (selK f suf (y :: pre)))) = some r from h)
    rw [bIf_eq] at h2
    have rest : ∀ {r : T}, selK f suf (y :: pre) = some r → r = .bl true ∧ ∀ x s1 s2, suf = s1 ++ x :: s2 → x ∉ y :: pre → x ∉ s1 → f x ((y :: pre).reverse ++ s1 ++ s2) = some (.bl true) := fun h => selK_ok h
    have step : ∀ {r : T}, selK f suf (y :: pre) = some r → r = .bl true ∧ ∀ x z s1 s2, y :: suf = (z :: s1) ++ x :: s2 → x ∉ pre → x ∉ z :: s1 → f x (pre.reverse ++ (z :: s1) ++ s2) = some (.bl true) := fun h => by
      obtain ⟨q1, q2⟩ := rest h
      refine ⟨q1, fun x z s1 s2 e n1 n2 => ?_⟩
      rw [List.cons_append, List.cons.injEq] at e
      obtain ⟨rfl, e⟩ := e
      have := q2 x s1 s2 e (fun m => (List.mem_cons.mp m).elim (fun e => n2 (e ▸ List.mem_cons_self)) n1) (fun m => n2 (List.mem_cons_of_mem _ m))
      rw [List.reverse_cons] at this
      simpa using this
    cases b with
    | true =>
      obtain ⟨q1, q2⟩ := step h2
      refine ⟨q1, fun x s1 s2 e n1 n2 => ?_⟩
      cases s1 with
      | nil =>
        rw [List.nil_append, List.cons.injEq] at e
        exact absurd (h1 rfl) (e.1 ▸ n1)
      | cons z s1 => exact q2 x z s1 s2 e n1 n2
    | false =>
      obtain ⟨q0, h3⟩ := both_ok h2
      obtain ⟨q1, q2⟩ := step h3
      refine ⟨q1, fun x s1 s2 e n1 n2 => ?_⟩
      cases s1 with
      | nil =>
        rw [List.nil_append, List.cons.injEq] at e
        obtain ⟨rfl, rfl⟩ := e
        rw [lrev_eq] at q0
        simpa using q0
      | cons z s1 => exact q2 x z s1 s2 e n1 n2
def pk (n : Nat) : List T → List T → (List T → Ans) → Ans := Nat.rec (motive := fun _ => List T → List T → (List T → Ans) → Ans) (fun _ acc f => f (lrev acc [])) (fun _ ih L acc f => selK (fun x r => ih r (x :: acc) f) L []) n
theorem first_split {x : T} : ∀ {L : List T}, x ∈ L → ∃ s1 s2, L = s1 ++ x :: s2 ∧ x ∉ s1
  | [], h => nomatch h
  | y :: L, h => by
    by_cases e : x = y
    · exact ⟨[], L, by rw [e]; rfl, fun q => nomatch q⟩
    · obtain ⟨s1, s2, h1, h2⟩ := first_split (List.mem_of_ne_of_mem e h)
      exact ⟨y :: s1, s2, by rw [h1]; rfl, fun q => (List.mem_cons.mp q).elim e h2⟩
theorem pk_ok : ∀ {n : Nat} {L acc : List T} {f : List T → Ans} {r : T}, pk n L acc f = some r → L.length = n → (n = 0 → r = .bl true) → r = .bl true ∧ ∀ M, M.Perm L → f (acc.reverse ++ M) = some (.bl true)
  | 0, L, acc, f, r, h, hl, hr => by
    have h' : f (lrev acc []) = some r := h
    have hr := hr rfl
    subst hr
    refine ⟨rfl, fun M hM => ?_⟩
    have e1 : L = [] := List.length_eq_zero_iff.mp hl
    subst e1
    have e2 : M = [] := List.Perm.eq_nil hM
    subst e2
    rw [lrev_eq] at h'
    exact h'
  | n + 1, L, acc, f, r, h, hl, _ => by
    obtain ⟨h1, h2⟩ := selK_ok (show selK (fun x r => pk n r (x :: acc) f) L [] = some r from h)
    refine ⟨h1, fun M hM => ?_⟩
    cases M with
    | nil => exact absurd hM.length_eq (by simp; omega)
    | cons x M =>
      obtain ⟨s1, s2, rfl, hn⟩ := first_split (hM.subset (List.mem_cons_self (a := x) (l := M)))
      have hp : M.Perm (s1 ++ s2) := List.Perm.cons_inv (hM.trans List.perm_middle)
      have h3 := h2 x s1 s2 rfl (fun q => (nomatch q)) hn
      rw [List.reverse_nil, List.nil_append] at h3
      have h4 := (pk_ok h3 (by simp at hl ⊢; omega) fun _ => rfl).2 M hp
      rw [List.reverse_cons, List.append_assoc] at h4
      exact h4
def preM (as : List T) : Prop := ∃ L, as = [.lst L] ∧ L.length < 1000
def postM (as : List T) (x : T) : Prop := ∃ L M, as = [.lst L] ∧ x = .lst M ∧ M.Perm L
def dfM (as : List T) : T := match as with
  | t :: _ => t
  | [] => .non
theorem dfM_ok (as : List T) (h : preM as) : postM as (dfM as) := by
  obtain ⟨L, rfl, _⟩ := h
  exact ⟨L, L, rfl, rfl, .refl _⟩
theorem mix_orc {D : Nat → Option Df} {n i f : Nat} (hD : D i = some (dMix f)) (hf : DrawOk (fnS 1000 D n) f) : IsOrc Hd (fnS 1000 D (n + 1) i) true preM postM := ⟨fun t as ht hp => by
  obtain ⟨L, rfl, h1⟩ := hp
  obtain ⟨M, t', q1, q2, q3⟩ := mix_ok hD hf ht h1 (by omega)
  exact ⟨_, t', q1, ⟨L, M, rfl, rfl, q2⟩, q3⟩⟩
def mixC (g : Fn) : FnC := fun ts k => List.rec (motive := fun _ => Ans) none (fun t as _ => List.rec (motive := fun _ => Ans) none (fun a bs _ => List.rec (motive := fun _ => Ans) (cLst a (fun L => bIf (Nat.ble (llen L 0) 999) (both (pk (llen L 0) L [] fun M => k (.lst M) true (some (nxt g t as))) yes) none) none) (fun _ _ _ => none) bs) as) ts
theorem mixC_ok {g : Fn} (ts : List T) (k : T → Bool → Option T → Ans) (r : T) (h : mixC g ts k = some r) : ∃ t as, ts = t :: as ∧ preM as ∧ ∀ x, postM as x → k x true (some (nxt g t as)) = some r := by
  cases ts with
  | nil => exact noA h
  | cons t as =>
    cases as with
    | nil => exact noA h
    | cons a bs =>
      cases bs with
      | cons _ _ => exact noA h
      | nil =>
        obtain ⟨L, rfl, h'⟩ := cLst_ok (show cLst a (fun L => bIf (Nat.ble (llen L 0) 999) (both (pk (llen L 0) L [] fun M => k (.lst M) true (some (nxt g t [a]))) yes) none) none = some r from h)
        rw [bIf_eq] at h'
        split at h'
        · rename_i q1
          have q1 := Nat.le_of_ble_eq_true q1
          rw [llen_eq, Nat.zero_add] at q1 h'
          obtain ⟨h1, h2⟩ := both_ok h'
          cases h2
          obtain ⟨_, h3⟩ := pk_ok h1 rfl fun _ => rfl
          refine ⟨t, _, rfl, ⟨L, rfl, by omega⟩, fun x hx => ?_⟩
          obtain ⟨L', M, e1, rfl, e3⟩ := hx
          cases e1
          exact h3 M e3
        · cases h'
end FE
end
/-! DMemo: answers of a def, laid in a tree; a law's case as a choice; how a law ends. -/
noncomputable section
namespace FE
variable [DD.Mode]
open PySem DD
inductive Tr where
  | nil
  | nd (k : Nat) (as : List T) (v : T) (l r : Tr)
inductive InTr : List T → T → Tr → Prop where
  | here {k : Nat} {as : List T} {v : T} {l r : Tr} : InTr as v (.nd k as v l r)
  | left {k : Nat} {as bs : List T} {v w : T} {l r : Tr} : InTr as v l → InTr as v (.nd k bs w l r)
  | right {k : Nat} {as bs : List T} {v w : T} {l r : Tr} : InTr as v r → InTr as v (.nd k bs w l r)
def trK (n : Nat) (hit : List T → T → Ans) (miss : Ans) (tr : Tr) : Ans := Tr.rec (motive := fun _ => Ans) miss (fun k as v _ _ ihl ihr => bIf (Nat.beq n k) (hit as v) (bIf (Nat.ble n k) ihl ihr)) tr
theorem trK_ok {n : Nat} {hit : List T → T → Ans} {miss : Ans} {r : T} : ∀ {tr : Tr}, trK n hit miss tr = some r → (∃ as v, InTr as v tr ∧ hit as v = some r) ∨ miss = some r
  | .nil, h => .inr h
  | .nd k as v a b, h => by
    have h : bIf (Nat.beq n k) (hit as v) (bIf (Nat.ble n k) (trK n hit miss a) (trK n hit miss b)) = some r := h
    rw [bIf_eq, bIf_eq] at h
    split at h
    · exact .inl ⟨as, v, .here, h⟩
    · split at h
      · rcases trK_ok h with ⟨as, v, q1, q2⟩ | q
        · exact .inl ⟨as, v, .left q1, q2⟩
        · exact .inr q
      · rcases trK_ok h with ⟨as, v, q1, q2⟩ | q
        · exact .inl ⟨as, v, .right q1, q2⟩
        · exact .inr q
/-- a number for what is handed in: just a road to the place, nothing rests on it -/
def encL (ts : List T) : Nat → (Nat → Ans) → Ans := List.rec (motive := fun _ => Nat → (Nat → Ans) → Ans) (fun a k => k (Nat.mul a 32)) (fun x _ ih a k => cInt x (fun i => Int.rec (motive := fun _ => Ans) (fun n => ih (Nat.add (Nat.mul a 32) (Nat.succ n)) k) (fun n => ih (Nat.add (Nat.mul a 32) (Nat.add n 17)) k) i) none) ts
def encAs (ts : List T) : Nat → (Nat → Ans) → Ans := List.rec (motive := fun _ => Nat → (Nat → Ans) → Ans) (fun a k => k a) (fun x _ ih a k => cInt x (fun i => Int.rec (motive := fun _ => Ans) (fun n => ih (Nat.add (Nat.mul a 32) (Nat.succ n)) k) (fun n => ih (Nat.add (Nat.mul a 32) (Nat.add n 17)) k) i) (cTup x (fun xs => encL xs a fun b => ih b k) none)) ts
theorem encL_ok : ∀ {ts : List T} {a : Nat} {k : Nat → Ans} {r : T}, encL ts a k = some r → ∃ n, k n = some r
  | [], a, k, r, h => ⟨_, h⟩
  | x :: xs, a, k, r, h => by
    obtain ⟨i, rfl, h'⟩ := cInt_ok (show cInt x (fun i => Int.rec (motive := fun _ => Ans) (fun n => encL xs (Nat.add (Nat.mul a 32) (Nat.succ n)) k) (fun n => encL xs (Nat.add (Nat.mul a 32) (Nat.add n 17)) k) i) none = some r from h)
    cases i with
    | ofNat n => exact encL_ok h'
    | negSucc n => exact encL_ok h'
theorem encAs_ok : ∀ {ts : List T} {a : Nat} {k : Nat → Ans} {r : T}, encAs ts a k = some r → ∃ n, k n = some r
  | [], a, k, r, h => ⟨_, h⟩
  | x :: xs, a, k, r, h => by
    cases x with
    | int i =>
      cases i with
      | ofNat n => exact encAs_ok (show encAs xs (Nat.add (Nat.mul a 32) (Nat.succ n)) k = some r from h)
      | negSucc n => exact encAs_ok (show encAs xs (Nat.add (Nat.mul a 32) (Nat.add n 17)) k = some r from h)
    | tup ys =>
      obtain ⟨n, h'⟩ := encL_ok (show encL ys a (fun b => encAs xs b k) = some r from h)
      exact encAs_ok h'
    | _ => exact noA h
/-- are two rows one? -/
def sameL (xs : List T) : List T → Ans → Ans → Ans := List.rec (motive := fun _ => List T → Ans → Ans → Ans) (fun ys a b => List.rec (motive := fun _ => Ans) a (fun _ _ _ => b) ys) (fun x _ ih ys a b => List.rec (motive := fun _ => Ans) b (fun y r _ => keyF x y fun c => bIf c (ih r a b) b) ys) xs
theorem sameL_ok : ∀ {xs ys : List T} {a b : Ans} {r : T}, sameL xs ys a b = some r → (xs = ys ∧ a = some r) ∨ b = some r
  | [], [], a, b, r, h => .inl ⟨rfl, h⟩
  | [], y :: ys, a, b, r, h => .inr h
  | x :: xs, [], a, b, r, h => .inr h
  | x :: xs, y :: ys, a, b, r, h => by
    have h := keyF_ok (show keyF x y (fun c => bIf c (sameL xs ys a b) b) = some r from h)
    rw [bIf_eq] at h
    split at h
    · rename_i q
      rcases sameL_ok h with ⟨q1, q2⟩ | q
      · exact .inl ⟨by rw [T.beq_eq q, q1], q2⟩
      · exact .inr q
    · exact .inr h
def memoC (tr : Tr) (fz : Bool) (fb : FnC) : FnC := fun ts k => encAs ts 1 fun n => trK n (fun as v => sameL as ts (k v fz none) (fb ts k)) (fb ts k) tr
def chkV (v : T) (fz : Bool) (t : T) (fr : Bool) (out : Option T) : Ans := Option.rec (bIf (T.beq t v) (bIf fz (bIf fr yes none) (bIf fr none yes)) none) (fun _ => none) out
theorem chkV_ok {v t : T} {fz fr : Bool} {out : Option T} {r : T} (h : chkV v fz t fr out = some r) : t = v ∧ fr = fz ∧ out = none := by
  cases out with
  | some o => exact noA h
  | none =>
    have h : bIf (T.beq t v) (bIf fz (bIf fr yes none) (bIf fr none yes)) none = some r := h
    rw [bIf_eq] at h
    split at h
    · rename_i q
      refine ⟨T.beq_eq q, ?_, rfl⟩
      cases fz <;> cases fr <;> first | rfl | exact noA h
    · cases h
def trChk (fz : Bool) (fb : FnC) (tr : Tr) : Ans := Tr.rec (motive := fun _ => Ans) yes (fun _ as v _ _ ihl ihr => both (fb as fun t fr out => chkV v fz t fr out) (both ihl ihr)) tr
theorem trChk_ok {Φ : Nat → Fn} {f : Nat} {fz : Bool} {fb : FnC} (s : SndF Φ f fb) : ∀ {tr : Tr} {r : T}, trChk fz fb tr = some r → ∀ as v, InTr as v tr → Φ f as = .ok (v, fz, none)
  | .nil, r, h, as, v, q => nomatch q
  | .nd k as v a b, r, h, as', v', q => by
    obtain ⟨h1, h2⟩ := both_ok (show both (fb as fun t fr out => chkV v fz t fr out) (both (trChk fz fb a) (trChk fz fb b)) = some r from h)
    obtain ⟨h3, h4⟩ := both_ok h2
    cases q with
    | here =>
      obtain ⟨t, fr, out, q1, q2⟩ := s _ _ _ h1
      obtain ⟨rfl, rfl, rfl⟩ := chkV_ok q2
      exact q1
    | left q => exact trChk_ok s h3 _ _ q
    | right q => exact trChk_ok s h4 _ _ q
theorem memo_snd {Fm : Nat → Nat → Fn} {f d : Nat} {fz : Bool} {fb : FnC} {tr : Tr} (s : Snd Fm f d fb) (h : trChk fz fb tr = some (.bl true)) : Snd Fm f d (memoC tr fz fb) := fun n hn ts k r q => by
  obtain ⟨m, q1⟩ := encAs_ok q
  rcases trK_ok q1 with ⟨as, v, q2, q3⟩ | q3
  · rcases sameL_ok q3 with ⟨rfl, q4⟩ | q4
    · exact ⟨v, fz, none, trChk_ok (s n hn) h _ _ q2, q4⟩
    · exact s n hn ts k r q4
  · exact s n hn ts k r q3
/-- a tree of two that are right -/
theorem trChk_nd {k : Nat} {as : List T} {v : T} {l r : Tr} {fz : Bool} {fb : FnC} (h0 : (fb as fun t fr out => chkV v fz t fr out) = some (.bl true)) (h1 : trChk fz fb l = some (.bl true)) (h2 : trChk fz fb r = some (.bl true)) : trChk fz fb (.nd k as v l r) = some (.bl true) := by
  show both _ (both (trChk fz fb l) (trChk fz fb r)) = _
  rw [h0, h1, h2]
  rfl
/-! ### cases -/
def postT (_ : List T) (x : T) : Prop := x = .bl true
def dfT (_ : List T) : T := .bl true
theorem case_orc {Hd : T → Prop} {HF : Nat → Bool} {Fo : Nat → Nat → Fn} {W : Nat} {D : Nat → Option Df} {N ci d : Nat} {fc : FnC} {pre : List T → Prop} (A : AgF Hd HF (Fo N) (fnS W D N)) (hH : HF ci = true) (s : Snd Fo ci d fc) (hd : d ≤ N)
    (h : ∀ t as, pre as → ∃ r, (fc (t :: as) fun v fr _ => isTrue v fr) = some r) : IsOrc Hd (fnS W D N ci) false pre postT := ⟨fun t as ht hp => by
  obtain ⟨r, hr⟩ := h t as hp
  obtain ⟨v, fr, out, q1, q2⟩ := s N hd _ _ r hr
  obtain ⟨rfl, rfl⟩ := isTrue_ok q2
  obtain ⟨a1, t', a2, a3⟩ := A.yes ci t as hH ht _ q1
  cases a2
  exact ⟨_, t', a1, rfl, a3⟩⟩
def pre0 (as : List T) : Prop := as = []
def case0C (g : Fn) : FnC := fun ts k => List.rec (motive := fun _ => Ans) none (fun t as _ => List.rec (motive := fun _ => Ans) (k (.bl true) false (some (nxt g t as))) (fun _ _ _ => none) as) ts
theorem case0C_ok {g : Fn} (ts : List T) (k : T → Bool → Option T → Ans) (r : T) (h : case0C g ts k = some r) : ∃ t as, ts = t :: as ∧ pre0 as ∧ ∀ x, postT as x → k x false (some (nxt g t as)) = some r := by
  cases ts with
  | nil => exact noA h
  | cons t as =>
    cases as with
    | cons _ _ => exact noA h
    | nil => exact ⟨t, [], rfl, rfl, fun x hx => by rw [hx]; exact h⟩
def preR (lo hi : Nat) (as : List T) : Prop := ∃ m : Nat, as = [.int (Int.ofNat m)] ∧ lo ≤ m ∧ m ≤ hi
theorem preR_cases {lo hi : Nat} {P : List T → Prop} (h : ∀ m, lo ≤ m → m ≤ hi → P [.int (Int.ofNat m)]) (as : List T) (q : preR lo hi as) : P as := by
  obtain ⟨m, rfl, h1, h2⟩ := q
  exact h m h1 h2
theorem evs_nil' {Φ Ψ : Nat → Fn} (E : En) : evs Φ Ψ [] E = .ok ([], E) := by simp only [evs]
theorem ev_cst' {Φ Ψ : Nat → Fn} (t : T) (E : En) : ev Φ Ψ (.cst t) E = .ok (.v t false, E) := by simp only [ev]
/-- a case whose size is drawn -/
def cCase1 (h : Nat) (N : T → T) : C := fun env k => oSl (gs env h) fun t m => upK env h m (N t) fun env => k (.bl true) false env
def caseN (gD gC : Fn) (a m : Nat) (t : T) : T := match gD [t, .int (Int.ofNat m)] with
  | .ok (.int d, _, some t1) => nxt gC t1 [.int (Int.ofNat a + d)]
  | _ => t
theorem s_case1 {Hd : T → Prop} {FD FC : Fn} {dfd dfc : List T → T} {lo hi : Nat} {Φ Ψ : Nat → Fn} {ci di h a m : Nat} (ID : IsOrc Hd FD false preD postD) (hdfd : ∀ as, preD as → postD as (dfd as)) (IC : IsOrc Hd FC false (preR lo hi) postT) (hdfc : ∀ as, preR lo hi as → postT as (dfc as))
    (eD : Φ di = gO Hd FD false preD dfd) (eC : Φ ci = gO Hd FC false (preR lo hi) dfc) (h1 : 1 ≤ m) (h2 : m < 1073741824) (h3 : lo ≤ a) (h4 : a + m ≤ hi + 1) :
    SndC Φ Ψ (.call ci [.io h, .prim .add [.cst (.int (Int.ofNat a)), .call di [.io h, .cst (.int (Int.ofNat m))]]]) (cCase1 h (caseN (gO Hd FD false preD dfd) (gO Hd FC false (preR lo hi) dfc) a m)) := fun env k r q => by
  obtain ⟨t, mm, q1, q2⟩ := oSl_ok q
  obtain ⟨hm, q3⟩ := upK_ok q2
  obtain ⟨x, d1, d2⟩ := gO_ok ID hdfd (t := t) (as := [.int (Int.ofNat m)]) ⟨m, rfl, h1, h2⟩
  obtain ⟨m', d, e1, rfl, e3⟩ := d2
  cases e1
  obtain ⟨y, c1, c2⟩ := gO_ok IC hdfc (t := nxt (gO Hd FD false preD dfd) t [.int (Int.ofNat m)]) (as := [.int (Int.ofNat (a + d))]) ⟨a + d, rfl, by omega, by omega⟩
  cases c2
  have hlt : h < env.length := by
    have : env[h]? = some (some ⟨t, mm⟩) := by
      unfold getS at q1
      cases e : env[h]? with
      | none => rw [e] at q1; cases q1
      | some o => rw [e] at q1; cases o with
        | none => cases q1
        | some z => cases q1; rfl
    exact (List.getElem?_eq_some_iff.mp this).1
  have gset : ∀ z : T, getS (env.set h (some ⟨z, mm⟩)) h = some ⟨z, mm⟩ := fun z => by unfold getS; rw [List.getElem?_set_self hlt]; rfl
  have hio : ∀ (e : En) (z : T), getS e h = some ⟨z, mm⟩ → ev Φ Ψ (.io h) e = .ok (.s h, e) := fun e z hz => by
    rw [ev, hz]
    rcases hm with rfl | rfl <;> rfl
  have hup : ∀ (e : En) (z w : T), getS e h = some ⟨z, mm⟩ → putIo (some h) (some w) e = .ok (e.set h (some ⟨w, mm⟩)) := fun e z w hz => by
    rw [putIo]
    exact upS_own hz hm rfl
  have hN : caseN (gO Hd FD false preD dfd) (gO Hd FC false (preR lo hi) dfc) a m t = nxt (gO Hd FC false (preR lo hi) dfc) (nxt (gO Hd FD false preD dfd) t [.int (Int.ofNat m)]) [.int (Int.ofNat (a + d))] := by
    unfold caseN
    rw [d1]
    rfl
  rw [hN] at q3
  refine ⟨.bl true, false, _, ?_, q3⟩
  have hdr : ev Φ Ψ (.call di [.io h, .cst (.int (Int.ofNat m))]) env = .ok (.v (.int (Int.ofNat d)) false, env.set h (some ⟨nxt (gO Hd FD false preD dfd) t [.int (Int.ofNat m)], mm⟩)) :=
    ev_call (os := [.s h, .v (.int (Int.ofNat m)) false]) (ts := [t, .int (Int.ofNat m)]) (evs_cons (hio env t q1) (evs_cons (ev_cst' _ _) (evs_nil' _))) (by rw [vals, vals, vals, show OV.res env (.s h) = some t from by show (getS env h).map _ = _; rw [q1]; rfl]; rfl) rfl (by rw [eD]; exact d1) (hup env t _ q1)
  have hadd : ev Φ Ψ (.prim .add [.cst (.int (Int.ofNat a)), .call di [.io h, .cst (.int (Int.ofNat m))]]) env = .ok (.v (.int (Int.ofNat (a + d))) false, env.set h (some ⟨nxt (gO Hd FD false preD dfd) t [.int (Int.ofNat m)], mm⟩)) :=
    ev_p2 (p := .add) (o := .v (.int (Int.ofNat a)) false) (x := .int (Int.ofNat a)) (y := .int (Int.ofNat d)) (t := .int (Int.ofNat (a + d))) (ev_cst' _ _) hdr rfl rfl rfl
  refine ev_call (os := [.s h, .v (.int (Int.ofNat (a + d))) false]) (ts := [nxt (gO Hd FD false preD dfd) t [.int (Int.ofNat m)], .int (Int.ofNat (a + d))]) (evs_cons (hio env t q1) (evs_cons hadd (evs_nil' _))) (by rw [vals, vals, vals, show OV.res (env.set h (some ⟨nxt (gO Hd FD false preD dfd) t [.int (Int.ofNat m)], mm⟩)) (.s h) = some (nxt (gO Hd FD false preD dfd) t [.int (Int.ofNat m)]) from by show (getS _ h).map _ = _; rw [gset]; rfl]; rfl) rfl (by rw [eC]; exact c1) ?_
  show putIo (some h) _ _ = _
  rw [hup _ _ _ (gset _), List.set_set]
/-! ### the law -/
theorem law_end {Hd : T → Prop} {HF : Nat → Bool} {Φ' Φ : Nat → Fn} {W : Nat} {ss : List S} {c : SC} {h : Nat} {env : En} {t : T} {m : Md} (A : AgF Hd HF Φ' Φ) (ok : okSs HF (some h) ss = true) (s : SndSs Φ' NoC W ss c) (g : getS env h = some ⟨t, m⟩) (hm : m ≠ .sh) (ht : Hd t)
    (q : c env (fun _ => none) (fun v fr _ => isTrue v fr) (fun _ => none) (fun _ => none) = some (.bl true)) : ∃ e, execs Φ NoC W ss env = .ok (.rt (.bl true) false, e) := by
  obtain ⟨fl, e, h1, h2⟩ := s _ _ _ _ _ _ q
  have h3 := (agSs A ss env ok (fun i e => by cases e; exact ⟨t, m, g, hm, ht⟩) _ h1).1
  cases fl with
  | nx => exact noA h2
  | bk => exact noA h2
  | ct => exact noA h2
  | rt v fr =>
    obtain ⟨rfl, rfl⟩ := isTrue_ok h2
    exact ⟨e, h3⟩
end FE
end
namespace FE
variable [DD.Mode]
open PySem DD
theorem all_dfs {rs : List Dr} {p : Df → Bool} (h : (rs.all fun r => p r.df) = true) (i : Nat) (d : Df) (e : dfs rs i = some d) : p d = true := by
  unfold dfs at e
  cases q : rs[i]? with
  | none => rw [q] at e; cases e
  | some r =>
    rw [q] at e
    cases e
    exact List.all_eq_true.mp h r (List.mem_of_getElem? q)
theorem hD_of {rs : List Dr} {X HF : Nat → Bool} (h : ((List.range rs.length).all fun i => X i || match dfs rs i with
    | some d => (if HF i then okSs HF (some 0) d.body && decide (d.io = some 0) else okSs HF none d.body)
    | none => true) = true) (i : Nat) (d : Df) (e : (bif X i then none else dfs rs i) = some d) : dfs rs i = some d ∧ (if HF i then okSs HF (some 0) d.body && decide (d.io = some 0) else okSs HF none d.body) = true := by
  cases q : X i with
  | true => rw [q] at e; cases e
  | false =>
    rw [q] at e
    replace e : dfs rs i = some d := e
    refine ⟨e, ?_⟩
    have hi : i < rs.length := by
      unfold dfs at e
      cases q : rs[i]? with
      | none => rw [q] at e; cases e
      | some r => exact (List.getElem?_eq_some_iff.mp q).1
    have := List.all_eq_true.mp h i (List.mem_range.mpr hi)
    rw [q, Bool.false_or, e] at this
    exact this
theorem o_cons {f j : Nat} {g G : Fn} {o : Option Fn} (e : (bif Nat.beq f j then some G else o) = some g) : (f = j ∧ g = G) ∨ o = some g := by
  cases q : Nat.beq f j with
  | true => rw [q] at e; exact .inl ⟨Nat.eq_of_beq_eq_true q, (Option.some.inj e).symm⟩
  | false => rw [q] at e; exact .inr e
end FE
namespace DL
open PySem PySem.Spec PyProof.Rows L2 DD
instance md : Mode := ⟨true⟩
def top (i : Nat) : Stmt := PySem.Challenge.pw_doubledrawn_k22_whole_what_characters_ha.main.body.getD i (.Pass ⟨0, 0, 0, 0⟩)
def d_is_integer : He.DefD := ⟨("is_integer", none), "is_integer", "is_integer", defArgs (top 7), defBody (top 7), defScope (top 7), [], []⟩
def d_is_within : He.DefD := ⟨("is_within", none), "is_within", "is_within", defArgs (top 8), defBody (top 8), defScope (top 8), [], []⟩
def d_all_types : He.DefD := ⟨("all_types", none), "all_types", "all_types", defArgs (top 9), defBody (top 9), defScope (top 9), [], []⟩
def d_types : He.DefD := ⟨("types", none), "types", "types", defArgs (top 10), defBody (top 10), defScope (top 10), [], []⟩
def d_is_type : He.DefD := ⟨("is_type", none), "is_type", "is_type", defArgs (top 11), defBody (top 11), defScope (top 11), [], []⟩
def d_check_type : He.DefD := ⟨("check_type", none), "check_type", "check_type", defArgs (top 12), defBody (top 12), defScope (top 12), [], []⟩
def d_factorial : He.DefD := ⟨("factorial", none), "factorial", "factorial", defArgs (top 13), defBody (top 13), defScope (top 13), [], []⟩
def d_stayers : He.DefD := ⟨("stayers", none), "stayers", "stayers", defArgs (top 14), defBody (top 14), defScope (top 14), [], []⟩
def d_class_size : He.DefD := ⟨("class_size", none), "class_size", "class_size", defArgs (top 15), defBody (top 15), defScope (top 15), [], []⟩
def d_marks_of : He.DefD := ⟨("marks_of", none), "marks_of", "marks_of", defArgs (top 17), defBody (top 17), defScope (top 17), [], []⟩
def d_shape_by : He.DefD := ⟨("shape_by", none), "shape_by", "shape_by", defArgs (top 18), defBody (top 18), defScope (top 18), [], []⟩
def d_raw_strips : He.DefD := ⟨("raw_strips", none), "raw_strips", "raw_strips", defArgs (top 19), defBody (top 19), defScope (top 19), [], []⟩
def d_raw_turned : He.DefD := ⟨("raw_turned", none), "raw_turned", "raw_turned", defArgs (top 20), defBody (top 20), defScope (top 20), [], []⟩
def d_turned_shape : He.DefD := ⟨("turned_shape", none), "turned_shape", "turned_shape", defArgs (top 21), defBody (top 21), defScope (top 21), [], []⟩
def d_raw_hooks : He.DefD := ⟨("raw_hooks", none), "raw_hooks", "raw_hooks", defArgs (top 22), defBody (top 22), defScope (top 22), [], []⟩
def d_raw_width : He.DefD := ⟨("raw_width", none), "raw_width", "raw_width", defArgs (top 23), defBody (top 23), defScope (top 23), [], []⟩
def d_width_of : He.DefD := ⟨("width_of", none), "width_of", "width_of", defArgs (top 24), defBody (top 24), defScope (top 24), [], []⟩
def d_contents : He.DefD := ⟨("contents", none), "contents", "contents", defArgs (top 25), defBody (top 25), defScope (top 25), [], []⟩
def d_raw_character : He.DefD := ⟨("raw_character", none), "raw_character", "raw_character", defArgs (top 26), defBody (top 26), defScope (top 26), [], []⟩
def d_character : He.DefD := ⟨("character", none), "character", "character", defArgs (top 27), defBody (top 27), defScope (top 27), [], []⟩
def d__law_hand : He.DefD := ⟨("_law_hand", none), "_law_hand", "_law_hand", defArgs (top 29), defBody (top 29), defScope (top 29), [], []⟩
def d__law_draw : He.DefD := ⟨("_law_draw", none), "_law_draw", "_law_draw", defArgs (top 30), defBody (top 30), defScope (top 30), [], []⟩
def d__law_some : He.DefD := ⟨("_law_some", none), "_law_some", "_law_some", defArgs (top 31), defBody (top 31), defScope (top 31), [], []⟩
def d__law_types : He.DefD := ⟨("_law_types", none), "_law_types", "_law_types", defArgs (top 32), defBody (top 32), defScope (top 32), [], []⟩
def d__law_factorial : He.DefD := ⟨("_law_factorial", none), "_law_factorial", "_law_factorial", defArgs (top 33), defBody (top 33), defScope (top 33), [], []⟩
def d__law_sign : He.DefD := ⟨("_law_sign", none), "_law_sign", "_law_sign", defArgs (top 34), defBody (top 34), defScope (top 34), [], []⟩
def d__law_is_case_right : He.DefD := ⟨("_law_is_case_right", none), "_law_is_case_right", "_law_is_case_right", defArgs (top 35), defBody (top 35), defScope (top 35), [], []⟩
def d_law : He.DefD := ⟨("law", none), "law", "law", defArgs (top 36), defBody (top 36), defScope (top 36), [], []⟩
def fn : List He.DefD := [d_is_integer, d_is_within, d_all_types, d_types, d_is_type, d_check_type, d_factorial, d_stayers, d_class_size, d_marks_of, d_shape_by, d_raw_strips, d_raw_turned, d_turned_shape, d_raw_hooks, d_raw_width, d_width_of, d_contents, d_raw_character, d_character, d__law_hand, d__law_draw, d__law_some, d__law_types, d__law_factorial, d__law_sign, d__law_is_case_right, d_law]
def fa : List He.Fa := [.glo "is_integer", .glo "is_within", .glo "all_types", .glo "types", .glo "is_type", .glo "check_type", .glo "factorial", .glo "stayers", .glo "class_size", .glo "marks_of", .glo "shape_by", .glo "raw_strips", .glo "raw_turned", .glo "turned_shape", .glo "raw_hooks", .glo "raw_width", .glo "width_of", .glo "contents", .glo "raw_character", .glo "character", .glo "_law_hand", .glo "_law_draw", .glo "_law_some", .glo "_law_types", .glo "_law_factorial", .glo "_law_sign", .glo "_law_is_case_right", .glo "law", .int "MOST_TYPED" 12, .free "len", .free "sum", .free "abs", .free "int", .free "tuple", .free "sorted", .free "all", .free "min", .free "range", .free "enumerate", .free "isinstance", .free "bool"]
def df_is_integer : Df := ⟨1, none, 1, [
    .ret (.and (.prim .isInt [.peek 0]) (.not (.prim .isBool [.peek 0])))]⟩
def r_is_integer : Dr := ⟨d_is_integer, ["thing"], ["thing"], df_is_integer⟩
def df_is_within : Df := ⟨3, none, 3, [
    .ret (.and (.call 0 [.var 0]) (.chain .le .le (.peek 1) (.peek 0) (.peek 2)))]⟩
def r_is_within : Dr := ⟨d_is_within, ["thing", "low", "high"], ["thing", "low", "high"], df_is_within⟩
def df_all_types : Df := ⟨1, none, 7, [
    .set 1 (.lst [.tup []]),
    .set 2 (.lst []),
    .whil (.prim .gt [.prim .len [.peek 1], .cst (.int 0)]) [.set 3 (.pop 1), .set 4 (.prim .sub [.peek 0, .prim .sum [.peek 3]]), .ite (.prim .eq [.peek 4, .cst (.int 0)]) [.app 2 (.var 3)] [.set 5 (.ite (.prim .gt [.prim .len [.peek 3], .cst (.int 0)]) (.prim .min2 [.peek 4, .prim .ix [.peek 3, .prim .neg [.cst (.int 1)]]]) (.var 4)), .ext 1 (.comp [6] (.s 6) .range2 [.cst (.int 1), .prim .add [.peek 5, .cst (.int 1)]] none (.prim .add [.peek 3, .tup [.var 6]]))]],
    .ret (.mv 2)]⟩
def r_all_types : Dr := ⟨d_all_types, ["many", "found", "done", "row", "rest", "most", "size"], ["many"], df_all_types⟩
def df_types : Df := ⟨1, none, 1, [
    .ite (.not (.call 1 [.var 0, .cst (.int 1), .cst (.int 12)])) [.raise] [],
    .ret (.prim .tuple [.call 2 [.var 0]])]⟩
def r_types : Dr := ⟨d_types, ["many"], ["many"], df_types⟩
def df_is_type : Df := ⟨1, none, 3, [
    .ite (.or (.not (.prim .isTup [.peek 0])) (.not (.prim .all [.comp [1] (.s 1) .val [.var 0] none (.call 1 [.var 1, .cst (.int 1), .cst (.int 12)])]))) [.ret (.cst (.bl false))] [],
    .ite (.not (.chain .le .le (.cst (.int 1)) (.prim .sum [.peek 0]) (.cst (.int 12)))) [.ret (.cst (.bl false))] [],
    .ret (.prim .all [.comp [2] (.s 2) .range1 [.prim .sub [.prim .len [.peek 0], .cst (.int 1)]] none (.prim .ge [.prim .ix [.peek 0, .peek 2], .prim .ix [.peek 0, .prim .add [.peek 2, .cst (.int 1)]]])])]⟩
def r_is_type : Dr := ⟨d_is_type, ["thing", "one", "at"], ["thing"], df_is_type⟩
def df_check_type : Df := ⟨1, none, 1, [
    .ite (.not (.call 4 [.var 0])) [.raise] []]⟩
def r_check_type : Dr := ⟨d_check_type, ["thing"], ["thing"], df_check_type⟩
def df_factorial : Df := ⟨1, none, 3, [
    .set 1 (.cst (.int 1)),
    .forr (.s 2) .range2 [.cst (.int 2), .prim .add [.peek 0, .cst (.int 1)]] [.set 1 (.prim .mul [.peek 1, .peek 2])],
    .ret (.mv 1)]⟩
def r_factorial : Dr := ⟨d_factorial, ["number", "found", "one"], ["number"], df_factorial⟩
def df_stayers : Df := ⟨1, none, 5, [
    .set 1 (.cst (.int 1)),
    .forr (.s 2) .keys [.dcomp [3] (.s 3) .val [.var 0] (.var 3) (.cst (.bl true))] [.forr (.s 4) .range1 [.cnt (.var 0) (.var 2)] [.set 1 (.prim .mul [.prim .mul [.peek 1, .peek 2], .prim .add [.peek 4, .cst (.int 1)]])]],
    .ret (.mv 1)]⟩
def r_stayers : Dr := ⟨d_stayers, ["told", "found", "size", "one", "turn"], ["told"], df_stayers⟩
def df_class_size : Df := ⟨1, none, 1, [
    .expr (.call 5 [.var 0]),
    .ret (.prim .fdiv [.call 6 [.prim .sum [.peek 0]], .call 7 [.var 0]])]⟩
def r_class_size : Dr := ⟨d_class_size, ["type_told"], ["type_told"], df_class_size⟩
def df_marks_of : Df := ⟨1, none, 3, [
    .ret (.comp [1, 2] (.t [.s 1, .s 2]) .enum [.var 0] none (.prim .sub [.prim .sub [.prim .add [.peek 2, .prim .len [.peek 0]], .cst (.int 1)], .peek 1]))]⟩
def r_marks_of : Dr := ⟨d_marks_of, ["shape", "at", "size"], ["shape"], df_marks_of⟩
def df_shape_by : Df := ⟨1, none, 5, [
    .set 1 (.comp [2, 3] (.t [.s 2, .s 3]) .enum [.var 0] none (.prim .sub [.peek 3, .prim .sub [.prim .sub [.prim .len [.peek 0], .cst (.int 1)], .peek 2]])),
    .ret (.prim .tuple [.comp [4] (.s 4) .val [.var 1] (some (.prim .gt [.peek 4, .cst (.int 0)])) (.var 4)])]⟩
def r_shape_by : Dr := ⟨d_shape_by, ["marks", "found", "at", "mark", "size"], ["marks"], df_shape_by⟩
def df_raw_strips : Df := ⟨2, none, 8, [
    .par [.s 2, .s 3] [.call 9 [.var 0], .lst []],
    .forr (.s 4) .val [.var 2] [.ite (.and (.prim .ge [.peek 4, .peek 1]) (.prim .notin [.prim .sub [.peek 4, .peek 1], .peek 2])) [.set 5 (.prim .sortedRev [.comp [6] (.s 6) .val [.var 2] none (.ite (.prim .eq [.peek 6, .peek 4]) (.prim .sub [.peek 4, .peek 1]) (.var 6))]), .set 7 (.prim .len [.comp [6] (.s 6) .val [.var 2] (some (.chain .lt .lt (.prim .sub [.peek 4, .peek 1]) (.peek 6) (.peek 4))) (.var 6)]), .app 3 (.tup [.call 10 [.var 5], .var 7])] []],
    .ret (.prim .sorted [.peek 3])]⟩
def r_raw_strips : Dr := ⟨d_raw_strips, ["shape", "size", "marks", "found", "mark", "later", "one", "steps"], ["shape", "size"], df_raw_strips⟩
def df_raw_turned : Df := ⟨1, none, 3, [
    .ret (.prim .tuple [.comp [2] (.s 2) .range1 [.prim .ix [.peek 0, .cst (.int 0)]] none (.prim .len [.comp [1] (.s 1) .val [.var 0] (some (.prim .gt [.peek 1, .peek 2])) (.var 1)])])]⟩
def r_raw_turned : Dr := ⟨d_raw_turned, ["shape", "size", "at"], ["shape"], df_raw_turned⟩
def df_turned_shape : Df := ⟨1, none, 1, [
    .expr (.call 5 [.var 0]),
    .ret (.call 12 [.var 0])]⟩
def r_turned_shape : Dr := ⟨d_turned_shape, ["shape"], ["shape"], df_turned_shape⟩
def df_raw_hooks : Df := ⟨1, none, 6, [
    .set 1 (.call 12 [.var 0]),
    .set 2 (.lst []),
    .forr (.t [.s 3, .s 4]) .enum [.var 0] [.app 2 (.prim .tuple [.comp [5] (.s 5) .range1 [.var 4] none (.prim .sub [.prim .sub [.prim .add [.prim .sub [.peek 4, .peek 5], .prim .ix [.peek 1, .peek 5]], .peek 3], .cst (.int 1)])])],
    .ret (.prim .tuple [.peek 2])]⟩
def r_raw_hooks : Dr := ⟨d_raw_hooks, ["shape", "columns", "found", "row", "size", "place"], ["shape"], df_raw_hooks⟩
def df_raw_width : Df := ⟨1, none, 4, [
    .set 1 (.cst (.int 1)),
    .forr (.s 2) .val [.call 14 [.var 0]] [.forr (.s 3) .val [.var 2] [.set 1 (.prim .mul [.peek 1, .peek 3])]],
    .ret (.prim .fdiv [.call 6 [.prim .sum [.peek 0]], .peek 1])]⟩
def r_raw_width : Dr := ⟨d_raw_width, ["shape", "product", "row", "number"], ["shape"], df_raw_width⟩
def df_width_of : Df := ⟨1, none, 1, [
    .expr (.call 5 [.var 0]),
    .ret (.call 15 [.var 0])]⟩
def r_width_of : Dr := ⟨d_width_of, ["shape"], ["shape"], df_width_of⟩
def df_contents : Df := ⟨1, none, 4, [
    .expr (.call 5 [.var 0]),
    .ret (.prim .sum [.comp2 [1, 2, 3] (.t [.s 1, .s 2]) .enum [.var 0] (.s 3) .range1 [.var 2] [3] none (.prim .sub [.peek 3, .peek 1])])]⟩
def r_contents : Dr := ⟨d_contents, ["shape", "row", "size", "place"], ["shape"], df_contents⟩
def df_raw_character : Df := ⟨2, none, 9, [
    .set 2 (.dct [(.var 0, .cst (.int 1))]),
    .forr (.s 3) .val [.var 1] [.set 4 (.dct []), .forr (.t [.s 5, .s 6]) .items [.mv 2] [.forr (.t [.s 7, .s 8]) .val [.call 11 [.var 5, .var 3]] [.setIx 4 (.var 7) (.prim .add [.get (.peek 4) (.var 7) (.cst (.int 0)), .ite (.prim .eq [.prim .mod [.peek 8, .cst (.int 2)], .cst (.int 0)]) (.var 6) (.prim .neg [.peek 6])])]], .set 2 (.mv 4)],
    .ret (.get (.peek 2) (.tup []) (.cst (.int 0)))]⟩
def r_raw_character : Dr := ⟨d_raw_character, ["shape", "type_told", "found", "size", "later", "here", "number", "left", "steps"], ["shape", "type_told"], df_raw_character⟩
def df_character : Df := ⟨2, none, 2, [
    .expr (.call 5 [.var 0]),
    .expr (.call 5 [.var 1]),
    .ite (.prim .ne [.prim .sum [.peek 0], .prim .sum [.peek 1]]) [.raise] [],
    .ret (.call 18 [.var 0, .var 1])]⟩
def r_character : Dr := ⟨d_character, ["shape", "type_told"], ["shape", "type_told"], df_character⟩
def df__law_hand : Df := ⟨1, none, 3, [
    .set 1 (.comp [2] (.s 2) .val [.prim .slU [.peek 0, .cst (.int 63)]] none (.prim .abs [.prim .int [.peek 2]])),
    .ret (.lst [.var 1, .cst (.int 0), .cst (.int 0), .prim .add [.cst (.int 83), .prim .mul [.cst (.int 7), .prim .len [.peek 1]]], .cst (.int 0)])]⟩
def r__law_hand : Dr := ⟨d__law_hand, ["script", "cells", "cell"], ["script"], df__law_hand⟩
def df__law_draw : Df := ⟨2, (some 0), 5, [
    .ite (.and (.prim .eq [.prim .ix [.peek 0, .cst (.int 2)], .cst (.int 0)]) (.prim .lt [.prim .ix [.peek 0, .cst (.int 1)], .prim .len [.prim .ix [.peek 0, .cst (.int 0)]]])) [.set 2 (.prim .ix [.prim .ix [.peek 0, .cst (.int 0)], .prim .ix [.peek 0, .cst (.int 1)]]), .setIx 0 (.cst (.int 1)) (.prim .add [.prim .ix [.peek 0, .cst (.int 1)], .cst (.int 1)]), .setIx 0 (.cst (.int 3)) (.prim .mod [.prim .int [.prim .add [.prim .add [.prim .mul [.prim .ix [.peek 0, .cst (.int 3)], .cst (.int 69621)], .peek 2], .cst (.int 29)]], .cst (.int 2147483629)]), .ite (.prim .ge [.peek 2, .prim .pow [.cst (.int 10), .cst (.int 18)]]) [.setIx 0 (.cst (.int 2)) (.var 2)] []] [],
    .ite (.prim .gt [.prim .ix [.peek 0, .cst (.int 2)], .cst (.int 0)]) [.set 3 (.prim .mod [.prim .int [.prim .ix [.peek 0, .cst (.int 2)]], .peek 1]), .setIx 0 (.cst (.int 2)) (.prim .fdiv [.prim .ix [.peek 0, .cst (.int 2)], .peek 1]), .ret (.mv 3)] [],
    .setIx 0 (.cst (.int 4)) (.prim .add [.prim .ix [.peek 0, .cst (.int 4)], .cst (.int 1)]),
    .set 4 (.prim .mod [.prim .int [.prim .mul [.prim .int [.prim .add [.prim .ix [.peek 0, .cst (.int 3)], .prim .mul [.cst (.int 7919), .prim .ix [.peek 0, .cst (.int 4)]]]], .cst (.int 48271)]], .cst (.int 2147483647)]),
    .set 4 (.prim .mod [.prim .int [.prim .mul [.peek 4, .prim .add [.prim .fdiv [.peek 4, .cst (.int 1009)], .cst (.int 69621)]]], .cst (.int 2147483647)]),
    .set 4 (.prim .mod [.prim .int [.prim .mul [.peek 4, .prim .add [.prim .fdiv [.peek 4, .cst (.int 2003)], .cst (.int 40692)]]], .cst (.int 2147483399)]),
    .ret (.prim .mod [.prim .int [.prim .fdiv [.peek 4, .cst (.int 16)]], .peek 1])]⟩
def r__law_draw : Dr := ⟨d__law_draw, ["hand", "many", "cell", "digit", "number"], ["hand", "many"], df__law_draw⟩
def df__law_some : Df := ⟨2, (some 0), 2, [
    .ret (.prim .ix [.peek 1, .call 21 [.io 0, .prim .len [.peek 1]]])]⟩
def r__law_some : Dr := ⟨d__law_some, ["hand", "things"], ["hand", "things"], df__law_some⟩
def df__law_types : Df := ⟨1, none, 8, [
    .set 1 (.lst [.tup []]),
    .forr (.s 2) .range1 [.var 0] [.set 3 (.lst []), .forr (.s 4) .val [.var 1] [.set 5 (.prim .sub [.peek 0, .prim .sum [.peek 4]]), .ite (.prim .eq [.peek 5, .cst (.int 0)]) [.app 3 (.var 4)] [.set 6 (.ite (.prim .gt [.prim .len [.peek 4], .cst (.int 0)]) (.prim .min2 [.peek 5, .prim .ix [.peek 4, .prim .neg [.cst (.int 1)]]]) (.var 5)), .ext 3 (.comp [7] (.s 7) .range2 [.cst (.int 1), .prim .add [.peek 6, .cst (.int 1)]] none (.prim .add [.peek 4, .tup [.var 7]]))]], .set 1 (.mv 3)],
    .ret (.prim .slRev [.prim .sorted [.peek 1]])]⟩
def r__law_types : Dr := ⟨d__law_types, ["many", "found", "turn", "longer", "row", "rest", "most", "size"], ["many"], df__law_types⟩
def df__law_factorial : Df := ⟨1, none, 3, [
    .set 1 (.cst (.int 1)),
    .forr (.s 2) .range2 [.cst (.int 2), .prim .add [.peek 0, .cst (.int 1)]] [.set 1 (.prim .mul [.peek 1, .peek 2])],
    .ret (.mv 1)]⟩
def r__law_factorial : Dr := ⟨d__law_factorial, ["number", "found", "one"], ["number"], df__law_factorial⟩
def df__law_sign : Df := ⟨1, none, 2, [
    .ret (.ite (.prim .eq [.prim .mod [.prim .int [.prim .len [.comp [1] (.s 1) .val [.var 0] (some (.prim .eq [.prim .mod [.prim .int [.peek 1], .cst (.int 2)], .cst (.int 0)])) (.var 1)]], .cst (.int 2)], .cst (.int 0)]) (.cst (.int 1)) (.prim .neg [.cst (.int 1)]))]⟩
def r__law_sign : Dr := ⟨d__law_sign, ["told", "size"], ["told"], df__law_sign⟩
def df__law_is_case_right : Df := ⟨2, (some 0), 6, [
    .set 2 (.call 23 [.var 1]),
    .ite (.or (.prim .ne [.call 3 [.var 1], .prim .tuple [.peek 2]]) (.prim .ne [.prim .sum [.comp [3] (.s 3) .val [.var 2] none (.prim .pow [.call 16 [.var 3], .cst (.int 2)])], .call 24 [.var 1]])) [.ret (.cst (.bl false))] [],
    .par [.s 3, .s 4] [.call 22 [.io 0, .var 2], .call 22 [.io 0, .var 2]],
    .ite (.prim .ne [.call 19 [.var 3, .prim .mul [.tup [.cst (.int 1)], .peek 1]], .call 16 [.var 3]]) [.ret (.cst (.bl false))] [],
    .ite (.prim .ne [.call 19 [.call 13 [.var 3], .var 4], .prim .mul [.call 25 [.var 4], .call 19 [.var 3, .var 4]]]) [.ret (.cst (.bl false))] [],
    .ite (.prim .eq [.peek 1, .cst (.int 1)]) [.ret (.prim .eq [.call 17 [.var 3], .cst (.int 0)])] [],
    .set 5 (.prim .add [.tup [.cst (.int 2)], .prim .mul [.tup [.cst (.int 1)], .prim .sub [.peek 1, .cst (.int 2)]]]),
    .ret (.prim .eq [.prim .mul [.call 8 [.var 5], .call 19 [.var 3, .var 5]], .prim .mul [.call 17 [.var 3], .call 16 [.var 3]]])]⟩
def r__law_is_case_right : Dr := ⟨d__law_is_case_right, ["hand", "many", "some", "shape", "told", "swap"], ["hand", "many"], df__law_is_case_right⟩
def df_law : Df := ⟨1, none, 3, [
    .set 1 (.call 20 [.var 0]),
    .ret (.prim .all [.comp [2] (.s 2) .range1 [.cst (.int 10)] none (.call 26 [.io 1, .prim .add [.cst (.int 1), .call 21 [.io 1, .cst (.int 7)]]])])]⟩
def r_law : Dr := ⟨d_law, ["script", "hand", "turn"], ["script"], df_law⟩
def rs : List Dr := [r_is_integer, r_is_within, r_all_types, r_types, r_is_type, r_check_type, r_factorial, r_stayers, r_class_size, r_marks_of, r_shape_by, r_raw_strips, r_raw_turned, r_turned_shape, r_raw_hooks, r_raw_width, r_width_of, r_contents, r_raw_character, r_character, r__law_hand, r__law_draw, r__law_some, r__law_types, r__law_factorial, r__law_sign, r__law_is_case_right, r_law]
def gF (x : Str) (i n : Nat) (io : Option Nat) : Str × GE := (x, .fn i n io)
def gC (x : Str) (i : Int) : Str × GE := (x, .cst (.int i))
def gB (x : Str) : Str × GE := (x, .free)
def G : List (Str × GE) := [gF "is_integer" 0 1 none, gF "is_within" 1 3 none, gF "all_types" 2 1 none, gF "types" 3 1 none, gF "is_type" 4 1 none, gF "check_type" 5 1 none, gF "factorial" 6 1 none, gF "stayers" 7 1 none, gF "class_size" 8 1 none, gF "marks_of" 9 1 none, gF "shape_by" 10 1 none, gF "raw_strips" 11 2 none, gF "raw_turned" 12 1 none, gF "turned_shape" 13 1 none, gF "raw_hooks" 14 1 none, gF "raw_width" 15 1 none, gF "width_of" 16 1 none, gF "contents" 17 1 none, gF "raw_character" 18 2 none, gF "character" 19 2 none, gF "_law_hand" 20 1 none, gF "_law_draw" 21 2 (some 0), gF "_law_some" 22 2 (some 0), gF "_law_types" 23 1 none, gF "_law_factorial" 24 1 none, gF "_law_sign" 25 1 none, gF "_law_is_case_right" 26 2 (some 0), gF "law" 27 1 none, gC "MOST_TYPED" 12, gB "len", gB "sum", gB "abs", gB "int", gB "tuple", gB "sorted", gB "all", gB "min", gB "range", gB "enumerate", gB "isinstance", gB "bool"]
theorem bnd : ∀ r ∈ rs, BndOk r := List.forall_mem_cons.mpr ⟨fun _ _ _ _ _ _ us hl => match us, hl with | [_], _ => rfl,
  List.forall_mem_cons.mpr ⟨fun _ _ _ _ _ _ us hl => match us, hl with | [_, _, _], _ => rfl,
  List.forall_mem_cons.mpr ⟨fun _ _ _ _ _ _ us hl => match us, hl with | [_], _ => rfl,
  List.forall_mem_cons.mpr ⟨fun _ _ _ _ _ _ us hl => match us, hl with | [_], _ => rfl,
  List.forall_mem_cons.mpr ⟨fun _ _ _ _ _ _ us hl => match us, hl with | [_], _ => rfl,
  List.forall_mem_cons.mpr ⟨fun _ _ _ _ _ _ us hl => match us, hl with | [_], _ => rfl,
  List.forall_mem_cons.mpr ⟨fun _ _ _ _ _ _ us hl => match us, hl with | [_], _ => rfl,
  List.forall_mem_cons.mpr ⟨fun _ _ _ _ _ _ us hl => match us, hl with | [_], _ => rfl,
  List.forall_mem_cons.mpr ⟨fun _ _ _ _ _ _ us hl => match us, hl with | [_], _ => rfl,
  List.forall_mem_cons.mpr ⟨fun _ _ _ _ _ _ us hl => match us, hl with | [_], _ => rfl,
  List.forall_mem_cons.mpr ⟨fun _ _ _ _ _ _ us hl => match us, hl with | [_], _ => rfl,
  List.forall_mem_cons.mpr ⟨fun _ _ _ _ _ _ us hl => match us, hl with | [_, _], _ => rfl,
  List.forall_mem_cons.mpr ⟨fun _ _ _ _ _ _ us hl => match us, hl with | [_], _ => rfl,
  List.forall_mem_cons.mpr ⟨fun _ _ _ _ _ _ us hl => match us, hl with | [_], _ => rfl,
  List.forall_mem_cons.mpr ⟨fun _ _ _ _ _ _ us hl => match us, hl with | [_], _ => rfl,
  List.forall_mem_cons.mpr ⟨fun _ _ _ _ _ _ us hl => match us, hl with | [_], _ => rfl,
  List.forall_mem_cons.mpr ⟨fun _ _ _ _ _ _ us hl => match us, hl with | [_], _ => rfl,
  List.forall_mem_cons.mpr ⟨fun _ _ _ _ _ _ us hl => match us, hl with | [_], _ => rfl,
  List.forall_mem_cons.mpr ⟨fun _ _ _ _ _ _ us hl => match us, hl with | [_, _], _ => rfl,
  List.forall_mem_cons.mpr ⟨fun _ _ _ _ _ _ us hl => match us, hl with | [_, _], _ => rfl,
  List.forall_mem_cons.mpr ⟨fun _ _ _ _ _ _ us hl => match us, hl with | [_], _ => rfl,
  List.forall_mem_cons.mpr ⟨fun _ _ _ _ _ _ us hl => match us, hl with | [_, _], _ => rfl,
  List.forall_mem_cons.mpr ⟨fun _ _ _ _ _ _ us hl => match us, hl with | [_, _], _ => rfl,
  List.forall_mem_cons.mpr ⟨fun _ _ _ _ _ _ us hl => match us, hl with | [_], _ => rfl,
  List.forall_mem_cons.mpr ⟨fun _ _ _ _ _ _ us hl => match us, hl with | [_], _ => rfl,
  List.forall_mem_cons.mpr ⟨fun _ _ _ _ _ _ us hl => match us, hl with | [_], _ => rfl,
  List.forall_mem_cons.mpr ⟨fun _ _ _ _ _ _ us hl => match us, hl with | [_, _], _ => rfl,
  List.forall_mem_cons.mpr ⟨fun _ _ _ _ _ _ us hl => match us, hl with | [_], _ => rfl,
  List.forall_mem_nil _⟩⟩⟩⟩⟩⟩⟩⟩⟩⟩⟩⟩⟩⟩⟩⟩⟩⟩⟩⟩⟩⟩⟩⟩⟩⟩⟩⟩
end DL
namespace DL
open PySem L2 DD
def nxE : E := .prim .mod [.prim .int [.prim .add [.prim .add [.prim .mul [hI 3, .cst (.int 69621)], .peek 2], .cst (.int 29)]], .cst (.int 2147483629)]
abbrev Dk : Nat → Option Df := dfs rs
abbrev Wk : Nat := 1000
theorem hd_hand : Dk 20 = some (dHand (.lst [.var 1, .cst (.int 0), .cst (.int 0), .prim .add [.cst (.int 83), .prim .mul [.cst (.int 7), .prim .len [.peek 1]]], .cst (.int 0)])) := rfl
theorem hd_draw : Dk 21 = some (dDraw 7919 1009 2003 40692 2147483399 nxE) := rfl
theorem nx_ok (Φ Ψ : Nat → Fn) (cs : List Int) (a b c d m x : Int) (y z : Option Sl) : ev Φ Ψ nxE (dE (hdT cs a b c d) m (some ⟨.int x, .sh⟩) y z) = .ok (.v (.int ((c * 69621 + x + 29) % 2147483629)) false, dE (hdT cs a b c d) m (some ⟨.int x, .sh⟩) y z) :=
  ev_p2 (ev_int (ev_p2 (p := .add) (x := .int (c * 69621 + x)) (y := .int 29) (t := .int (c * 69621 + x + 29)) (ev_p2 (p := .add) (x := .int (c * 69621)) (y := .int x) (t := .int (c * 69621 + x)) (ev_p2 (p := .mul) (x := .int c) (y := .int 69621) (t := .int (c * 69621)) rfl (u := .v (.int 69621) false) (by rw [ev]) rfl rfl (mul_r (small_of (by decide) (by decide)))) (u := .s 2) rfl rfl rfl rfl) (u := .v (.int 29) false) (by rw [ev]) rfl rfl rfl)) (u := .v (.int 2147483629) false) (by rw [ev]) rfl rfl (mod_ok (i := c * 69621 + x + 29) (j := 2147483629) (by decide))
theorem draws (n : Nat) : DrawOk (fnS Wk Dk (n + 1)) 21 := fun t h m h1 h2 =>
  draw_ok hd_draw (small_of (by decide) (by decide)) (by decide) ⟨by decide, by decide⟩ ⟨by decide, by decide⟩ (by decide) (by decide) nx_ok (fun _ _ => Int.emod_nonneg _ (by decide)) h h1 h2
open FE
theorem mono : ∀ i d, Dk i = some d → okSs (fun _ => false) none d.body = true := all_dfs (p := fun d => okSs (fun _ => false) none d.body) (by decide +kernel)
def HF (i : Nat) : Bool := Nat.beq i 21 || Nat.beq i 22 || Nat.beq i 26
def X1 (i : Nat) : Bool := Nat.beq i 27 || Nat.beq i 21
def D1 (i : Nat) : Option Df := bif X1 i then none else dfs rs i
theorem hD1 : ∀ i d, D1 i = some d → Dk i = some d ∧ (if HF i then okSs HF (some 0) d.body && decide (d.io = some 0) else okSs HF none d.body) = true := hD_of (X := X1) (HF := HF) (by decide +kernel)

noncomputable def gD : Fn := gO Hd (fnS Wk Dk 2 21) false preD dfD
theorem ioD : IsOrc Hd (fnS Wk Dk 2 21) false preD postD := draw_orc (draws 1)
noncomputable def OF1 (n f : Nat) : Option Fn := bif Nat.beq f 21 then some (gAt 2 gD n) else none
noncomputable def F1 : Nat → Nat → Fn := fnO Wk D1 OF1
theorem AF1 : ∀ n, AgF Hd HF (F1 n) (fnS Wk Dk n) := ag_fnO hD1 fun n f g e => by
  unfold OF1 at e
  rcases o_cons e with ⟨rfl, rfl⟩ | e
  · exact ⟨rfl, fun t ts ht => gAt_ag mono ioD n ht ts⟩
  cases e
noncomputable def fF1_draw : FnC := drawC gD
theorem hF1_draw : Snd F1 21 2 fF1_draw := orc_snd ioD dfD_ok (by decide) (fun _ _ => rfl) drawC_ok
noncomputable def fF1_marks_of : FnC := fDef 1 none [none, none] (cCons (cRet (cComp [1, 2] (pT [(pS 1), (pS 2)]) (iEnum (cVar 0)) ccN (e2vp fSub (e2vc fSub (e2pv fAdd 2 (e1p fLen 0)) (.int 1)) 1))) cNil)
theorem hF1_marks_of : Snd F1 9 1 fF1_marks_of := snd_def (d := 0) (df := df_marks_of) (fun _ _ => rfl) rfl fun n hn => (b_cons (b_ret (s_comp (sp_t (.cons sp_s (.cons sp_s .nil))) (si_enum s_var) sc_none (s_vp fSub_ok (s_vc fSub_ok (s_pv fAdd_ok (s_1p fLen_ok)))))) b_nil)
noncomputable def fF1_shape_by : FnC := fDef 1 none [none, none, none, none] (cCons (cSet 1 (cComp [2, 3] (pT [(pS 2), (pS 3)]) (iEnum (cVar 0)) ccN (e2pv fSub 3 (e2vp fSub (e2vc fSub (e1p fLen 0) (.int 1)) 2)))) (cCons (cRet (e1v fTuple (cComp [4] (pS 4) (iVal (cVar 1)) (ccS (e2pc fGt 4 (.int 0))) (cVar 4)))) cNil))
theorem hF1_shape_by : Snd F1 10 1 fF1_shape_by := snd_def (d := 0) (df := df_shape_by) (fun _ _ => rfl) rfl fun n hn => (b_cons (b_set (s_comp (sp_t (.cons sp_s (.cons sp_s .nil))) (si_enum s_var) sc_none (s_pv fSub_ok (s_vp fSub_ok (s_vc fSub_ok (s_1p fLen_ok)))))) (b_cons (b_ret (s_1v fTuple_ok (s_comp sp_s (si_val s_var) (sc_some (s_pc fGt_ok)) s_var))) b_nil))
noncomputable def fF1_raw_strips : FnC := fDef 2 none [none, none, none, none, none, none] (cCons (cPar2 (tS 2) (tS 3) (cCallV fF1_marks_of [(cVar 0)]) (cLstD [])) (cCons (cFor (pS 4) (iVal (cVar 2)) (cCons (cIf (cAnd (e2pp fGe 4 1) (e2vp fNotin (e2pp fSub 4 1) 2)) (cCons (cSet 5 (e1v fSortedRev (cComp [6] (pS 6) (iVal (cVar 2)) ccN (cIte (e2pp fEq 6 4) (e2pp fSub 4 1) (cVar 6))))) (cCons (cSet 7 (e1v fLen (cComp [6] (pS 6) (iVal (cVar 2)) (ccS (cChain fLt fLt (.v (e2pp fSub 4 1)) (.p 6) (.p 4))) (cVar 6)))) (cCons (cApp 3 (cTupD [(cCallV fF1_shape_by [(cVar 5)]), (cVar 7)])) cNil))) cNil) cNil)) (cCons (cRet (e1p fSorted 3)) cNil)))
theorem hF1_raw_strips : Snd F1 11 2 fF1_raw_strips := snd_def (d := 1) (df := df_raw_strips) (fun _ _ => rfl) rfl fun n hn => (b_cons (b_par2 t_s t_s (s_callV (hF1_marks_of n (Nat.le_trans (Nat.le_of_ble_eq_true rfl) hn)) (.cons s_var .nil)) (s_lst .nil (Nat.le_of_ble_eq_true rfl))) (b_cons (b_for sp_s (si_val s_var) (b_cons (b_if (s_and (s_pp fGe_ok) (s_vp fNotin_ok (s_pp fSub_ok))) (b_cons (b_set (s_1v fSortedRev_ok (s_comp sp_s (si_val s_var) sc_none (s_ite (s_pp fEq_ok) (s_pp fSub_ok) s_var)))) (b_cons (b_set (s_1v fLen_ok (s_comp sp_s (si_val s_var) (sc_some (s_chain fLt_ok fLt_ok (.v (s_pp fSub_ok)) .p .p)) s_var))) (b_cons (b_app (s_tup (.cons (s_callV (hF1_shape_by n (Nat.le_trans (Nat.le_of_ble_eq_true rfl) hn)) (.cons s_var .nil)) (.cons s_var .nil)) (Nat.le_of_ble_eq_true rfl))) b_nil))) b_nil) b_nil)) (b_cons (b_ret (s_1p fSorted_ok)) b_nil)))
def tr_F1_raw_strips_3 : Tr := (.nd 39938 [.tup [.int 6], .int 1] (.lst [.tup [.tup [.int 5], .int 0]]) (.nd 37891 [.tup [.int 4], .int 2] (.lst [.tup [.tup [.int 2], .int 0]]) (.nd 36866 [.tup [.int 3], .int 1] (.lst [.tup [.tup [.int 2], .int 0]]) (.nd 35842 [.tup [.int 2], .int 1] (.lst [.tup [.tup [.int 1], .int 0]]) (.nd 34818 [.tup [.int 1], .int 1] (.lst [.tup [.tup [], .int 0]]) .nil .nil) (.nd 35843 [.tup [.int 2], .int 2] (.lst [.tup [.tup [], .int 0]]) .nil .nil)) (.nd 36868 [.tup [.int 3], .int 3] (.lst [.tup [.tup [], .int 0]]) (.nd 36867 [.tup [.int 3], .int 2] (.lst [.tup [.tup [.int 1], .int 0]]) .nil .nil) (.nd 37890 [.tup [.int 4], .int 1] (.lst [.tup [.tup [.int 3], .int 0]]) .nil .nil))) (.nd 38915 [.tup [.int 5], .int 2] (.lst [.tup [.tup [.int 3], .int 0]]) (.nd 37893 [.tup [.int 4], .int 4] (.lst [.tup [.tup [], .int 0]]) (.nd 37892 [.tup [.int 4], .int 3] (.lst [.tup [.tup [.int 1], .int 0]]) .nil .nil) (.nd 38914 [.tup [.int 5], .int 1] (.lst [.tup [.tup [.int 4], .int 0]]) .nil .nil)) (.nd 38917 [.tup [.int 5], .int 4] (.lst [.tup [.tup [.int 1], .int 0]]) (.nd 38916 [.tup [.int 5], .int 3] (.lst [.tup [.tup [.int 2], .int 0]]) .nil .nil) (.nd 38918 [.tup [.int 5], .int 5] (.lst [.tup [.tup [], .int 0]]) .nil .nil)))) (.nd 40964 [.tup [.int 7], .int 3] (.lst [.tup [.tup [.int 4], .int 0]]) (.nd 39942 [.tup [.int 6], .int 5] (.lst [.tup [.tup [.int 1], .int 0]]) (.nd 39940 [.tup [.int 6], .int 3] (.lst [.tup [.tup [.int 3], .int 0]]) (.nd 39939 [.tup [.int 6], .int 2] (.lst [.tup [.tup [.int 4], .int 0]]) .nil .nil) (.nd 39941 [.tup [.int 6], .int 4] (.lst [.tup [.tup [.int 2], .int 0]]) .nil .nil)) (.nd 40962 [.tup [.int 7], .int 1] (.lst [.tup [.tup [.int 6], .int 0]]) (.nd 39943 [.tup [.int 6], .int 6] (.lst [.tup [.tup [], .int 0]]) .nil .nil) (.nd 40963 [.tup [.int 7], .int 2] (.lst [.tup [.tup [.int 5], .int 0]]) .nil .nil))) (.nd 40968 [.tup [.int 7], .int 7] (.lst [.tup [.tup [], .int 0]]) (.nd 40966 [.tup [.int 7], .int 5] (.lst [.tup [.tup [.int 2], .int 0]]) (.nd 40965 [.tup [.int 7], .int 4] (.lst [.tup [.tup [.int 3], .int 0]]) .nil .nil) (.nd 40967 [.tup [.int 7], .int 6] (.lst [.tup [.tup [.int 1], .int 0]]) .nil .nil)) (.nd 1116163 [.tup [.int 1, .int 1], .int 2] (.lst [.tup [.tup [], .int 1]]) (.nd 1116162 [.tup [.int 1, .int 1], .int 1] (.lst [.tup [.tup [.int 1], .int 0]]) .nil .nil) .nil))))
theorem tr_F1_raw_strips_3_ok : trChk true fF1_raw_strips tr_F1_raw_strips_3 = some (.bl true) := by kernel_rfl
def tr_F1_raw_strips_4 : Tr := (.nd 1182726 [.tup [.int 3, .int 2], .int 5] (.lst []) (.nd 1181699 [.tup [.int 3, .int 1], .int 2] (.lst [.tup [.tup [.int 1, .int 1], .int 0]]) (.nd 1149955 [.tup [.int 2, .int 2], .int 2] (.lst [.tup [.tup [.int 1, .int 1], .int 1], .tup [.tup [.int 2], .int 0]]) (.nd 1148932 [.tup [.int 2, .int 1], .int 3] (.lst [.tup [.tup [], .int 1]]) (.nd 1148931 [.tup [.int 2, .int 1], .int 2] (.lst []) .nil .nil) (.nd 1149954 [.tup [.int 2, .int 2], .int 1] (.lst [.tup [.tup [.int 2, .int 1], .int 0]]) .nil .nil)) (.nd 1149957 [.tup [.int 2, .int 2], .int 4] (.lst []) (.nd 1149956 [.tup [.int 2, .int 2], .int 3] (.lst [.tup [.tup [.int 1], .int 1]]) .nil .nil) (.nd 1181698 [.tup [.int 3, .int 1], .int 1] (.lst [.tup [.tup [.int 2, .int 1], .int 0], .tup [.tup [.int 3], .int 0]]) .nil .nil))) (.nd 1182723 [.tup [.int 3, .int 2], .int 2] (.lst [.tup [.tup [.int 3], .int 0]]) (.nd 1181701 [.tup [.int 3, .int 1], .int 4] (.lst [.tup [.tup [], .int 1]]) (.nd 1181700 [.tup [.int 3, .int 1], .int 3] (.lst []) .nil .nil) (.nd 1182722 [.tup [.int 3, .int 2], .int 1] (.lst [.tup [.tup [.int 2, .int 2], .int 0], .tup [.tup [.int 3, .int 1], .int 0]]) .nil .nil)) (.nd 1182725 [.tup [.int 3, .int 2], .int 4] (.lst [.tup [.tup [.int 1], .int 1]]) (.nd 1182724 [.tup [.int 3, .int 2], .int 3] (.lst [.tup [.tup [.int 1, .int 1], .int 1]]) .nil .nil) .nil))) (.nd 1214467 [.tup [.int 4, .int 1], .int 2] (.lst [.tup [.tup [.int 2, .int 1], .int 0]]) (.nd 1183749 [.tup [.int 3, .int 3], .int 4] (.lst [.tup [.tup [.int 2], .int 1]]) (.nd 1183747 [.tup [.int 3, .int 3], .int 2] (.lst [.tup [.tup [.int 2, .int 2], .int 1], .tup [.tup [.int 3, .int 1], .int 0]]) (.nd 1183746 [.tup [.int 3, .int 3], .int 1] (.lst [.tup [.tup [.int 3, .int 2], .int 0]]) .nil .nil) (.nd 1183748 [.tup [.int 3, .int 3], .int 3] (.lst [.tup [.tup [.int 2, .int 1], .int 1], .tup [.tup [.int 3], .int 0]]) .nil .nil)) (.nd 1183751 [.tup [.int 3, .int 3], .int 6] (.lst []) (.nd 1183750 [.tup [.int 3, .int 3], .int 5] (.lst []) .nil .nil) (.nd 1214466 [.tup [.int 4, .int 1], .int 1] (.lst [.tup [.tup [.int 3, .int 1], .int 0], .tup [.tup [.int 4], .int 0]]) .nil .nil))) (.nd 1215490 [.tup [.int 4, .int 2], .int 1] (.lst [.tup [.tup [.int 3, .int 2], .int 0], .tup [.tup [.int 4, .int 1], .int 0]]) (.nd 1214469 [.tup [.int 4, .int 1], .int 4] (.lst []) (.nd 1214468 [.tup [.int 4, .int 1], .int 3] (.lst [.tup [.tup [.int 1, .int 1], .int 0]]) .nil .nil) (.nd 1214470 [.tup [.int 4, .int 1], .int 5] (.lst [.tup [.tup [], .int 1]]) .nil .nil)) (.nd 1215492 [.tup [.int 4, .int 2], .int 3] (.lst []) (.nd 1215491 [.tup [.int 4, .int 2], .int 2] (.lst [.tup [.tup [.int 2, .int 2], .int 0], .tup [.tup [.int 4], .int 0]]) .nil .nil) .nil))))
theorem tr_F1_raw_strips_4_ok : trChk true fF1_raw_strips tr_F1_raw_strips_4 = some (.bl true) := by kernel_rfl
def tr_F1_raw_strips_2 : Tr := .nd 1148930 [.tup [.int 2, .int 1], .int 1] (.lst [.tup [.tup [.int 1, .int 1], .int 0], .tup [.tup [.int 2], .int 0]]) tr_F1_raw_strips_3 tr_F1_raw_strips_4
theorem tr_F1_raw_strips_2_ok : trChk true fF1_raw_strips tr_F1_raw_strips_2 = some (.bl true) := trChk_nd (by kernel_rfl) tr_F1_raw_strips_3_ok tr_F1_raw_strips_4_ok
def tr_F1_raw_strips_6 : Tr := (.nd 1247239 [.tup [.int 5, .int 1], .int 6] (.lst [.tup [.tup [], .int 1]]) (.nd 1216519 [.tup [.int 4, .int 3], .int 6] (.lst []) (.nd 1216515 [.tup [.int 4, .int 3], .int 2] (.lst [.tup [.tup [.int 4, .int 1], .int 0]]) (.nd 1215495 [.tup [.int 4, .int 2], .int 6] (.lst []) (.nd 1215494 [.tup [.int 4, .int 2], .int 5] (.lst [.tup [.tup [.int 1], .int 1]]) .nil .nil) (.nd 1216514 [.tup [.int 4, .int 3], .int 1] (.lst [.tup [.tup [.int 3, .int 3], .int 0], .tup [.tup [.int 4, .int 2], .int 0]]) .nil .nil)) (.nd 1216517 [.tup [.int 4, .int 3], .int 4] (.lst [.tup [.tup [.int 2, .int 1], .int 1]]) (.nd 1216516 [.tup [.int 4, .int 3], .int 3] (.lst [.tup [.tup [.int 2, .int 2], .int 1], .tup [.tup [.int 4], .int 0]]) .nil .nil) (.nd 1216518 [.tup [.int 4, .int 3], .int 5] (.lst [.tup [.tup [.int 2], .int 1]]) .nil .nil))) (.nd 1247236 [.tup [.int 5, .int 1], .int 3] (.lst [.tup [.tup [.int 2, .int 1], .int 0]]) (.nd 1247234 [.tup [.int 5, .int 1], .int 1] (.lst [.tup [.tup [.int 4, .int 1], .int 0], .tup [.tup [.int 5], .int 0]]) (.nd 1216520 [.tup [.int 4, .int 3], .int 7] (.lst []) .nil .nil) (.nd 1247235 [.tup [.int 5, .int 1], .int 2] (.lst [.tup [.tup [.int 3, .int 1], .int 0]]) .nil .nil)) (.nd 1247238 [.tup [.int 5, .int 1], .int 5] (.lst []) (.nd 1247237 [.tup [.int 5, .int 1], .int 4] (.lst [.tup [.tup [.int 1, .int 1], .int 0]]) .nil .nil) .nil))) (.nd 1280002 [.tup [.int 6, .int 1], .int 1] (.lst [.tup [.tup [.int 5, .int 1], .int 0], .tup [.tup [.int 6], .int 0]]) (.nd 1248261 [.tup [.int 5, .int 2], .int 4] (.lst []) (.nd 1248259 [.tup [.int 5, .int 2], .int 2] (.lst [.tup [.tup [.int 3, .int 2], .int 0], .tup [.tup [.int 5], .int 0]]) (.nd 1248258 [.tup [.int 5, .int 2], .int 1] (.lst [.tup [.tup [.int 4, .int 2], .int 0], .tup [.tup [.int 5, .int 1], .int 0]]) .nil .nil) (.nd 1248260 [.tup [.int 5, .int 2], .int 3] (.lst [.tup [.tup [.int 2, .int 2], .int 0]]) .nil .nil)) (.nd 1248263 [.tup [.int 5, .int 2], .int 6] (.lst [.tup [.tup [.int 1], .int 1]]) (.nd 1248262 [.tup [.int 5, .int 2], .int 5] (.lst [.tup [.tup [.int 1, .int 1], .int 1]]) .nil .nil) (.nd 1248264 [.tup [.int 5, .int 2], .int 7] (.lst []) .nil .nil))) (.nd 1280006 [.tup [.int 6, .int 1], .int 5] (.lst [.tup [.tup [.int 1, .int 1], .int 0]]) (.nd 1280004 [.tup [.int 6, .int 1], .int 3] (.lst [.tup [.tup [.int 3, .int 1], .int 0]]) (.nd 1280003 [.tup [.int 6, .int 1], .int 2] (.lst [.tup [.tup [.int 4, .int 1], .int 0]]) .nil .nil) (.nd 1280005 [.tup [.int 6, .int 1], .int 4] (.lst [.tup [.tup [.int 2, .int 1], .int 0]]) .nil .nil)) (.nd 1280008 [.tup [.int 6, .int 1], .int 7] (.lst [.tup [.tup [], .int 1]]) (.nd 1280007 [.tup [.int 6, .int 1], .int 6] (.lst []) .nil .nil) .nil))))
theorem tr_F1_raw_strips_6_ok : trChk true fF1_raw_strips tr_F1_raw_strips_6 = some (.bl true) := by kernel_rfl
def tr_F1_raw_strips_7 : Tr := (.nd 36801541 [.tup [.int 2, .int 2, .int 2], .int 4] (.lst [.tup [.tup [.int 1, .int 1], .int 2]]) (.nd 36800515 [.tup [.int 2, .int 2, .int 1], .int 2] (.lst [.tup [.tup [.int 1, .int 1, .int 1], .int 1]]) (.nd 36767747 [.tup [.int 2, .int 1, .int 1], .int 2] (.lst [.tup [.tup [.int 2], .int 1]]) (.nd 35719172 [.tup [.int 1, .int 1, .int 1], .int 3] (.lst [.tup [.tup [], .int 2]]) (.nd 35719171 [.tup [.int 1, .int 1, .int 1], .int 2] (.lst [.tup [.tup [.int 1], .int 1]]) .nil .nil) (.nd 36767746 [.tup [.int 2, .int 1, .int 1], .int 1] (.lst [.tup [.tup [.int 1, .int 1, .int 1], .int 0], .tup [.tup [.int 2, .int 1], .int 0]]) .nil .nil)) (.nd 36767749 [.tup [.int 2, .int 1, .int 1], .int 4] (.lst [.tup [.tup [], .int 2]]) (.nd 36767748 [.tup [.int 2, .int 1, .int 1], .int 3] (.lst []) .nil .nil) (.nd 36800514 [.tup [.int 2, .int 2, .int 1], .int 1] (.lst [.tup [.tup [.int 2, .int 1, .int 1], .int 0], .tup [.tup [.int 2, .int 2], .int 0]]) .nil .nil))) (.nd 36801538 [.tup [.int 2, .int 2, .int 2], .int 1] (.lst [.tup [.tup [.int 2, .int 2, .int 1], .int 0]]) (.nd 36800517 [.tup [.int 2, .int 2, .int 1], .int 4] (.lst [.tup [.tup [.int 1], .int 2]]) (.nd 36800516 [.tup [.int 2, .int 2, .int 1], .int 3] (.lst [.tup [.tup [.int 2], .int 1]]) .nil .nil) (.nd 36800518 [.tup [.int 2, .int 2, .int 1], .int 5] (.lst []) .nil .nil)) (.nd 36801540 [.tup [.int 2, .int 2, .int 2], .int 3] (.lst [.tup [.tup [.int 1, .int 1, .int 1], .int 2], .tup [.tup [.int 2, .int 1], .int 1]]) (.nd 36801539 [.tup [.int 2, .int 2, .int 2], .int 2] (.lst [.tup [.tup [.int 2, .int 1, .int 1], .int 1], .tup [.tup [.int 2, .int 2], .int 0]]) .nil .nil) .nil))) (.nd 37849090 [.tup [.int 3, .int 2, .int 1], .int 1] (.lst [.tup [.tup [.int 2, .int 2, .int 1], .int 0], .tup [.tup [.int 3, .int 1, .int 1], .int 0], .tup [.tup [.int 3, .int 2], .int 0]]) (.nd 37816323 [.tup [.int 3, .int 1, .int 1], .int 2] (.lst [.tup [.tup [.int 1, .int 1, .int 1], .int 0], .tup [.tup [.int 3], .int 1]]) (.nd 36801543 [.tup [.int 2, .int 2, .int 2], .int 6] (.lst []) (.nd 36801542 [.tup [.int 2, .int 2, .int 2], .int 5] (.lst []) .nil .nil) (.nd 37816322 [.tup [.int 3, .int 1, .int 1], .int 1] (.lst [.tup [.tup [.int 2, .int 1, .int 1], .int 0], .tup [.tup [.int 3, .int 1], .int 0]]) .nil .nil)) (.nd 37816325 [.tup [.int 3, .int 1, .int 1], .int 4] (.lst []) (.nd 37816324 [.tup [.int 3, .int 1, .int 1], .int 3] (.lst []) .nil .nil) (.nd 37816326 [.tup [.int 3, .int 1, .int 1], .int 5] (.lst [.tup [.tup [], .int 2]]) .nil .nil))) (.nd 37849094 [.tup [.int 3, .int 2, .int 1], .int 5] (.lst [.tup [.tup [.int 1], .int 2]]) (.nd 37849092 [.tup [.int 3, .int 2, .int 1], .int 3] (.lst [.tup [.tup [.int 1, .int 1, .int 1], .int 1], .tup [.tup [.int 3], .int 1]]) (.nd 37849091 [.tup [.int 3, .int 2, .int 1], .int 2] (.lst []) .nil .nil) (.nd 37849093 [.tup [.int 3, .int 2, .int 1], .int 4] (.lst []) .nil .nil)) (.nd 37850114 [.tup [.int 3, .int 2, .int 2], .int 1] (.lst [.tup [.tup [.int 2, .int 2, .int 2], .int 0], .tup [.tup [.int 3, .int 2, .int 1], .int 0]]) (.nd 37849095 [.tup [.int 3, .int 2, .int 1], .int 6] (.lst []) .nil .nil) .nil))))
theorem tr_F1_raw_strips_7_ok : trChk true fF1_raw_strips tr_F1_raw_strips_7 = some (.bl true) := by kernel_rfl
def tr_F1_raw_strips_5 : Tr := .nd 35719170 [.tup [.int 1, .int 1, .int 1], .int 1] (.lst [.tup [.tup [.int 1, .int 1], .int 0]]) tr_F1_raw_strips_6 tr_F1_raw_strips_7
theorem tr_F1_raw_strips_5_ok : trChk true fF1_raw_strips tr_F1_raw_strips_5 = some (.bl true) := trChk_nd (by kernel_rfl) tr_F1_raw_strips_6_ok tr_F1_raw_strips_7_ok
def tr_F1_raw_strips_1 : Tr := .nd 1215493 [.tup [.int 4, .int 2], .int 4] (.lst [.tup [.tup [.int 1, .int 1], .int 1]]) tr_F1_raw_strips_2 tr_F1_raw_strips_5
theorem tr_F1_raw_strips_1_ok : trChk true fF1_raw_strips tr_F1_raw_strips_1 = some (.bl true) := trChk_nd (by kernel_rfl) tr_F1_raw_strips_2_ok tr_F1_raw_strips_5_ok
def tr_F1_raw_strips_10 : Tr := (.nd 38864900 [.tup [.int 4, .int 1, .int 1], .int 3] (.lst [.tup [.tup [.int 1, .int 1, .int 1], .int 0]]) (.nd 37881860 [.tup [.int 3, .int 3, .int 1], .int 3] (.lst [.tup [.tup [.int 2, .int 1, .int 1], .int 1]]) (.nd 37850119 [.tup [.int 3, .int 2, .int 2], .int 6] (.lst []) (.nd 37850117 [.tup [.int 3, .int 2, .int 2], .int 4] (.lst [.tup [.tup [.int 1, .int 1, .int 1], .int 2]]) (.nd 37850116 [.tup [.int 3, .int 2, .int 2], .int 3] (.lst [.tup [.tup [.int 3, .int 1], .int 1]]) .nil .nil) (.nd 37850118 [.tup [.int 3, .int 2, .int 2], .int 5] (.lst [.tup [.tup [.int 1, .int 1], .int 2]]) .nil .nil)) (.nd 37881858 [.tup [.int 3, .int 3, .int 1], .int 1] (.lst [.tup [.tup [.int 3, .int 2, .int 1], .int 0], .tup [.tup [.int 3, .int 3], .int 0]]) (.nd 37850120 [.tup [.int 3, .int 2, .int 2], .int 7] (.lst []) .nil .nil) (.nd 37881859 [.tup [.int 3, .int 3, .int 1], .int 2] (.lst [.tup [.tup [.int 2, .int 2, .int 1], .int 1], .tup [.tup [.int 3, .int 1, .int 1], .int 0]]) .nil .nil))) (.nd 37881864 [.tup [.int 3, .int 3, .int 1], .int 7] (.lst []) (.nd 37881862 [.tup [.int 3, .int 3, .int 1], .int 5] (.lst [.tup [.tup [.int 2], .int 2]]) (.nd 37881861 [.tup [.int 3, .int 3, .int 1], .int 4] (.lst [.tup [.tup [.int 3], .int 1]]) .nil .nil) (.nd 37881863 [.tup [.int 3, .int 3, .int 1], .int 6] (.lst []) .nil .nil)) (.nd 38864899 [.tup [.int 4, .int 1, .int 1], .int 2] (.lst [.tup [.tup [.int 2, .int 1, .int 1], .int 0], .tup [.tup [.int 4], .int 1]]) (.nd 38864898 [.tup [.int 4, .int 1, .int 1], .int 1] (.lst [.tup [.tup [.int 3, .int 1, .int 1], .int 0], .tup [.tup [.int 4, .int 1], .int 0]]) .nil .nil) .nil))) (.nd 38897670 [.tup [.int 4, .int 2, .int 1], .int 5] (.lst []) (.nd 38897666 [.tup [.int 4, .int 2, .int 1], .int 1] (.lst [.tup [.tup [.int 3, .int 2, .int 1], .int 0], .tup [.tup [.int 4, .int 1, .int 1], .int 0], .tup [.tup [.int 4, .int 2], .int 0]]) (.nd 38864902 [.tup [.int 4, .int 1, .int 1], .int 5] (.lst []) (.nd 38864901 [.tup [.int 4, .int 1, .int 1], .int 4] (.lst []) .nil .nil) (.nd 38864903 [.tup [.int 4, .int 1, .int 1], .int 6] (.lst [.tup [.tup [], .int 2]]) .nil .nil)) (.nd 38897668 [.tup [.int 4, .int 2, .int 1], .int 3] (.lst [.tup [.tup [.int 4], .int 1]]) (.nd 38897667 [.tup [.int 4, .int 2, .int 1], .int 2] (.lst [.tup [.tup [.int 2, .int 2, .int 1], .int 0]]) .nil .nil) (.nd 38897669 [.tup [.int 4, .int 2, .int 1], .int 4] (.lst [.tup [.tup [.int 1, .int 1, .int 1], .int 1]]) .nil .nil))) (.nd 39913475 [.tup [.int 5, .int 1, .int 1], .int 2] (.lst [.tup [.tup [.int 3, .int 1, .int 1], .int 0], .tup [.tup [.int 5], .int 1]]) (.nd 38897672 [.tup [.int 4, .int 2, .int 1], .int 7] (.lst []) (.nd 38897671 [.tup [.int 4, .int 2, .int 1], .int 6] (.lst [.tup [.tup [.int 1], .int 2]]) .nil .nil) (.nd 39913474 [.tup [.int 5, .int 1, .int 1], .int 1] (.lst [.tup [.tup [.int 4, .int 1, .int 1], .int 0], .tup [.tup [.int 5, .int 1], .int 0]]) .nil .nil)) (.nd 39913477 [.tup [.int 5, .int 1, .int 1], .int 4] (.lst [.tup [.tup [.int 1, .int 1, .int 1], .int 0]]) (.nd 39913476 [.tup [.int 5, .int 1, .int 1], .int 3] (.lst [.tup [.tup [.int 2, .int 1, .int 1], .int 0]]) .nil .nil) .nil))))
theorem tr_F1_raw_strips_10_ok : trChk true fF1_raw_strips tr_F1_raw_strips_10 = some (.bl true) := by kernel_rfl
def tr_F1_raw_strips_11 : Tr := (.nd 1177618437 [.tup [.int 2, .int 2, .int 1, .int 1], .int 4] (.lst [.tup [.tup [.int 2], .int 2]]) (.nd 1176569859 [.tup [.int 2, .int 1, .int 1, .int 1], .int 2] (.lst [.tup [.tup [.int 2, .int 1], .int 1]]) (.nd 1143015427 [.tup [.int 1, .int 1, .int 1, .int 1], .int 2] (.lst [.tup [.tup [.int 1, .int 1], .int 1]]) (.nd 39913480 [.tup [.int 5, .int 1, .int 1], .int 7] (.lst [.tup [.tup [], .int 2]]) (.nd 39913479 [.tup [.int 5, .int 1, .int 1], .int 6] (.lst []) .nil .nil) (.nd 1143015426 [.tup [.int 1, .int 1, .int 1, .int 1], .int 1] (.lst [.tup [.tup [.int 1, .int 1, .int 1], .int 0]]) .nil .nil)) (.nd 1143015429 [.tup [.int 1, .int 1, .int 1, .int 1], .int 4] (.lst [.tup [.tup [], .int 3]]) (.nd 1143015428 [.tup [.int 1, .int 1, .int 1, .int 1], .int 3] (.lst [.tup [.tup [.int 1], .int 2]]) .nil .nil) (.nd 1176569858 [.tup [.int 2, .int 1, .int 1, .int 1], .int 1] (.lst [.tup [.tup [.int 1, .int 1, .int 1, .int 1], .int 0], .tup [.tup [.int 2, .int 1, .int 1], .int 0]]) .nil .nil))) (.nd 1177618434 [.tup [.int 2, .int 2, .int 1, .int 1], .int 1] (.lst [.tup [.tup [.int 2, .int 1, .int 1, .int 1], .int 0], .tup [.tup [.int 2, .int 2, .int 1], .int 0]]) (.nd 1176569861 [.tup [.int 2, .int 1, .int 1, .int 1], .int 4] (.lst []) (.nd 1176569860 [.tup [.int 2, .int 1, .int 1, .int 1], .int 3] (.lst [.tup [.tup [.int 2], .int 2]]) .nil .nil) (.nd 1176569862 [.tup [.int 2, .int 1, .int 1, .int 1], .int 5] (.lst [.tup [.tup [], .int 3]]) .nil .nil)) (.nd 1177618436 [.tup [.int 2, .int 2, .int 1, .int 1], .int 3] (.lst []) (.nd 1177618435 [.tup [.int 2, .int 2, .int 1, .int 1], .int 2] (.lst [.tup [.tup [.int 1, .int 1, .int 1, .int 1], .int 1], .tup [.tup [.int 2, .int 2], .int 1]]) .nil .nil) .nil))) (.nd 1177651207 [.tup [.int 2, .int 2, .int 2, .int 1], .int 6] (.lst []) (.nd 1177651203 [.tup [.int 2, .int 2, .int 2, .int 1], .int 2] (.lst [.tup [.tup [.int 2, .int 1, .int 1, .int 1], .int 1]]) (.nd 1177618439 [.tup [.int 2, .int 2, .int 1, .int 1], .int 6] (.lst []) (.nd 1177618438 [.tup [.int 2, .int 2, .int 1, .int 1], .int 5] (.lst [.tup [.tup [.int 1], .int 3]]) .nil .nil) (.nd 1177651202 [.tup [.int 2, .int 2, .int 2, .int 1], .int 1] (.lst [.tup [.tup [.int 2, .int 2, .int 1, .int 1], .int 0], .tup [.tup [.int 2, .int 2, .int 2], .int 0]]) .nil .nil)) (.nd 1177651205 [.tup [.int 2, .int 2, .int 2, .int 1], .int 4] (.lst [.tup [.tup [.int 2, .int 1], .int 2]]) (.nd 1177651204 [.tup [.int 2, .int 2, .int 2, .int 1], .int 3] (.lst [.tup [.tup [.int 1, .int 1, .int 1, .int 1], .int 2], .tup [.tup [.int 2, .int 2], .int 1]]) .nil .nil) (.nd 1177651206 [.tup [.int 2, .int 2, .int 2, .int 1], .int 5] (.lst [.tup [.tup [.int 1, .int 1], .int 3]]) .nil .nil))) (.nd 1210124292 [.tup [.int 3, .int 1, .int 1, .int 1], .int 3] (.lst [.tup [.tup [.int 3], .int 2]]) (.nd 1210124290 [.tup [.int 3, .int 1, .int 1, .int 1], .int 1] (.lst [.tup [.tup [.int 2, .int 1, .int 1, .int 1], .int 0], .tup [.tup [.int 3, .int 1, .int 1], .int 0]]) (.nd 1177651208 [.tup [.int 2, .int 2, .int 2, .int 1], .int 7] (.lst []) .nil .nil) (.nd 1210124291 [.tup [.int 3, .int 1, .int 1, .int 1], .int 2] (.lst [.tup [.tup [.int 1, .int 1, .int 1, .int 1], .int 0], .tup [.tup [.int 3, .int 1], .int 1]]) .nil .nil)) (.nd 1210124294 [.tup [.int 3, .int 1, .int 1, .int 1], .int 5] (.lst []) (.nd 1210124293 [.tup [.int 3, .int 1, .int 1, .int 1], .int 4] (.lst []) .nil .nil) .nil))))
theorem tr_F1_raw_strips_11_ok : trChk true fF1_raw_strips tr_F1_raw_strips_11 = some (.bl true) := by kernel_rfl
def tr_F1_raw_strips_9 : Tr := .nd 39913478 [.tup [.int 5, .int 1, .int 1], .int 5] (.lst []) tr_F1_raw_strips_10 tr_F1_raw_strips_11
theorem tr_F1_raw_strips_9_ok : trChk true fF1_raw_strips tr_F1_raw_strips_9 = some (.bl true) := trChk_nd (by kernel_rfl) tr_F1_raw_strips_10_ok tr_F1_raw_strips_11_ok
def tr_F1_raw_strips_13 : Tr := (.nd 36576495618 [.tup [.int 1, .int 1, .int 1, .int 1, .int 1], .int 1] (.lst [.tup [.tup [.int 1, .int 1, .int 1, .int 1], .int 0]]) (.nd 1243678722 [.tup [.int 4, .int 1, .int 1, .int 1], .int 1] (.lst [.tup [.tup [.int 3, .int 1, .int 1, .int 1], .int 0], .tup [.tup [.int 4, .int 1, .int 1], .int 0]]) (.nd 1211172869 [.tup [.int 3, .int 2, .int 1, .int 1], .int 4] (.lst [.tup [.tup [.int 3], .int 2]]) (.nd 1211172867 [.tup [.int 3, .int 2, .int 1, .int 1], .int 2] (.lst [.tup [.tup [.int 3, .int 2], .int 1]]) (.nd 1211172866 [.tup [.int 3, .int 2, .int 1, .int 1], .int 1] (.lst [.tup [.tup [.int 2, .int 2, .int 1, .int 1], .int 0], .tup [.tup [.int 3, .int 1, .int 1, .int 1], .int 0], .tup [.tup [.int 3, .int 2, .int 1], .int 0]]) .nil .nil) (.nd 1211172868 [.tup [.int 3, .int 2, .int 1, .int 1], .int 3] (.lst [.tup [.tup [.int 1, .int 1, .int 1, .int 1], .int 1]]) .nil .nil)) (.nd 1211172871 [.tup [.int 3, .int 2, .int 1, .int 1], .int 6] (.lst [.tup [.tup [.int 1], .int 3]]) (.nd 1211172870 [.tup [.int 3, .int 2, .int 1, .int 1], .int 5] (.lst []) .nil .nil) (.nd 1211172872 [.tup [.int 3, .int 2, .int 1, .int 1], .int 7] (.lst []) .nil .nil))) (.nd 1243678726 [.tup [.int 4, .int 1, .int 1, .int 1], .int 5] (.lst []) (.nd 1243678724 [.tup [.int 4, .int 1, .int 1, .int 1], .int 3] (.lst [.tup [.tup [.int 1, .int 1, .int 1, .int 1], .int 0], .tup [.tup [.int 4], .int 2]]) (.nd 1243678723 [.tup [.int 4, .int 1, .int 1, .int 1], .int 2] (.lst [.tup [.tup [.int 2, .int 1, .int 1, .int 1], .int 0], .tup [.tup [.int 4, .int 1], .int 1]]) .nil .nil) (.nd 1243678725 [.tup [.int 4, .int 1, .int 1, .int 1], .int 4] (.lst []) .nil .nil)) (.nd 1243678728 [.tup [.int 4, .int 1, .int 1, .int 1], .int 7] (.lst [.tup [.tup [], .int 3]]) (.nd 1243678727 [.tup [.int 4, .int 1, .int 1, .int 1], .int 6] (.lst []) .nil .nil) .nil))) (.nd 37650237445 [.tup [.int 2, .int 1, .int 1, .int 1, .int 1], .int 4] (.lst [.tup [.tup [.int 2], .int 3]]) (.nd 36576495622 [.tup [.int 1, .int 1, .int 1, .int 1, .int 1], .int 5] (.lst [.tup [.tup [], .int 4]]) (.nd 36576495620 [.tup [.int 1, .int 1, .int 1, .int 1, .int 1], .int 3] (.lst [.tup [.tup [.int 1, .int 1], .int 2]]) (.nd 36576495619 [.tup [.int 1, .int 1, .int 1, .int 1, .int 1], .int 2] (.lst [.tup [.tup [.int 1, .int 1, .int 1], .int 1]]) .nil .nil) (.nd 36576495621 [.tup [.int 1, .int 1, .int 1, .int 1, .int 1], .int 4] (.lst [.tup [.tup [.int 1], .int 3]]) .nil .nil)) (.nd 37650237443 [.tup [.int 2, .int 1, .int 1, .int 1, .int 1], .int 2] (.lst [.tup [.tup [.int 2, .int 1, .int 1], .int 1]]) (.nd 37650237442 [.tup [.int 2, .int 1, .int 1, .int 1, .int 1], .int 1] (.lst [.tup [.tup [.int 1, .int 1, .int 1, .int 1, .int 1], .int 0], .tup [.tup [.int 2, .int 1, .int 1, .int 1], .int 0]]) .nil .nil) (.nd 37650237444 [.tup [.int 2, .int 1, .int 1, .int 1, .int 1], .int 3] (.lst [.tup [.tup [.int 2, .int 1], .int 2]]) .nil .nil))) (.nd 37683791875 [.tup [.int 2, .int 2, .int 1, .int 1, .int 1], .int 2] (.lst [.tup [.tup [.int 1, .int 1, .int 1, .int 1, .int 1], .int 1], .tup [.tup [.int 2, .int 2, .int 1], .int 1]]) (.nd 37650237447 [.tup [.int 2, .int 1, .int 1, .int 1, .int 1], .int 6] (.lst [.tup [.tup [], .int 4]]) (.nd 37650237446 [.tup [.int 2, .int 1, .int 1, .int 1, .int 1], .int 5] (.lst []) .nil .nil) (.nd 37683791874 [.tup [.int 2, .int 2, .int 1, .int 1, .int 1], .int 1] (.lst [.tup [.tup [.int 2, .int 1, .int 1, .int 1, .int 1], .int 0], .tup [.tup [.int 2, .int 2, .int 1, .int 1], .int 0]]) .nil .nil)) (.nd 37683791877 [.tup [.int 2, .int 2, .int 1, .int 1, .int 1], .int 4] (.lst []) (.nd 37683791876 [.tup [.int 2, .int 2, .int 1, .int 1, .int 1], .int 3] (.lst [.tup [.tup [.int 2, .int 2], .int 2]]) .nil .nil) .nil))))
theorem tr_F1_raw_strips_13_ok : trChk true fF1_raw_strips tr_F1_raw_strips_13 = some (.bl true) := by kernel_rfl
def tr_F1_raw_strips_14 : Tr := (.nd 1170447861767 [.tup [.int 1, .int 1, .int 1, .int 1, .int 1, .int 1], .int 6] (.lst [.tup [.tup [], .int 5]]) (.nd 38723979271 [.tup [.int 3, .int 1, .int 1, .int 1, .int 1], .int 6] (.lst []) (.nd 38723979267 [.tup [.int 3, .int 1, .int 1, .int 1, .int 1], .int 2] (.lst [.tup [.tup [.int 1, .int 1, .int 1, .int 1, .int 1], .int 0], .tup [.tup [.int 3, .int 1, .int 1], .int 1]]) (.nd 37683791880 [.tup [.int 2, .int 2, .int 1, .int 1, .int 1], .int 7] (.lst []) (.nd 37683791879 [.tup [.int 2, .int 2, .int 1, .int 1, .int 1], .int 6] (.lst [.tup [.tup [.int 1], .int 4]]) .nil .nil) (.nd 38723979266 [.tup [.int 3, .int 1, .int 1, .int 1, .int 1], .int 1] (.lst [.tup [.tup [.int 2, .int 1, .int 1, .int 1, .int 1], .int 0], .tup [.tup [.int 3, .int 1, .int 1, .int 1], .int 0]]) .nil .nil)) (.nd 38723979269 [.tup [.int 3, .int 1, .int 1, .int 1, .int 1], .int 4] (.lst [.tup [.tup [.int 3], .int 3]]) (.nd 38723979268 [.tup [.int 3, .int 1, .int 1, .int 1, .int 1], .int 3] (.lst [.tup [.tup [.int 3, .int 1], .int 2]]) .nil .nil) (.nd 38723979270 [.tup [.int 3, .int 1, .int 1, .int 1, .int 1], .int 5] (.lst []) .nil .nil))) (.nd 1170447861764 [.tup [.int 1, .int 1, .int 1, .int 1, .int 1, .int 1], .int 3] (.lst [.tup [.tup [.int 1, .int 1, .int 1], .int 2]]) (.nd 1170447861762 [.tup [.int 1, .int 1, .int 1, .int 1, .int 1, .int 1], .int 1] (.lst [.tup [.tup [.int 1, .int 1, .int 1, .int 1, .int 1], .int 0]]) (.nd 38723979272 [.tup [.int 3, .int 1, .int 1, .int 1, .int 1], .int 7] (.lst [.tup [.tup [], .int 4]]) .nil .nil) (.nd 1170447861763 [.tup [.int 1, .int 1, .int 1, .int 1, .int 1, .int 1], .int 2] (.lst [.tup [.tup [.int 1, .int 1, .int 1, .int 1], .int 1]]) .nil .nil)) (.nd 1170447861766 [.tup [.int 1, .int 1, .int 1, .int 1, .int 1, .int 1], .int 5] (.lst [.tup [.tup [.int 1], .int 4]]) (.nd 1170447861765 [.tup [.int 1, .int 1, .int 1, .int 1, .int 1, .int 1], .int 4] (.lst [.tup [.tup [.int 1, .int 1], .int 3]]) .nil .nil) .nil))) (.nd 37454331578370 [.tup [.int 1, .int 1, .int 1, .int 1, .int 1, .int 1, .int 1], .int 1] (.lst [.tup [.tup [.int 1, .int 1, .int 1, .int 1, .int 1, .int 1], .int 0]]) (.nd 1204807600133 [.tup [.int 2, .int 1, .int 1, .int 1, .int 1, .int 1], .int 4] (.lst [.tup [.tup [.int 2, .int 1], .int 3]]) (.nd 1204807600131 [.tup [.int 2, .int 1, .int 1, .int 1, .int 1, .int 1], .int 2] (.lst [.tup [.tup [.int 2, .int 1, .int 1, .int 1], .int 1]]) (.nd 1204807600130 [.tup [.int 2, .int 1, .int 1, .int 1, .int 1, .int 1], .int 1] (.lst [.tup [.tup [.int 1, .int 1, .int 1, .int 1, .int 1, .int 1], .int 0], .tup [.tup [.int 2, .int 1, .int 1, .int 1, .int 1], .int 0]]) .nil .nil) (.nd 1204807600132 [.tup [.int 2, .int 1, .int 1, .int 1, .int 1, .int 1], .int 3] (.lst [.tup [.tup [.int 2, .int 1, .int 1], .int 2]]) .nil .nil)) (.nd 1204807600135 [.tup [.int 2, .int 1, .int 1, .int 1, .int 1, .int 1], .int 6] (.lst []) (.nd 1204807600134 [.tup [.int 2, .int 1, .int 1, .int 1, .int 1, .int 1], .int 5] (.lst [.tup [.tup [.int 2], .int 4]]) .nil .nil) (.nd 1204807600136 [.tup [.int 2, .int 1, .int 1, .int 1, .int 1, .int 1], .int 7] (.lst [.tup [.tup [], .int 5]]) .nil .nil))) (.nd 37454331578374 [.tup [.int 1, .int 1, .int 1, .int 1, .int 1, .int 1, .int 1], .int 5] (.lst [.tup [.tup [.int 1, .int 1], .int 4]]) (.nd 37454331578372 [.tup [.int 1, .int 1, .int 1, .int 1, .int 1, .int 1, .int 1], .int 3] (.lst [.tup [.tup [.int 1, .int 1, .int 1, .int 1], .int 2]]) (.nd 37454331578371 [.tup [.int 1, .int 1, .int 1, .int 1, .int 1, .int 1, .int 1], .int 2] (.lst [.tup [.tup [.int 1, .int 1, .int 1, .int 1, .int 1], .int 1]]) .nil .nil) (.nd 37454331578373 [.tup [.int 1, .int 1, .int 1, .int 1, .int 1, .int 1, .int 1], .int 4] (.lst [.tup [.tup [.int 1, .int 1, .int 1], .int 3]]) .nil .nil)) (.nd 37454331578376 [.tup [.int 1, .int 1, .int 1, .int 1, .int 1, .int 1, .int 1], .int 7] (.lst [.tup [.tup [], .int 6]]) (.nd 37454331578375 [.tup [.int 1, .int 1, .int 1, .int 1, .int 1, .int 1, .int 1], .int 6] (.lst [.tup [.tup [.int 1], .int 5]]) .nil .nil) .nil))))
theorem tr_F1_raw_strips_14_ok : trChk true fF1_raw_strips tr_F1_raw_strips_14 = some (.bl true) := by kernel_rfl
def tr_F1_raw_strips_12 : Tr := .nd 37683791878 [.tup [.int 2, .int 2, .int 1, .int 1, .int 1], .int 5] (.lst [.tup [.tup [.int 2], .int 3]]) tr_F1_raw_strips_13 tr_F1_raw_strips_14
theorem tr_F1_raw_strips_12_ok : trChk true fF1_raw_strips tr_F1_raw_strips_12 = some (.bl true) := trChk_nd (by kernel_rfl) tr_F1_raw_strips_13_ok tr_F1_raw_strips_14_ok
def tr_F1_raw_strips_8 : Tr := .nd 1210124295 [.tup [.int 3, .int 1, .int 1, .int 1], .int 6] (.lst [.tup [.tup [], .int 3]]) tr_F1_raw_strips_9 tr_F1_raw_strips_12
theorem tr_F1_raw_strips_8_ok : trChk true fF1_raw_strips tr_F1_raw_strips_8 = some (.bl true) := trChk_nd (by kernel_rfl) tr_F1_raw_strips_9_ok tr_F1_raw_strips_12_ok
def tr_F1_raw_strips_0 : Tr := .nd 37850115 [.tup [.int 3, .int 2, .int 2], .int 2] (.lst [.tup [.tup [.int 3, .int 1, .int 1], .int 1], .tup [.tup [.int 3, .int 2], .int 0]]) tr_F1_raw_strips_1 tr_F1_raw_strips_8
theorem tr_F1_raw_strips_0_ok : trChk true fF1_raw_strips tr_F1_raw_strips_0 = some (.bl true) := trChk_nd (by kernel_rfl) tr_F1_raw_strips_1_ok tr_F1_raw_strips_8_ok
noncomputable def m_F1_raw_strips : FnC := memoC tr_F1_raw_strips_0 true fF1_raw_strips
theorem hm_F1_raw_strips : Snd F1 11 2 m_F1_raw_strips := memo_snd hF1_raw_strips tr_F1_raw_strips_0_ok
noncomputable def fF1_raw_character : FnC := fDef 2 none [none, none, none, none, none, none, none] (cCons (cSet 2 (cDct1 (cVar 0) (cCst (.int 1)))) (cCons (cFor (pS 3) (iVal (cVar 1)) (cCons (cSet 4 cDct0) (cCons (cFor (pT [(pS 5), (pS 6)]) (iItems (cMv 2)) (cCons (cFor (pT [(pS 7), (pS 8)]) (iVal (cCallV m_F1_raw_strips [(cVar 5), (cVar 3)])) (cCons (cSetIx 4 (.v (cVar 7)) (e2vv fAdd (cGet (.p 4) (cVar 7) (cCst (.int 0))) (cIte (e2vc fEq (e2pc fMod 8 (.int 2)) (.int 0)) (cVar 6) (e1p (gen1 .neg) 6)))) cNil)) cNil)) (cCons (cSet 2 (cMv 4)) cNil)))) (cCons (cRet (cGet (.p 2) (cTupD []) (cCst (.int 0)))) cNil)))
theorem hF1_raw_character : Snd F1 18 3 fF1_raw_character := snd_def (d := 2) (df := df_raw_character) (fun _ _ => rfl) rfl fun n hn => (b_cons (b_set (s_dct1 s_var s_cst)) (b_cons (b_for sp_s (si_val s_var) (b_cons (b_set s_dct0) (b_cons (b_for (sp_t (.cons sp_s (.cons sp_s .nil))) (si_items s_mv) (b_cons (b_for (sp_t (.cons sp_s (.cons sp_s .nil))) (si_val (s_callV (hm_F1_raw_strips n (Nat.le_trans (Nat.le_of_ble_eq_true rfl) hn)) (.cons s_var (.cons s_var .nil)))) (b_cons (b_setIx (.v s_var) (s_vv fAdd_ok (s_get .p s_var s_cst) (s_ite (s_vc fEq_ok (s_pc fMod_ok)) s_var (s_1p (gen1_ok .neg))))) b_nil)) b_nil)) (b_cons (b_set s_mv) b_nil)))) (b_cons (b_ret (s_get .p (s_tup .nil (Nat.le_of_ble_eq_true rfl)) s_cst)) b_nil)))
def tr_F1_raw_character_4 : Tr := (.nd 37847232 [.tup [.int 3, .int 2], .tup [.int 5]] (.int 0) (.nd 1310976 [.tup [.int 7], .tup [.int 7]] (.int 1) (.nd 1212576 [.tup [.int 4], .tup [.int 4]] (.int 1) (.nd 1146976 [.tup [.int 2], .tup [.int 2]] (.int 1) (.nd 1114176 [.tup [.int 1], .tup [.int 1]] (.int 1) .nil .nil) (.nd 1179776 [.tup [.int 3], .tup [.int 3]] (.int 1) .nil .nil)) (.nd 1278176 [.tup [.int 6], .tup [.int 6]] (.int 1) (.nd 1245376 [.tup [.int 5], .tup [.int 5]] (.int 1) .nil .nil) .nil)) (.nd 36798624 [.tup [.int 2, .int 2], .tup [.int 4]] (.int 0) (.nd 36702272 [.tup [.int 2], .tup [.int 1, .int 1]] (.int 1) (.nd 35717216 [.tup [.int 1, .int 1], .tup [.int 2]] (.int (-1)) .nil .nil) (.nd 36765824 [.tup [.int 2, .int 1], .tup [.int 3]] (.int (-1)) .nil .nil)) (.nd 37814432 [.tup [.int 3, .int 1], .tup [.int 4]] (.int (-1)) (.nd 37751872 [.tup [.int 3], .tup [.int 2, .int 1]] (.int 1) .nil .nil) .nil))) (.nd 39850080 [.tup [.int 5], .tup [.int 3, .int 2]] (.int 1) (.nd 38863040 [.tup [.int 4, .int 1], .tup [.int 5]] (.int (-1)) (.nd 38800480 [.tup [.int 4], .tup [.int 2, .int 2]] (.int 1) (.nd 37880032 [.tup [.int 3, .int 3], .tup [.int 6]] (.int 0) .nil .nil) (.nd 38801472 [.tup [.int 4], .tup [.int 3, .int 1]] (.int 1) .nil .nil)) (.nd 38928640 [.tup [.int 4, .int 3], .tup [.int 7]] (.int 0) (.nd 38895840 [.tup [.int 4, .int 2], .tup [.int 6]] (.int 0) .nil .nil) .nil)) (.nd 40898688 [.tup [.int 6], .tup [.int 3, .int 3]] (.int 1) (.nd 39911648 [.tup [.int 5, .int 1], .tup [.int 6]] (.int (-1)) (.nd 39851072 [.tup [.int 5], .tup [.int 4, .int 1]] (.int 1) .nil .nil) (.nd 39944448 [.tup [.int 5, .int 2], .tup [.int 7]] (.int 0) .nil .nil)) (.nd 40900672 [.tup [.int 6], .tup [.int 5, .int 1]] (.int 1) (.nd 40899680 [.tup [.int 6], .tup [.int 4, .int 2]] (.int 1) .nil .nil) .nil))))
theorem tr_F1_raw_character_4_ok : trChk false fF1_raw_character tr_F1_raw_character_4 = some (.bl true) := by kernel_rfl
def tr_F1_raw_character_5 : Tr := (.nd 1210060864 [.tup [.int 3, .int 1], .tup [.int 3, .int 1]] (.int 0) (.nd 1176567968 [.tup [.int 2, .int 1, .int 1], .tup [.int 4]] (.int 1) (.nd 1142949952 [.tup [.int 1, .int 1], .tup [.int 1, .int 1]] (.int 1) (.nd 41949280 [.tup [.int 7], .tup [.int 5, .int 2]] (.int 1) (.nd 41948288 [.tup [.int 7], .tup [.int 4, .int 3]] (.int 1) .nil .nil) (.nd 41950272 [.tup [.int 7], .tup [.int 6, .int 1]] (.int 1) .nil .nil)) (.nd 1176505408 [.tup [.int 2, .int 1], .tup [.int 2, .int 1]] (.int 0) (.nd 1143013504 [.tup [.int 1, .int 1, .int 1], .tup [.int 3]] (.int 1) .nil .nil) .nil)) (.nd 1177649376 [.tup [.int 2, .int 2, .int 2], .tup [.int 6]] (.int 0) (.nd 1177555008 [.tup [.int 2, .int 2], .tup [.int 3, .int 1]] (.int (-1)) (.nd 1177554016 [.tup [.int 2, .int 2], .tup [.int 2, .int 2]] (.int 2) .nil .nil) (.nd 1177616576 [.tup [.int 2, .int 2, .int 1], .tup [.int 5]] (.int 0) .nil .nil)) (.nd 1210059872 [.tup [.int 3, .int 1], .tup [.int 2, .int 2]] (.int (-1)) (.nd 1208027200 [.tup [.int 3], .tup [.int 1, .int 1, .int 1]] (.int 1) .nil .nil) .nil))) (.nd 1212159072 [.tup [.int 3, .int 3], .tup [.int 4, .int 2]] (.int (-1)) (.nd 1211171040 [.tup [.int 3, .int 2, .int 1], .tup [.int 6]] (.int 0) (.nd 1211109472 [.tup [.int 3, .int 2], .tup [.int 3, .int 2]] (.int 1) (.nd 1210122432 [.tup [.int 3, .int 1, .int 1], .tup [.int 5]] (.int 1) .nil .nil) (.nd 1211110464 [.tup [.int 3, .int 2], .tup [.int 4, .int 1]] (.int (-1)) .nil .nil)) (.nd 1212158080 [.tup [.int 3, .int 3], .tup [.int 3, .int 3]] (.int 2) (.nd 1211203840 [.tup [.int 3, .int 2, .int 2], .tup [.int 7]] (.int 0) .nil .nil) .nil)) (.nd 1241614400 [.tup [.int 4], .tup [.int 2, .int 1, .int 1]] (.int 1) (.nd 1212219648 [.tup [.int 3, .int 3, .int 1], .tup [.int 7]] (.int 0) (.nd 1212160064 [.tup [.int 3, .int 3], .tup [.int 5, .int 1]] (.int 0) .nil .nil) .nil) (.nd 1243616320 [.tup [.int 4, .int 1], .tup [.int 4, .int 1]] (.int 0) (.nd 1243615328 [.tup [.int 4, .int 1], .tup [.int 3, .int 2]] (.int (-1)) .nil .nil) .nil))))
theorem tr_F1_raw_character_5_ok : trChk false fF1_raw_character tr_F1_raw_character_5 = some (.bl true) := by kernel_rfl
def tr_F1_raw_character_3 : Tr := .nd 40960256 [.tup [.int 6, .int 1], .tup [.int 7]] (.int (-1)) tr_F1_raw_character_4 tr_F1_raw_character_5
theorem tr_F1_raw_character_3_ok : trChk false fF1_raw_character tr_F1_raw_character_3 = some (.bl true) := trChk_nd (by kernel_rfl) tr_F1_raw_character_4_ok tr_F1_raw_character_5_ok
def tr_F1_raw_character_7 : Tr := (.nd 1278219392 [.tup [.int 5, .int 2], .tup [.int 4, .int 3]] (.int 0) (.nd 1245715520 [.tup [.int 4, .int 3], .tup [.int 6, .int 1]] (.int 0) (.nd 1244725504 [.tup [.int 4, .int 2, .int 1], .tup [.int 7]] (.int 0) (.nd 1244664928 [.tup [.int 4, .int 2], .tup [.int 4, .int 2]] (.int 1) (.nd 1244663936 [.tup [.int 4, .int 2], .tup [.int 3, .int 3]] (.int 0) .nil .nil) (.nd 1244665920 [.tup [.int 4, .int 2], .tup [.int 5, .int 1]] (.int (-1)) .nil .nil)) (.nd 1245714528 [.tup [.int 4, .int 3], .tup [.int 5, .int 2]] (.int (-1)) (.nd 1245713536 [.tup [.int 4, .int 3], .tup [.int 4, .int 3]] (.int 1) .nil .nil) .nil)) (.nd 1277170784 [.tup [.int 5, .int 1], .tup [.int 4, .int 2]] (.int (-1)) (.nd 1275201600 [.tup [.int 5], .tup [.int 3, .int 1, .int 1]] (.int 1) (.nd 1275169856 [.tup [.int 5], .tup [.int 2, .int 2, .int 1]] (.int 1) .nil .nil) (.nd 1277169792 [.tup [.int 5, .int 1], .tup [.int 3, .int 3]] (.int (-1)) .nil .nil)) (.nd 1277231360 [.tup [.int 5, .int 1, .int 1], .tup [.int 7]] (.int 1) (.nd 1277171776 [.tup [.int 5, .int 1], .tup [.int 5, .int 1]] (.int 0) .nil .nil) .nil))) (.nd 1310726240 [.tup [.int 6, .int 1], .tup [.int 5, .int 2]] (.int (-1)) (.nd 1308757056 [.tup [.int 6], .tup [.int 3, .int 2, .int 1]] (.int 1) (.nd 1278221376 [.tup [.int 5, .int 2], .tup [.int 6, .int 1]] (.int (-1)) (.nd 1278220384 [.tup [.int 5, .int 2], .tup [.int 5, .int 2]] (.int 1) .nil .nil) (.nd 1308724320 [.tup [.int 6], .tup [.int 2, .int 2, .int 2]] (.int 1) .nil .nil)) (.nd 1310725248 [.tup [.int 6, .int 1], .tup [.int 4, .int 3]] (.int (-1)) (.nd 1308788800 [.tup [.int 6], .tup [.int 4, .int 1, .int 1]] (.int 1) .nil .nil) .nil)) (.nd 1342312512 [.tup [.int 7], .tup [.int 3, .int 3, .int 1]] (.int 1) (.nd 1342311520 [.tup [.int 7], .tup [.int 3, .int 2, .int 2]] (.int 1) (.nd 1310727232 [.tup [.int 6, .int 1], .tup [.int 6, .int 1]] (.int 0) .nil .nil) .nil) (.nd 1342376000 [.tup [.int 7], .tup [.int 5, .int 1, .int 1]] (.int 1) (.nd 1342344256 [.tup [.int 7], .tup [.int 4, .int 2, .int 1]] (.int 1) .nil .nil) .nil))))
theorem tr_F1_raw_character_7_ok : trChk false fF1_raw_character tr_F1_raw_character_7 = some (.bl true) := by kernel_rfl
def tr_F1_raw_character_8 : Tr := (.nd 38721914944 [.tup [.int 3, .int 1], .tup [.int 2, .int 1, .int 1]] (.int 1) (.nd 37683728480 [.tup [.int 2, .int 2, .int 1], .tup [.int 3, .int 2]] (.int (-1)) (.nd 37650174016 [.tup [.int 2, .int 1, .int 1], .tup [.int 3, .int 1]] (.int 0) (.nd 37648140352 [.tup [.int 2, .int 1], .tup [.int 1, .int 1, .int 1]] (.int 2) (.nd 36576493728 [.tup [.int 1, .int 1, .int 1, .int 1], .tup [.int 4]] (.int (-1)) .nil .nil) (.nd 37650173024 [.tup [.int 2, .int 1, .int 1], .tup [.int 2, .int 2]] (.int (-1)) .nil .nil)) (.nd 37681727552 [.tup [.int 2, .int 2], .tup [.int 2, .int 1, .int 1]] (.int 0) (.nd 37650235584 [.tup [.int 2, .int 1, .int 1, .int 1], .tup [.int 5]] (.int (-1)) .nil .nil) .nil)) (.nd 37684778080 [.tup [.int 2, .int 2, .int 2], .tup [.int 4, .int 2]] (.int (-1)) (.nd 37683790048 [.tup [.int 2, .int 2, .int 1, .int 1], .tup [.int 6]] (.int 0) (.nd 37683729472 [.tup [.int 2, .int 2, .int 1], .tup [.int 4, .int 1]] (.int 1) .nil .nil) (.nd 37684777088 [.tup [.int 2, .int 2, .int 2], .tup [.int 3, .int 3]] (.int 2) .nil .nil)) (.nd 37684838656 [.tup [.int 2, .int 2, .int 2, .int 1], .tup [.int 7]] (.int 0) (.nd 37684779072 [.tup [.int 2, .int 2, .int 2], .tup [.int 5, .int 1]] (.int 0) .nil .nil) .nil))) (.nd 38757471328 [.tup [.int 3, .int 2, .int 1], .tup [.int 4, .int 2]] (.int 0) (.nd 38755470400 [.tup [.int 3, .int 2], .tup [.int 2, .int 2, .int 1]] (.int 1) (.nd 38723916864 [.tup [.int 3, .int 1, .int 1], .tup [.int 4, .int 1]] (.int 0) (.nd 38723915872 [.tup [.int 3, .int 1, .int 1], .tup [.int 3, .int 2]] (.int 0) .nil .nil) (.nd 38723977440 [.tup [.int 3, .int 1, .int 1, .int 1], .tup [.int 6]] (.int (-1)) .nil .nil)) (.nd 38757470336 [.tup [.int 3, .int 2, .int 1], .tup [.int 3, .int 3]] (.int (-2)) (.nd 38755502144 [.tup [.int 3, .int 2], .tup [.int 3, .int 1, .int 1]] (.int (-1)) .nil .nil) .nil)) (.nd 38758519936 [.tup [.int 3, .int 2, .int 2], .tup [.int 4, .int 3]] (.int 1) (.nd 38757531904 [.tup [.int 3, .int 2, .int 1, .int 1], .tup [.int 7]] (.int 0) (.nd 38757472320 [.tup [.int 3, .int 2, .int 1], .tup [.int 5, .int 1]] (.int 1) .nil .nil) .nil) (.nd 38758521920 [.tup [.int 3, .int 2, .int 2], .tup [.int 6, .int 1]] (.int 0) (.nd 38758520928 [.tup [.int 3, .int 2, .int 2], .tup [.int 5, .int 2]] (.int (-1)) .nil .nil) .nil))))
theorem tr_F1_raw_character_8_ok : trChk false fF1_raw_character tr_F1_raw_character_8 = some (.bl true) := by kernel_rfl
def tr_F1_raw_character_6 : Tr := .nd 36576431168 [.tup [.int 1, .int 1, .int 1], .tup [.int 2, .int 1]] (.int (-1)) tr_F1_raw_character_7 tr_F1_raw_character_8
theorem tr_F1_raw_character_6_ok : trChk false fF1_raw_character tr_F1_raw_character_6 = some (.bl true) := trChk_nd (by kernel_rfl) tr_F1_raw_character_7_ok tr_F1_raw_character_8_ok
def tr_F1_raw_character_2 : Tr := .nd 1243676896 [.tup [.int 4, .int 1, .int 1], .tup [.int 6]] (.int 1) tr_F1_raw_character_3 tr_F1_raw_character_6
theorem tr_F1_raw_character_2_ok : trChk false fF1_raw_character tr_F1_raw_character_2 = some (.bl true) := trChk_nd (by kernel_rfl) tr_F1_raw_character_3_ok tr_F1_raw_character_6_ok
def tr_F1_raw_character_11 : Tr := (.nd 39829244992 [.tup [.int 4, .int 2], .tup [.int 3, .int 2, .int 1]] (.int 0) (.nd 39795657792 [.tup [.int 4, .int 1], .tup [.int 2, .int 2, .int 1]] (.int 0) (.nd 38791026784 [.tup [.int 3, .int 3, .int 1], .tup [.int 5, .int 2]] (.int 1) (.nd 38789089344 [.tup [.int 3, .int 3], .tup [.int 4, .int 1, .int 1]] (.int (-1)) (.nd 38789057600 [.tup [.int 3, .int 3], .tup [.int 3, .int 2, .int 1]] (.int 1) .nil .nil) (.nd 38791025792 [.tup [.int 3, .int 3, .int 1], .tup [.int 4, .int 3]] (.int (-1)) .nil .nil)) (.nd 39730612288 [.tup [.int 4], .tup [.int 1, .int 1, .int 1, .int 1]] (.int 1) (.nd 38791027776 [.tup [.int 3, .int 3, .int 1], .tup [.int 6, .int 1]] (.int 0) .nil .nil) .nil)) (.nd 39797659712 [.tup [.int 4, .int 1, .int 1], .tup [.int 5, .int 1]] (.int 0) (.nd 39797657728 [.tup [.int 4, .int 1, .int 1], .tup [.int 3, .int 3]] (.int 1) (.nd 39795689536 [.tup [.int 4, .int 1], .tup [.int 3, .int 1, .int 1]] (.int 1) .nil .nil) (.nd 39797658720 [.tup [.int 4, .int 1, .int 1], .tup [.int 4, .int 2]] (.int 0) .nil .nil)) (.nd 39829212256 [.tup [.int 4, .int 2], .tup [.int 2, .int 2, .int 2]] (.int 3) (.nd 39797719296 [.tup [.int 4, .int 1, .int 1, .int 1], .tup [.int 7]] (.int (-1)) .nil .nil) .nil))) (.nd 39862832192 [.tup [.int 4, .int 3], .tup [.int 4, .int 2, .int 1]] (.int 0) (.nd 39831215168 [.tup [.int 4, .int 2, .int 1], .tup [.int 6, .int 1]] (.int 1) (.nd 39831213184 [.tup [.int 4, .int 2, .int 1], .tup [.int 4, .int 3]] (.int (-1)) (.nd 39829276736 [.tup [.int 4, .int 2], .tup [.int 4, .int 1, .int 1]] (.int (-1)) .nil .nil) (.nd 39831214176 [.tup [.int 4, .int 2, .int 1], .tup [.int 5, .int 2]] (.int 0) .nil .nil)) (.nd 39862800448 [.tup [.int 4, .int 3], .tup [.int 3, .int 3, .int 1]] (.int 2) (.nd 39862799456 [.tup [.int 4, .int 3], .tup [.int 3, .int 2, .int 2]] (.int (-1)) .nil .nil) .nil)) (.nd 40869432384 [.tup [.int 5, .int 1], .tup [.int 3, .int 2, .int 1]] (.int 0) (.nd 40805402688 [.tup [.int 5], .tup [.int 2, .int 1, .int 1, .int 1]] (.int 1) (.nd 39862863936 [.tup [.int 4, .int 3], .tup [.int 5, .int 1, .int 1]] (.int (-1)) .nil .nil) (.nd 40869399648 [.tup [.int 5, .int 1], .tup [.int 2, .int 2, .int 2]] (.int (-1)) .nil .nil)) (.nd 40871400576 [.tup [.int 5, .int 1, .int 1], .tup [.int 4, .int 3]] (.int 1) (.nd 40869464128 [.tup [.int 5, .int 1], .tup [.int 4, .int 1, .int 1]] (.int 1) .nil .nil) .nil))))
theorem tr_F1_raw_character_11_ok : trChk false fF1_raw_character tr_F1_raw_character_11 = some (.bl true) := by kernel_rfl
def tr_F1_raw_character_12 : Tr := (.nd 42954983488 [.tup [.int 7], .tup [.int 4, .int 1, .int 1, .int 1]] (.int 1) (.nd 41880193088 [.tup [.int 6], .tup [.int 3, .int 1, .int 1, .int 1]] (.int 1) (.nd 40903019584 [.tup [.int 5, .int 2], .tup [.int 4, .int 2, .int 1]] (.int 0) (.nd 40902986848 [.tup [.int 5, .int 2], .tup [.int 3, .int 2, .int 2]] (.int 2) (.nd 40871402560 [.tup [.int 5, .int 1, .int 1], .tup [.int 6, .int 1]] (.int 0) .nil .nil) (.nd 40902987840 [.tup [.int 5, .int 2], .tup [.int 3, .int 3, .int 1]] (.int (-1)) .nil .nil)) (.nd 41879177280 [.tup [.int 6], .tup [.int 2, .int 2, .int 1, .int 1]] (.int 1) (.nd 40903051328 [.tup [.int 5, .int 2], .tup [.int 5, .int 1, .int 1]] (.int (-1)) .nil .nil) .nil)) (.nd 41943238720 [.tup [.int 6, .int 1], .tup [.int 5, .int 1, .int 1]] (.int 1) (.nd 41943175232 [.tup [.int 6, .int 1], .tup [.int 3, .int 3, .int 1]] (.int 0) (.nd 41943174240 [.tup [.int 6, .int 1], .tup [.int 3, .int 2, .int 2]] (.int (-1)) .nil .nil) (.nd 41943206976 [.tup [.int 6, .int 1], .tup [.int 4, .int 2, .int 1]] (.int 0) .nil .nil)) (.nd 42953967680 [.tup [.int 7], .tup [.int 3, .int 2, .int 1, .int 1]] (.int 1) (.nd 42952920128 [.tup [.int 7], .tup [.int 2, .int 2, .int 2, .int 1]] (.int 1) .nil .nil) .nil))) (.nd 1204807537728 [.tup [.int 2, .int 1, .int 1, .int 1], .tup [.int 4, .int 1]] (.int 0) (.nd 1170447859904 [.tup [.int 1, .int 1, .int 1, .int 1, .int 1], .tup [.int 5]] (.int 1) (.nd 1170447797344 [.tup [.int 1, .int 1, .int 1, .int 1], .tup [.int 2, .int 2]] (.int 1) (.nd 1170445764672 [.tup [.int 1, .int 1, .int 1], .tup [.int 1, .int 1, .int 1]] (.int 1) .nil .nil) (.nd 1170447798336 [.tup [.int 1, .int 1, .int 1, .int 1], .tup [.int 3, .int 1]] (.int 1) .nil .nil)) (.nd 1204807536736 [.tup [.int 2, .int 1, .int 1, .int 1], .tup [.int 3, .int 2]] (.int 1) (.nd 1204805535808 [.tup [.int 2, .int 1, .int 1], .tup [.int 2, .int 1, .int 1]] (.int (-1)) .nil .nil) .nil)) (.nd 1205879278656 [.tup [.int 2, .int 2, .int 1], .tup [.int 2, .int 2, .int 1]] (.int 1) (.nd 1205814233152 [.tup [.int 2, .int 2], .tup [.int 1, .int 1, .int 1, .int 1]] (.int 2) (.nd 1204807598304 [.tup [.int 2, .int 1, .int 1, .int 1, .int 1], .tup [.int 6]] (.int 1) .nil .nil) .nil) (.nd 1205881278592 [.tup [.int 2, .int 2, .int 1, .int 1], .tup [.int 3, .int 3]] (.int 0) (.nd 1205879310400 [.tup [.int 2, .int 2, .int 1], .tup [.int 3, .int 1, .int 1]] (.int (-1)) .nil .nil) .nil))))
theorem tr_F1_raw_character_12_ok : trChk false fF1_raw_character tr_F1_raw_character_12 = some (.bl true) := by kernel_rfl
def tr_F1_raw_character_10 : Tr := .nd 40871401568 [.tup [.int 5, .int 1, .int 1], .tup [.int 5, .int 2]] (.int 0) tr_F1_raw_character_11 tr_F1_raw_character_12
theorem tr_F1_raw_character_10_ok : trChk false fF1_raw_character tr_F1_raw_character_10 = some (.bl true) := trChk_nd (by kernel_rfl) tr_F1_raw_character_11_ok tr_F1_raw_character_12_ok
def tr_F1_raw_character_14 : Tr := (.nd 1239167277120 [.tup [.int 3, .int 1, .int 1, .int 1], .tup [.int 5, .int 1]] (.int 0) (.nd 1205914835040 [.tup [.int 2, .int 2, .int 2, .int 1], .tup [.int 5, .int 2]] (.int 1) (.nd 1205912865856 [.tup [.int 2, .int 2, .int 2], .tup [.int 3, .int 2, .int 1]] (.int (-1)) (.nd 1205881340160 [.tup [.int 2, .int 2, .int 1, .int 1, .int 1], .tup [.int 7]] (.int 0) (.nd 1205881280576 [.tup [.int 2, .int 2, .int 1, .int 1], .tup [.int 5, .int 1]] (.int (-1)) .nil .nil) (.nd 1205912833120 [.tup [.int 2, .int 2, .int 2], .tup [.int 2, .int 2, .int 2]] (.int 3) .nil .nil)) (.nd 1205914834048 [.tup [.int 2, .int 2, .int 2, .int 1], .tup [.int 4, .int 3]] (.int (-1)) (.nd 1205912897600 [.tup [.int 2, .int 2, .int 2], .tup [.int 4, .int 1, .int 1]] (.int 1) .nil .nil) .nil)) (.nd 1239165306944 [.tup [.int 3, .int 1, .int 1], .tup [.int 3, .int 1, .int 1]] (.int 0) (.nd 1239100229696 [.tup [.int 3, .int 1], .tup [.int 1, .int 1, .int 1, .int 1]] (.int 3) (.nd 1205914836032 [.tup [.int 2, .int 2, .int 2, .int 1], .tup [.int 6, .int 1]] (.int 0) .nil .nil) (.nd 1239165275200 [.tup [.int 3, .int 1, .int 1], .tup [.int 2, .int 2, .int 1]] (.int (-2)) .nil .nil)) (.nd 1239167276128 [.tup [.int 3, .int 1, .int 1, .int 1], .tup [.int 4, .int 2]] (.int 0) (.nd 1239167275136 [.tup [.int 3, .int 1, .int 1, .int 1], .tup [.int 3, .int 3]] (.int 1) .nil .nil) .nil))) (.nd 1240241018976 [.tup [.int 3, .int 2, .int 1, .int 1], .tup [.int 5, .int 2]] (.int 0) (.nd 1240239049792 [.tup [.int 3, .int 2, .int 1], .tup [.int 3, .int 2, .int 1]] (.int 0) (.nd 1240175020096 [.tup [.int 3, .int 2], .tup [.int 2, .int 1, .int 1, .int 1]] (.int 1) (.nd 1239167336704 [.tup [.int 3, .int 1, .int 1, .int 1, .int 1], .tup [.int 7]] (.int 1) .nil .nil) (.nd 1240239017056 [.tup [.int 3, .int 2, .int 1], .tup [.int 2, .int 2, .int 2]] (.int 0) .nil .nil)) (.nd 1240241017984 [.tup [.int 3, .int 2, .int 1, .int 1], .tup [.int 4, .int 3]] (.int 1) (.nd 1240239081536 [.tup [.int 3, .int 2, .int 1], .tup [.int 4, .int 1, .int 1]] (.int 0) .nil .nil) .nil)) (.nd 1240272605248 [.tup [.int 3, .int 2, .int 2], .tup [.int 3, .int 3, .int 1]] (.int 0) (.nd 1240272604256 [.tup [.int 3, .int 2, .int 2], .tup [.int 3, .int 2, .int 2]] (.int 1) (.nd 1240241019968 [.tup [.int 3, .int 2, .int 1, .int 1], .tup [.int 6, .int 1]] (.int (-1)) .nil .nil) .nil) (.nd 1240272668736 [.tup [.int 3, .int 2, .int 2], .tup [.int 5, .int 1, .int 1]] (.int 1) (.nd 1240272636992 [.tup [.int 3, .int 2, .int 2], .tup [.int 4, .int 2, .int 1]] (.int (-1)) .nil .nil) .nil))))
theorem tr_F1_raw_character_14_ok : trChk false fF1_raw_character tr_F1_raw_character_14 = some (.bl true) := by kernel_rfl
def tr_F1_raw_character_15 : Tr := (.nd 1274535807040 [.tup [.int 4, .int 2], .tup [.int 3, .int 1, .int 1, .int 1]] (.int 0) (.nd 1273525013600 [.tup [.int 4, .int 1, .int 1], .tup [.int 2, .int 2, .int 2]] (.int (-2)) (.nd 1241312824384 [.tup [.int 3, .int 3, .int 1], .tup [.int 4, .int 2, .int 1]] (.int (-1)) (.nd 1241312791648 [.tup [.int 3, .int 3, .int 1], .tup [.int 3, .int 2, .int 2]] (.int 1) (.nd 1241249810496 [.tup [.int 3, .int 3], .tup [.int 3, .int 1, .int 1, .int 1]] (.int (-1)) .nil .nil) (.nd 1241312792640 [.tup [.int 3, .int 3, .int 1], .tup [.int 3, .int 3, .int 1]] (.int 0) .nil .nil)) (.nd 1273461016640 [.tup [.int 4, .int 1], .tup [.int 2, .int 1, .int 1, .int 1]] (.int 2) (.nd 1241312856128 [.tup [.int 3, .int 3, .int 1], .tup [.int 5, .int 1, .int 1]] (.int 1) .nil .nil) .nil)) (.nd 1273527015520 [.tup [.int 4, .int 1, .int 1, .int 1], .tup [.int 5, .int 2]] (.int 0) (.nd 1273525078080 [.tup [.int 4, .int 1, .int 1], .tup [.int 4, .int 1, .int 1]] (.int 0) (.nd 1273525046336 [.tup [.int 4, .int 1, .int 1], .tup [.int 3, .int 2, .int 1]] (.int (-1)) .nil .nil) (.nd 1273527014528 [.tup [.int 4, .int 1, .int 1, .int 1], .tup [.int 4, .int 3]] (.int 0) .nil .nil)) (.nd 1274534791232 [.tup [.int 4, .int 2], .tup [.int 2, .int 2, .int 1, .int 1]] (.int 1) (.nd 1273527016512 [.tup [.int 4, .int 1, .int 1, .int 1], .tup [.int 6, .int 1]] (.int 0) .nil .nil) .nil))) (.nd 1275610597440 [.tup [.int 4, .int 3], .tup [.int 4, .int 1, .int 1, .int 1]] (.int (-2)) (.nd 1274598852672 [.tup [.int 4, .int 2, .int 1], .tup [.int 5, .int 1, .int 1]] (.int 0) (.nd 1274598789184 [.tup [.int 4, .int 2, .int 1], .tup [.int 3, .int 3, .int 1]] (.int (-1)) (.nd 1274598788192 [.tup [.int 4, .int 2, .int 1], .tup [.int 3, .int 2, .int 2]] (.int (-1)) .nil .nil) (.nd 1274598820928 [.tup [.int 4, .int 2, .int 1], .tup [.int 4, .int 2, .int 1]] (.int 1) .nil .nil)) (.nd 1275609581632 [.tup [.int 4, .int 3], .tup [.int 3, .int 2, .int 1, .int 1]] (.int 1) (.nd 1275608534080 [.tup [.int 4, .int 3], .tup [.int 2, .int 2, .int 2, .int 1]] (.int 0) .nil .nil) .nil)) (.nd 1307821803584 [.tup [.int 5, .int 1], .tup [.int 3, .int 1, .int 1, .int 1]] (.int 2) (.nd 1307820787776 [.tup [.int 5, .int 1], .tup [.int 2, .int 2, .int 1, .int 1]] (.int 1) (.nd 1305739331648 [.tup [.int 5], .tup [.int 1, .int 1, .int 1, .int 1, .int 1]] (.int 1) .nil .nil) .nil) (.nd 1307884785728 [.tup [.int 5, .int 1, .int 1], .tup [.int 3, .int 3, .int 1]] (.int 0) (.nd 1307884784736 [.tup [.int 5, .int 1, .int 1], .tup [.int 3, .int 2, .int 2]] (.int (-1)) .nil .nil) .nil))))
theorem tr_F1_raw_character_15_ok : trChk false fF1_raw_character tr_F1_raw_character_15 = some (.bl true) := by kernel_rfl
def tr_F1_raw_character_13 : Tr := .nd 1241248794688 [.tup [.int 3, .int 3], .tup [.int 2, .int 2, .int 1, .int 1]] (.int 1) tr_F1_raw_character_14 tr_F1_raw_character_15
theorem tr_F1_raw_character_13_ok : trChk false fF1_raw_character tr_F1_raw_character_13 = some (.bl true) := trChk_nd (by kernel_rfl) tr_F1_raw_character_14_ok tr_F1_raw_character_15_ok
def tr_F1_raw_character_9 : Tr := .nd 1205881279584 [.tup [.int 2, .int 2, .int 1, .int 1], .tup [.int 4, .int 2]] (.int 1) tr_F1_raw_character_10 tr_F1_raw_character_13
theorem tr_F1_raw_character_9_ok : trChk false fF1_raw_character tr_F1_raw_character_9 = some (.bl true) := trChk_nd (by kernel_rfl) tr_F1_raw_character_10_ok tr_F1_raw_character_13_ok
def tr_F1_raw_character_1 : Tr := .nd 38789024864 [.tup [.int 3, .int 3], .tup [.int 2, .int 2, .int 2]] (.int (-3)) tr_F1_raw_character_2 tr_F1_raw_character_9
theorem tr_F1_raw_character_1_ok : trChk false fF1_raw_character tr_F1_raw_character_1 = some (.bl true) := trChk_nd (by kernel_rfl) tr_F1_raw_character_2_ok tr_F1_raw_character_9_ok
def tr_F1_raw_character_19 : Tr := (.nd 37454331576544 [.tup [.int 1, .int 1, .int 1, .int 1, .int 1, .int 1], .tup [.int 6]] (.int (-1)) (.nd 1342181574720 [.tup [.int 6, .int 1], .tup [.int 3, .int 2, .int 1, .int 1]] (.int 1) (.nd 1308896593984 [.tup [.int 5, .int 2], .tup [.int 4, .int 1, .int 1, .int 1]] (.int 0) (.nd 1308894530624 [.tup [.int 5, .int 2], .tup [.int 2, .int 2, .int 2, .int 1]] (.int 2) (.nd 1307884849216 [.tup [.int 5, .int 1, .int 1], .tup [.int 5, .int 1, .int 1]] (.int 0) .nil .nil) (.nd 1308895578176 [.tup [.int 5, .int 2], .tup [.int 3, .int 2, .int 1, .int 1]] (.int 0) .nil .nil)) (.nd 1342180527168 [.tup [.int 6, .int 1], .tup [.int 2, .int 2, .int 2, .int 1]] (.int 0) (.nd 1340132624448 [.tup [.int 6], .tup [.int 2, .int 1, .int 1, .int 1, .int 1]] (.int 1) .nil .nil) .nil)) (.nd 37454329514048 [.tup [.int 1, .int 1, .int 1, .int 1], .tup [.int 2, .int 1, .int 1]] (.int (-1)) (.nd 1374493411392 [.tup [.int 7], .tup [.int 2, .int 2, .int 1, .int 1, .int 1]] (.int 1) (.nd 1342182590528 [.tup [.int 6, .int 1], .tup [.int 4, .int 1, .int 1, .int 1]] (.int 2) .nil .nil) (.nd 1374525917248 [.tup [.int 7], .tup [.int 3, .int 1, .int 1, .int 1, .int 1]] (.int 1) .nil .nil)) (.nd 37454331515968 [.tup [.int 1, .int 1, .int 1, .int 1, .int 1], .tup [.int 4, .int 1]] (.int (-1)) (.nd 37454331514976 [.tup [.int 1, .int 1, .int 1, .int 1, .int 1], .tup [.int 3, .int 2]] (.int (-1)) .nil .nil) .nil))) (.nd 38553843204352 [.tup [.int 2, .int 1, .int 1, .int 1, .int 1, .int 1], .tup [.int 7]] (.int (-1)) (.nd 38553843142784 [.tup [.int 2, .int 1, .int 1, .int 1, .int 1], .tup [.int 3, .int 3]] (.int (-1)) (.nd 38553841142848 [.tup [.int 2, .int 1, .int 1, .int 1], .tup [.int 2, .int 2, .int 1]] (.int 0) (.nd 38553776097344 [.tup [.int 2, .int 1, .int 1], .tup [.int 1, .int 1, .int 1, .int 1]] (.int 3) .nil .nil) (.nd 38553841174592 [.tup [.int 2, .int 1, .int 1, .int 1], .tup [.int 3, .int 1, .int 1]] (.int 1) .nil .nil)) (.nd 38553843144768 [.tup [.int 2, .int 1, .int 1, .int 1, .int 1], .tup [.int 5, .int 1]] (.int 0) (.nd 38553843143776 [.tup [.int 2, .int 1, .int 1, .int 1, .int 1], .tup [.int 4, .int 2]] (.int (-1)) .nil .nil) .nil)) (.nd 38588200945728 [.tup [.int 2, .int 2, .int 1, .int 1], .tup [.int 4, .int 1, .int 1]] (.int 1) (.nd 38588200881248 [.tup [.int 2, .int 2, .int 1, .int 1], .tup [.int 2, .int 2, .int 2]] (.int (-3)) (.nd 38588136884288 [.tup [.int 2, .int 2, .int 1], .tup [.int 2, .int 1, .int 1, .int 1]] (.int (-1)) .nil .nil) (.nd 38588200913984 [.tup [.int 2, .int 2, .int 1, .int 1], .tup [.int 3, .int 2, .int 1]] (.int 0) .nil .nil)) (.nd 38588202883168 [.tup [.int 2, .int 2, .int 1, .int 1, .int 1], .tup [.int 5, .int 2]] (.int (-1)) (.nd 38588202882176 [.tup [.int 2, .int 2, .int 1, .int 1, .int 1], .tup [.int 4, .int 3]] (.int 0) .nil .nil) .nil))))
theorem tr_F1_raw_character_19_ok : trChk false fF1_raw_character tr_F1_raw_character_19 = some (.bl true) := by kernel_rfl
def tr_F1_raw_character_20 : Tr := (.nd 39685567088704 [.tup [.int 3, .int 2], .tup [.int 1, .int 1, .int 1, .int 1, .int 1]] (.int 5) (.nd 39653288773696 [.tup [.int 3, .int 1, .int 1], .tup [.int 2, .int 1, .int 1, .int 1]] (.int 0) (.nd 38589274656832 [.tup [.int 2, .int 2, .int 2, .int 1], .tup [.int 3, .int 3, .int 1]] (.int 2) (.nd 38589211674688 [.tup [.int 2, .int 2, .int 2], .tup [.int 3, .int 1, .int 1, .int 1]] (.int (-1)) (.nd 38589210658880 [.tup [.int 2, .int 2, .int 2], .tup [.int 2, .int 2, .int 1, .int 1]] (.int 1) .nil .nil) (.nd 38589274655840 [.tup [.int 2, .int 2, .int 2, .int 1], .tup [.int 3, .int 2, .int 2]] (.int (-1)) .nil .nil)) (.nd 38589274720320 [.tup [.int 2, .int 2, .int 2, .int 1], .tup [.int 5, .int 1, .int 1]] (.int (-1)) (.nd 38589274688576 [.tup [.int 2, .int 2, .int 2, .int 1], .tup [.int 4, .int 2, .int 1]] (.int 0) .nil .nil) .nil)) (.nd 39653354771584 [.tup [.int 3, .int 1, .int 1, .int 1, .int 1], .tup [.int 4, .int 3]] (.int (-1)) (.nd 39653352803392 [.tup [.int 3, .int 1, .int 1, .int 1], .tup [.int 3, .int 2, .int 1]] (.int 1) (.nd 39653352770656 [.tup [.int 3, .int 1, .int 1, .int 1], .tup [.int 2, .int 2, .int 2]] (.int 2) .nil .nil) (.nd 39653352835136 [.tup [.int 3, .int 1, .int 1, .int 1], .tup [.int 4, .int 1, .int 1]] (.int 0) .nil .nil)) (.nd 39653354773568 [.tup [.int 3, .int 1, .int 1, .int 1, .int 1], .tup [.int 6, .int 1]] (.int 0) (.nd 39653354772576 [.tup [.int 3, .int 1, .int 1, .int 1, .int 1], .tup [.int 5, .int 2]] (.int 0) .nil .nil) .nil))) (.nd 39688722287680 [.tup [.int 3, .int 2, .int 2], .tup [.int 2, .int 2, .int 2, .int 1]] (.int 3) (.nd 39687712542784 [.tup [.int 3, .int 2, .int 1, .int 1], .tup [.int 3, .int 3, .int 1]] (.int (-1)) (.nd 39687649560640 [.tup [.int 3, .int 2, .int 1], .tup [.int 3, .int 1, .int 1, .int 1]] (.int (-2)) (.nd 39687648544832 [.tup [.int 3, .int 2, .int 1], .tup [.int 2, .int 2, .int 1, .int 1]] (.int 0) .nil .nil) (.nd 39687712541792 [.tup [.int 3, .int 2, .int 1, .int 1], .tup [.int 3, .int 2, .int 2]] (.int (-1)) .nil .nil)) (.nd 39687712606272 [.tup [.int 3, .int 2, .int 1, .int 1], .tup [.int 5, .int 1, .int 1]] (.int 0) (.nd 39687712574528 [.tup [.int 3, .int 2, .int 1, .int 1], .tup [.int 4, .int 2, .int 1]] (.int 1) .nil .nil) .nil)) (.nd 39719960381504 [.tup [.int 3, .int 3], .tup [.int 2, .int 1, .int 1, .int 1, .int 1]] (.int 1) (.nd 39688724351040 [.tup [.int 3, .int 2, .int 2], .tup [.int 4, .int 1, .int 1, .int 1]] (.int 1) (.nd 39688723335232 [.tup [.int 3, .int 2, .int 2], .tup [.int 3, .int 2, .int 1, .int 1]] (.int (-1)) .nil .nil) .nil) (.nd 39722009331776 [.tup [.int 3, .int 3, .int 1], .tup [.int 3, .int 2, .int 1, .int 1]] (.int 1) (.nd 39722008284224 [.tup [.int 3, .int 3, .int 1], .tup [.int 2, .int 2, .int 2, .int 1]] (.int (-3)) .nil .nil) .nil))))
theorem tr_F1_raw_character_20_ok : trChk false fF1_raw_character tr_F1_raw_character_20 = some (.bl true) := by kernel_rfl
def tr_F1_raw_character_18 : Tr := .nd 38588202884160 [.tup [.int 2, .int 2, .int 1, .int 1, .int 1], .tup [.int 6, .int 1]] (.int 1) tr_F1_raw_character_19 tr_F1_raw_character_20
theorem tr_F1_raw_character_18_ok : trChk false fF1_raw_character tr_F1_raw_character_18 = some (.bl true) := trChk_nd (by kernel_rfl) tr_F1_raw_character_19_ok tr_F1_raw_character_20_ok
def tr_F1_raw_character_22 : Tr := (.nd 41850264160320 [.tup [.int 5, .int 1], .tup [.int 2, .int 1, .int 1, .int 1, .int 1]] (.int 3) (.nd 40752864495680 [.tup [.int 4, .int 1, .int 1, .int 1], .tup [.int 5, .int 1, .int 1]] (.int 0) (.nd 40752864431200 [.tup [.int 4, .int 1, .int 1, .int 1], .tup [.int 3, .int 2, .int 2]] (.int 2) (.nd 40752800434240 [.tup [.int 4, .int 1, .int 1], .tup [.int 2, .int 2, .int 1, .int 1]] (.int (-2)) (.nd 40750718978112 [.tup [.int 4, .int 1], .tup [.int 1, .int 1, .int 1, .int 1, .int 1]] (.int 4) .nil .nil) (.nd 40752801450048 [.tup [.int 4, .int 1, .int 1], .tup [.int 3, .int 1, .int 1, .int 1]] (.int 1) .nil .nil)) (.nd 40752864463936 [.tup [.int 4, .int 1, .int 1, .int 1], .tup [.int 4, .int 2, .int 1]] (.int 0) (.nd 40752864432192 [.tup [.int 4, .int 1, .int 1, .int 1], .tup [.int 3, .int 3, .int 1]] (.int 2) .nil .nil) .nil)) (.nd 40787162236992 [.tup [.int 4, .int 2, .int 1], .tup [.int 4, .int 1, .int 1, .int 1]] (.int (-1)) (.nd 40787160173632 [.tup [.int 4, .int 2, .int 1], .tup [.int 2, .int 2, .int 2, .int 1]] (.int 1) (.nd 40785112270912 [.tup [.int 4, .int 2], .tup [.int 2, .int 1, .int 1, .int 1, .int 1]] (.int 3) .nil .nil) (.nd 40787161221184 [.tup [.int 4, .int 2, .int 1], .tup [.int 3, .int 2, .int 1, .int 1]] (.int (-1)) .nil .nil)) (.nd 40819505563712 [.tup [.int 4, .int 3], .tup [.int 3, .int 1, .int 1, .int 1, .int 1]] (.int (-1)) (.nd 40819473057856 [.tup [.int 4, .int 3], .tup [.int 2, .int 2, .int 1, .int 1, .int 1]] (.int 2) .nil .nil) .nil))) (.nd 42949776836672 [.tup [.int 6, .int 1], .tup [.int 2, .int 2, .int 1, .int 1, .int 1]] (.int 2) (.nd 41884624947264 [.tup [.int 5, .int 2], .tup [.int 2, .int 2, .int 1, .int 1, .int 1]] (.int 2) (.nd 41852313110592 [.tup [.int 5, .int 1, .int 1], .tup [.int 3, .int 2, .int 1, .int 1]] (.int (-1)) (.nd 41852312063040 [.tup [.int 5, .int 1, .int 1], .tup [.int 2, .int 2, .int 2, .int 1]] (.int (-3)) .nil .nil) (.nd 41852314126400 [.tup [.int 5, .int 1, .int 1], .tup [.int 4, .int 1, .int 1, .int 1]] (.int 1) .nil .nil)) (.nd 42883170240576 [.tup [.int 6], .tup [.int 1, .int 1, .int 1, .int 1, .int 1, .int 1]] (.int 1) (.nd 41884657453120 [.tup [.int 5, .int 2], .tup [.int 3, .int 1, .int 1, .int 1, .int 1]] (.int 2) .nil .nil) .nil)) (.nd 1198538543401024 [.tup [.int 1, .int 1, .int 1, .int 1], .tup [.int 1, .int 1, .int 1, .int 1]] (.int 1) (.nd 43983755610176 [.tup [.int 7], .tup [.int 2, .int 1, .int 1, .int 1, .int 1, .int 1]] (.int 1) (.nd 42949809342528 [.tup [.int 6, .int 1], .tup [.int 3, .int 1, .int 1, .int 1, .int 1]] (.int 3) .nil .nil) .nil) (.nd 1198538608478272 [.tup [.int 1, .int 1, .int 1, .int 1, .int 1], .tup [.int 3, .int 1, .int 1]] (.int 1) (.nd 1198538608446528 [.tup [.int 1, .int 1, .int 1, .int 1, .int 1], .tup [.int 2, .int 2, .int 1]] (.int 1) .nil .nil) .nil))))
theorem tr_F1_raw_character_22_ok : trChk false fF1_raw_character tr_F1_raw_character_22 = some (.bl true) := by kernel_rfl
def tr_F1_raw_character_23 : Tr := (.nd 1234822492195936 [.tup [.int 2, .int 2, .int 1, .int 1, .int 1], .tup [.int 3, .int 2, .int 2]] (.int 2) (.nd 1233722980599872 [.tup [.int 2, .int 1, .int 1, .int 1, .int 1], .tup [.int 4, .int 1, .int 1]] (.int (-1)) (.nd 1233722916538432 [.tup [.int 2, .int 1, .int 1, .int 1], .tup [.int 2, .int 1, .int 1, .int 1]] (.int (-2)) (.nd 1198538610448448 [.tup [.int 1, .int 1, .int 1, .int 1, .int 1, .int 1], .tup [.int 5, .int 1]] (.int 1) (.nd 1198538610447456 [.tup [.int 1, .int 1, .int 1, .int 1, .int 1, .int 1], .tup [.int 4, .int 2]] (.int 1) .nil .nil) (.nd 1198538610508032 [.tup [.int 1, .int 1, .int 1, .int 1, .int 1, .int 1, .int 1], .tup [.int 7]] (.int 1) .nil .nil)) (.nd 1233722980568128 [.tup [.int 2, .int 1, .int 1, .int 1, .int 1], .tup [.int 3, .int 2, .int 1]] (.int 0) (.nd 1233722980535392 [.tup [.int 2, .int 1, .int 1, .int 1, .int 1], .tup [.int 2, .int 2, .int 2]] (.int 1) .nil .nil) .nil)) (.nd 1234820346742848 [.tup [.int 2, .int 2, .int 1], .tup [.int 1, .int 1, .int 1, .int 1, .int 1]] (.int 5) (.nd 1233722982537312 [.tup [.int 2, .int 1, .int 1, .int 1, .int 1, .int 1], .tup [.int 5, .int 2]] (.int 1) (.nd 1233722982536320 [.tup [.int 2, .int 1, .int 1, .int 1, .int 1, .int 1], .tup [.int 4, .int 3]] (.int 1) .nil .nil) (.nd 1233722982538304 [.tup [.int 2, .int 1, .int 1, .int 1, .int 1, .int 1], .tup [.int 6, .int 1]] (.int 0) .nil .nil)) (.nd 1234822429214784 [.tup [.int 2, .int 2, .int 1, .int 1], .tup [.int 3, .int 1, .int 1, .int 1]] (.int 0) (.nd 1234822428198976 [.tup [.int 2, .int 2, .int 1, .int 1], .tup [.int 2, .int 2, .int 1, .int 1]] (.int 1) .nil .nil) .nil))) (.nd 1234856790001728 [.tup [.int 2, .int 2, .int 2, .int 1], .tup [.int 4, .int 1, .int 1, .int 1]] (.int 2) (.nd 1234854740035648 [.tup [.int 2, .int 2, .int 2], .tup [.int 2, .int 1, .int 1, .int 1, .int 1]] (.int (-1)) (.nd 1234822492228672 [.tup [.int 2, .int 2, .int 1, .int 1, .int 1], .tup [.int 4, .int 2, .int 1]] (.int 0) (.nd 1234822492196928 [.tup [.int 2, .int 2, .int 1, .int 1, .int 1], .tup [.int 3, .int 3, .int 1]] (.int (-1)) .nil .nil) (.nd 1234822492260416 [.tup [.int 2, .int 2, .int 1, .int 1, .int 1], .tup [.int 5, .int 1, .int 1]] (.int (-1)) .nil .nil)) (.nd 1234856788985920 [.tup [.int 2, .int 2, .int 2, .int 1], .tup [.int 3, .int 2, .int 1, .int 1]] (.int (-1)) (.nd 1234856787938368 [.tup [.int 2, .int 2, .int 2, .int 1], .tup [.int 2, .int 2, .int 2, .int 1]] (.int 0) .nil .nil) .nil)) (.nd 1268907289675840 [.tup [.int 3, .int 1, .int 1, .int 1], .tup [.int 3, .int 1, .int 1, .int 1]] (.int 1) (.nd 1268907288660032 [.tup [.int 3, .int 1, .int 1, .int 1], .tup [.int 2, .int 2, .int 1, .int 1]] (.int (-2)) (.nd 1268905207203904 [.tup [.int 3, .int 1, .int 1], .tup [.int 1, .int 1, .int 1, .int 1, .int 1]] (.int 6) .nil .nil) .nil) (.nd 1268907352657984 [.tup [.int 3, .int 1, .int 1, .int 1, .int 1], .tup [.int 3, .int 3, .int 1]] (.int 0) (.nd 1268907352656992 [.tup [.int 3, .int 1, .int 1, .int 1, .int 1], .tup [.int 3, .int 2, .int 2]] (.int (-1)) .nil .nil) .nil))))
theorem tr_F1_raw_character_23_ok : trChk false fF1_raw_character tr_F1_raw_character_23 = some (.bl true) := by kernel_rfl
def tr_F1_raw_character_21 : Tr := .nd 1198538610446464 [.tup [.int 1, .int 1, .int 1, .int 1, .int 1, .int 1], .tup [.int 3, .int 3]] (.int 1) tr_F1_raw_character_22 tr_F1_raw_character_23
theorem tr_F1_raw_character_21_ok : trChk false fF1_raw_character tr_F1_raw_character_21 = some (.bl true) := trChk_nd (by kernel_rfl) tr_F1_raw_character_22_ok tr_F1_raw_character_23_ok
def tr_F1_raw_character_17 : Tr := .nd 39722010347584 [.tup [.int 3, .int 3, .int 1], .tup [.int 4, .int 1, .int 1, .int 1]] (.int (-1)) tr_F1_raw_character_18 tr_F1_raw_character_21
theorem tr_F1_raw_character_17_ok : trChk false fF1_raw_character tr_F1_raw_character_17 = some (.bl true) := trChk_nd (by kernel_rfl) tr_F1_raw_character_18_ok tr_F1_raw_character_21_ok
def tr_F1_raw_character_26 : Tr := (.nd 1304091662813248 [.tup [.int 4, .int 1, .int 1, .int 1], .tup [.int 4, .int 1, .int 1, .int 1]] (.int 0) (.nd 1270039145678912 [.tup [.int 3, .int 2, .int 2], .tup [.int 3, .int 1, .int 1, .int 1, .int 1]] (.int (-3)) (.nd 1270006801336384 [.tup [.int 3, .int 2, .int 1, .int 1], .tup [.int 3, .int 2, .int 1, .int 1]] (.int 1) (.nd 1270004752386112 [.tup [.int 3, .int 2, .int 1], .tup [.int 2, .int 1, .int 1, .int 1, .int 1]] (.int 0) (.nd 1268907352721472 [.tup [.int 3, .int 1, .int 1, .int 1, .int 1], .tup [.int 5, .int 1, .int 1]] (.int 0) .nil .nil) (.nd 1270006800288832 [.tup [.int 3, .int 2, .int 1, .int 1], .tup [.int 2, .int 2, .int 2, .int 1]] (.int (-1)) .nil .nil)) (.nd 1270039113173056 [.tup [.int 3, .int 2, .int 2], .tup [.int 2, .int 2, .int 1, .int 1, .int 1]] (.int 1) (.nd 1270006802352192 [.tup [.int 3, .int 2, .int 1, .int 1], .tup [.int 4, .int 1, .int 1, .int 1]] (.int 1) .nil .nil) .nil)) (.nd 1304089612847168 [.tup [.int 4, .int 1, .int 1], .tup [.int 2, .int 1, .int 1, .int 1, .int 1]] (.int 2) (.nd 1271104265062464 [.tup [.int 3, .int 3, .int 1], .tup [.int 2, .int 2, .int 1, .int 1, .int 1]] (.int 1) (.nd 1271037658466368 [.tup [.int 3, .int 3], .tup [.int 1, .int 1, .int 1, .int 1, .int 1, .int 1]] (.int 5) .nil .nil) (.nd 1271104297568320 [.tup [.int 3, .int 3, .int 1], .tup [.int 3, .int 1, .int 1, .int 1, .int 1]] (.int (-3)) .nil .nil)) (.nd 1304091661797440 [.tup [.int 4, .int 1, .int 1, .int 1], .tup [.int 3, .int 2, .int 1, .int 1]] (.int 0) (.nd 1304091660749888 [.tup [.int 4, .int 1, .int 1, .int 1], .tup [.int 2, .int 2, .int 2, .int 1]] (.int 0) .nil .nil) .nil))) (.nd 1339274018490432 [.tup [.int 5, .int 1, .int 1], .tup [.int 3, .int 1, .int 1, .int 1, .int 1]] (.int 3) (.nd 1306223104297024 [.tup [.int 4, .int 3], .tup [.int 2, .int 1, .int 1, .int 1, .int 1, .int 1]] (.int 4) (.nd 1305189125523520 [.tup [.int 4, .int 2, .int 1], .tup [.int 2, .int 2, .int 1, .int 1, .int 1]] (.int (-1)) (.nd 1305122518927424 [.tup [.int 4, .int 2], .tup [.int 1, .int 1, .int 1, .int 1, .int 1, .int 1]] (.int 9) .nil .nil) (.nd 1305189158029376 [.tup [.int 4, .int 2, .int 1], .tup [.int 3, .int 1, .int 1, .int 1, .int 1]] (.int (-1)) .nil .nil)) (.nd 1339273985984576 [.tup [.int 5, .int 1, .int 1], .tup [.int 2, .int 2, .int 1, .int 1, .int 1]] (.int (-1)) (.nd 1339207379388480 [.tup [.int 5, .int 1], .tup [.int 1, .int 1, .int 1, .int 1, .int 1, .int 1]] (.int 5) .nil .nil) .nil)) (.nd 1407445819787328 [.tup [.int 7], .tup [.int 1, .int 1, .int 1, .int 1, .int 1, .int 1, .int 1]] (.int 1) (.nd 1374392825219136 [.tup [.int 6, .int 1], .tup [.int 2, .int 1, .int 1, .int 1, .int 1, .int 1]] (.int 4) (.nd 1340307964758080 [.tup [.int 5, .int 2], .tup [.int 2, .int 1, .int 1, .int 1, .int 1, .int 1]] (.int 6) .nil .nil) .nil) (.nd 38353235534253152 [.tup [.int 1, .int 1, .int 1, .int 1, .int 1, .int 1], .tup [.int 2, .int 2, .int 2]] (.int (-1)) (.nd 38353235470256192 [.tup [.int 1, .int 1, .int 1, .int 1, .int 1], .tup [.int 2, .int 1, .int 1, .int 1]] (.int (-1)) .nil .nil) .nil))))
theorem tr_F1_raw_character_26_ok : trChk false fF1_raw_character tr_F1_raw_character_26 = some (.bl true) := by kernel_rfl
def tr_F1_raw_character_27 : Tr := (.nd 39514319750268992 [.tup [.int 2, .int 2, .int 1, .int 1, .int 1], .tup [.int 3, .int 2, .int 1, .int 1]] (.int 0) (.nd 39479135378147392 [.tup [.int 2, .int 1, .int 1, .int 1, .int 1], .tup [.int 3, .int 1, .int 1, .int 1]] (.int 2) (.nd 38353235536256064 [.tup [.int 1, .int 1, .int 1, .int 1, .int 1, .int 1, .int 1], .tup [.int 6, .int 1]] (.int (-1)) (.nd 38353235536254080 [.tup [.int 1, .int 1, .int 1, .int 1, .int 1, .int 1, .int 1], .tup [.int 4, .int 3]] (.int (-1)) (.nd 38353235534317632 [.tup [.int 1, .int 1, .int 1, .int 1, .int 1, .int 1], .tup [.int 4, .int 1, .int 1]] (.int (-1)) .nil .nil) (.nd 38353235536255072 [.tup [.int 1, .int 1, .int 1, .int 1, .int 1, .int 1, .int 1], .tup [.int 5, .int 2]] (.int (-1)) .nil .nil)) (.nd 39479135377131584 [.tup [.int 2, .int 1, .int 1, .int 1, .int 1], .tup [.int 2, .int 2, .int 1, .int 1]] (.int 1) (.nd 39479133295675456 [.tup [.int 2, .int 1, .int 1, .int 1], .tup [.int 1, .int 1, .int 1, .int 1, .int 1]] (.int 4) .nil .nil) .nil)) (.nd 39479135441193024 [.tup [.int 2, .int 1, .int 1, .int 1, .int 1, .int 1], .tup [.int 5, .int 1, .int 1]] (.int 1) (.nd 39479135441129536 [.tup [.int 2, .int 1, .int 1, .int 1, .int 1, .int 1], .tup [.int 3, .int 3, .int 1]] (.int 0) (.nd 39479135441128544 [.tup [.int 2, .int 1, .int 1, .int 1, .int 1, .int 1], .tup [.int 3, .int 2, .int 2]] (.int (-1)) .nil .nil) (.nd 39479135441161280 [.tup [.int 2, .int 1, .int 1, .int 1, .int 1, .int 1], .tup [.int 4, .int 2, .int 1]] (.int 0) .nil .nil)) (.nd 39514319749221440 [.tup [.int 2, .int 2, .int 1, .int 1, .int 1], .tup [.int 2, .int 2, .int 2, .int 1]] (.int (-2)) (.nd 39514317701318720 [.tup [.int 2, .int 2, .int 1, .int 1], .tup [.int 2, .int 1, .int 1, .int 1, .int 1]] (.int (-3)) .nil .nil) .nil))) (.nd 40605035285022784 [.tup [.int 3, .int 1, .int 1, .int 1, .int 1], .tup [.int 3, .int 2, .int 1, .int 1]] (.int 1) (.nd 39515417246500928 [.tup [.int 2, .int 2, .int 2, .int 1], .tup [.int 3, .int 1, .int 1, .int 1, .int 1]] (.int (-1)) (.nd 39515350607398976 [.tup [.int 2, .int 2, .int 2], .tup [.int 1, .int 1, .int 1, .int 1, .int 1, .int 1]] (.int 5) (.nd 39514319751284800 [.tup [.int 2, .int 2, .int 1, .int 1, .int 1], .tup [.int 4, .int 1, .int 1, .int 1]] (.int 0) .nil .nil) (.nd 39515417213995072 [.tup [.int 2, .int 2, .int 2, .int 1], .tup [.int 2, .int 2, .int 1, .int 1, .int 1]] (.int 2) .nil .nil)) (.nd 40605035283975232 [.tup [.int 3, .int 1, .int 1, .int 1, .int 1], .tup [.int 2, .int 2, .int 2, .int 1]] (.int 3) (.nd 40605033236072512 [.tup [.int 3, .int 1, .int 1, .int 1], .tup [.int 2, .int 1, .int 1, .int 1, .int 1]] (.int (-2)) .nil .nil) .nil)) (.nd 40640217609209920 [.tup [.int 3, .int 2, .int 1, .int 1], .tup [.int 2, .int 2, .int 1, .int 1, .int 1]] (.int (-1)) (.nd 40640151002613824 [.tup [.int 3, .int 2, .int 1], .tup [.int 1, .int 1, .int 1, .int 1, .int 1, .int 1]] (.int 16) (.nd 40605035286038592 [.tup [.int 3, .int 1, .int 1, .int 1, .int 1], .tup [.int 4, .int 1, .int 1, .int 1]] (.int (-1)) .nil .nil) .nil) (.nd 40641251587983424 [.tup [.int 3, .int 2, .int 2], .tup [.int 2, .int 1, .int 1, .int 1, .int 1, .int 1]] (.int (-1)) (.nd 40640217641715776 [.tup [.int 3, .int 2, .int 1, .int 1], .tup [.int 3, .int 1, .int 1, .int 1, .int 1]] (.int (-1)) .nil .nil) .nil))))
theorem tr_F1_raw_character_27_ok : trChk false fF1_raw_character tr_F1_raw_character_27 = some (.bl true) := by kernel_rfl
def tr_F1_raw_character_25 : Tr := .nd 38353235534285888 [.tup [.int 1, .int 1, .int 1, .int 1, .int 1, .int 1], .tup [.int 3, .int 2, .int 1]] (.int (-1)) tr_F1_raw_character_26 tr_F1_raw_character_27
theorem tr_F1_raw_character_25_ok : trChk false fF1_raw_character tr_F1_raw_character_25 = some (.bl true) := trChk_nd (by kernel_rfl) tr_F1_raw_character_26_ok tr_F1_raw_character_27_ok
def tr_F1_raw_character_29 : Tr := (.nd 1227303537160129600 [.tup [.int 1, .int 1, .int 1, .int 1, .int 1, .int 1, .int 1], .tup [.int 4, .int 2, .int 1]] (.int 1) (.nd 42889820512520256 [.tup [.int 5, .int 2], .tup [.int 1, .int 1, .int 1, .int 1, .int 1, .int 1, .int 1]] (.int 14) (.nd 41766051983198272 [.tup [.int 4, .int 2, .int 1], .tup [.int 2, .int 1, .int 1, .int 1, .int 1, .int 1]] (.int 5) (.nd 41730933143963712 [.tup [.int 4, .int 1, .int 1, .int 1], .tup [.int 2, .int 2, .int 1, .int 1, .int 1]] (.int (-4)) (.nd 41730866537367616 [.tup [.int 4, .int 1, .int 1], .tup [.int 1, .int 1, .int 1, .int 1, .int 1, .int 1]] (.int 10) .nil .nil) (.nd 41730933176469568 [.tup [.int 4, .int 1, .int 1, .int 1], .tup [.int 3, .int 1, .int 1, .int 1, .int 1]] (.int 2) .nil .nil)) (.nd 42856767517952064 [.tup [.int 5, .int 1, .int 1], .tup [.int 2, .int 1, .int 1, .int 1, .int 1, .int 1]] (.int 5) (.nd 41799104977766464 [.tup [.int 4, .int 3], .tup [.int 1, .int 1, .int 1, .int 1, .int 1, .int 1, .int 1]] (.int 14) .nil .nil) .nil)) (.nd 1227303537097115712 [.tup [.int 1, .int 1, .int 1, .int 1, .int 1, .int 1], .tup [.int 3, .int 1, .int 1, .int 1]] (.int 1) (.nd 1227303535014643776 [.tup [.int 1, .int 1, .int 1, .int 1, .int 1], .tup [.int 1, .int 1, .int 1, .int 1, .int 1]] (.int 1) (.nd 43980536047274048 [.tup [.int 6, .int 1], .tup [.int 1, .int 1, .int 1, .int 1, .int 1, .int 1, .int 1]] (.int 6) .nil .nil) (.nd 1227303537096099904 [.tup [.int 1, .int 1, .int 1, .int 1, .int 1, .int 1], .tup [.int 2, .int 2, .int 1, .int 1]] (.int 1) .nil .nil)) (.nd 1227303537160097856 [.tup [.int 1, .int 1, .int 1, .int 1, .int 1, .int 1, .int 1], .tup [.int 3, .int 3, .int 1]] (.int 1) (.nd 1227303537160096864 [.tup [.int 1, .int 1, .int 1, .int 1, .int 1, .int 1, .int 1], .tup [.int 3, .int 2, .int 2]] (.int 1) .nil .nil) .nil))) (.nd 1264458231975053376 [.tup [.int 2, .int 2, .int 1, .int 1, .int 1], .tup [.int 2, .int 2, .int 1, .int 1, .int 1]] (.int 2) (.nd 1263332334116112448 [.tup [.int 2, .int 1, .int 1, .int 1, .int 1, .int 1], .tup [.int 3, .int 2, .int 1, .int 1]] (.int (-1)) (.nd 1263332332067162176 [.tup [.int 2, .int 1, .int 1, .int 1, .int 1], .tup [.int 2, .int 1, .int 1, .int 1, .int 1]] (.int (-3)) (.nd 1227303537160161344 [.tup [.int 1, .int 1, .int 1, .int 1, .int 1, .int 1, .int 1], .tup [.int 5, .int 1, .int 1]] (.int 1) .nil .nil) (.nd 1263332334115064896 [.tup [.int 2, .int 1, .int 1, .int 1, .int 1, .int 1], .tup [.int 2, .int 2, .int 2, .int 1]] (.int 0) .nil .nil)) (.nd 1264458165368457280 [.tup [.int 2, .int 2, .int 1, .int 1], .tup [.int 1, .int 1, .int 1, .int 1, .int 1, .int 1]] (.int 9) (.nd 1263332334117128256 [.tup [.int 2, .int 1, .int 1, .int 1, .int 1, .int 1], .tup [.int 4, .int 1, .int 1, .int 1]] (.int (-2)) .nil .nil) .nil)) (.nd 1299361062480578624 [.tup [.int 3, .int 1, .int 1, .int 1], .tup [.int 1, .int 1, .int 1, .int 1, .int 1, .int 1]] (.int 10) (.nd 1264493350814287936 [.tup [.int 2, .int 2, .int 2, .int 1], .tup [.int 2, .int 1, .int 1, .int 1, .int 1, .int 1]] (.int (-4)) (.nd 1264458232007559232 [.tup [.int 2, .int 2, .int 1, .int 1, .int 1], .tup [.int 3, .int 1, .int 1, .int 1, .int 1]] (.int 2) .nil .nil) .nil) (.nd 1299361129119680576 [.tup [.int 3, .int 1, .int 1, .int 1, .int 1], .tup [.int 3, .int 1, .int 1, .int 1, .int 1]] (.int 3) (.nd 1299361129087174720 [.tup [.int 3, .int 1, .int 1, .int 1, .int 1], .tup [.int 2, .int 2, .int 1, .int 1, .int 1]] (.int (-1)) .nil .nil) .nil))))
theorem tr_F1_raw_character_29_ok : trChk false fF1_raw_character tr_F1_raw_character_29 = some (.bl true) := by kernel_rfl
def tr_F1_raw_character_30 : Tr := (.nd 40463787191697475648 [.tup [.int 2, .int 2, .int 2, .int 1], .tup [.int 1, .int 1, .int 1, .int 1, .int 1, .int 1, .int 1]] (.int 14) (.nd 39273713189122051136 [.tup [.int 1, .int 1, .int 1, .int 1, .int 1, .int 1, .int 1], .tup [.int 2, .int 2, .int 2, .int 1]] (.int (-1)) (.nd 1336513629102606400 [.tup [.int 4, .int 2, .int 1], .tup [.int 1, .int 1, .int 1, .int 1, .int 1, .int 1, .int 1]] (.int 35) (.nd 1301610731990485056 [.tup [.int 3, .int 3, .int 1], .tup [.int 1, .int 1, .int 1, .int 1, .int 1, .int 1, .int 1]] (.int 21) (.nd 1300520016455731264 [.tup [.int 3, .int 2, .int 2], .tup [.int 1, .int 1, .int 1, .int 1, .int 1, .int 1, .int 1]] (.int 21) .nil .nil) (.nd 1335389860573284416 [.tup [.int 4, .int 1, .int 1, .int 1], .tup [.int 2, .int 1, .int 1, .int 1, .int 1, .int 1]] (.int 0) .nil .nil)) (.nd 39273713187074148416 [.tup [.int 1, .int 1, .int 1, .int 1, .int 1, .int 1], .tup [.int 2, .int 1, .int 1, .int 1, .int 1]] (.int (-1)) (.nd 1371416526214727744 [.tup [.int 5, .int 1, .int 1], .tup [.int 1, .int 1, .int 1, .int 1, .int 1, .int 1, .int 1]] (.int 15) .nil .nil) .nil)) (.nd 40426634691682043968 [.tup [.int 2, .int 1, .int 1, .int 1, .int 1, .int 1], .tup [.int 2, .int 2, .int 1, .int 1, .int 1]] (.int 2) (.nd 39273713189124114496 [.tup [.int 1, .int 1, .int 1, .int 1, .int 1, .int 1, .int 1], .tup [.int 4, .int 1, .int 1, .int 1]] (.int (-1)) (.nd 39273713189123098688 [.tup [.int 1, .int 1, .int 1, .int 1, .int 1, .int 1, .int 1], .tup [.int 3, .int 2, .int 1, .int 1]] (.int (-1)) .nil .nil) (.nd 40426634625075447872 [.tup [.int 2, .int 1, .int 1, .int 1, .int 1], .tup [.int 1, .int 1, .int 1, .int 1, .int 1, .int 1]] (.int 5) .nil .nil)) (.nd 40462663423168153664 [.tup [.int 2, .int 2, .int 1, .int 1, .int 1], .tup [.int 2, .int 1, .int 1, .int 1, .int 1, .int 1]] (.int (-6)) (.nd 40426634691714549824 [.tup [.int 2, .int 1, .int 1, .int 1, .int 1, .int 1], .tup [.int 3, .int 1, .int 1, .int 1, .int 1]] (.int 3) .nil .nil) .nil))) (.nd 1293652310133791852608 [.tup [.int 2, .int 1, .int 1, .int 1, .int 1, .int 1], .tup [.int 2, .int 1, .int 1, .int 1, .int 1, .int 1]] (.int (-4)) (.nd 1256758821985299007552 [.tup [.int 1, .int 1, .int 1, .int 1, .int 1, .int 1], .tup [.int 1, .int 1, .int 1, .int 1, .int 1, .int 1]] (.int 1) (.nd 41615582796397480000 [.tup [.int 3, .int 2, .int 1, .int 1], .tup [.int 1, .int 1, .int 1, .int 1, .int 1, .int 1, .int 1]] (.int 35) (.nd 41579556130756036672 [.tup [.int 3, .int 1, .int 1, .int 1, .int 1], .tup [.int 2, .int 1, .int 1, .int 1, .int 1, .int 1]] (.int (-5)) .nil .nil) (.nd 42732475503985363008 [.tup [.int 4, .int 1, .int 1, .int 1], .tup [.int 1, .int 1, .int 1, .int 1, .int 1, .int 1, .int 1]] (.int 20) .nil .nil)) (.nd 1256758822051938109504 [.tup [.int 1, .int 1, .int 1, .int 1, .int 1, .int 1, .int 1], .tup [.int 3, .int 1, .int 1, .int 1, .int 1]] (.int 1) (.nd 1256758822051905603648 [.tup [.int 1, .int 1, .int 1, .int 1, .int 1, .int 1, .int 1], .tup [.int 2, .int 2, .int 1, .int 1, .int 1]] (.int 1) .nil .nil) .nil)) (.nd 40216282305660945762368 [.tup [.int 1, .int 1, .int 1, .int 1, .int 1, .int 1, .int 1], .tup [.int 2, .int 1, .int 1, .int 1, .int 1, .int 1]] (.int (-1)) (.nd 1330545796149833435200 [.tup [.int 3, .int 1, .int 1, .int 1, .int 1], .tup [.int 1, .int 1, .int 1, .int 1, .int 1, .int 1, .int 1]] (.int 15) (.nd 1294805229507021178944 [.tup [.int 2, .int 2, .int 1, .int 1, .int 1], .tup [.int 1, .int 1, .int 1, .int 1, .int 1, .int 1, .int 1]] (.int 14) .nil .nil) .nil) (.nd 1286921033781115904657472 [.tup [.int 1, .int 1, .int 1, .int 1, .int 1, .int 1, .int 1], .tup [.int 1, .int 1, .int 1, .int 1, .int 1, .int 1, .int 1]] (.int 1) (.nd 41396873924246979545152 [.tup [.int 2, .int 1, .int 1, .int 1, .int 1, .int 1], .tup [.int 1, .int 1, .int 1, .int 1, .int 1, .int 1, .int 1]] (.int 6) .nil .nil) .nil))))
theorem tr_F1_raw_character_30_ok : trChk false fF1_raw_character tr_F1_raw_character_30 = some (.bl true) := by kernel_rfl
def tr_F1_raw_character_28 : Tr := .nd 1300486963461163072 [.tup [.int 3, .int 2, .int 1, .int 1], .tup [.int 2, .int 1, .int 1, .int 1, .int 1, .int 1]] (.int (-5)) tr_F1_raw_character_29 tr_F1_raw_character_30
theorem tr_F1_raw_character_28_ok : trChk false fF1_raw_character tr_F1_raw_character_28 = some (.bl true) := trChk_nd (by kernel_rfl) tr_F1_raw_character_29_ok tr_F1_raw_character_30_ok
def tr_F1_raw_character_24 : Tr := .nd 40675336448444480 [.tup [.int 3, .int 3, .int 1], .tup [.int 2, .int 1, .int 1, .int 1, .int 1, .int 1]] (.int 1) tr_F1_raw_character_25 tr_F1_raw_character_28
theorem tr_F1_raw_character_24_ok : trChk false fF1_raw_character tr_F1_raw_character_24 = some (.bl true) := trChk_nd (by kernel_rfl) tr_F1_raw_character_25_ok tr_F1_raw_character_28_ok
def tr_F1_raw_character_16 : Tr := .nd 1268907352689728 [.tup [.int 3, .int 1, .int 1, .int 1, .int 1], .tup [.int 4, .int 2, .int 1]] (.int (-1)) tr_F1_raw_character_17 tr_F1_raw_character_24
theorem tr_F1_raw_character_16_ok : trChk false fF1_raw_character tr_F1_raw_character_16 = some (.bl true) := trChk_nd (by kernel_rfl) tr_F1_raw_character_17_ok tr_F1_raw_character_24_ok
def tr_F1_raw_character_0 : Tr := .nd 1307884817472 [.tup [.int 5, .int 1, .int 1], .tup [.int 4, .int 2, .int 1]] (.int (-1)) tr_F1_raw_character_1 tr_F1_raw_character_16
theorem tr_F1_raw_character_0_ok : trChk false fF1_raw_character tr_F1_raw_character_0 = some (.bl true) := trChk_nd (by kernel_rfl) tr_F1_raw_character_1_ok tr_F1_raw_character_16_ok
noncomputable def m_F1_raw_character : FnC := memoC tr_F1_raw_character_0 false fF1_raw_character
theorem hm_F1_raw_character : Snd F1 18 3 m_F1_raw_character := memo_snd hF1_raw_character tr_F1_raw_character_0_ok
noncomputable def fF1__law_types : FnC := fDef 1 none [none, none, none, none, none, none, none] (cCons (cSet 1 (cLstD [(cTupD [])])) (cCons (cFor (pS 2) (iR1 (cVar 0)) (cCons (cSet 3 (cLstD [])) (cCons (cFor (pS 4) (iVal (cVar 1)) (cCons (cSet 5 (e2pv fSub 0 (e1p fSum 4))) (cCons (cIf (e2pc fEq 5 (.int 0)) (cCons (cApp 3 (cVar 4)) cNil) (cCons (cSet 6 (cIte (e2vc fGt (e1p fLen 4) (.int 0)) (e2pv fMin2 5 (e2pv fIx 4 (e1v (gen1 .neg) (cCst (.int 1))))) (cVar 5))) (cCons (cExt 3 (cComp [7] (pS 7) (iR2 (cCst (.int 1)) (e2pc fAdd 6 (.int 1))) ccN (e2pv fAdd 4 (cTupD [(cVar 7)])))) cNil))) cNil))) (cCons (cSet 1 (cMv 3)) cNil)))) (cCons (cRet (e1v fSlRev (e1p fSorted 1))) cNil)))
theorem hF1__law_types : Snd F1 23 1 fF1__law_types := snd_def (d := 0) (df := df__law_types) (fun _ _ => rfl) rfl fun n hn => (b_cons (b_set (s_lst (.cons (s_tup .nil (Nat.le_of_ble_eq_true rfl)) .nil) (Nat.le_of_ble_eq_true rfl))) (b_cons (b_for sp_s (si_r1 s_var) (b_cons (b_set (s_lst .nil (Nat.le_of_ble_eq_true rfl))) (b_cons (b_for sp_s (si_val s_var) (b_cons (b_set (s_pv fSub_ok (s_1p fSum_ok))) (b_cons (b_if (s_pc fEq_ok) (b_cons (b_app s_var) b_nil) (b_cons (b_set (s_ite (s_vc fGt_ok (s_1p fLen_ok)) (s_pv fMin2_ok (s_pv fIx_ok (s_1v (gen1_ok .neg) s_cst))) s_var)) (b_cons (b_ext (s_comp sp_s (si_r2 s_cst (s_pc fAdd_ok)) sc_none (s_pv fAdd_ok (s_tup (.cons s_var .nil) (Nat.le_of_ble_eq_true rfl))))) b_nil))) b_nil))) (b_cons (b_set s_mv) b_nil)))) (b_cons (b_ret (s_1v fSlRev_ok (s_1p fSorted_ok))) b_nil)))
def tr_F1__law_types_0 : Tr := (.nd 37 [.int 4] (.lst [.tup [.int 4], .tup [.int 3, .int 1], .tup [.int 2, .int 2], .tup [.int 2, .int 1, .int 1], .tup [.int 1, .int 1, .int 1, .int 1]]) (.nd 35 [.int 2] (.lst [.tup [.int 2], .tup [.int 1, .int 1]]) (.nd 34 [.int 1] (.lst [.tup [.int 1]]) .nil .nil) (.nd 36 [.int 3] (.lst [.tup [.int 3], .tup [.int 2, .int 1], .tup [.int 1, .int 1, .int 1]]) .nil .nil)) (.nd 39 [.int 6] (.lst [.tup [.int 6], .tup [.int 5, .int 1], .tup [.int 4, .int 2], .tup [.int 4, .int 1, .int 1], .tup [.int 3, .int 3], .tup [.int 3, .int 2, .int 1], .tup [.int 3, .int 1, .int 1, .int 1], .tup [.int 2, .int 2, .int 2], .tup [.int 2, .int 2, .int 1, .int 1], .tup [.int 2, .int 1, .int 1, .int 1, .int 1], .tup [.int 1, .int 1, .int 1, .int 1, .int 1, .int 1]]) (.nd 38 [.int 5] (.lst [.tup [.int 5], .tup [.int 4, .int 1], .tup [.int 3, .int 2], .tup [.int 3, .int 1, .int 1], .tup [.int 2, .int 2, .int 1], .tup [.int 2, .int 1, .int 1, .int 1], .tup [.int 1, .int 1, .int 1, .int 1, .int 1]]) .nil .nil) (.nd 40 [.int 7] (.lst [.tup [.int 7], .tup [.int 6, .int 1], .tup [.int 5, .int 2], .tup [.int 5, .int 1, .int 1], .tup [.int 4, .int 3], .tup [.int 4, .int 2, .int 1], .tup [.int 4, .int 1, .int 1, .int 1], .tup [.int 3, .int 3, .int 1], .tup [.int 3, .int 2, .int 2], .tup [.int 3, .int 2, .int 1, .int 1], .tup [.int 3, .int 1, .int 1, .int 1, .int 1], .tup [.int 2, .int 2, .int 2, .int 1], .tup [.int 2, .int 2, .int 1, .int 1, .int 1], .tup [.int 2, .int 1, .int 1, .int 1, .int 1, .int 1], .tup [.int 1, .int 1, .int 1, .int 1, .int 1, .int 1, .int 1]]) .nil .nil)))
theorem tr_F1__law_types_0_ok : trChk true fF1__law_types tr_F1__law_types_0 = some (.bl true) := by kernel_rfl
noncomputable def m_F1__law_types : FnC := memoC tr_F1__law_types_0 true fF1__law_types
theorem hm_F1__law_types : Snd F1 23 1 m_F1__law_types := memo_snd hF1__law_types tr_F1__law_types_0_ok
noncomputable def fF1_is_integer : FnC := fDef 1 none [] (cCons (cRet (cAnd (e1p fIsInt 0) (cNot (e1p fIsBool 0)))) cNil)
theorem hF1_is_integer : Snd F1 0 1 fF1_is_integer := snd_def (d := 0) (df := df_is_integer) (fun _ _ => rfl) rfl fun n hn => (b_cons (b_ret (s_and (s_1p fIsInt_ok) (s_not (s_1p fIsBool_ok)))) b_nil)
noncomputable def fF1_is_within : FnC := fDef 3 none [] (cCons (cRet (cAnd (cCallV fF1_is_integer [(cVar 0)]) (cChain fLe fLe (.p 1) (.p 0) (.p 2)))) cNil)
theorem hF1_is_within : Snd F1 1 2 fF1_is_within := snd_def (d := 1) (df := df_is_within) (fun _ _ => rfl) rfl fun n hn => (b_cons (b_ret (s_and (s_callV (hF1_is_integer n (Nat.le_trans (Nat.le_of_ble_eq_true rfl) hn)) (.cons s_var .nil)) (s_chain fLe_ok fLe_ok .p .p .p))) b_nil)
noncomputable def fF1_all_types : FnC := fDef 1 none [none, none, none, none, none, none] (cCons (cSet 1 (cLstD [(cTupD [])])) (cCons (cSet 2 (cLstD [])) (cCons (cWhile Wk (e2vc fGt (e1p fLen 1) (.int 0)) (cCons (cSet 3 (cPop 1)) (cCons (cSet 4 (e2pv fSub 0 (e1p fSum 3))) (cCons (cIf (e2pc fEq 4 (.int 0)) (cCons (cApp 2 (cVar 3)) cNil) (cCons (cSet 5 (cIte (e2vc fGt (e1p fLen 3) (.int 0)) (e2pv fMin2 4 (e2pv fIx 3 (e1v (gen1 .neg) (cCst (.int 1))))) (cVar 4))) (cCons (cExt 1 (cComp [6] (pS 6) (iR2 (cCst (.int 1)) (e2pc fAdd 5 (.int 1))) ccN (e2pv fAdd 3 (cTupD [(cVar 6)])))) cNil))) cNil)))) (cCons (cRet (cMv 2)) cNil))))
theorem hF1_all_types : Snd F1 2 1 fF1_all_types := snd_def (d := 0) (df := df_all_types) (fun _ _ => rfl) rfl fun n hn => (b_cons (b_set (s_lst (.cons (s_tup .nil (Nat.le_of_ble_eq_true rfl)) .nil) (Nat.le_of_ble_eq_true rfl))) (b_cons (b_set (s_lst .nil (Nat.le_of_ble_eq_true rfl))) (b_cons (b_while (s_vc fGt_ok (s_1p fLen_ok)) (b_cons (b_set s_pop) (b_cons (b_set (s_pv fSub_ok (s_1p fSum_ok))) (b_cons (b_if (s_pc fEq_ok) (b_cons (b_app s_var) b_nil) (b_cons (b_set (s_ite (s_vc fGt_ok (s_1p fLen_ok)) (s_pv fMin2_ok (s_pv fIx_ok (s_1v (gen1_ok .neg) s_cst))) s_var)) (b_cons (b_ext (s_comp sp_s (si_r2 s_cst (s_pc fAdd_ok)) sc_none (s_pv fAdd_ok (s_tup (.cons s_var .nil) (Nat.le_of_ble_eq_true rfl))))) b_nil))) b_nil)))) (b_cons (b_ret s_mv) b_nil))))
noncomputable def fF1_types : FnC := fDef 1 none [] (cCons (cIf (cNot (cCallV fF1_is_within [(cVar 0), (cCst (.int 1)), (cCst (.int 12))])) (cCons cBad cNil) cNil) (cCons (cRet (e1v fTuple (cCallV fF1_all_types [(cVar 0)]))) cNil))
theorem hF1_types : Snd F1 3 3 fF1_types := snd_def (d := 2) (df := df_types) (fun _ _ => rfl) rfl fun n hn => (b_cons (b_if (s_not (s_callV (hF1_is_within n (Nat.le_trans (Nat.le_of_ble_eq_true rfl) hn)) (.cons s_var (.cons s_cst (.cons s_cst .nil))))) (b_cons b_bad b_nil) b_nil) (b_cons (b_ret (s_1v fTuple_ok (s_callV (hF1_all_types n (Nat.le_trans (Nat.le_of_ble_eq_true rfl) hn)) (.cons s_var .nil)))) b_nil))
def tr_F1_types_0 : Tr := (.nd 37 [.int 4] (.tup [.tup [.int 4], .tup [.int 3, .int 1], .tup [.int 2, .int 2], .tup [.int 2, .int 1, .int 1], .tup [.int 1, .int 1, .int 1, .int 1]]) (.nd 35 [.int 2] (.tup [.tup [.int 2], .tup [.int 1, .int 1]]) (.nd 34 [.int 1] (.tup [.tup [.int 1]]) .nil .nil) (.nd 36 [.int 3] (.tup [.tup [.int 3], .tup [.int 2, .int 1], .tup [.int 1, .int 1, .int 1]]) .nil .nil)) (.nd 39 [.int 6] (.tup [.tup [.int 6], .tup [.int 5, .int 1], .tup [.int 4, .int 2], .tup [.int 4, .int 1, .int 1], .tup [.int 3, .int 3], .tup [.int 3, .int 2, .int 1], .tup [.int 3, .int 1, .int 1, .int 1], .tup [.int 2, .int 2, .int 2], .tup [.int 2, .int 2, .int 1, .int 1], .tup [.int 2, .int 1, .int 1, .int 1, .int 1], .tup [.int 1, .int 1, .int 1, .int 1, .int 1, .int 1]]) (.nd 38 [.int 5] (.tup [.tup [.int 5], .tup [.int 4, .int 1], .tup [.int 3, .int 2], .tup [.int 3, .int 1, .int 1], .tup [.int 2, .int 2, .int 1], .tup [.int 2, .int 1, .int 1, .int 1], .tup [.int 1, .int 1, .int 1, .int 1, .int 1]]) .nil .nil) (.nd 40 [.int 7] (.tup [.tup [.int 7], .tup [.int 6, .int 1], .tup [.int 5, .int 2], .tup [.int 5, .int 1, .int 1], .tup [.int 4, .int 3], .tup [.int 4, .int 2, .int 1], .tup [.int 4, .int 1, .int 1, .int 1], .tup [.int 3, .int 3, .int 1], .tup [.int 3, .int 2, .int 2], .tup [.int 3, .int 2, .int 1, .int 1], .tup [.int 3, .int 1, .int 1, .int 1, .int 1], .tup [.int 2, .int 2, .int 2, .int 1], .tup [.int 2, .int 2, .int 1, .int 1, .int 1], .tup [.int 2, .int 1, .int 1, .int 1, .int 1, .int 1], .tup [.int 1, .int 1, .int 1, .int 1, .int 1, .int 1, .int 1]]) .nil .nil)))
theorem tr_F1_types_0_ok : trChk false fF1_types tr_F1_types_0 = some (.bl true) := by kernel_rfl
noncomputable def m_F1_types : FnC := memoC tr_F1_types_0 false fF1_types
theorem hm_F1_types : Snd F1 3 3 m_F1_types := memo_snd hF1_types tr_F1_types_0_ok
noncomputable def fF1_is_type : FnC := fDef 1 none [none, none] (cCons (cIf (cOr (cNot (e1p fIsTup 0)) (cNot (e1v fAll (cComp [1] (pS 1) (iVal (cVar 0)) ccN (cCallV fF1_is_within [(cVar 1), (cCst (.int 1)), (cCst (.int 12))]))))) (cCons (cRet (cCst (.bl false))) cNil) cNil) (cCons (cIf (cNot (cChain fLe fLe (.v (cCst (.int 1))) (.v (e1p fSum 0)) (.v (cCst (.int 12))))) (cCons (cRet (cCst (.bl false))) cNil) cNil) (cCons (cRet (e1v fAll (cComp [2] (pS 2) (iR1 (e2vc fSub (e1p fLen 0) (.int 1))) ccN (e2vv fGe (e2pp fIx 0 2) (e2pv fIx 0 (e2pc fAdd 2 (.int 1))))))) cNil)))
theorem hF1_is_type : Snd F1 4 3 fF1_is_type := snd_def (d := 2) (df := df_is_type) (fun _ _ => rfl) rfl fun n hn => (b_cons (b_if (s_or (s_not (s_1p fIsTup_ok)) (s_not (s_1v fAll_ok (s_comp sp_s (si_val s_var) sc_none (s_callV (hF1_is_within n (Nat.le_trans (Nat.le_of_ble_eq_true rfl) hn)) (.cons s_var (.cons s_cst (.cons s_cst .nil)))))))) (b_cons (b_ret s_cst) b_nil) b_nil) (b_cons (b_if (s_not (s_chain fLe_ok fLe_ok (.v s_cst) (.v (s_1p fSum_ok)) (.v s_cst))) (b_cons (b_ret s_cst) b_nil) b_nil) (b_cons (b_ret (s_1v fAll_ok (s_comp sp_s (si_r1 (s_vc fSub_ok (s_1p fLen_ok))) sc_none (s_vv fGe_ok (s_pp fIx_ok) (s_pv fIx_ok (s_pc fAdd_ok)))))) b_nil)))
noncomputable def fF1_check_type : FnC := fDef 1 none [] (cCons (cIf (cNot (cCallV fF1_is_type [(cVar 0)])) (cCons cBad cNil) cNil) cNil)
theorem hF1_check_type : Snd F1 5 4 fF1_check_type := snd_def (d := 3) (df := df_check_type) (fun _ _ => rfl) rfl fun n hn => (b_cons (b_if (s_not (s_callV (hF1_is_type n (Nat.le_trans (Nat.le_of_ble_eq_true rfl) hn)) (.cons s_var .nil))) (b_cons b_bad b_nil) b_nil) b_nil)
noncomputable def fF1_factorial : FnC := fDef 1 none [none, none] (cCons (cSet 1 (cCst (.int 1))) (cCons (cFor (pS 2) (iR2 (cCst (.int 2)) (e2pc fAdd 0 (.int 1))) (cCons (cSet 1 (e2pp fMul 1 2)) cNil)) (cCons (cRet (cMv 1)) cNil)))
theorem hF1_factorial : Snd F1 6 1 fF1_factorial := snd_def (d := 0) (df := df_factorial) (fun _ _ => rfl) rfl fun n hn => (b_cons (b_set s_cst) (b_cons (b_for sp_s (si_r2 s_cst (s_pc fAdd_ok)) (b_cons (b_set (s_pp fMul_ok)) b_nil)) (b_cons (b_ret s_mv) b_nil)))
noncomputable def fF1_raw_turned : FnC := fDef 1 none [none, none] (cCons (cRet (e1v fTuple (cComp [2] (pS 2) (iR1 (e2pc fIx 0 (.int 0))) ccN (e1v fLen (cComp [1] (pS 1) (iVal (cVar 0)) (ccS (e2pp fGt 1 2)) (cVar 1)))))) cNil)
theorem hF1_raw_turned : Snd F1 12 1 fF1_raw_turned := snd_def (d := 0) (df := df_raw_turned) (fun _ _ => rfl) rfl fun n hn => (b_cons (b_ret (s_1v fTuple_ok (s_comp sp_s (si_r1 (s_pc fIx_ok)) sc_none (s_1v fLen_ok (s_comp sp_s (si_val s_var) (sc_some (s_pp fGt_ok)) s_var))))) b_nil)
noncomputable def fF1_raw_hooks : FnC := fDef 1 none [none, none, none, none, none] (cCons (cSet 1 (cCallV fF1_raw_turned [(cVar 0)])) (cCons (cSet 2 (cLstD [])) (cCons (cFor (pT [(pS 3), (pS 4)]) (iEnum (cVar 0)) (cCons (cApp 2 (e1v fTuple (cComp [5] (pS 5) (iR1 (cVar 4)) ccN (e2vc fSub (e2vp fSub (e2vv fAdd (e2pp fSub 4 5) (e2pp fIx 1 5)) 3) (.int 1))))) cNil)) (cCons (cRet (e1p fTuple 2)) cNil))))
theorem hF1_raw_hooks : Snd F1 14 2 fF1_raw_hooks := snd_def (d := 1) (df := df_raw_hooks) (fun _ _ => rfl) rfl fun n hn => (b_cons (b_set (s_callV (hF1_raw_turned n (Nat.le_trans (Nat.le_of_ble_eq_true rfl) hn)) (.cons s_var .nil))) (b_cons (b_set (s_lst .nil (Nat.le_of_ble_eq_true rfl))) (b_cons (b_for (sp_t (.cons sp_s (.cons sp_s .nil))) (si_enum s_var) (b_cons (b_app (s_1v fTuple_ok (s_comp sp_s (si_r1 s_var) sc_none (s_vc fSub_ok (s_vp fSub_ok (s_vv fAdd_ok (s_pp fSub_ok) (s_pp fIx_ok))))))) b_nil)) (b_cons (b_ret (s_1p fTuple_ok)) b_nil))))
noncomputable def fF1_raw_width : FnC := fDef 1 none [none, none, none] (cCons (cSet 1 (cCst (.int 1))) (cCons (cFor (pS 2) (iVal (cCallV fF1_raw_hooks [(cVar 0)])) (cCons (cFor (pS 3) (iVal (cVar 2)) (cCons (cSet 1 (e2pp fMul 1 3)) cNil)) cNil)) (cCons (cRet (e2vp fDiv (cCallV fF1_factorial [(e1p fSum 0)]) 1)) cNil)))
theorem hF1_raw_width : Snd F1 15 3 fF1_raw_width := snd_def (d := 2) (df := df_raw_width) (fun _ _ => rfl) rfl fun n hn => (b_cons (b_set s_cst) (b_cons (b_for sp_s (si_val (s_callV (hF1_raw_hooks n (Nat.le_trans (Nat.le_of_ble_eq_true rfl) hn)) (.cons s_var .nil))) (b_cons (b_for sp_s (si_val s_var) (b_cons (b_set (s_pp fMul_ok)) b_nil)) b_nil)) (b_cons (b_ret (s_vp fDiv_ok (s_callV (hF1_factorial n (Nat.le_trans (Nat.le_of_ble_eq_true rfl) hn)) (.cons (s_1p fSum_ok) .nil)))) b_nil)))
noncomputable def fF1_width_of : FnC := fDef 1 none [] (cCons (cExpr (cCallV fF1_check_type [(cVar 0)])) (cCons (cRet (cCallV fF1_raw_width [(cVar 0)])) cNil))
theorem hF1_width_of : Snd F1 16 5 fF1_width_of := snd_def (d := 4) (df := df_width_of) (fun _ _ => rfl) rfl fun n hn => (b_cons (b_expr (s_callV (hF1_check_type n (Nat.le_trans (Nat.le_of_ble_eq_true rfl) hn)) (.cons s_var .nil))) (b_cons (b_ret (s_callV (hF1_raw_width n (Nat.le_trans (Nat.le_of_ble_eq_true rfl) hn)) (.cons s_var .nil))) b_nil))
def tr_F1_width_of_0 : Tr := (.nd 1150048 [.tup [.int 2, .int 2, .int 2]] (.int 5) (.nd 36960 [.tup [.int 3, .int 2]] (.int 5) (.nd 1248 [.tup [.int 6]] (.int 1) (.nd 1152 [.tup [.int 3]] (.int 1) (.nd 1120 [.tup [.int 2]] (.int 1) (.nd 1088 [.tup [.int 1]] (.int 1) .nil .nil) .nil) (.nd 1216 [.tup [.int 5]] (.int 1) (.nd 1184 [.tup [.int 4]] (.int 1) .nil .nil) .nil)) (.nd 35904 [.tup [.int 2, .int 1]] (.int 2) (.nd 34880 [.tup [.int 1, .int 1]] (.int 1) (.nd 1280 [.tup [.int 7]] (.int 1) .nil .nil) .nil) (.nd 36928 [.tup [.int 3, .int 1]] (.int 3) (.nd 35936 [.tup [.int 2, .int 2]] (.int 2) .nil .nil) .nil))) (.nd 39008 [.tup [.int 5, .int 2]] (.int 14) (.nd 37984 [.tup [.int 4, .int 2]] (.int 9) (.nd 37952 [.tup [.int 4, .int 1]] (.int 4) (.nd 36992 [.tup [.int 3, .int 3]] (.int 5) .nil .nil) .nil) (.nd 38976 [.tup [.int 5, .int 1]] (.int 5) (.nd 38016 [.tup [.int 4, .int 3]] (.int 14) .nil .nil) .nil)) (.nd 1148992 [.tup [.int 2, .int 1, .int 1]] (.int 3) (.nd 1116224 [.tup [.int 1, .int 1, .int 1]] (.int 1) (.nd 40000 [.tup [.int 6, .int 1]] (.int 6) .nil .nil) .nil) (.nd 1150016 [.tup [.int 2, .int 2, .int 1]] (.int 5) .nil .nil)))) (.nd 36801600 [.tup [.int 2, .int 2, .int 2, .int 1]] (.int 14) (.nd 1215552 [.tup [.int 4, .int 2, .int 1]] (.int 35) (.nd 1182816 [.tup [.int 3, .int 2, .int 2]] (.int 21) (.nd 1182784 [.tup [.int 3, .int 2, .int 1]] (.int 16) (.nd 1181760 [.tup [.int 3, .int 1, .int 1]] (.int 6) .nil .nil) .nil) (.nd 1214528 [.tup [.int 4, .int 1, .int 1]] (.int 10) (.nd 1183808 [.tup [.int 3, .int 3, .int 1]] (.int 21) .nil .nil) .nil)) (.nd 36767808 [.tup [.int 2, .int 1, .int 1, .int 1]] (.int 4) (.nd 35719232 [.tup [.int 1, .int 1, .int 1, .int 1]] (.int 1) (.nd 1247296 [.tup [.int 5, .int 1, .int 1]] (.int 15) .nil .nil) .nil) (.nd 36800576 [.tup [.int 2, .int 2, .int 1, .int 1]] (.int 9) .nil .nil))) (.nd 1177618496 [.tup [.int 2, .int 2, .int 1, .int 1, .int 1]] (.int 14) (.nd 38864960 [.tup [.int 4, .int 1, .int 1, .int 1]] (.int 20) (.nd 37849152 [.tup [.int 3, .int 2, .int 1, .int 1]] (.int 35) (.nd 37816384 [.tup [.int 3, .int 1, .int 1, .int 1]] (.int 10) .nil .nil) .nil) (.nd 1176569920 [.tup [.int 2, .int 1, .int 1, .int 1, .int 1]] (.int 5) (.nd 1143015488 [.tup [.int 1, .int 1, .int 1, .int 1, .int 1]] (.int 1) .nil .nil) .nil)) (.nd 37650237504 [.tup [.int 2, .int 1, .int 1, .int 1, .int 1, .int 1]] (.int 6) (.nd 36576495680 [.tup [.int 1, .int 1, .int 1, .int 1, .int 1, .int 1]] (.int 1) (.nd 1210124352 [.tup [.int 3, .int 1, .int 1, .int 1, .int 1]] (.int 15) .nil .nil) .nil) (.nd 1170447861824 [.tup [.int 1, .int 1, .int 1, .int 1, .int 1, .int 1, .int 1]] (.int 1) .nil .nil)))))
theorem tr_F1_width_of_0_ok : trChk false fF1_width_of tr_F1_width_of_0 = some (.bl true) := by kernel_rfl
noncomputable def m_F1_width_of : FnC := memoC tr_F1_width_of_0 false fF1_width_of
theorem hm_F1_width_of : Snd F1 16 5 m_F1_width_of := memo_snd hF1_width_of tr_F1_width_of_0_ok
noncomputable def fF1_contents : FnC := fDef 1 none [none, none, none] (cCons (cExpr (cCallV fF1_check_type [(cVar 0)])) (cCons (cRet (e1v fSum (cComp2 [1, 2, 3] (pT [(pS 1), (pS 2)]) (iEnum (cVar 0)) (pS 3) (iR1 (cVar 2)) [3] ccN (e2pp fSub 3 1)))) cNil))
theorem hF1_contents : Snd F1 17 5 fF1_contents := snd_def (d := 4) (df := df_contents) (fun _ _ => rfl) rfl fun n hn => (b_cons (b_expr (s_callV (hF1_check_type n (Nat.le_trans (Nat.le_of_ble_eq_true rfl) hn)) (.cons s_var .nil))) (b_cons (b_ret (s_1v fSum_ok (s_comp2 (sp_t (.cons sp_s (.cons sp_s .nil))) (si_enum s_var) sp_s (si_r1 s_var) sc_none (s_pp fSub_ok)))) b_nil))
def tr_F1_contents_0 : Tr := (.nd 1150048 [.tup [.int 2, .int 2, .int 2]] (.int (-3)) (.nd 36960 [.tup [.int 3, .int 2]] (.int 2) (.nd 1248 [.tup [.int 6]] (.int 15) (.nd 1152 [.tup [.int 3]] (.int 3) (.nd 1120 [.tup [.int 2]] (.int 1) (.nd 1088 [.tup [.int 1]] (.int 0) .nil .nil) .nil) (.nd 1216 [.tup [.int 5]] (.int 10) (.nd 1184 [.tup [.int 4]] (.int 6) .nil .nil) .nil)) (.nd 35904 [.tup [.int 2, .int 1]] (.int 0) (.nd 34880 [.tup [.int 1, .int 1]] (.int (-1)) (.nd 1280 [.tup [.int 7]] (.int 21) .nil .nil) .nil) (.nd 36928 [.tup [.int 3, .int 1]] (.int 2) (.nd 35936 [.tup [.int 2, .int 2]] (.int 0) .nil .nil) .nil))) (.nd 39008 [.tup [.int 5, .int 2]] (.int 9) (.nd 37984 [.tup [.int 4, .int 2]] (.int 5) (.nd 37952 [.tup [.int 4, .int 1]] (.int 5) (.nd 36992 [.tup [.int 3, .int 3]] (.int 3) .nil .nil) .nil) (.nd 38976 [.tup [.int 5, .int 1]] (.int 9) (.nd 38016 [.tup [.int 4, .int 3]] (.int 6) .nil .nil) .nil)) (.nd 1148992 [.tup [.int 2, .int 1, .int 1]] (.int (-2)) (.nd 1116224 [.tup [.int 1, .int 1, .int 1]] (.int (-3)) (.nd 40000 [.tup [.int 6, .int 1]] (.int 14) .nil .nil) .nil) (.nd 1150016 [.tup [.int 2, .int 2, .int 1]] (.int (-2)) .nil .nil)))) (.nd 36801600 [.tup [.int 2, .int 2, .int 2, .int 1]] (.int (-6)) (.nd 1215552 [.tup [.int 4, .int 2, .int 1]] (.int 3) (.nd 1182816 [.tup [.int 3, .int 2, .int 2]] (.int (-1)) (.nd 1182784 [.tup [.int 3, .int 2, .int 1]] (.int 0) (.nd 1181760 [.tup [.int 3, .int 1, .int 1]] (.int 0) .nil .nil) .nil) (.nd 1214528 [.tup [.int 4, .int 1, .int 1]] (.int 3) (.nd 1183808 [.tup [.int 3, .int 3, .int 1]] (.int 1) .nil .nil) .nil)) (.nd 36767808 [.tup [.int 2, .int 1, .int 1, .int 1]] (.int (-5)) (.nd 35719232 [.tup [.int 1, .int 1, .int 1, .int 1]] (.int (-6)) (.nd 1247296 [.tup [.int 5, .int 1, .int 1]] (.int 7) .nil .nil) .nil) (.nd 36800576 [.tup [.int 2, .int 2, .int 1, .int 1]] (.int (-5)) .nil .nil))) (.nd 1177618496 [.tup [.int 2, .int 2, .int 1, .int 1, .int 1]] (.int (-9)) (.nd 38864960 [.tup [.int 4, .int 1, .int 1, .int 1]] (.int 0) (.nd 37849152 [.tup [.int 3, .int 2, .int 1, .int 1]] (.int (-3)) (.nd 37816384 [.tup [.int 3, .int 1, .int 1, .int 1]] (.int (-3)) .nil .nil) .nil) (.nd 1176569920 [.tup [.int 2, .int 1, .int 1, .int 1, .int 1]] (.int (-9)) (.nd 1143015488 [.tup [.int 1, .int 1, .int 1, .int 1, .int 1]] (.int (-10)) .nil .nil) .nil)) (.nd 37650237504 [.tup [.int 2, .int 1, .int 1, .int 1, .int 1, .int 1]] (.int (-14)) (.nd 36576495680 [.tup [.int 1, .int 1, .int 1, .int 1, .int 1, .int 1]] (.int (-15)) (.nd 1210124352 [.tup [.int 3, .int 1, .int 1, .int 1, .int 1]] (.int (-7)) .nil .nil) .nil) (.nd 1170447861824 [.tup [.int 1, .int 1, .int 1, .int 1, .int 1, .int 1, .int 1]] (.int (-21)) .nil .nil)))))
theorem tr_F1_contents_0_ok : trChk false fF1_contents tr_F1_contents_0 = some (.bl true) := by kernel_rfl
noncomputable def m_F1_contents : FnC := memoC tr_F1_contents_0 false fF1_contents
theorem hm_F1_contents : Snd F1 17 5 m_F1_contents := memo_snd hF1_contents tr_F1_contents_0_ok
noncomputable def fF1_turned_shape : FnC := fDef 1 none [] (cCons (cExpr (cCallV fF1_check_type [(cVar 0)])) (cCons (cRet (cCallV fF1_raw_turned [(cVar 0)])) cNil))
theorem hF1_turned_shape : Snd F1 13 5 fF1_turned_shape := snd_def (d := 4) (df := df_turned_shape) (fun _ _ => rfl) rfl fun n hn => (b_cons (b_expr (s_callV (hF1_check_type n (Nat.le_trans (Nat.le_of_ble_eq_true rfl) hn)) (.cons s_var .nil))) (b_cons (b_ret (s_callV (hF1_raw_turned n (Nat.le_trans (Nat.le_of_ble_eq_true rfl) hn)) (.cons s_var .nil))) b_nil))
def tr_F1_turned_shape_0 : Tr := (.nd 1150048 [.tup [.int 2, .int 2, .int 2]] (.tup [.int 3, .int 3]) (.nd 36960 [.tup [.int 3, .int 2]] (.tup [.int 2, .int 2, .int 1]) (.nd 1248 [.tup [.int 6]] (.tup [.int 1, .int 1, .int 1, .int 1, .int 1, .int 1]) (.nd 1152 [.tup [.int 3]] (.tup [.int 1, .int 1, .int 1]) (.nd 1120 [.tup [.int 2]] (.tup [.int 1, .int 1]) (.nd 1088 [.tup [.int 1]] (.tup [.int 1]) .nil .nil) .nil) (.nd 1216 [.tup [.int 5]] (.tup [.int 1, .int 1, .int 1, .int 1, .int 1]) (.nd 1184 [.tup [.int 4]] (.tup [.int 1, .int 1, .int 1, .int 1]) .nil .nil) .nil)) (.nd 35904 [.tup [.int 2, .int 1]] (.tup [.int 2, .int 1]) (.nd 34880 [.tup [.int 1, .int 1]] (.tup [.int 2]) (.nd 1280 [.tup [.int 7]] (.tup [.int 1, .int 1, .int 1, .int 1, .int 1, .int 1, .int 1]) .nil .nil) .nil) (.nd 36928 [.tup [.int 3, .int 1]] (.tup [.int 2, .int 1, .int 1]) (.nd 35936 [.tup [.int 2, .int 2]] (.tup [.int 2, .int 2]) .nil .nil) .nil))) (.nd 39008 [.tup [.int 5, .int 2]] (.tup [.int 2, .int 2, .int 1, .int 1, .int 1]) (.nd 37984 [.tup [.int 4, .int 2]] (.tup [.int 2, .int 2, .int 1, .int 1]) (.nd 37952 [.tup [.int 4, .int 1]] (.tup [.int 2, .int 1, .int 1, .int 1]) (.nd 36992 [.tup [.int 3, .int 3]] (.tup [.int 2, .int 2, .int 2]) .nil .nil) .nil) (.nd 38976 [.tup [.int 5, .int 1]] (.tup [.int 2, .int 1, .int 1, .int 1, .int 1]) (.nd 38016 [.tup [.int 4, .int 3]] (.tup [.int 2, .int 2, .int 2, .int 1]) .nil .nil) .nil)) (.nd 1148992 [.tup [.int 2, .int 1, .int 1]] (.tup [.int 3, .int 1]) (.nd 1116224 [.tup [.int 1, .int 1, .int 1]] (.tup [.int 3]) (.nd 40000 [.tup [.int 6, .int 1]] (.tup [.int 2, .int 1, .int 1, .int 1, .int 1, .int 1]) .nil .nil) .nil) (.nd 1150016 [.tup [.int 2, .int 2, .int 1]] (.tup [.int 3, .int 2]) .nil .nil)))) (.nd 36801600 [.tup [.int 2, .int 2, .int 2, .int 1]] (.tup [.int 4, .int 3]) (.nd 1215552 [.tup [.int 4, .int 2, .int 1]] (.tup [.int 3, .int 2, .int 1, .int 1]) (.nd 1182816 [.tup [.int 3, .int 2, .int 2]] (.tup [.int 3, .int 3, .int 1]) (.nd 1182784 [.tup [.int 3, .int 2, .int 1]] (.tup [.int 3, .int 2, .int 1]) (.nd 1181760 [.tup [.int 3, .int 1, .int 1]] (.tup [.int 3, .int 1, .int 1]) .nil .nil) .nil) (.nd 1214528 [.tup [.int 4, .int 1, .int 1]] (.tup [.int 3, .int 1, .int 1, .int 1]) (.nd 1183808 [.tup [.int 3, .int 3, .int 1]] (.tup [.int 3, .int 2, .int 2]) .nil .nil) .nil)) (.nd 36767808 [.tup [.int 2, .int 1, .int 1, .int 1]] (.tup [.int 4, .int 1]) (.nd 35719232 [.tup [.int 1, .int 1, .int 1, .int 1]] (.tup [.int 4]) (.nd 1247296 [.tup [.int 5, .int 1, .int 1]] (.tup [.int 3, .int 1, .int 1, .int 1, .int 1]) .nil .nil) .nil) (.nd 36800576 [.tup [.int 2, .int 2, .int 1, .int 1]] (.tup [.int 4, .int 2]) .nil .nil))) (.nd 1177618496 [.tup [.int 2, .int 2, .int 1, .int 1, .int 1]] (.tup [.int 5, .int 2]) (.nd 38864960 [.tup [.int 4, .int 1, .int 1, .int 1]] (.tup [.int 4, .int 1, .int 1, .int 1]) (.nd 37849152 [.tup [.int 3, .int 2, .int 1, .int 1]] (.tup [.int 4, .int 2, .int 1]) (.nd 37816384 [.tup [.int 3, .int 1, .int 1, .int 1]] (.tup [.int 4, .int 1, .int 1]) .nil .nil) .nil) (.nd 1176569920 [.tup [.int 2, .int 1, .int 1, .int 1, .int 1]] (.tup [.int 5, .int 1]) (.nd 1143015488 [.tup [.int 1, .int 1, .int 1, .int 1, .int 1]] (.tup [.int 5]) .nil .nil) .nil)) (.nd 37650237504 [.tup [.int 2, .int 1, .int 1, .int 1, .int 1, .int 1]] (.tup [.int 6, .int 1]) (.nd 36576495680 [.tup [.int 1, .int 1, .int 1, .int 1, .int 1, .int 1]] (.tup [.int 6]) (.nd 1210124352 [.tup [.int 3, .int 1, .int 1, .int 1, .int 1]] (.tup [.int 5, .int 1, .int 1]) .nil .nil) .nil) (.nd 1170447861824 [.tup [.int 1, .int 1, .int 1, .int 1, .int 1, .int 1, .int 1]] (.tup [.int 7]) .nil .nil)))))
theorem tr_F1_turned_shape_0_ok : trChk false fF1_turned_shape tr_F1_turned_shape_0 = some (.bl true) := by kernel_rfl
noncomputable def m_F1_turned_shape : FnC := memoC tr_F1_turned_shape_0 false fF1_turned_shape
theorem hm_F1_turned_shape : Snd F1 13 5 m_F1_turned_shape := memo_snd hF1_turned_shape tr_F1_turned_shape_0_ok
noncomputable def fF1_stayers : FnC := fDef 1 none [none, none, none, none] (cCons (cSet 1 (cCst (.int 1))) (cCons (cFor (pS 2) (iKeys (cDcomp [3] (pS 3) (iVal (cVar 0)) (cVar 3) (cCst (.bl true)))) (cCons (cFor (pS 4) (iR1 (cCnt (cVar 0) (cVar 2))) (cCons (cSet 1 (e2vv fMul (e2pp fMul 1 2) (e2pc fAdd 4 (.int 1)))) cNil)) cNil)) (cCons (cRet (cMv 1)) cNil)))
theorem hF1_stayers : Snd F1 7 1 fF1_stayers := snd_def (d := 0) (df := df_stayers) (fun _ _ => rfl) rfl fun n hn => (b_cons (b_set s_cst) (b_cons (b_for sp_s (si_keys (s_dcomp sp_s (si_val s_var) s_var s_cst)) (b_cons (b_for sp_s (si_r1 (s_cnt s_var s_var)) (b_cons (b_set (s_vv fMul_ok (s_pp fMul_ok) (s_pc fAdd_ok))) b_nil)) b_nil)) (b_cons (b_ret s_mv) b_nil)))
noncomputable def fF1_class_size : FnC := fDef 1 none [] (cCons (cExpr (cCallV fF1_check_type [(cVar 0)])) (cCons (cRet (e2vv fDiv (cCallV fF1_factorial [(e1p fSum 0)]) (cCallV fF1_stayers [(cVar 0)]))) cNil))
theorem hF1_class_size : Snd F1 8 5 fF1_class_size := snd_def (d := 4) (df := df_class_size) (fun _ _ => rfl) rfl fun n hn => (b_cons (b_expr (s_callV (hF1_check_type n (Nat.le_trans (Nat.le_of_ble_eq_true rfl) hn)) (.cons s_var .nil))) (b_cons (b_ret (s_vv fDiv_ok (s_callV (hF1_factorial n (Nat.le_trans (Nat.le_of_ble_eq_true rfl) hn)) (.cons (s_1p fSum_ok) .nil)) (s_callV (hF1_stayers n (Nat.le_trans (Nat.le_of_ble_eq_true rfl) hn)) (.cons s_var .nil)))) b_nil))
def tr_F1_class_size_0 : Tr := (.nd 1150048 [.tup [.int 2, .int 2, .int 2]] (.int 15) (.nd 36960 [.tup [.int 3, .int 2]] (.int 20) (.nd 1248 [.tup [.int 6]] (.int 120) (.nd 1152 [.tup [.int 3]] (.int 2) (.nd 1120 [.tup [.int 2]] (.int 1) (.nd 1088 [.tup [.int 1]] (.int 1) .nil .nil) .nil) (.nd 1216 [.tup [.int 5]] (.int 24) (.nd 1184 [.tup [.int 4]] (.int 6) .nil .nil) .nil)) (.nd 35904 [.tup [.int 2, .int 1]] (.int 3) (.nd 34880 [.tup [.int 1, .int 1]] (.int 1) (.nd 1280 [.tup [.int 7]] (.int 720) .nil .nil) .nil) (.nd 36928 [.tup [.int 3, .int 1]] (.int 8) (.nd 35936 [.tup [.int 2, .int 2]] (.int 3) .nil .nil) .nil))) (.nd 39008 [.tup [.int 5, .int 2]] (.int 504) (.nd 37984 [.tup [.int 4, .int 2]] (.int 90) (.nd 37952 [.tup [.int 4, .int 1]] (.int 30) (.nd 36992 [.tup [.int 3, .int 3]] (.int 40) .nil .nil) .nil) (.nd 38976 [.tup [.int 5, .int 1]] (.int 144) (.nd 38016 [.tup [.int 4, .int 3]] (.int 420) .nil .nil) .nil)) (.nd 1148992 [.tup [.int 2, .int 1, .int 1]] (.int 6) (.nd 1116224 [.tup [.int 1, .int 1, .int 1]] (.int 1) (.nd 40000 [.tup [.int 6, .int 1]] (.int 840) .nil .nil) .nil) (.nd 1150016 [.tup [.int 2, .int 2, .int 1]] (.int 15) .nil .nil)))) (.nd 36801600 [.tup [.int 2, .int 2, .int 2, .int 1]] (.int 105) (.nd 1215552 [.tup [.int 4, .int 2, .int 1]] (.int 630) (.nd 1182816 [.tup [.int 3, .int 2, .int 2]] (.int 210) (.nd 1182784 [.tup [.int 3, .int 2, .int 1]] (.int 120) (.nd 1181760 [.tup [.int 3, .int 1, .int 1]] (.int 20) .nil .nil) .nil) (.nd 1214528 [.tup [.int 4, .int 1, .int 1]] (.int 90) (.nd 1183808 [.tup [.int 3, .int 3, .int 1]] (.int 280) .nil .nil) .nil)) (.nd 36767808 [.tup [.int 2, .int 1, .int 1, .int 1]] (.int 10) (.nd 35719232 [.tup [.int 1, .int 1, .int 1, .int 1]] (.int 1) (.nd 1247296 [.tup [.int 5, .int 1, .int 1]] (.int 504) .nil .nil) .nil) (.nd 36800576 [.tup [.int 2, .int 2, .int 1, .int 1]] (.int 45) .nil .nil))) (.nd 1177618496 [.tup [.int 2, .int 2, .int 1, .int 1, .int 1]] (.int 105) (.nd 38864960 [.tup [.int 4, .int 1, .int 1, .int 1]] (.int 210) (.nd 37849152 [.tup [.int 3, .int 2, .int 1, .int 1]] (.int 420) (.nd 37816384 [.tup [.int 3, .int 1, .int 1, .int 1]] (.int 40) .nil .nil) .nil) (.nd 1176569920 [.tup [.int 2, .int 1, .int 1, .int 1, .int 1]] (.int 15) (.nd 1143015488 [.tup [.int 1, .int 1, .int 1, .int 1, .int 1]] (.int 1) .nil .nil) .nil)) (.nd 37650237504 [.tup [.int 2, .int 1, .int 1, .int 1, .int 1, .int 1]] (.int 21) (.nd 36576495680 [.tup [.int 1, .int 1, .int 1, .int 1, .int 1, .int 1]] (.int 1) (.nd 1210124352 [.tup [.int 3, .int 1, .int 1, .int 1, .int 1]] (.int 70) .nil .nil) .nil) (.nd 1170447861824 [.tup [.int 1, .int 1, .int 1, .int 1, .int 1, .int 1, .int 1]] (.int 1) .nil .nil)))))
theorem tr_F1_class_size_0_ok : trChk false fF1_class_size tr_F1_class_size_0 = some (.bl true) := by kernel_rfl
noncomputable def m_F1_class_size : FnC := memoC tr_F1_class_size_0 false fF1_class_size
theorem hm_F1_class_size : Snd F1 8 5 m_F1_class_size := memo_snd hF1_class_size tr_F1_class_size_0_ok
noncomputable def fF1_character : FnC := fDef 2 none [] (cCons (cExpr (cCallV fF1_check_type [(cVar 0)])) (cCons (cExpr (cCallV fF1_check_type [(cVar 1)])) (cCons (cIf (e2vv fNe (e1p fSum 0) (e1p fSum 1)) (cCons cBad cNil) cNil) (cCons (cRet (cCallV m_F1_raw_character [(cVar 0), (cVar 1)])) cNil))))
theorem hF1_character : Snd F1 19 5 fF1_character := snd_def (d := 4) (df := df_character) (fun _ _ => rfl) rfl fun n hn => (b_cons (b_expr (s_callV (hF1_check_type n (Nat.le_trans (Nat.le_of_ble_eq_true rfl) hn)) (.cons s_var .nil))) (b_cons (b_expr (s_callV (hF1_check_type n (Nat.le_trans (Nat.le_of_ble_eq_true rfl) hn)) (.cons s_var .nil))) (b_cons (b_if (s_vv fNe_ok (s_1p fSum_ok) (s_1p fSum_ok)) (b_cons b_bad b_nil) b_nil) (b_cons (b_ret (s_callV (hm_F1_raw_character n (Nat.le_trans (Nat.le_of_ble_eq_true rfl) hn)) (.cons s_var (.cons s_var .nil)))) b_nil))))
noncomputable def fF1__law_some : FnC := fDef 2 (some 0) [] (cCons (cRet (e2pv fIx 1 (cCall fF1_draw [(.i 0), (.v (e1p fLen 1))]))) cNil)
theorem hF1__law_some : Snd F1 22 3 fF1__law_some := snd_def (d := 2) (df := df__law_some) (fun _ _ => rfl) rfl fun n hn => (b_cons (b_ret (s_pv fIx_ok (s_call (hF1_draw n (Nat.le_trans (Nat.le_of_ble_eq_true rfl) hn)) (.cons .i (.cons (.v (s_1p fLen_ok)) .nil)) (List.forall_mem_cons.mpr ⟨(fun _ h => nomatch h), (List.forall_mem_cons.mpr ⟨(fun _ h => nomatch h), (List.forall_mem_nil _)⟩)⟩)))) b_nil)
noncomputable def fF1__law_factorial : FnC := fDef 1 none [none, none] (cCons (cSet 1 (cCst (.int 1))) (cCons (cFor (pS 2) (iR2 (cCst (.int 2)) (e2pc fAdd 0 (.int 1))) (cCons (cSet 1 (e2pp fMul 1 2)) cNil)) (cCons (cRet (cMv 1)) cNil)))
theorem hF1__law_factorial : Snd F1 24 1 fF1__law_factorial := snd_def (d := 0) (df := df__law_factorial) (fun _ _ => rfl) rfl fun n hn => (b_cons (b_set s_cst) (b_cons (b_for sp_s (si_r2 s_cst (s_pc fAdd_ok)) (b_cons (b_set (s_pp fMul_ok)) b_nil)) (b_cons (b_ret s_mv) b_nil)))
noncomputable def fF1__law_sign : FnC := fDef 1 none [none] (cCons (cRet (cIte (e2vc fEq (e2vc fMod (e1v fInt (e1v fLen (cComp [1] (pS 1) (iVal (cVar 0)) (ccS (e2vc fEq (e2vc fMod (e1p fInt 1) (.int 2)) (.int 0))) (cVar 1)))) (.int 2)) (.int 0)) (cCst (.int 1)) (e1v (gen1 .neg) (cCst (.int 1))))) cNil)
theorem hF1__law_sign : Snd F1 25 1 fF1__law_sign := snd_def (d := 0) (df := df__law_sign) (fun _ _ => rfl) rfl fun n hn => (b_cons (b_ret (s_ite (s_vc fEq_ok (s_vc fMod_ok (s_1v fInt_ok (s_1v fLen_ok (s_comp sp_s (si_val s_var) (sc_some (s_vc fEq_ok (s_vc fMod_ok (s_1p fInt_ok)))) s_var))))) s_cst (s_1v (gen1_ok .neg) s_cst))) b_nil)
noncomputable def fF1__law_is_case_right : FnC := fDef 2 (some 0) [none, none, none, none] (cCons (cSet 2 (cCallV m_F1__law_types [(cVar 1)])) (cCons (cIf (cOr (e2vv fNe (cCallV m_F1_types [(cVar 1)]) (e1p fTuple 2)) (e2vv fNe (e1v fSum (cComp [3] (pS 3) (iVal (cVar 2)) ccN (e2vc (gen2 .pow) (cCallV m_F1_width_of [(cVar 3)]) (.int 2)))) (cCallV fF1__law_factorial [(cVar 1)]))) (cCons (cRet (cCst (.bl false))) cNil) cNil) (cCons (cPar2 (tS 3) (tS 4) (cCall fF1__law_some [(.i 0), (.v (cVar 2))]) (cCall fF1__law_some [(.i 0), (.v (cVar 2))])) (cCons (cIf (e2vv fNe (cCallV fF1_character [(cVar 3), (e2vp fMul (cTupD [(cCst (.int 1))]) 1)]) (cCallV m_F1_width_of [(cVar 3)])) (cCons (cRet (cCst (.bl false))) cNil) cNil) (cCons (cIf (e2vv fNe (cCallV fF1_character [(cCallV m_F1_turned_shape [(cVar 3)]), (cVar 4)]) (e2vv fMul (cCallV fF1__law_sign [(cVar 4)]) (cCallV fF1_character [(cVar 3), (cVar 4)]))) (cCons (cRet (cCst (.bl false))) cNil) cNil) (cCons (cIf (e2pc fEq 1 (.int 1)) (cCons (cRet (e2vc fEq (cCallV m_F1_contents [(cVar 3)]) (.int 0))) cNil) cNil) (cCons (cSet 5 (e2vv fAdd (cTupD [(cCst (.int 2))]) (e2vv fMul (cTupD [(cCst (.int 1))]) (e2pc fSub 1 (.int 2))))) (cCons (cRet (e2vv fEq (e2vv fMul (cCallV m_F1_class_size [(cVar 5)]) (cCallV fF1_character [(cVar 3), (cVar 5)])) (e2vv fMul (cCallV m_F1_contents [(cVar 3)]) (cCallV m_F1_width_of [(cVar 3)])))) cNil))))))))
theorem hF1__law_is_case_right : Snd F1 26 6 fF1__law_is_case_right := snd_def (d := 5) (df := df__law_is_case_right) (fun _ _ => rfl) rfl fun n hn => (b_cons (b_set (s_callV (hm_F1__law_types n (Nat.le_trans (Nat.le_of_ble_eq_true rfl) hn)) (.cons s_var .nil))) (b_cons (b_if (s_or (s_vv fNe_ok (s_callV (hm_F1_types n (Nat.le_trans (Nat.le_of_ble_eq_true rfl) hn)) (.cons s_var .nil)) (s_1p fTuple_ok)) (s_vv fNe_ok (s_1v fSum_ok (s_comp sp_s (si_val s_var) sc_none (s_vc (gen2_ok .pow) (s_callV (hm_F1_width_of n (Nat.le_trans (Nat.le_of_ble_eq_true rfl) hn)) (.cons s_var .nil))))) (s_callV (hF1__law_factorial n (Nat.le_trans (Nat.le_of_ble_eq_true rfl) hn)) (.cons s_var .nil)))) (b_cons (b_ret s_cst) b_nil) b_nil) (b_cons (b_par2 t_s t_s (s_call (hF1__law_some n (Nat.le_trans (Nat.le_of_ble_eq_true rfl) hn)) (.cons .i (.cons (.v s_var) .nil)) (List.forall_mem_cons.mpr ⟨(fun _ h => nomatch h), (List.forall_mem_cons.mpr ⟨(fun _ h => nomatch h), (List.forall_mem_nil _)⟩)⟩)) (s_call (hF1__law_some n (Nat.le_trans (Nat.le_of_ble_eq_true rfl) hn)) (.cons .i (.cons (.v s_var) .nil)) (List.forall_mem_cons.mpr ⟨(fun _ h => nomatch h), (List.forall_mem_cons.mpr ⟨(fun _ h => nomatch h), (List.forall_mem_nil _)⟩)⟩))) (b_cons (b_if (s_vv fNe_ok (s_callV (hF1_character n (Nat.le_trans (Nat.le_of_ble_eq_true rfl) hn)) (.cons s_var (.cons (s_vp fMul_ok (s_tup (.cons s_cst .nil) (Nat.le_of_ble_eq_true rfl))) .nil))) (s_callV (hm_F1_width_of n (Nat.le_trans (Nat.le_of_ble_eq_true rfl) hn)) (.cons s_var .nil))) (b_cons (b_ret s_cst) b_nil) b_nil) (b_cons (b_if (s_vv fNe_ok (s_callV (hF1_character n (Nat.le_trans (Nat.le_of_ble_eq_true rfl) hn)) (.cons (s_callV (hm_F1_turned_shape n (Nat.le_trans (Nat.le_of_ble_eq_true rfl) hn)) (.cons s_var .nil)) (.cons s_var .nil))) (s_vv fMul_ok (s_callV (hF1__law_sign n (Nat.le_trans (Nat.le_of_ble_eq_true rfl) hn)) (.cons s_var .nil)) (s_callV (hF1_character n (Nat.le_trans (Nat.le_of_ble_eq_true rfl) hn)) (.cons s_var (.cons s_var .nil))))) (b_cons (b_ret s_cst) b_nil) b_nil) (b_cons (b_if (s_pc fEq_ok) (b_cons (b_ret (s_vc fEq_ok (s_callV (hm_F1_contents n (Nat.le_trans (Nat.le_of_ble_eq_true rfl) hn)) (.cons s_var .nil)))) b_nil) b_nil) (b_cons (b_set (s_vv fAdd_ok (s_tup (.cons s_cst .nil) (Nat.le_of_ble_eq_true rfl)) (s_vv fMul_ok (s_tup (.cons s_cst .nil) (Nat.le_of_ble_eq_true rfl)) (s_pc fSub_ok)))) (b_cons (b_ret (s_vv fEq_ok (s_vv fMul_ok (s_callV (hm_F1_class_size n (Nat.le_trans (Nat.le_of_ble_eq_true rfl) hn)) (.cons s_var .nil)) (s_callV (hF1_character n (Nat.le_trans (Nat.le_of_ble_eq_true rfl) hn)) (.cons s_var (.cons s_var .nil)))) (s_vv fMul_ok (s_callV (hm_F1_contents n (Nat.le_trans (Nat.le_of_ble_eq_true rfl) hn)) (.cons s_var .nil)) (s_callV (hm_F1_width_of n (Nat.le_trans (Nat.le_of_ble_eq_true rfl) hn)) (.cons s_var .nil))))) b_nil))))))))
theorem case__law_is_case_right_1 (t : T) : (fF1__law_is_case_right [t, .int (Int.ofNat 1)] fun v fr _ => isTrue v fr) = some (.bl true) := by kernel_rfl
theorem case__law_is_case_right_2 (t : T) : (fF1__law_is_case_right [t, .int (Int.ofNat 2)] fun v fr _ => isTrue v fr) = some (.bl true) := by kernel_rfl
theorem case__law_is_case_right_3 (t : T) : (fF1__law_is_case_right [t, .int (Int.ofNat 3)] fun v fr _ => isTrue v fr) = some (.bl true) := by kernel_rfl
theorem case__law_is_case_right_4 (t : T) : (fF1__law_is_case_right [t, .int (Int.ofNat 4)] fun v fr _ => isTrue v fr) = some (.bl true) := by kernel_rfl
theorem case__law_is_case_right_5 (t : T) : (fF1__law_is_case_right [t, .int (Int.ofNat 5)] fun v fr _ => isTrue v fr) = some (.bl true) := by kernel_rfl
theorem case__law_is_case_right_6 (t : T) : (fF1__law_is_case_right [t, .int (Int.ofNat 6)] fun v fr _ => isTrue v fr) = some (.bl true) := by kernel_rfl
theorem case__law_is_case_right_7 (t : T) : (fF1__law_is_case_right [t, .int (Int.ofNat 7)] fun v fr _ => isTrue v fr) = some (.bl true) := by kernel_rfl
theorem case__law_is_case_right (t : T) (as : List T) (q : preR 1 7 as) : ∃ r, (fF1__law_is_case_right (t :: as) fun v fr _ => isTrue v fr) = some r := by
  obtain ⟨m, rfl, h1, h2⟩ := q
  have h : m = 1 ∨ m = 2 ∨ m = 3 ∨ m = 4 ∨ m = 5 ∨ m = 6 ∨ m = 7 := by omega
  rcases h with rfl | rfl | rfl | rfl | rfl | rfl | rfl
  · exact ⟨_, case__law_is_case_right_1 t⟩
  · exact ⟨_, case__law_is_case_right_2 t⟩
  · exact ⟨_, case__law_is_case_right_3 t⟩
  · exact ⟨_, case__law_is_case_right_4 t⟩
  · exact ⟨_, case__law_is_case_right_5 t⟩
  · exact ⟨_, case__law_is_case_right_6 t⟩
  · exact ⟨_, case__law_is_case_right_7 t⟩
noncomputable def gC__law_is_case_right : Fn := gO Hd (fnS Wk Dk 60 26) false (preR 1 7) dfT
theorem ioC__law_is_case_right : IsOrc Hd (fnS Wk Dk 60 26) false (preR 1 7) postT := case_orc (AF1 60) rfl hF1__law_is_case_right (by decide) case__law_is_case_right
noncomputable def OF2 (n f : Nat) : Option Fn := bif Nat.beq f 21 then some (gAt 2 gD n) else bif Nat.beq f 26 then some (gAt 60 gC__law_is_case_right n) else none
noncomputable def F2 : Nat → Nat → Fn := fnO Wk D1 OF2
theorem AF2 : ∀ n, AgF Hd HF (F2 n) (fnS Wk Dk n) := ag_fnO hD1 fun n f g e => by
  unfold OF2 at e
  rcases o_cons e with ⟨rfl, rfl⟩ | e
  · exact ⟨rfl, fun t ts ht => gAt_ag mono ioD n ht ts⟩
  rcases o_cons e with ⟨rfl, rfl⟩ | e
  · exact ⟨rfl, fun t ts ht => gAt_ag mono ioC__law_is_case_right n ht ts⟩
  cases e
noncomputable def fF2_draw : FnC := drawC gD
theorem hF2_draw : Snd F2 21 2 fF2_draw := orc_snd ioD dfD_ok (by decide) (fun _ _ => rfl) drawC_ok
theorem e_gD : F2 99 21 = gD := by
  funext ts
  show gAt 2 gD 98 ts = gD ts
  unfold gAt
  rw [if_pos (by decide)]
theorem e_gC__law_is_case_right : F2 99 26 = gC__law_is_case_right := by
  funext ts
  show gAt 60 gC__law_is_case_right 98 ts = gC__law_is_case_right ts
  unfold gAt
  rw [if_pos (by decide)]
def lE (ns : List Int) (t : T) : En := [some ⟨.scr ns, .sh⟩, some ⟨t, .own⟩, none]
def restL : List S := df_law.body.drop 1
noncomputable def cL : SC := (cCons (cRet (e1v fAll (cComp [2] (pS 2) (iR1 (cCst (.int 10))) ccN (cCase1 1 (caseN gD gC__law_is_case_right 1 7))))) cNil)
theorem law_snd (n : Nat) (hn : 0 ≤ n) (e99 : n = 99) : SndSs (F2 n) NoC Wk restL cL := (b_cons (b_ret (s_1v fAll_ok (s_comp sp_s (si_r1 s_cst) sc_none (s_case1 (a := 1) (m := 7) ioD dfD_ok ioC__law_is_case_right (fun _ _ => rfl) (by subst e99; exact e_gD) (by subst e99; exact e_gC__law_is_case_right) (by decide) (by decide) (by decide) (by decide))))) b_nil)
theorem law_run (ns : List Int) (t : T) : cL (lE ns t) (fun _ => none) (fun v fr _ => isTrue v fr) (fun _ => none) (fun _ => none) = some (.bl true) := by kernel_rfl
theorem law_ok (ns : List Int) (hn : ns.length ≤ 63) : fnS Wk Dk 100 27 [.scr ns] = .ok (.bl true, false, none) := by
  obtain ⟨t, h1, h2⟩ := hand_ok (n := 98) (W := Wk) hd_hand (k := fun x => 83 + 7 * x) (fun _ _ _ _ _ => rfl) (fun x hx => by omega) ns hn
  have s0 : exec (fnS Wk Dk 99) (fun _ _ => .bad) Wk (.set 1 (.call 20 [.var 0])) [some ⟨.scr ns, .sh⟩, none, none] = .ok (.nx, lE ns t) :=
    ex_set (ev_call (os := [.v (.scr ns) false]) (ts := [.scr ns]) rfl rfl rfl h1 rfl) rfl
  obtain ⟨e, he⟩ := law_end (AF2 99) (ok := (by decide +kernel : okSs HF (some 1) restL = true)) (law_snd 99 (by decide) rfl) (env := lE ns t) (t := t) (m := .own) rfl (by simp) h2 (law_run ns t)
  exact fn_ret rfl rfl (d := df_law) ((exs_cons s0).trans he) rfl
end DL
namespace DL
open PySem PySem.Spec PyProof.Rows L2 DD
theorem ok : allOk rs G fa = true := by decide +kernel
def nm0 : List PySem.Str := [PySem.Str.ofString "__name__", PySem.Str.ofString "DrawnError", PySem.Str.ofString "Unlike", PySem.Str.ofString "NoNumber", PySem.Str.ofString "NoType", PySem.Str.ofString "MOST_TYPED", PySem.Str.ofString "is_integer", PySem.Str.ofString "is_within", PySem.Str.ofString "all_types", PySem.Str.ofString "types", PySem.Str.ofString "is_type", PySem.Str.ofString "check_type", PySem.Str.ofString "factorial", PySem.Str.ofString "stayers", PySem.Str.ofString "class_size", PySem.Str.ofString "marks_of", PySem.Str.ofString "shape_by", PySem.Str.ofString "raw_strips", PySem.Str.ofString "raw_turned", PySem.Str.ofString "turned_shape"]
def nm1 : List PySem.Str := [PySem.Str.ofString "raw_hooks", PySem.Str.ofString "raw_width", PySem.Str.ofString "width_of", PySem.Str.ofString "contents", PySem.Str.ofString "raw_character", PySem.Str.ofString "character", PySem.Str.ofString "_law_hand", PySem.Str.ofString "_law_draw", PySem.Str.ofString "_law_some", PySem.Str.ofString "_law_types", PySem.Str.ofString "_law_factorial", PySem.Str.ofString "_law_sign", PySem.Str.ofString "_law_is_case_right"]
def loose : List PySem.Str := nm0 ++ nm1
abbrev Rr : PySem.W.OpenRow := PySem.W.OpenLaw.row PySem.Challenge.rw_doubledrawn_k22_whole_what_characters_ha
abbrev hk : PySem.W.Hook := He.hookD 4 fa fn
def ob (s : PySem.W.SharedT) : He.AlD := He.obsDG 4 fa fn (HandSHeadRun.getT s)
theorem ob_eq (s : PySem.W.SharedT) : ob s = hk.obs s.abs := He.obsDG_eq (HandSHeadRun.getT_eq s)
theorem headRun (w : World) : HandSHeadRun.RunEq Rr (PySem.W.view Rr.prog [36]) hk ob 3000 loose w := by
  intro os
  kernel_rfl
end DL
open PySem PySem.W PySem.Calls PyProof.Rows
theorem PySem.Challenge.cw_doubledrawn_k22_whole_what_characters_ha_holds : PySem.Challenge.rw_doubledrawn_k22_whole_what_characters_ha.Holds := by
  w_on; o_law
  refine HandSHeadRun.head_any (r := DL.Rr) (q := view DL.Rr.prog [36]) (H := DL.hk) (ob := DL.ob) (M := 3000) (loose := DL.loose) (d := HandSHeadRun.topDef DL.Rr.prog 36) (kwd := []) DL.ob_eq (by kernel_rfl) (fun s => by kernel_rfl)
    DL.headRun (by kernel_rfl) (by kernel_rfl) (by kernel_rfl) (by rfl) (by first | assumption | decide +kernel) (by decide +kernel) ⟨rfl, rfl, rfl, rfl, rfl, by decide +kernel⟩ ?hw ?hc
  case hw => w_witness2
  case hc =>
    refine L2.walk_ofE (l := PySem.Challenge.rw_doubledrawn_k22_whole_what_characters_ha) (n := 63) (k := 100) (x := "script") (CX := L2.CX0) rfl (by decide) (by kernel_rfl) ⟨rfl, by decide, by decide⟩ ?F (fun _ _ _ _ z => z)
    intro w mg fA hh Y GG hm0
    obtain ⟨K, KX, c⟩ := Y
    have hm1 : mg ("law" : PySem.Str) = some (.ref fA) := by
      have e : (HandSHeadRun.topDef DL.Rr.prog 36).name = ("law" : PySem.Str) := by kernel_rfl
      rw [← e]
      exact hm0
    obtain ⟨fd, q1, sp, q2, q3⟩ := DD.fin (P := (PySem.Challenge.rw_doubledrawn_k22_whole_what_characters_ha).prog) (w := w) DL.ok DL.bnd KX GG (show He.SaysD DL.fa (DL.rs.map (·.d)) K from c) (i := 27) (r := DL.r_law) (x := "law") rfl rfl (by simp [DL.fa]) rfl rfl rfl hm1 DL.Wk 100 DL.law_ok
    exact ⟨K, fd, sp, KX, q1, q2, q3⟩
