import PyProof.Rows.All
import Wide.All
import OpenK.AllK
import Wide.FinOn
import KE.SortData
import KE.DataMinMax
import KE.DataFind
import HandS.ForMost
import HandS.Deep
import HandS.TupAny
import KE.KTupSum
import HandS.TupMul
import HandS.IsInst
import HandS.SortKw
import HandS.Style
import KE.GoesEnum
import KE.GoesMore
import HandS.Zip
import HandS.Codes
import HandS.Comp
import HandS.Ends
import HandS.Head0
import HandS.Head1
import HandS.Head2
import HandS.HeadEnd
import HandS.HeadHook1
import HandS.HeadHook2
import Lean
import KE.KStateDown
import HandS.Defaults
import PySem.Challenge.RW_doubledrawn_k18_whole_strips_hooks_and_w
set_option Elab.async false
set_option linter.all false
set_option maxRecDepth 100000
set_option maxHeartbeats 0

/-! DEv: a pure language (values are trees, lists are owned by slots) and its evaluator. -/
namespace DD
open PySem

/-- values as trees -/
inductive T where
  | non | bl (b : Bool) | int (i : Int) | str (x : Str) | tup (xs : List T) | lst (xs : List T)
  | dct (kvs : List (T × T)) | ins (c : Nat) (fs : List (Str × T)) | scr (ns : List Int)
  deriving Inhabited

mutual
def T.beq : T → T → Bool
  | .non, .non => true
  | .bl a, .bl b => a == b
  | .int a, .int b => a == b
  | .str a, .str b => a == b
  | .tup xs, .tup ys => T.beqs xs ys
  | .lst xs, .lst ys => T.beqs xs ys
  | .dct xs, .dct ys => T.beqk xs ys
  | .ins c xs, .ins d ys => c == d && T.beqf xs ys
  | .scr a, .scr b => a == b
  | _, _ => false
def T.beqs : List T → List T → Bool
  | [], [] => true
  | x :: xs, y :: ys => T.beq x y && T.beqs xs ys
  | _, _ => false
def T.beqk : List (T × T) → List (T × T) → Bool
  | [], [] => true
  | (a, b) :: xs, (c, d) :: ys => T.beq a c && T.beq b d && T.beqk xs ys
  | _, _ => false
def T.beqf : List (Str × T) → List (Str × T) → Bool
  | [], [] => true
  | (a, b) :: xs, (c, d) :: ys => (a == c) && T.beq b d && T.beqf xs ys
  | _, _ => false
end

mutual
/-- as the library's data -/
def T.toD : T → PyData
  | .non => .none
  | .bl b => .bool b
  | .int i => .int i
  | .str x => .str x
  | .tup xs => .tuple (T.toDs xs)
  | .lst xs => .list (T.toDs xs)
  | .dct _ => .none
  | .ins _ _ => .none
  | .scr _ => .none
def T.toDs : List T → List PyData
  | [] => []
  | x :: xs => T.toD x :: T.toDs xs
end
theorem T.toDs_map : ∀ xs : List T, T.toDs xs = xs.map T.toD
  | [] => rfl
  | x :: xs => by rw [T.toDs, T.toDs_map xs]; rfl

mutual
/-- data of depth below n, texts of the plain kind -/
def T.dat : Nat → T → Bool
  | _, .non => true
  | _, .bl _ => true
  | _, .int _ => true
  | _, .str x => PySem.PyData.strOk x
  | 0, .tup _ => false
  | n + 1, .tup xs => T.dats n xs
  | 0, .lst _ => false
  | n + 1, .lst xs => T.dats n xs
  | _, .dct _ => false
  | _, .ins _ _ => false
  | _, .scr _ => false
def T.dats : Nat → List T → Bool
  | _, [] => true
  | n, x :: xs => T.dat n x && T.dats n xs
end

/-- Python's == of data -/
def T.eqv (a b : T) : Bool := PyData.eqv a.toD b.toD
/-- Python's < of alike data -/
def T.ltv (a b : T) : Bool := PySem.W.dataLt a.toD b.toD
def T.alk (a b : T) : Bool := PySem.W.alike a.toD b.toD

def isKey0 : T → Bool
  | .int _ => true
  | .str _ => true
  | _ => false
def isKey1 : T → Bool
  | .tup xs => xs.all isKey0
  | _ => false
def lookT (k : T) : List (T × T) → Option T
  | [] => none
  | (a, b) :: r => if T.beq a k then some b else lookT k r
def putT (k v : T) (kvs : List (T × T)) : List (T × T) := if kvs.any fun p => T.beq p.1 k then kvs.map fun p => if T.beq p.1 k then (p.1, v) else p else kvs ++ [(k, v)]
/-- a key that fits the keys of a dict -/
def fitK (k : T) (kvs : List (T × T)) : Bool := (isKey0 k && kvs.all fun p => isKey0 p.1) || (isKey1 k && kvs.all fun p => isKey1 p.1)

def line : Nat := 16777216
def ixAt (xs : List T) (i : Int) : Option T := if 0 ≤ i then xs[i.toNat]? else if -(xs.length : Int) ≤ i then xs[(i + xs.length).toNat]? else none
def ixPl (n : Nat) (i : Int) : Option Nat := if 0 ≤ i then (if i < n then some i.toNat else none) else if -(n : Int) ≤ i then some (i + n).toNat else none
def clipI (n : Nat) (i : Int) : Nat := if i < 0 then (i + n).toNat else min i.toNat n
def clipO (n d : Nat) : Option Int → Nat
  | none => d
  | some i => clipI n i
def cutT (xs : List T) (lo hi : Option Int) : List T := (xs.drop (clipO xs.length 0 lo)).take (clipO xs.length xs.length hi - clipO xs.length 0 lo)
def insT (x : T) : List T → List T
  | [] => [x]
  | y :: ys => if T.ltv y x then y :: insT x ys else x :: y :: ys
/-- stable sorting by < -/
def sortT : List T → List T
  | [] => []
  | x :: xs => insT x (sortT xs)
def insTr (x : T) : List T → List T
  | [] => [x]
  | y :: ys => if T.ltv x y then y :: insTr x ys else x :: y :: ys
/-- stable sorting, falling -/
def sortTr : List T → List T
  | [] => []
  | x :: xs => insTr x (sortTr xs)
def isTupC : T → Bool
  | .tup (_ :: _) => true
  | _ => false
def noTupNon : T → Bool
  | .tup _ => false
  | .non => false
  | _ => true
def alkAll (xs : List T) : Bool := xs.all fun x => xs.all fun y => T.alk x y
/-- what sorts: all tuples with something in them, or no tuple, no None -/
def srtOk (xs : List T) : Bool := T.dats 40 xs && alkAll xs &&
  (xs.all isTupC || xs.all noTupNon)
def sumI : List T → Option Int
  | [] => some 0
  | .int i :: r => (sumI r).map (i + ·)
  | _ :: _ => none
def blsT : List T → Option (List Bool)
  | [] => some []
  | .bl b :: r => (blsT r).map (b :: ·)
  | _ :: _ => none
def seqOf : T → Option (List T)
  | .tup xs => some xs
  | .lst xs => some xs
  | _ => none

inductive Prim where
  | add | sub | mul | fdiv | mod | pow | neg
  | eq | ne | lt | le | gt | ge | isN | notN | inn | notin | ix
  | len | sum | abs | int | tuple | list | sorted | sortedRev | min1 | max1 | min2 | max2 | all | any
  | isInt | isBool | isTup | isList | isStr | isDict | isSeq
  | lenSet | sortedSet | count | index | get2 | get1 | repr | str
  | slL | slU | slLU | slRev
  deriving DecidableEq

def small64 (i : Int) : Bool := decide (-(2 ^ 64) < i) && decide (i < 2 ^ 64)

def dedup : List T → List T
  | [] => []
  | x :: xs => if xs.any fun y => T.beq y x then dedup xs else x :: dedup xs

def mulOk (i j : Int) : Bool := small64 i || small64 j

def one (f : T → Option T) : List T → Option T
  | [a] => f a
  | _ => none
def two (f : T → T → Option T) : List T → Option T
  | [a, b] => f a b
  | _ => none
def three (f : T → T → T → Option T) : List T → Option T
  | [a, b, c] => f a b c
  | _ => none
def sAdd : T → T → Option T
  | .int i, .int j => some (.int (i + j))
  | .tup a, .tup b => if a.length + b.length ≤ line then some (.tup (a ++ b)) else none
  | .lst a, .lst b => if a.length + b.length ≤ line then some (.lst (a ++ b)) else none
  | .str a, .str b => if a.length + b.length ≤ line then some (.str (a ++ b)) else none
  | _, _ => none
def sSub : T → T → Option T
  | .int i, .int j => some (.int (i - j))
  | _, _ => none
def sMul : T → T → Option T
  | .int i, .int j => if mulOk i j then some (.int (i * j)) else none
  | .lst xs, .int k => if (-(2 ^ 63) ≤ k ∧ k < 2 ^ 63) ∧ xs.length * k.toNat ≤ line then some (.lst (List.replicate k.toNat xs).flatten) else none
  | .tup xs, .int k => if xs.length ≤ 1000 ∧ k ≤ 1000 ∧ -(2 ^ 63) ≤ k then some (.tup (List.replicate k.toNat xs).flatten) else none
  | _, _ => none
def sFdiv : T → T → Option T
  | .int i, .int j => if 0 < j ∧ j < 1073741824 then some (.int (i / j)) else none
  | _, _ => none
def sMod : T → T → Option T
  | .int i, .int j => if 0 < j then some (.int (i % j)) else none
  | _, _ => none
def sPow : T → T → Option T
  | .int i, .int j => if 0 ≤ j ∧ j ≤ 1000000 ∧ i.natAbs < 2 ^ 64 then some (.int (i ^ j.toNat)) else none
  | _, _ => none
def sNeg : T → Option T
  | .int i => some (.int (-i))
  | _ => none
def sEq (a b : T) : Option T := if T.dat 60 a && T.dat 60 b then some (.bl (T.eqv a b)) else none
def sNe (a b : T) : Option T := if T.dat 60 a && T.dat 60 b then some (.bl (!T.eqv a b)) else none
def sLt : T → T → Option T
  | .int i, .int j => some (.bl (decide (i < j)))
  | _, _ => none
def sLe : T → T → Option T
  | .int i, .int j => some (.bl (decide (i ≤ j)))
  | _, _ => none
def sGt : T → T → Option T
  | .int i, .int j => some (.bl (decide (j < i)))
  | _, _ => none
def sGe : T → T → Option T
  | .int i, .int j => some (.bl (decide (j ≤ i)))
  | _, _ => none
def isNon : T → Bool
  | .non => true
  | _ => false
def sIsN (a b : T) : Option T := if isNon b then some (.bl (isNon a)) else none
def sNotN (a b : T) : Option T := if isNon b then some (.bl (!isNon a)) else none
def sIn (x : T) : T → Option T
  | .lst ys => if T.dat 59 x && T.dats 59 ys then some (.bl (ys.any fun y => T.eqv y x)) else none
  | .tup ys => if T.dat 59 x && T.dats 59 ys then some (.bl (ys.any fun y => T.eqv y x)) else none
  | _ => none
def sNotin (x : T) : T → Option T
  | .lst ys => if T.dat 59 x && T.dats 59 ys then some (.bl (!ys.any fun y => T.eqv y x)) else none
  | .tup ys => if T.dat 59 x && T.dats 59 ys then some (.bl (!ys.any fun y => T.eqv y x)) else none
  | _ => none
def sIx : T → T → Option T
  | .lst xs, .int i => ixAt xs i
  | .tup xs, .int i => ixAt xs i
  | _, _ => none
def sLen : T → Option T
  | .lst xs => some (.int xs.length)
  | .tup xs => some (.int xs.length)
  | .str x => if x.length ≤ line then some (.int x.length) else none
  | _ => none
def sSum : T → Option T
  | .lst xs => (sumI xs).map .int
  | .tup xs => (sumI xs).map .int
  | _ => none
def sAbs : T → Option T
  | .int i => some (.int (if i < 0 then -i else i))
  | _ => none
def sInt : T → Option T
  | .int i => some (.int i)
  | .bl b => some (.int (if b then 1 else 0))
  | _ => none
def sTuple (a : T) : Option T := (seqOf a).map .tup
def sList (a : T) : Option T := (seqOf a).map .lst
def sSorted : T → Option T
  | .lst xs => if srtOk xs then some (.lst (sortT xs)) else none
  | _ => none
def sSortedRev : T → Option T
  | .lst xs => if srtOk xs then some (.lst (sortTr xs)) else none
  | _ => none
def sMin2 : T → T → Option T
  | .int i, .int j => some (.int (if j < i then j else i))
  | _, _ => none
def sMax2 : T → T → Option T
  | .int i, .int j => some (.int (if j > i then j else i))
  | _, _ => none
def minOk (xs : List T) : Bool := T.dats 40 xs && alkAll xs && xs.all fun y => !isNon y
def sMin1 (a : T) : Option T := match seqOf a with
  | some (x :: xs) => if minOk (x :: xs) then some (xs.foldl (fun a y => if T.ltv y a then y else a) x) else none
  | _ => none
def sMax1 (a : T) : Option T := match seqOf a with
  | some (x :: xs) => if minOk (x :: xs) then some (xs.foldl (fun a y => if T.ltv a y then y else a) x) else none
  | _ => none
def sAll : T → Option T
  | .lst xs => (blsT xs).map fun bs => .bl (bs.all id)
  | _ => none
def sAny : T → Option T
  | .lst xs => (blsT xs).map fun bs => .bl (bs.any id)
  | _ => none
def tyInt : T → Bool
  | .int _ => true
  | .bl _ => true
  | _ => false
def tyBool : T → Bool
  | .bl _ => true
  | _ => false
def tyTup : T → Bool
  | .tup _ => true
  | _ => false
def tyList : T → Bool
  | .lst _ => true
  | _ => false
def tyStr : T → Bool
  | .str _ => true
  | _ => false
def tyDict : T → Bool
  | .dct _ => true
  | _ => false
def tySeq : T → Bool
  | .tup _ => true
  | .lst _ => true
  | _ => false
def isScr : T → Bool
  | .scr _ => true
  | _ => false
def isIns : T → Bool
  | .ins _ _ => true
  | _ => false
def sTy (f : T → Bool) (a : T) : Option T := if isScr a || isIns a then none else some (.bl (f a))
def sLenSet (a : T) : Option T := match seqOf a with
  | some xs => if xs.all isKey0 then some (.int (dedup xs).length) else none
  | none => none
def sSortedSet (a : T) : Option T := match seqOf a with
  | some xs => if srtOk xs then some (.lst (sortT (dedup xs))) else none
  | none => none
def sCount (a x : T) : Option T := match seqOf a with
  | some xs => if T.dats 40 xs && T.dat 40 x then some (.int (xs.countP fun y => T.eqv y x)) else none
  | none => none
def sIndex (a x : T) : Option T := match seqOf a with
  | some xs => if T.dats 40 xs && T.dat 40 x then (xs.findIdx? fun y => T.eqv y x).map fun (n : Nat) => .int n else none
  | none => none
def sGet2 : T → T → T → Option T
  | .dct kvs, k, d => if fitK k kvs then some ((lookT k kvs).getD d) else none
  | _, _, _ => none
def sGet1 : T → T → Option T
  | .dct kvs, k => if fitK k kvs then some ((lookT k kvs).getD .non) else none
  | _, _ => none
def sSlice (a : T) (lo hi : Option Int) : Option T := match a with
  | .lst xs => some (.lst (cutT xs lo hi))
  | .tup xs => some (.tup (cutT xs lo hi))
  | .scr xs => some (.lst (cutT (xs.map .int) lo hi))
  | _ => none
def sSlL : T → T → Option T
  | a, .int i => sSlice a (some i) none
  | _, _ => none
def sSlU : T → T → Option T
  | a, .int i => sSlice a none (some i)
  | _, _ => none
def sSlLU : T → T → T → Option T
  | a, .int i, .int j => sSlice a (some i) (some j)
  | _, _, _ => none
def sSlRev : T → Option T
  | .lst xs => some (.lst xs.reverse)
  | _ => none
def Prim.sem : Prim → List T → Option T
  | .add => two sAdd | .sub => two sSub | .mul => two sMul | .fdiv => two sFdiv | .mod => two sMod | .pow => two sPow | .neg => one sNeg
  | .eq => two sEq | .ne => two sNe | .lt => two sLt | .le => two sLe | .gt => two sGt | .ge => two sGe
  | .isN => two sIsN | .notN => two sNotN | .inn => two sIn | .notin => two sNotin | .ix => two sIx
  | .len => one sLen | .sum => one sSum | .abs => one sAbs | .int => one sInt | .tuple => one sTuple | .list => one sList
  | .sorted => one sSorted | .sortedRev => one sSortedRev | .min1 => one sMin1 | .max1 => one sMax1 | .min2 => two sMin2 | .max2 => two sMax2
  | .all => one sAll | .any => one sAny
  | .isInt => one (sTy tyInt) | .isBool => one (sTy tyBool) | .isTup => one (sTy tyTup) | .isList => one (sTy tyList) | .isStr => one (sTy tyStr) | .isDict => one (sTy tyDict) | .isSeq => one (sTy tySeq)
  | .lenSet => one sLenSet | .sortedSet => one sSortedSet | .count => two sCount | .index => two sIndex | .get2 => three sGet2 | .get1 => two sGet1
  | .repr => fun _ => none | .str => fun _ => none
  | .slL => two sSlL | .slU => two sSlU | .slLU => three sSlLU | .slRev => one sSlRev

def isCell : T → Bool
  | .lst _ => true
  | .dct _ => true
  | _ => false
/-- does the operation make a new object (where its value is a list or dict)? -/
def Prim.makes : Prim → Bool
  | .add | .mul | .list | .sorted | .sortedRev | .sortedSet | .slL | .slU | .slLU | .slRev => true
  | _ => false

/-! ### slots -/
inductive Md where
  | own | sh | io
  deriving DecidableEq
structure Sl where
  t : T
  m : Md
abbrev En := List (Option Sl)

inductive R (α : Type) where
  | ok (a : α)
  | exc (c : Nat) (fs : List (Str × T)) (env : En)
  | bad
def R.bind {α β : Type} : R α → (α → R β) → R β
  | .ok a, f => f a
  | .exc c fs env, _ => .exc c fs env
  | .bad, _ => .bad
def R.opt {α : Type} : Option α → R α
  | some a => .ok a
  | none => .bad

/-- an expression's outcome: a value (fresh: a new list or dict that nothing else holds), or a slot that is read in place -/
inductive OV where
  | v (t : T) (fr : Bool)
  | s (i : Nat)
def getS (env : En) (i : Nat) : Option Sl := (env[i]?).join
def OV.res (env : En) : OV → Option T
  | .v t _ => some t
  | .s i => (getS env i).map (·.t)

inductive P where
  | s (i : Nat)
  | t (ps : List P)

inductive ItK where
  | val | range1 | range2 | range3 | enum | zip | items | values
  deriving DecidableEq

inductive E where
  | cst (t : T)
  | var (i : Nat) | mv (i : Nat) | peek (i : Nat) | io (i : Nat)
  | tup (es : List E) | lst (es : List E)
  | prim (p : Prim) (es : List E)
  | and (a b : E) | or (a b : E) | not (a : E)
  | ite (c a b : E)
  | chain (o1 o2 : Prim) (a b c : E)
  | call (f : Nat) (es : List E)
  | mk (c : Nat) (es : List E)
  | fld (e : E) (x : Str)
  | pop (i : Nat) | popAt (i : Nat) (e : E)
  | comp (own : List Nat) (g : P) (k : ItK) (es : List E) (cond : Option E) (elt : E)
  | comp2 (own : List Nat) (g : P) (k : ItK) (es : List E) (g2 : P) (k2 : ItK) (es2 : List E) (own2 : List Nat) (cond : Option E) (elt : E)
  | dcomp (own : List Nat) (g : P) (k : ItK) (es : List E) (key val : E)
  | dct (kvs : List (E × E))

def zipT : List T → List T → List T
  | x :: xs, y :: ys => .tup [x, y] :: zipT xs ys
  | _, _ => []
def enumT (n : Nat) : List T → List T
  | [] => []
  | x :: xs => .tup [.int n, x] :: enumT (n + 1) xs
def rangeT (lo : Int) : Nat → List T
  | 0 => []
  | n + 1 => .int lo :: rangeT (lo + 1) n
def in62 (i : Int) : Bool := decide (-(2 ^ 62) ≤ i) && decide (i < 2 ^ 62)
def ItK.walk : ItK → List T → Option (List T)
  | .val, [.lst xs] => some xs
  | .val, [.tup xs] => some xs
  | .range1, [.int j] => if in62 j then some (rangeT 0 j.toNat) else none
  | .range2, [.int i, .int j] => if in62 i && in62 j then some (rangeT i (j - i).toNat) else none
  | .enum, [.lst xs] => some (enumT 0 xs)
  | .enum, [.tup xs] => some (enumT 0 xs)
  | .zip, [.lst xs, .lst ys] => some (zipT xs ys)
  | .zip, [.tup xs, .tup ys] => some (zipT xs ys)
  | .items, [.dct kvs] => some (kvs.map fun p => .tup [p.1, p.2])
  | .values, [.dct kvs] => some (kvs.map (·.2))
  | _, _ => none

def setS (env : En) (i : Nat) (t : T) (fr : Bool) : R En :=
  match env[i]? with
  | some (some ⟨_, .io⟩) => .bad
  | some _ => .ok (env.set i (some ⟨t, if fr then .own else .sh⟩))
  | none => .bad
mutual
def asgP : P → T → En → R En
  | .s i, t, env => setS env i t false
  | .t ps, .tup ts, env => if ps.length == ts.length then asgPs ps ts env else .bad
  | .t _, _, _ => .bad
def asgPs : List P → List T → En → R En
  | [], _, env => .ok env
  | p :: ps, t :: ts, env => (asgP p t env).bind fun env => asgPs ps ts env
  | _ :: _, [], _ => .bad
end
/-- an owned slot's value put for by another -/
def upS (env : En) (i : Nat) (f : T → Option T) : R En :=
  match getS env i with
  | some ⟨t, .own⟩ => (R.opt (f t)).bind fun t' => .ok (env.set i (some ⟨t', .own⟩))
  | some ⟨t, .io⟩ => (R.opt (f t)).bind fun t' => .ok (env.set i (some ⟨t', .io⟩))
  | _ => .bad
def wipeE (env : En) : List Nat → En
  | [] => env
  | i :: is => (wipeE env is).set i none
/-- a slot that a block's own name covers, kept -/
def sav (env : En) (i : Nat) : Option Sl := match getS env i with
  | some ⟨_, .io⟩ => none
  | o => o
def unE (old : En) : En → List Nat → En
  | e, [] => e
  | e, i :: is => unE old (e.set i (sav old i)) is
/-- behind a block: its own names are as they were ahead of it -/
def backE (old new : En) (own : List Nat) : En := unE old (wipeE new own) own

def vals (env : En) : List OV → Option (List T)
  | [] => some []
  | o :: os => match o.res env, vals env os with
    | some t, some ts => some (t :: ts)
    | _, _ => none
/-- values that are put into something: no slots read in place -/
def plain : List OV → Option (List T)
  | [] => some []
  | .v t _ :: os => (plain os).map (t :: ·)
  | .s _ :: _ => none

abbrev Fn := List T → R (T × Bool × Option T)

/-- the slot that is passed to be changed -/
def ioO : List OV → Option Nat
  | [] => none
  | .s i :: _ => some i
  | .v _ _ :: os => ioO os
/-- just what is handed on to be changed is read in place -/
def argsOk : List E → List OV → Bool
  | [], [] => true
  | .io _ :: es, .s _ :: os => argsOk es os
  | .io _ :: _, .v _ _ :: _ => false
  | _ :: es, .v _ _ :: os => argsOk es os
  | _, _ => false
def putIo : Option Nat → Option T → En → R En
  | none, none, env => .ok env
  | some i, some t, env => upS env i fun _ => some t
  | _, _, _ => .bad

def loopC (f : En → R (OV × En)) (c : En → R (Bool × En)) (g : P) (own : List Nat) : List T → List T → En → R (List T × En)
  | [], acc, env => .ok (acc, env)
  | x :: xs, acc, env => (asgP g x (wipeE env own)).bind fun env => (c env).bind fun (b, env) =>
      if b then (f env).bind fun (o, env) => match o with
        | .v t _ => if acc.length < line then loopC f c g own xs (acc ++ [t]) env else .bad
        | .s _ => .bad
      else loopC f c g own xs acc env
/-- the outer of two: the inner hands on what is made so far -/
def loopC2 (h : List T → En → R (List T × En)) (g : P) (own : List Nat) : List T → List T → En → R (List T × En)
  | [], acc, env => .ok (acc, env)
  | x :: xs, acc, env => (asgP g x (wipeE env own)).bind fun env => (h acc env).bind fun (acc, env) => loopC2 h g own xs acc env
def loopD (f : En → R (T × T × En)) (g : P) (own : List Nat) : List T → List (T × T) → En → R (List (T × T) × En)
  | [], acc, env => .ok (acc, env)
  | x :: xs, acc, env => (asgP g x (wipeE env own)).bind fun env => (f env).bind fun (k, v, env) =>
      if fitK k acc && decide (acc.length < line) then loopD f g own xs (putT k v acc) env else .bad

def asBl : OV → R Bool
  | .v (.bl b) _ => .ok b
  | _ => .bad

section
variable (Φ Ψ : Nat → Fn)
mutual
def ev : E → En → R (OV × En)
  | .cst t, env => .ok (.v t false, env)
  | .var i, env => match getS env i with
    | some ⟨t, .io⟩ => .bad
    | some ⟨t, _⟩ => .ok (.v t false, env.set i (some ⟨t, .sh⟩))
    | none => .bad
  | .mv i, env => match getS env i with
    | some ⟨t, .own⟩ => .ok (.v t true, env.set i none)
    | some ⟨t, .sh⟩ => .ok (.v t false, env.set i none)
    | _ => .bad
  | .peek i, env => match getS env i with
    | some _ => .ok (.s i, env)
    | none => .bad
  | .io i, env => match getS env i with
    | some ⟨_, .own⟩ => .ok (.s i, env)
    | some ⟨_, .io⟩ => .ok (.s i, env)
    | _ => .bad
  | .tup es, env => (evs es env).bind fun (os, env) => (R.opt (plain os)).bind fun ts => if ts.length ≤ line then .ok (.v (.tup ts) false, env) else .bad
  | .lst es, env => (evs es env).bind fun (os, env) => (R.opt (plain os)).bind fun ts => if ts.length ≤ line then .ok (.v (.lst ts) true, env) else .bad
  | .prim p es, env => (evs es env).bind fun (os, env) => (R.opt (vals env os)).bind fun ts => (R.opt (p.sem ts)).bind fun t => .ok (.v t (p.makes && isCell t), env)
  | .and a b, env => (ev a env).bind fun (o, env) => (asBl o).bind fun c => if c then (ev b env).bind fun (o, env) => (asBl o).bind fun d => .ok (.v (.bl d) false, env) else .ok (.v (.bl false) false, env)
  | .or a b, env => (ev a env).bind fun (o, env) => (asBl o).bind fun c => if c then .ok (.v (.bl true) false, env) else (ev b env).bind fun (o, env) => (asBl o).bind fun d => .ok (.v (.bl d) false, env)
  | .not a, env => (ev a env).bind fun (o, env) => (asBl o).bind fun c => .ok (.v (.bl (!c)) false, env)
  | .ite c a b, env => (ev c env).bind fun (o, env) => (asBl o).bind fun d => if d then ev a env else ev b env
  | .chain o1 o2 a b c, env => (ev a env).bind fun (x, env) => (ev b env).bind fun (y, env) => (R.opt (vals env [x, y])).bind fun ts => (R.opt (o1.sem ts)).bind fun t =>
      (asBl (.v t false)).bind fun d => if d then (ev c env).bind fun (z, env) => (R.opt (vals env [y, z])).bind fun ts => (R.opt (o2.sem ts)).bind fun t => .ok (.v t false, env) else .ok (.v (.bl false) false, env)
  | .call f es, env => (evs es env).bind fun (os, env) => (R.opt (vals env os)).bind fun ts => if argsOk es os then (match Φ f ts with
    | .ok (t, fr, out) => (putIo (ioO os) out env).bind fun env => .ok (.v t fr, env)
    | _ => .bad) else .bad
  | .mk c es, env => (evs es env).bind fun (os, env) => (R.opt (plain os)).bind fun ts => match Ψ c ts with
    | .ok (t, _, _) => .ok (.v t false, env)
    | _ => .bad
  | .fld e x, env => (ev e env).bind fun (o, env) => match o.res env with
    | some (.ins _ fs) => (R.opt (fs.lookup x)).bind fun t => .ok (.v t false, env)
    | _ => .bad
  | .pop i, env => match getS env i with
    | some ⟨.lst xs, _⟩ => (R.opt (xs[xs.length - 1]?)).bind fun t => (upS env i fun _ => some (.lst xs.dropLast)).bind fun env => .ok (.v t false, env)
    | _ => .bad
  | .popAt i e, env => (ev e env).bind fun (o, env) => match o.res env, getS env i with
    | some (.int k), some ⟨.lst xs, _⟩ => (R.opt (ixPl xs.length k)).bind fun j => (R.opt (xs[j]?)).bind fun t => (upS env i fun _ => some (.lst (xs.eraseIdx j))).bind fun env => .ok (.v t false, env)
    | _, _ => .bad
  | .comp own g k es cond elt, env => (evs es env).bind fun (os, env) => (R.opt (plain os)).bind fun ts => (R.opt (k.walk ts)).bind fun xs =>
      (loopC (fun e => ev elt e) (fun e => evc cond e) g own xs [] env).bind fun (ys, env') => .ok (.v (.lst ys) true, backE env env' own)
  | .comp2 own g k es g2 k2 es2 own2 cond elt, env => (evs es env).bind fun (os, env) => (R.opt (plain os)).bind fun ts => (R.opt (k.walk ts)).bind fun xs =>
      (loopC2 (fun acc env => (evs es2 env).bind fun (os, env) => (R.opt (plain os)).bind fun ts => (R.opt (k2.walk ts)).bind fun ys => loopC (fun e => ev elt e) (fun e => evc cond e) g2 own2 ys acc env) g own xs [] env).bind
        fun (ys, env') => .ok (.v (.lst ys) true, backE env env' own)
  | .dcomp own g k es key val, env => (evs es env).bind fun (os, env) => (R.opt (plain os)).bind fun ts => (R.opt (k.walk ts)).bind fun xs =>
      (loopD (fun e => (ev key e).bind fun (o, e) => (ev val e).bind fun (p, e) => match o, p with
        | .v a _, .v b _ => .ok (a, b, e)
        | _, _ => .bad) g own xs [] env).bind fun (ys, env') => .ok (.v (.dct ys) true, backE env env' own)
  | .dct kvs, env => (evkv kvs env).bind fun (ys, env) => .ok (.v (.dct ys) true, env)
def evs : List E → En → R (List OV × En)
  | [], env => .ok ([], env)
  | e :: es, env => (ev e env).bind fun (o, env) => (evs es env).bind fun (os, env) => .ok (o :: os, env)
def evc : Option E → En → R (Bool × En)
  | none, env => .ok (true, env)
  | some e, env => (ev e env).bind fun (o, env) => (asBl o).bind fun b => .ok (b, env)
def evkv : List (E × E) → En → R (List (T × T) × En)
  | [], env => .ok ([], env)
  | (k, v) :: r, env => (ev k env).bind fun (o, env) => (ev v env).bind fun (p, env) => match o, p with
    | .v a _, .v b _ => (evkv r env).bind fun (ys, env) => .ok ((a, b) :: ys, env)
    | _, _ => .bad
end
end

/-! ### statements -/
inductive Tg where
  | s (i : Nat)
  | ix (i : Nat) (e : E)
  | p (g : P)

inductive S where
  | set (i : Nat) (e : E)
  | asg (g : P) (e : E)
  | par (gs : List Tg) (es : List E)
  | setIx (i : Nat) (ix e : E)
  | aug (i : Nat) (p : Prim) (e : E)
  | augIx (i : Nat) (ix : E) (p : Prim) (e : E)
  | expr (e : E)
  | app (i : Nat) (e : E)
  | ext (i : Nat) (e : E)
  | ret (e : E) | retN
  | ite (c : E) (a b : List S)
  | forr (g : P) (k : ItK) (es : List E) (body : List S)
  | whil (c : E) (body : List S)
  | brk | cont | pass | raise

inductive Fl where
  | nx | rt (t : T) (fr : Bool) | bk | ct

def setIxT (t i v : T) : Option T := match t, i with
  | .lst xs, .int k => (ixPl xs.length k).map fun j => .lst (xs.set j v)
  | _, _ => none

def loopF (f : En → R (Fl × En)) (g : P) : List T → En → R (Fl × En)
  | [], env => .ok (.nx, env)
  | x :: xs, env => (asgP g x env).bind fun env => (f env).bind fun (fl, env) => match fl with
    | .nx => loopF f g xs env
    | .ct => loopF f g xs env
    | .bk => .ok (.nx, env)
    | .rt t fr => .ok (.rt t fr, env)
def loopW (c : En → R (Bool × En)) (f : En → R (Fl × En)) : Nat → En → R (Fl × En)
  | 0, _ => .bad
  | n + 1, env => (c env).bind fun (b, env) => if b then (f env).bind fun (fl, env) => match fl with
      | .nx => loopW c f n env
      | .ct => loopW c f n env
      | .bk => .ok (.nx, env)
      | .rt t fr => .ok (.rt t fr, env)
    else .ok (.nx, env)

section
variable (Φ Ψ : Nat → Fn) (W : Nat)
def asgT : Tg → T → Bool → En → R En
  | .s i, t, fr, env => setS env i t fr
  | .ix i e, t, _, env => (ev Φ Ψ e env).bind fun (o, env) => (R.opt (o.res env)).bind fun k => upS env i fun x => setIxT x k t
  | .p g, t, _, env => asgP g t env
def asgTs : List Tg → List OV → En → R En
  | [], [], env => .ok env
  | g :: gs, .v t fr :: os, env => (asgT Φ Ψ g t fr env).bind fun env => asgTs gs os env
  | _, _, _ => .bad
mutual
def exec : S → En → R (Fl × En)
  | .set i e, env => (ev Φ Ψ e env).bind fun (o, env) => match o with
    | .v t fr => (setS env i t fr).bind fun env => .ok (.nx, env)
    | .s _ => .bad
  | .asg g e, env => (ev Φ Ψ e env).bind fun (o, env) => match o with
    | .v t _ => (asgP g t env).bind fun env => .ok (.nx, env)
    | .s _ => .bad
  | .par gs es, env => (evs Φ Ψ es env).bind fun (os, env) => (asgTs Φ Ψ gs os env).bind fun env => .ok (.nx, env)
  | .setIx i ix e, env => (ev Φ Ψ e env).bind fun (o, env) => match o, getS env i with
    | .v t _, some _ => (ev Φ Ψ ix env).bind fun (k, env) => (R.opt (k.res env)).bind fun k => (upS env i fun x => setIxT x k t).bind fun env => .ok (.nx, env)
    | _, _ => .bad
  | .aug i p e, env => match getS env i with
    | some ⟨.int a, .sh⟩ => (ev Φ Ψ e env).bind fun (o, env) => match o with
      | .v (.int b) _ => (match getS env i with
        | some ⟨.int a, .sh⟩ => (R.opt (p.sem [.int a, .int b])).bind fun t => (setS env i t false).bind fun env => .ok (.nx, env)
        | _ => .bad)
      | _ => .bad
    | _ => .bad
  | .augIx i ix p e, env => (ev Φ Ψ ix env).bind fun (k, env) => match k with
    | .v k _ => (match getS env i with
        | some ⟨x, _⟩ => (R.opt (Prim.sem .ix [x, k])).bind fun a => (ev Φ Ψ e env).bind fun (o, env) => (R.opt (o.res env)).bind fun b => match a, b with
          | .int a, .int b => (R.opt (p.sem [.int a, .int b])).bind fun t => (upS env i fun x => setIxT x k t).bind fun env => .ok (.nx, env)
          | _, _ => .bad
        | none => .bad)
    | .s _ => .bad
  | .expr e, env => (ev Φ Ψ e env).bind fun (_, env) => .ok (.nx, env)
  | .app i e, env => match getS env i with
    | some ⟨.lst _, _⟩ => (ev Φ Ψ e env).bind fun (o, env) => (match o with
      | .v t _ => (upS env i fun x => match x with
        | .lst xs => if xs.length < line then some (.lst (xs ++ [t])) else none
        | _ => none).bind fun env => .ok (.nx, env)
      | .s _ => .bad)
    | _ => .bad
  | .ext i e, env => match getS env i with
    | some ⟨.lst _, _⟩ => (ev Φ Ψ e env).bind fun (o, env) => (match o with
      | .v (.lst ys) _ => (upS env i fun x => match x with
        | .lst xs => if xs.length + ys.length ≤ line then some (.lst (xs ++ ys)) else none
        | _ => none).bind fun env => .ok (.nx, env)
      | _ => .bad)
    | _ => .bad
  | .ret e, env => (ev Φ Ψ e env).bind fun (o, env) => match o with
    | .v t fr => .ok (.rt t fr, env)
    | .s _ => .bad
  | .retN, env => .ok (.rt .non false, env)
  | .ite c a b, env => (ev Φ Ψ c env).bind fun (o, env) => (asBl o).bind fun d => if d then execs a env else execs b env
  | .forr g k es body, env => (evs Φ Ψ es env).bind fun (os, env) => (R.opt (plain os)).bind fun ts => (R.opt (k.walk ts)).bind fun xs => loopF (fun env => execs body env) g xs env
  | .whil c body, env => loopW (fun env => (ev Φ Ψ c env).bind fun (o, env) => (asBl o).bind fun b => .ok (b, env)) (fun env => execs body env) W env
  | .brk, env => .ok (.bk, env)
  | .cont, env => .ok (.ct, env)
  | .pass, env => .ok (.nx, env)
  | .raise, _ => .bad
def execs : List S → En → R (Fl × En)
  | [], env => .ok (.nx, env)
  | s :: ss, env => (exec s env).bind fun (fl, env) => match fl with
    | .nx => execs ss env
    | fl => .ok (fl, env)
end
end

/-! ### defs -/
structure Df where
  np : Nat             -- how many parameters
  io : Option Nat      -- the one that is passed to be changed
  slots : Nat
  body : List S
def outOf : Option Nat → En → Option (Option T)
  | none, _ => some none
  | some i, env => match getS env i with
    | some ⟨t, .io⟩ => some (some t)
    | _ => none
def startE (io : Option Nat) (ts : List T) (n : Nat) : En := (ts.mapIdx fun i t => some ⟨t, if io = some i then Md.io else Md.sh⟩) ++ List.replicate (n - ts.length) none
def runDf (Φ Ψ : Nat → Fn) (W : Nat) (d : Df) : Fn := fun ts =>
  if ts.length == d.np then
    (execs Φ Ψ W d.body (startE d.io ts d.slots)).bind fun (fl, env) => match fl with
      | .nx => (R.opt (outOf d.io env)).bind fun out => .ok (.non, false, out)
      | .rt t fr => (R.opt (outOf d.io env)).bind fun out => .ok (t, fr, out)
      | _ => .bad
  else .bad
/-- the meaning of the defs, n calls deep -/
def fnS (W : Nat) (D : Nat → Option Df) : Nat → Nat → Fn
  | 0, _ => fun _ => .bad
  | n + 1, f => fun ts => match D f with
    | some d => runDf (fnS W D n) (fun _ _ => .bad) W d ts
    | none => .bad
end DD
/-! DRep: what a tree stands for in the abstract heap; the simulation's invariant. -/
namespace DD
open PySem L2

/-- constants of a run: the written part, where the classes stand -/
structure Cn where
  K : PySem.W.Frag
  cls : Nat → Addr

def kT : Key → T
  | .inl i => .int i
  | .inr x => .str x
mutual
def Rep (c : Cn) (H : Hp) (Av : Addr → Prop) : T → V → Prop
  | .non, v => v = .non
  | .bl b, v => v = .bl b
  | .int i, v => v = .int i
  | .str x, v => v = .str x
  | .tup ts, v => ∃ a vs, v = .ref a ∧ H a = some (.tup vs) ∧ RepL c H Av ts vs
  | .lst ts, v => ∃ a vs, v = .ref a ∧ ¬Av a ∧ H a = some (.lst vs) ∧ RepL c H Av ts vs
  | .dct kvs, v => ∃ a, v = .ref a ∧ ¬Av a ∧ ((∃ ks, H a = some (.dK ks) ∧ RepK0 c H Av kvs ks) ∨ ∃ ks, H a = some (.dT ks) ∧ RepK1 c H Av kvs ks)
  | .ins n fs, v => ∃ a dx fv, v = .ref a ∧ H a = some (.ins (c.cls n) dx fv) ∧ RepF c H Av fs fv
  | .scr ns, v => ∃ a, v = .ref a ∧ ((∃ o, H a = some (.frz o (.lst (ns.map V.int)))) ∨ SqL c.K (fun _ => none) a (ns.map V.int))
def RepL (c : Cn) (H : Hp) (Av : Addr → Prop) : List T → List V → Prop
  | [], vs => vs = []
  | t :: ts, vs => ∃ v r, vs = v :: r ∧ Rep c H Av t v ∧ RepL c H Av ts r
def RepK0 (c : Cn) (H : Hp) (Av : Addr → Prop) : List (T × T) → List (Key × V) → Prop
  | [], vs => vs = []
  | (k, t) :: ts, vs => ∃ k' v r, vs = (k', v) :: r ∧ k = kT k' ∧ Rep c H Av t v ∧ RepK0 c H Av ts r
def RepK1 (c : Cn) (H : Hp) (Av : Addr → Prop) : List (T × T) → List (List Key × V) → Prop
  | [], vs => vs = []
  | (k, t) :: ts, vs => ∃ k' v r, vs = (k', v) :: r ∧ k = .tup (k'.map kT) ∧ Rep c H Av t v ∧ RepK1 c H Av ts r
def RepF (c : Cn) (H : Hp) (Av : Addr → Prop) : List (Str × T) → List (Str × V) → Prop
  | [], vs => vs = []
  | (k, t) :: ts, vs => ∃ v r, vs = (k, v) :: r ∧ Rep c H Av t v ∧ RepF c H Av ts r
end

/-- what the evaluator's own stores change -/
def MutO : HO → Prop
  | .lst _ => True
  | .dK _ => True
  | .dT _ => True
  | _ => False
/-- all is kept but perhaps the mutable things at Av -/
def Kp (Av : Addr → Prop) (H H' : Hp) : Prop := ∀ a o, H a = some o → (¬Av a ∨ ¬MutO o) → H' a = some o
theorem Kp.of_all {Av : Addr → Prop} {H H' : Hp} (h : ∀ a o, H a = some o → H' a = some o) : Kp Av H H' := fun a o e _ => h a o e
section
variable {c : Cn} {H H' : Hp} {Av Av' : Addr → Prop}
mutual
theorem Rep.mono (k : Kp Av H H') (hA : ∀ a o, H a = some o → Av' a → Av a) : ∀ (t : T) (v : V), Rep c H Av t v → Rep c H' Av' t v
  | .non, _, h => h
  | .bl _, _, h => h
  | .int _, _, h => h
  | .str _, _, h => h
  | .tup ts, v, h => by
    rw [Rep] at h ⊢
    obtain ⟨a, vs, e, hH, hr⟩ := h
    exact ⟨a, vs, e, k a _ hH (.inr fun z => z), RepL.mono k hA ts vs hr⟩
  | .lst ts, v, h => by
    rw [Rep] at h ⊢
    obtain ⟨a, vs, e, hn, hH, hr⟩ := h
    exact ⟨a, vs, e, fun z => hn (hA a _ hH z), k a _ hH (.inl hn), RepL.mono k hA ts vs hr⟩
  | .dct kvs, v, h => by
    rw [Rep] at h ⊢
    obtain ⟨a, e, hn, hH⟩ := h
    rcases hH with ⟨ks, hH, hr⟩ | ⟨ks, hH, hr⟩
    · exact ⟨a, e, fun z => hn (hA a _ hH z), .inl ⟨ks, k a _ hH (.inl hn), RepK0.mono k hA kvs ks hr⟩⟩
    · exact ⟨a, e, fun z => hn (hA a _ hH z), .inr ⟨ks, k a _ hH (.inl hn), RepK1.mono k hA kvs ks hr⟩⟩
  | .ins n fs, v, h => by
    rw [Rep] at h ⊢
    obtain ⟨a, dx, fv, e, hH, hr⟩ := h
    exact ⟨a, dx, fv, e, k a _ hH (.inr fun z => z), RepF.mono k hA fs fv hr⟩
  | .scr ns, v, h => by
    rw [Rep] at h ⊢
    obtain ⟨a, e, hq⟩ := h
    refine ⟨a, e, hq.imp (fun ⟨o, h⟩ => ⟨o, k a _ h (.inr fun z => z)⟩) id⟩
theorem RepL.mono (k : Kp Av H H') (hA : ∀ a o, H a = some o → Av' a → Av a) : ∀ (ts : List T) (vs : List V), RepL c H Av ts vs → RepL c H' Av' ts vs
  | [], _, h => h
  | t :: ts, vs, h => by
    rw [RepL] at h ⊢
    obtain ⟨v, r, e, h1, h2⟩ := h
    exact ⟨v, r, e, Rep.mono k hA t v h1, RepL.mono k hA ts r h2⟩
theorem RepK0.mono (k : Kp Av H H') (hA : ∀ a o, H a = some o → Av' a → Av a) : ∀ (ts : List (T × T)) (vs : List (Key × V)), RepK0 c H Av ts vs → RepK0 c H' Av' ts vs
  | [], _, h => h
  | (_, t) :: ts, vs, h => by
    rw [RepK0] at h ⊢
    obtain ⟨k', v, r, e, ek, h1, h2⟩ := h
    exact ⟨k', v, r, e, ek, Rep.mono k hA t v h1, RepK0.mono k hA ts r h2⟩
theorem RepK1.mono (k : Kp Av H H') (hA : ∀ a o, H a = some o → Av' a → Av a) : ∀ (ts : List (T × T)) (vs : List (List Key × V)), RepK1 c H Av ts vs → RepK1 c H' Av' ts vs
  | [], _, h => h
  | (_, t) :: ts, vs, h => by
    rw [RepK1] at h ⊢
    obtain ⟨k', v, r, e, ek, h1, h2⟩ := h
    exact ⟨k', v, r, e, ek, Rep.mono k hA t v h1, RepK1.mono k hA ts r h2⟩
theorem RepF.mono (k : Kp Av H H') (hA : ∀ a o, H a = some o → Av' a → Av a) : ∀ (ts : List (Str × T)) (vs : List (Str × V)), RepF c H Av ts vs → RepF c H' Av' ts vs
  | [], _, h => h
  | (_, t) :: ts, vs, h => by
    rw [RepF] at h ⊢
    obtain ⟨v, r, e, h1, h2⟩ := h
    exact ⟨v, r, e, Rep.mono k hA t v h1, RepF.mono k hA ts r h2⟩
end

/-- a list or a dict that stands at a, its items without what is owned -/
def CellOk (c : Cn) (H : Hp) (Av : Addr → Prop) : T → Addr → Prop
  | .lst ts, a => ∃ vs, H a = some (.lst vs) ∧ RepL c H Av ts vs
  | .dct kvs, a => (∃ ks, H a = some (.dK ks) ∧ RepK0 c H Av kvs ks) ∨ ∃ ks, H a = some (.dT ks) ∧ RepK1 c H Av kvs ks
  | _, _ => False
theorem CellOk.mono (k : Kp Av H H') (hA : ∀ a o, H a = some o → Av' a → Av a) : ∀ {t : T} {a : Addr}, H' a = H a → CellOk c H Av t a → CellOk c H' Av' t a
  | .lst ts, a, he, h => by
    obtain ⟨vs, h1, h2⟩ := h
    exact ⟨vs, he.trans h1, RepL.mono k hA ts vs h2⟩
  | .dct kvs, a, he, h => by
    rcases h with ⟨ks, h1, h2⟩ | ⟨ks, h1, h2⟩
    · exact .inl ⟨ks, he.trans h1, RepK0.mono k hA kvs ks h2⟩
    · exact .inr ⟨ks, he.trans h1, RepK1.mono k hA kvs ks h2⟩
  | .non, _, _, h | .bl _, _, _, h | .int _, _, _, h | .str _, _, _, h | .tup _, _, _, h | .ins _ _, _, _, h | .scr _, _, _, h => h.elim
theorem CellOk.dom : ∀ {t : T} {a : Addr}, CellOk c H Av t a → ∃ o, H a = some o ∧ MutO o
  | .lst ts, a, h => let ⟨vs, h1, _⟩ := h; ⟨_, h1, trivial⟩
  | .dct kvs, a, h => by
    rcases h with ⟨ks, h1, _⟩ | ⟨ks, h1, _⟩
    · exact ⟨_, h1, trivial⟩
    · exact ⟨_, h1, trivial⟩
  | .non, _, h | .bl _, _, h | .int _, _, h | .str _, _, h | .tup _, _, h | .ins _ _, _, h | .scr _, _, h => h.elim
/-- a cell that is not owned is a value -/
theorem CellOk.rep : ∀ {t : T} {a : Addr}, CellOk c H Av t a → ¬Av a → Rep c H Av t (.ref a)
  | .lst ts, a, h, n => by
    obtain ⟨vs, h1, h2⟩ := h
    rw [Rep]
    exact ⟨a, vs, rfl, n, h1, h2⟩
  | .dct kvs, a, h, n => by
    rw [Rep]
    exact ⟨a, rfl, n, h⟩
  | .non, _, h, _ | .bl _, _, h, _ | .int _, _, h, _ | .str _, _, h, _ | .tup _, _, h, _ | .ins _ _, _, h, _ | .scr _, _, h, _ => h.elim

/-! ### the frame -/
structure Fr where
  A : Addr → Prop
  H0 : Hp
  io : Nat → Option Addr
def Fr.av (F : Fr) (O : Addr → Option Nat) : Addr → Prop := fun a => F.A a ∨ (O a).isSome = true
def Ent (c : Cn) (F : Fr) (O : Addr → Option Nat) (H : Hp) (i : Nat) (sl : Sl) (v : V) : Prop :=
  match sl.m with
  | .sh => Rep c H (F.av O) sl.t v
  | .own => ∃ a, v = .ref a ∧ O a = some i ∧ F.H0 a = none ∧ CellOk c H (F.av O) sl.t a
  | .io => ∃ a, v = .ref a ∧ O a = some i ∧ F.io i = some a ∧ CellOk c H (F.av O) sl.t a
structure SimO (c : Cn) (F : Fr) (O : Addr → Option Nat) (es : En) (vs : List (Option V)) (H : Hp) : Prop where
  len : vs.length = es.length
  oa : ∀ a, (O a).isSome = true → ¬F.A a
  ad : ∀ a, F.A a → H a ≠ none
  od : ∀ a, (O a).isSome = true → H a ≠ none
  iod : ∀ i b, F.io i = some b → H b ≠ none ∧ F.H0 b ≠ none
  keep : ∀ b o, F.H0 b = some o → (∀ i, F.io i ≠ some b) → H b = some o
  ent : ∀ i sl, es[i]? = some (some sl) → ∃ v, vs[i]? = some (some v) ∧ Ent c F O H i sl v
def Sim (c : Cn) (F : Fr) (es : En) (vs : List (Option V)) (H : Hp) : Prop := ∃ O, SimO c F O es vs H

theorem av_mono {F : Fr} {O O' : Addr → Option Nat} (h : ∀ a, (O' a).isSome = true → (O a).isSome = true) : ∀ a o, H a = some o → F.av O' a → F.av O a := fun a _ _ q => q.imp id (h a)

/-- the heap grows -/
theorem SimO.grow {F : Fr} {O : Addr → Option Nat} {es : En} {vs : List (Option V)} (S : SimO c F O es vs H) (k : ∀ a o, H a = some o → H' a = some o) : SimO c F O es vs H' := by
  have nn : ∀ a, H a ≠ none → H' a ≠ none := fun a h => by
    cases e : H a with
    | none => exact absurd e h
    | some o => rw [k a o e]; exact fun z => nomatch z
  refine ⟨S.len, S.oa, fun a h => nn a (S.ad a h), fun a h => nn a (S.od a h), fun i b h => ⟨nn b (S.iod i b h).1, (S.iod i b h).2⟩, fun b o h n => k b o (S.keep b o h n), fun i sl h => ?_⟩
  obtain ⟨v, h1, h2⟩ := S.ent i sl h
  refine ⟨v, h1, ?_⟩
  have kp : Kp (F.av O) H H' := Kp.of_all k
  have same : ∀ a, (∃ o, H a = some o ∧ MutO o) → H' a = H a := fun a ⟨o, e, _⟩ => by rw [e, k a o e]
  unfold Ent at h2 ⊢
  cases hm : sl.m with
  | sh => rw [hm] at h2; exact Rep.mono kp (fun _ _ _ z => z) _ _ h2
  | own =>
    rw [hm] at h2
    obtain ⟨a, e1, e2, e3, e5⟩ := h2
    exact ⟨a, e1, e2, e3, CellOk.mono kp (fun _ _ _ z => z) (same a e5.dom) e5⟩
  | io =>
    rw [hm] at h2
    obtain ⟨a, e1, e2, e3, e4⟩ := h2
    exact ⟨a, e1, e2, e3, CellOk.mono kp (fun _ _ _ z => z) (same a e4.dom) e4⟩

/-- entries taken out of order, left out, owned ones made shared -/
theorem SimO.re {F : Fr} {O : Addr → Option Nat} {es es' : En} {vs vs' : List (Option V)} (S : SimO c F O es vs H) (hl : vs'.length = es'.length) (f : Nat → Nat)
    (h : ∀ j sl, es'[j]? = some (some sl) → ∃ m, es[f j]? = some (some ⟨sl.t, m⟩) ∧ vs'[j]? = vs[f j]? ∧ (sl.m = m ∨ (sl.m = .sh ∧ m = .own)) ∧ (m = .io → f j = j) ∧
      (m ≠ .sh → sl.m ≠ .sh → ∀ j' sl', es'[j']? = some (some sl') → f j' = f j → j' = j) ∧ (m ≠ .sh → sl.m = .sh → ∀ j' sl', es'[j']? = some (some sl') → f j' = f j → sl'.m = .sh)) : Sim c F es' vs' H := by
  classical
  let own : Nat → Prop := fun j => ∃ sl, es'[j]? = some (some sl) ∧ sl.m ≠ .sh
  let O' : Addr → Option Nat := fun a => if q : ∃ j, own j ∧ O a = some (f j) then some q.choose else none
  have sub : ∀ a, (O' a).isSome = true → (O a).isSome = true := fun a q => by
    by_cases z : ∃ j, own j ∧ O a = some (f j)
    · rw [z.choose_spec.2]; rfl
    · have : O' a = none := dif_neg z
      rw [this] at q; cases q
  have key : ∀ a j sl, es'[j]? = some (some sl) → sl.m ≠ .sh → (∀ j' sl', es'[j']? = some (some sl') → f j' = f j → j' = j) → O a = some (f j) → O' a = some j := fun a j sl h1 h2 h3 h4 => by
    have q : ∃ j, own j ∧ O a = some (f j) := ⟨j, ⟨sl, h1, h2⟩, h4⟩
    have e : O' a = some q.choose := dif_pos q
    rw [e]
    obtain ⟨⟨sl', h5, _⟩, h6⟩ := q.choose_spec
    exact congrArg some (h3 _ _ h5 (Option.some.inj (h4.symm.trans h6)).symm)
  have kp : Kp (F.av O) H H := fun a o e _ => e
  refine ⟨O', hl, fun a q => S.oa a (sub a q), S.ad, fun a q => S.od a (sub a q), S.iod, S.keep, fun j sl hj => ?_⟩
  obtain ⟨m, e1, e2, hm, hio, u1, u2⟩ := h j sl hj
  obtain ⟨v, e3, e4⟩ := S.ent _ _ e1
  refine ⟨v, e2.trans e3, ?_⟩
  obtain ⟨t, ms⟩ := sl
  rcases hm with hm | ⟨hm, hm2⟩
  · have hm : ms = m := hm
    subst hm
    cases ms with
    | sh =>
      exact Rep.mono kp (av_mono sub) _ _ e4
    | own =>
      obtain ⟨a, q1, q2, q3, q5⟩ := e4
      exact ⟨a, q1, key a j _ hj (fun z => nomatch z) (u1 (fun z => nomatch z) fun z => nomatch z) q2, q3, CellOk.mono kp (av_mono sub) rfl q5⟩
    | io =>
      obtain ⟨a, q1, q2, q3, q4⟩ := e4
      have ej := hio rfl
      rw [ej] at q3
      exact ⟨a, q1, key a j _ hj (fun z => nomatch z) (u1 (fun z => nomatch z) fun z => nomatch z) q2, q3, CellOk.mono kp (av_mono sub) rfl q4⟩
  · have hm : ms = .sh := hm
    subst hm hm2
    obtain ⟨a, q1, q2, q3, q5⟩ := e4
    have na : ¬F.av O' a := fun z => by
      rcases z with z | z
      · exact S.oa a (by rw [q2]; rfl) z
      · by_cases w : ∃ j, own j ∧ O a = some (f j)
        · obtain ⟨⟨sl', h5, h6⟩, h7⟩ := w.choose_spec
          exact h6 (u2 (fun z => nomatch z) rfl _ _ h5 (Option.some.inj (q2.symm.trans h7)).symm)
        · have : O' a = none := dif_neg w
          rw [this] at z; cases z
    show Rep c H (F.av O') t v
    rw [q1]
    exact (CellOk.mono kp (av_mono sub) rfl q5).rep na

theorem SimO.push_sh {F : Fr} {O : Addr → Option Nat} {es : En} {vs : List (Option V)} (S : SimO c F O es vs H) {t : T} {v : V} (r : Rep c H (F.av O) t v) : SimO c F O (es ++ [some ⟨t, .sh⟩]) (vs ++ [some v]) H := by
  refine ⟨by simp [S.len], S.oa, S.ad, S.od, S.iod, S.keep, fun i sl h => ?_⟩
  by_cases hi : i < es.length
  · rw [List.getElem?_append_left hi] at h
    rw [List.getElem?_append_left (by rw [S.len]; exact hi)]
    exact S.ent i sl h
  · rw [List.getElem?_append_right (by omega)] at h
    have e0 : i - es.length = 0 := by
      cases q : i - es.length with
      | zero => rfl
      | succ n => rw [q] at h; simp at h
    rw [e0] at h
    simp only [List.getElem?_cons_zero, Option.some.injEq] at h
    subst h
    refine ⟨v, ?_, r⟩
    rw [List.getElem?_append_right (by rw [S.len]; omega), S.len, e0]
    rfl
theorem SimO.push_none {F : Fr} {O : Addr → Option Nat} {es : En} {vs : List (Option V)} (S : SimO c F O es vs H) (o : Option V) : SimO c F O (es ++ [none]) (vs ++ [o]) H := by
  refine ⟨by simp [S.len], S.oa, S.ad, S.od, S.iod, S.keep, fun i sl h => ?_⟩
  by_cases hi : i < es.length
  · rw [List.getElem?_append_left hi] at h
    rw [List.getElem?_append_left (by rw [S.len]; exact hi)]
    exact S.ent i sl h
  · rw [List.getElem?_append_right (by omega)] at h
    cases q : i - es.length with
    | zero => rw [q] at h; simp at h
    | succ n => rw [q] at h; simp at h
theorem SimO.free {F : Fr} {O : Addr → Option Nat} {es : En} {vs : List (Option V)} (S : SimO c F O es vs H) {p : Addr} (hp : H p = none) : ¬F.A p ∧ F.H0 p = none ∧ (∀ i, F.io i ≠ some p) := by
  have h3 : ∀ i, F.io i ≠ some p := fun i e => (S.iod i p e).1 hp
  refine ⟨fun z => S.ad p z hp, ?_, h3⟩
  cases e : F.H0 p with
  | none => rfl
  | some o => rw [S.keep p o e h3] at hp; cases hp
/-- a new list or dict, owned by the top of the stack -/
theorem SimO.push_own {F : Fr} {O : Addr → Option Nat} {es : En} {vs : List (Option V)} (S : SimO c F O es vs H) {t : T} {p : Addr} (hp : H p = none) (k : ∀ a o, H a = some o → H' a = some o)
    (r : CellOk c H' (fun a => F.av O a ∨ a = p) t p) : ∃ O', (∀ b, (O' b).isSome = true → (O b).isSome = true ∨ b = p) ∧ SimO c F O' (es ++ [some ⟨t, .own⟩]) (vs ++ [some (.ref p)]) H' := by
  obtain ⟨f1, f2, f3⟩ := S.free hp
  have hOp : O p = none := by
    cases e : O p with
    | none => rfl
    | some i => exact absurd hp (S.od p (by rw [e]; rfl))
  have G := S.grow k
  obtain ⟨op, hop, _⟩ := r.dom
  let O' : Addr → Option Nat := fun a => if a = p then some es.length else O a
  have O'p : O' p = some es.length := if_pos rfl
  have O'n : ∀ {a}, a ≠ p → O' a = O a := fun h => if_neg h
  have avp : ∀ a o, H a = some o → F.av O' a → F.av O a := fun a o e q => by
    have hne : a ≠ p := fun z => by rw [z, hp] at e; cases e
    rcases q with q | q
    · exact .inl q
    · rw [O'n hne] at q; exact .inr q
  have kp : Kp (F.av O) H H' := Kp.of_all k
  have same : ∀ a, (∃ o, H a = some o ∧ MutO o) → H' a = H a := fun a ⟨o, e, _⟩ => by rw [e, k a o e]
  have ne : ∀ a, (∃ o, H a = some o ∧ MutO o) → a ≠ p := fun a ⟨o, e, _⟩ z => by rw [z, hp] at e; cases e
  refine ⟨O', fun b q => ?_, ⟨by simp [S.len], fun a q => ?_, G.ad, fun a q => ?_, G.iod, G.keep, fun i sl h => ?_⟩⟩
  · by_cases e : b = p
    · exact .inr e
    · rw [O'n e] at q; exact .inl q
  · by_cases e : a = p
    · subst e; exact f1
    · rw [O'n e] at q; exact S.oa a q
  · by_cases e : a = p
    · subst e; rw [hop]; exact fun z => nomatch z
    · rw [O'n e] at q; exact G.od a q
  · by_cases hi : i < es.length
    · rw [List.getElem?_append_left hi] at h
      rw [List.getElem?_append_left (by rw [S.len]; exact hi)]
      obtain ⟨v, h1, h2⟩ := S.ent i sl h
      refine ⟨v, h1, ?_⟩
      obtain ⟨t', m⟩ := sl
      cases m with
      | sh => exact Rep.mono kp avp _ _ h2
      | own =>
        obtain ⟨a, q1, q2, q3, q5⟩ := h2
        exact ⟨a, q1, (O'n (ne a q5.dom)).trans q2, q3, CellOk.mono kp avp (same a q5.dom) q5⟩
      | io =>
        obtain ⟨a, q1, q2, q3, q4⟩ := h2
        exact ⟨a, q1, (O'n (ne a q4.dom)).trans q2, q3, CellOk.mono kp avp (same a q4.dom) q4⟩
    · rw [List.getElem?_append_right (by omega)] at h
      have e0 : i - es.length = 0 := by
        cases q : i - es.length with
        | zero => rfl
        | succ n => rw [q] at h; simp at h
      have ei : i = es.length := by omega
      rw [e0] at h
      simp only [List.getElem?_cons_zero, Option.some.injEq] at h
      subst h
      refine ⟨.ref p, ?_, p, rfl, ?_, f2, CellOk.mono (Kp.of_all fun _ _ e => e) (fun b _ _ q => ?_) rfl r⟩
      · rw [List.getElem?_append_right (by rw [S.len]; omega), S.len, e0]
        rfl
      · rw [O'p, ei]
      · rcases q with q | q
        · exact .inl (.inl q)
        · by_cases e : b = p
          · exact .inr e
          · rw [O'n e] at q; exact .inl (.inr q)
/-- an owned cell is put for by another -/
theorem SimO.put {F : Fr} {O : Addr → Option Nat} {es : En} {vs : List (Option V)} (S : SimO c F O es vs H) {i : Nat} {t t' : T} {m : Md} {a : Addr} (hi : es[i]? = some (some ⟨t, m⟩)) (hm : m ≠ .sh) (hv : vs[i]? = some (some (.ref a)))
    (k : ∀ b o, b ≠ a → H b = some o → H' b = some o) (r : CellOk c H' (F.av O) t' a) : SimO c F O (es.set i (some ⟨t', m⟩)) vs H' := by
  have hil : i < es.length := (List.getElem?_eq_some_iff.mp hi).1
  have own : O a = some i ∧ (∀ o, F.H0 a = some o → F.io i = some a) ∧ ∃ o, H a = some o ∧ MutO o := by
    obtain ⟨v, h1, h2⟩ := S.ent i _ hi
    rw [hv] at h1
    cases m with
    | sh => exact absurd rfl hm
    | own =>
      obtain ⟨b, q1, q2, q3, q5⟩ := h2
      have e : a = b := V.ref.inj ((Option.some.inj (Option.some.inj h1)).trans q1)
      subst e
      exact ⟨q2, fun o z => (by rw [q3] at z; cases z), q5.dom⟩
    | io =>
      obtain ⟨b, q1, q2, q3, q4⟩ := h2
      have e : a = b := V.ref.inj ((Option.some.inj (Option.some.inj h1)).trans q1)
      subst e
      exact ⟨q2, fun _ _ => q3, q4.dom⟩
  obtain ⟨hO, hH0, oa, hoa, moa⟩ := own
  obtain ⟨oa', hoa', _⟩ := r.dom
  have nn : ∀ b, H b ≠ none → H' b ≠ none := fun b h => by
    by_cases e : b = a
    · rw [e, hoa']; exact fun z => nomatch z
    · cases q : H b with
      | none => exact absurd q h
      | some o => rw [k b o e q]; exact fun z => nomatch z
  have kp : Kp (F.av O) H H' := fun b o e q => by
    by_cases hb : b = a
    · subst hb
      rcases q with q | q
      · exact absurd (.inr (by rw [hO]; rfl)) q
      · rw [hoa] at e; cases e; exact absurd moa q
    · exact k b o hb e
  have av : ∀ b o, H b = some o → F.av O b → F.av O b := fun _ _ _ z => z
  refine ⟨by simp [S.len], S.oa, fun b h => nn b (S.ad b h), fun b h => nn b (S.od b h), fun j b h => ⟨nn b (S.iod j b h).1, (S.iod j b h).2⟩, fun b o h n => ?_, fun j sl h => ?_⟩
  · by_cases e : b = a
    · subst e; exact absurd (hH0 o h) (n i)
    · exact k b o e (S.keep b o h n)
  · by_cases hj : j = i
    · subst hj
      rw [List.getElem?_set_self hil] at h
      cases h
      refine ⟨.ref a, hv, ?_⟩
      obtain ⟨v, h1, h2⟩ := S.ent j _ hi
      rw [hv] at h1
      cases m with
      | sh => exact absurd rfl hm
      | own =>
        obtain ⟨b, q1, q2, q3, q5⟩ := h2
        have e : a = b := V.ref.inj ((Option.some.inj (Option.some.inj h1)).trans q1)
        subst e
        exact ⟨a, rfl, q2, q3, r⟩
      | io =>
        obtain ⟨b, q1, q2, q3, q4⟩ := h2
        have e : a = b := V.ref.inj ((Option.some.inj (Option.some.inj h1)).trans q1)
        subst e
        exact ⟨a, rfl, q2, q3, r⟩
    · rw [List.getElem?_set_ne (Ne.symm hj)] at h
      obtain ⟨v, h1, h2⟩ := S.ent j sl h
      refine ⟨v, h1, ?_⟩
      obtain ⟨t', m'⟩ := sl
      have ne : ∀ b, O b = some j → b ≠ a := fun b q z => by rw [z, hO] at q; exact hj (Option.some.inj q).symm
      have same : ∀ b, b ≠ a → (∃ o, H b = some o ∧ MutO o) → H' b = H b := fun b n ⟨o, e, _⟩ => by rw [e, k b o n e]
      cases m' with
      | sh => exact Rep.mono kp av _ _ h2
      | own =>
        obtain ⟨b, q1, q2, q3, q5⟩ := h2
        exact ⟨b, q1, q2, q3, CellOk.mono kp av (same b (ne b q2) q5.dom) q5⟩
      | io =>
        obtain ⟨b, q1, q2, q3, q4⟩ := h2
        exact ⟨b, q1, q2, q3, CellOk.mono kp av (same b (ne b q2) q4.dom) q4⟩
/-- what stands in a slot, to be read: its items without what is owned -/
def RepT (c : Cn) (H : Hp) (Av : Addr → Prop) (t : T) (v : V) : Prop := Rep c H Av t v ∨ ∃ a, v = .ref a ∧ CellOk c H Av t a
theorem Ent.repT {F : Fr} {O : Addr → Option Nat} {i : Nat} {sl : Sl} {v : V} (h : Ent c F O H i sl v) : RepT c H (F.av O) sl.t v := by
  obtain ⟨t, m⟩ := sl
  cases m with
  | sh => exact .inl h
  | own => obtain ⟨a, q1, q2, q3, q5⟩ := h; exact .inr ⟨a, q1, q5⟩
  | io => obtain ⟨a, q1, q2, q3, q5⟩ := h; exact .inr ⟨a, q1, q5⟩
end
end DD
/-! DRd: the readings of the language's pieces, and how operands are read off the stack. -/
namespace DD
open PySem L2

structure At (c : Cn) (F : Fr) (env stk : En) (σ : St) (ws : List (Option V)) (H : Hp) : Prop where
  hl : env.length = σ.length
  hw : stk.length = ws.length
  sim : Sim c F (env ++ stk) (σ ++ ws) H
def OVok (σ : St) : OV → V → Prop
  | .v _ _, _ => True
  | .s i, v => σ[i]? = some (some v)
def OV.sl : OV → Option Sl
  | .v t fr => some ⟨t, if fr then .own else .sh⟩
  | .s _ => none
inductive OVs (σ : St) : List OV → List V → Prop
  | nil : OVs σ [] []
  | cons {o os v vs} : OVok σ o v → OVs σ os vs → OVs σ (o :: os) (v :: vs)

section
variable (c : Cn) (Φ Ψ : Nat → Fn)
def rdE (e : E) : TE := fun σ H Q => ∃ F env stk ws, At c F env stk σ ws H ∧ ∃ o env', ev Φ Ψ e env = .ok (o, env') ∧ ∀ v H', At c F env' (stk ++ [o.sl]) σ (ws ++ [some v]) H' → OVok σ o v → Q v H'
def rdT (e : E) : TT := fun σ H Q => ∃ F env stk ws, At c F env stk σ ws H ∧ ∃ b fr env', ev Φ Ψ e env = .ok (.v (.bl b) fr, env') ∧ ∀ H', At c F env' stk σ ws H' → Q b H'
def rdA (es : List E) : TA := fun σ H Q => ∃ F env stk ws, At c F env stk σ ws H ∧ ∃ os env', evs Φ Ψ es env = .ok (os, env') ∧ ∀ vs H', At c F env' (stk ++ os.map OV.sl) σ (ws ++ vs.map some) H' → OVs σ os vs → Q vs H'
end

theorem PE.wk {X : Cx} {e : Expr} {t t' : TE} (h : PE X e t) (k : ∀ σ H Q, t' σ H Q → t σ H Q) : PE X e t' := ⟨fun pins s σ H Q I q => h.run pins s σ H Q I (k σ H Q q)⟩
theorem PT.wk {X : Cx} {e : Expr} {t t' : TT} (h : PT X e t) (k : ∀ σ H Q, t' σ H Q → t σ H Q) : PT X e t' := ⟨fun pins s σ H Q I q => h.run pins s σ H Q I (k σ H Q q)⟩
theorem PW.wk {X : Cx} {e : Expr} {t t' : TT} (h : PW X e t) (k : ∀ σ H Q, t' σ H Q → t σ H Q) : PW X e t' := ⟨fun wh pins s σ H Q I q => h.run wh pins s σ H Q I (k σ H Q q)⟩
theorem PA.wk {X : Cx} {es : List Expr} {t t' : TA} (h : PA X es t) (k : ∀ σ H Q, t' σ H Q → t σ H Q) : PA X es t' := ⟨fun pos pins s σ H Q I q => h.run pos pins s σ H Q I (k σ H Q q)⟩
theorem PS.wk {X : Cx} {e : Stmt} {t t' : TS} (h : PS X e t) (k : ∀ D σ H, t' D σ H → t D σ H) : PS X e t' := ⟨fun pins s σ H D I q => h.run pins s σ H D I (k D σ H q)⟩
theorem PSs.wk {X : Cx} {e : List Stmt} {t t' : TS} (h : PSs X e t) (k : ∀ D σ H, t' D σ H → t D σ H) : PSs X e t' := ⟨fun pins s σ H D I q => h.run pins s σ H D I (k D σ H q)⟩

/-! ### results -/
/-- all of H stands in H' -/
def Gr (H H' : Hp) : Prop := ∀ a o, H a = some o → H' a = some o
theorem Gr.refl {H : Hp} : Gr H H := fun _ _ e => e
theorem Gr.trans {H H1 H2 : Hp} (a : Gr H H1) (b : Gr H1 H2) : Gr H H2 := fun x o e => b x o (a x o e)
theorem Gr.upd {H : Hp} {p : Addr} {o : HO} (hp : H p = none) : Gr H (upd H p o) := fun a u e => by rw [upd_ne (ne_of_none e hp)]; exact e
/-- an operation's value: new (then it is owned by nobody), or one that is shared -/
def Out (c : Cn) (Av : Addr → Prop) (H : Hp) (fr : Bool) (t : T) (v : V) (H' : Hp) : Prop :=
  Gr H H' ∧ if fr = true then ∃ p, v = .ref p ∧ H p = none ∧ CellOk c H' (fun a => Av a ∨ a = p) t p else Rep c H' Av t v

section
variable {c : Cn} {F : Fr} {env stk : En} {σ : St} {ws : List (Option V)} {H H' : Hp}

theorem SimO.pushO {O : Addr → Option Nat} {es : En} {vs : List (Option V)} (S : SimO c F O es vs H) {t : T} {v : V} {fr : Bool} (o : Out c (F.av O) H fr t v H') :
    ∃ O', (∀ b, (O' b).isSome = true → (O b).isSome = true ∨ (fr = true ∧ v = .ref b)) ∧ SimO c F O' (es ++ [some ⟨t, if fr then .own else .sh⟩]) (vs ++ [some v]) H' := by
  obtain ⟨g, o⟩ := o
  cases fr with
  | false => exact ⟨O, fun _ q => .inl q, (S.grow g).push_sh o⟩
  | true =>
    obtain ⟨p, rfl, hp, hc⟩ := o
    obtain ⟨O', h1, h2⟩ := S.push_own hp g hc
    exact ⟨O', fun b q => (h1 b q).imp id fun e => ⟨rfl, by rw [e]⟩, h2⟩
theorem SimO.push {O : Addr → Option Nat} {es : En} {vs : List (Option V)} (S : SimO c F O es vs H) {t : T} {v : V} {fr : Bool} (o : Out c (F.av O) H fr t v H') : Sim c F (es ++ [some ⟨t, if fr then .own else .sh⟩]) (vs ++ [some v]) H' :=
  let ⟨O', _, h⟩ := S.pushO o
  ⟨O', h⟩

/-- the top of the stack is dropped -/
theorem Sim.drop {es xs : En} {vs ys : List (Option V)} (S : Sim c F (es ++ xs) (vs ++ ys) H) (hl : vs.length = es.length) : Sim c F es vs H := by
  obtain ⟨O, S⟩ := S
  refine S.re hl (fun j => j) fun j sl h => ?_
  have hj : j < es.length := (List.getElem?_eq_some_iff.mp h).1
  refine ⟨sl.m, ?_, ?_, .inl rfl, fun _ => rfl, fun _ _ _ _ _ e => e, fun n e => absurd e n⟩
  · rw [List.getElem?_append_left hj]; exact h
  · rw [List.getElem?_append_left (by omega)]
theorem At.drop {xs : En} {ys : List (Option V)} (S : At c F env (stk ++ xs) σ (ws ++ ys) H) (hl : stk.length = ws.length) : At c F env stk σ ws H := by
  refine ⟨S.hl, hl, Sim.drop (xs := xs) (ys := ys) ?_ (by simp [S.hl, hl])⟩
  rw [List.append_assoc, List.append_assoc]
  exact S.sim
/-- operands, read off the stack: what they stand for, where the rest stands without them -/
inductive RepTs (c : Cn) (H : Hp) (Av : Addr → Prop) : List T → List V → Prop
  | nil : RepTs c H Av [] []
  | cons {t ts v vs} : RepT c H Av t v → RepTs c H Av ts vs → RepTs c H Av (t :: ts) (v :: vs)
theorem vals_cons {env : En} {o : OV} {os : List OV} {ts : List T} (h : vals env (o :: os) = some ts) : ∃ t r, ts = t :: r ∧ o.res env = some t ∧ vals env os = some r := by
  rw [vals] at h
  cases e1 : o.res env with
  | none => rw [e1] at h; cases h
  | some t =>
    cases e2 : vals env os with
    | none => rw [e1, e2] at h; cases h
    | some r =>
      rw [e1, e2] at h
      exact ⟨t, r, (Option.some.inj h).symm, rfl, rfl⟩
theorem getS_some {env : En} {i : Nat} {sl : Sl} (h : getS env i = some sl) : env[i]? = some (some sl) := by
  unfold getS at h
  cases e : env[i]? with
  | none => rw [e] at h; cases h
  | some o => rw [e] at h; cases o with
    | none => cases h
    | some x => cases h; rfl
theorem getS_of {env : En} {i : Nat} {sl : Sl} (h : env[i]? = some (some sl)) : getS env i = some sl := by
  unfold getS
  rw [h]; rfl
theorem OVs.length {os : List OV} {vs : List V} (h : OVs σ os vs) : os.length = vs.length := by
  induction h with
  | nil => rfl
  | cons _ _ ih => simp [ih]
theorem operand {O : Addr → Option Nat} {es : En} {vs : List (Option V)} {k : Nat} {o : OV} {v : V} {t : T} (S : SimO c F O es vs H)
    (h1 : ∀ i, i < env.length → es[i]? = env[i]?) (h2 : ∀ i, i < env.length → vs[i]? = σ[i]?) (h3 : es[k]? = some o.sl) (h4 : vs[k]? = some (some v)) (ho : OVok σ o v) (hr : o.res env = some t) : RepT c H (F.av O) t v := by
  cases o with
  | v t' fr =>
    cases hr
    obtain ⟨v', q1, q2⟩ := S.ent k _ h3
    rw [h4] at q1
    cases q1
    exact q2.repT
  | s i =>
    have hr : (getS env i).map (·.t) = some t := hr
    cases e : getS env i with
    | none => rw [e] at hr; cases hr
    | some sl =>
      rw [e] at hr
      have e2 := getS_some e
      have hi : i < env.length := (List.getElem?_eq_some_iff.mp e2).1
      obtain ⟨v', q1, q2⟩ := S.ent i sl (by rw [h1 i hi]; exact e2)
      rw [h2 i hi] at q1
      have ho : σ[i]? = some (some v) := ho
      rw [ho] at q1
      cases q1
      have : sl.t = t := Option.some.inj hr
      subst this
      exact q2.repT
theorem operands {O : Addr → Option Nat} {es : En} {vs0 : List (Option V)} (S : SimO c F O es vs0 H) (h1 : ∀ i, i < env.length → es[i]? = env[i]?) (h2 : ∀ i, i < env.length → vs0[i]? = σ[i]?) :
    ∀ (os : List OV) (vs : List V) (ts : List T) (k : Nat), (∀ i, i < os.length → es[k + i]? = (os.map OV.sl)[i]?) → (∀ i, i < os.length → vs0[k + i]? = (vs.map some)[i]?) → OVs σ os vs → vals env os = some ts → RepTs c H (F.av O) ts vs
  | [], vs, ts, k, _, _, ho, hv => by
    cases ho
    rw [vals] at hv
    cases hv
    exact .nil
  | o :: os, vs, ts, k, a1, a2, ho, hv => by
    cases ho with
    | cons p q =>
      obtain ⟨t, r, rfl, r1, r2⟩ := vals_cons hv
      refine .cons (operand (env := env) (σ := σ) S h1 h2 (k := k) ?_ ?_ p r1) (operands S h1 h2 os _ r (k + 1) (fun i hi => ?_) (fun i hi => ?_) q r2)
      · have := a1 0 (by simp); simpa using this
      · have := a2 0 (by simp); simpa using this
      · have := a1 (i + 1) (by simp; omega)
        rw [show k + (i + 1) = k + 1 + i by omega] at this
        simpa using this
      · have := a2 (i + 1) (by simp; omega)
        rw [show k + (i + 1) = k + 1 + i by omega] at this
        simpa using this
theorem At.ops {os : List OV} {vs : List V} {ts : List T} (S : At c F env (stk ++ os.map OV.sl) σ (ws ++ vs.map some) H) (hl : stk.length = ws.length) (ho : OVs σ os vs) (hv : vals env os = some ts) :
    ∃ O, SimO c F O (env ++ stk) (σ ++ ws) H ∧ RepTs c H (F.av O) ts vs := by
  obtain ⟨O, S0⟩ := S.sim
  have hs := S.hl
  have hlen : vs.length = os.length := ho.length.symm
  have rt : RepTs c H (F.av O) ts vs := operands (env := env) (σ := σ) S0 (fun i hi => by rw [List.getElem?_append_left hi]) (fun i hi => by rw [List.getElem?_append_left (by omega)]) os vs ts (env.length + stk.length)
    (fun i hi => by rw [← List.append_assoc, List.getElem?_append_right (by simp only [List.length_append]; omega)]; exact congrArg _ (by simp only [List.length_append]; omega))
    (fun i hi => by rw [← List.append_assoc, List.getElem?_append_right (by simp only [List.length_append]; omega)]; exact congrArg _ (by simp only [List.length_append]; omega)) ho hv
  -- the rest, with the same owned things but those of the operands
  classical
  let O' : Addr → Option Nat := fun a => (O a).bind fun i => if i < (env ++ stk).length then some i else none
  have sub : ∀ a, (O' a).isSome = true → (O a).isSome = true := fun a q => by
    cases e : O a with
    | none => simp only [O', e, Option.bind_none] at q; exact q
    | some i => rfl
  have keep : ∀ a i, i < (env ++ stk).length → O a = some i → O' a = some i := fun a i hi e => by
    simp only [O', e, Option.bind_some, if_pos hi]
  have kp : Kp (F.av O) H H := fun a o e _ => e
  have avs : ∀ a o, H a = some o → F.av O' a → F.av O a := av_mono sub
  refine ⟨O', ⟨by simp [hs, hl], fun a q => S0.oa a (sub a q), S0.ad, fun a q => S0.od a (sub a q), S0.iod, S0.keep, fun i sl h => ?_⟩, ?_⟩
  · have hi : i < (env ++ stk).length := (List.getElem?_eq_some_iff.mp h).1
    obtain ⟨v, h1, h2⟩ := S0.ent i sl (by rw [← List.append_assoc, List.getElem?_append_left hi]; exact h)
    refine ⟨v, ?_, ?_⟩
    · have hi' : i < (σ ++ ws).length := by rw [List.length_append, ← hs, ← hl, ← List.length_append]; exact hi
      rw [← h1, ← List.append_assoc, List.getElem?_append_left hi']
    · obtain ⟨t, m⟩ := sl
      cases m with
      | sh => exact Rep.mono kp avs _ _ h2
      | own => obtain ⟨a, q1, q2, q3, q5⟩ := h2; exact ⟨a, q1, keep a i hi q2, q3, CellOk.mono kp avs rfl q5⟩
      | io => obtain ⟨a, q1, q2, q3, q5⟩ := h2; exact ⟨a, q1, keep a i hi q2, q3, CellOk.mono kp avs rfl q5⟩
  · clear keep ho hv S hlen S0
    induction rt with
    | nil => exact .nil
    | cons p _ ih =>
      refine .cons ?_ ih
      rcases p with p | ⟨a, e, p⟩
      · exact .inl (Rep.mono kp avs _ _ p)
      · exact .inr ⟨a, e, CellOk.mono kp avs rfl p⟩
/-- the value of an operation put on the stack -/
theorem At.out {O : Addr → Option Nat} {t : T} {v : V} {fr : Bool} (S : SimO c F O (env ++ stk) (σ ++ ws) H) (hs : env.length = σ.length) (hl : stk.length = ws.length) (o : Out c (F.av O) H fr t v H') :
    At c F env (stk ++ [(OV.v t fr).sl]) σ (ws ++ [some v]) H' := by
  refine ⟨hs, by simp [hl], ?_⟩
  have := S.push o
  rw [List.append_assoc, List.append_assoc] at this
  exact this
end

/-! ### operations by values -/
/-- the rule r serves the operation p -/
def P2 (c : Cn) (p : Prim) (r : R2) : Prop := ∀ (Av : Addr → Prop) (H : Hp) (tx ty : T) (x y : V) (t : T) (Q : VK), RepT c H Av tx x → RepT c H Av ty y → p.sem [tx, ty] = some t → (∀ v H', Out c Av H (p.makes && isCell t) t v H' → Q v H') → r x y H Q
def P1 (c : Cn) (p : Prim) (r : V → Hp → VK → Prop) : Prop := ∀ (Av : Addr → Prop) (H : Hp) (tx : T) (x : V) (t : T) (Q : VK), RepT c H Av tx x → p.sem [tx] = some t → (∀ v H', Out c Av H (p.makes && isCell t) t v H' → Q v H') → r x H Q
def PN (c : Cn) (p : Prim) (r : List V → Hp → VK → Prop) : Prop := ∀ (Av : Addr → Prop) (H : Hp) (ts : List T) (vs : List V) (t : T) (Q : VK), RepTs c H Av ts vs → p.sem ts = some t → (∀ v H', Out c Av H (p.makes && isCell t) t v H' → Q v H') → r vs H Q

section
variable {c : Cn} {Φ Ψ : Nat → Fn}
theorem R.bind_ok {α β : Type} {r : R α} {f : α → R β} {b : β} (h : r.bind f = .ok b) : ∃ a, r = .ok a ∧ f a = .ok b := by
  cases r with
  | ok a => exact ⟨a, rfl, h⟩
  | exc _ _ _ => cases h
  | bad => cases h
theorem R.opt_ok {α : Type} {o : Option α} {a : α} (h : R.opt o = .ok a) : o = some a := by
  cases o with
  | none => cases h
  | some b => cases h; rfl

/-- two operands in a row -/
theorem rd_two {a b : E} {σ : St} {H : Hp} {F : Fr} {env : En} {stk : En} {ws : List (Option V)} {os : List OV} {env' : En} {K : V → V → Hp → Prop} (A : At c F env stk σ ws H) (h : evs Φ Ψ [a, b] env = .ok (os, env'))
    (k : ∀ x y H', At c F env' (stk ++ os.map OV.sl) σ (ws ++ [x, y].map some) H' → OVs σ os [x, y] → K x y H') : rdE c Φ Ψ a σ H fun x H1 => rdE c Φ Ψ b σ H1 fun y H2 => K x y H2 := by
  simp only [evs] at h
  obtain ⟨⟨o1, e1⟩, h1, h⟩ := R.bind_ok h
  obtain ⟨⟨os2, e2⟩, h2, h⟩ := R.bind_ok h
  simp only [evs] at h2
  obtain ⟨⟨o2, e3⟩, h3, h2⟩ := R.bind_ok h2
  simp only [evs] at h2
  cases h2
  cases h
  refine ⟨F, env, stk, ws, A, o1, e1, h1, fun x H1 A1 ok1 => ⟨F, e1, _, _, A1, o2, _, h3, fun y H2 A2 ok2 => ?_⟩⟩
  refine k x y H2 ?_ (.cons ok1 (.cons ok2 .nil))
  rw [List.append_assoc, List.append_assoc] at A2
  exact A2
theorem rd_bin {p : Prim} {r : R2} (hp : P2 c p r) {a b : E} : ∀ σ H Q, rdE c Φ Ψ (.prim p [a, b]) σ H Q → tOp r (rdE c Φ Ψ a) (rdE c Φ Ψ b) σ H Q := by
  intro σ H Q ⟨F, env, stk, ws, A, o, env', h, k⟩
  rw [ev] at h
  obtain ⟨⟨os, e1⟩, h1, h⟩ := R.bind_ok h
  obtain ⟨ts, h2, h⟩ := R.bind_ok h
  obtain ⟨t, h3, h⟩ := R.bind_ok h
  cases h
  have h2 := R.opt_ok h2
  have h3 := R.opt_ok h3
  refine rd_two (K := fun x y H2 => r x y H2 Q) A h1 fun x y H2 A2 ok => ?_
  obtain ⟨O, S, rt⟩ := A2.ops A.hw ok h2
  cases rt with
  | cons p1 rt =>
    cases rt with
    | cons p2 rt =>
      cases rt
      exact hp _ _ _ _ _ _ _ _ p1 p2 h3 fun v H' o => k v H' (At.out S A2.hl A.hw o) trivial
theorem rd_un {p : Prim} {r : V → Hp → VK → Prop} (hp : P1 c p r) {a : E} : ∀ σ H Q, rdE c Φ Ψ (.prim p [a]) σ H Q → tUn r (rdE c Φ Ψ a) σ H Q := by
  intro σ H Q ⟨F, env, stk, ws, A, o, env', h, k⟩
  rw [ev] at h
  obtain ⟨⟨os, e1⟩, h1, h⟩ := R.bind_ok h
  obtain ⟨ts, h2, h⟩ := R.bind_ok h
  obtain ⟨t, h3, h⟩ := R.bind_ok h
  cases h
  have h2 := R.opt_ok h2
  have h3 := R.opt_ok h3
  simp only [evs] at h1
  obtain ⟨⟨o1, e2⟩, h4, h1⟩ := R.bind_ok h1
  simp only [evs] at h1
  cases h1
  refine ⟨F, env, stk, ws, A, o1, _, h4, fun x H1 A1 ok1 => ?_⟩
  obtain ⟨O, S, rt⟩ := At.ops (os := [o1]) (vs := [x]) A1 A.hw (.cons ok1 .nil) h2
  cases rt with
  | cons p1 rt =>
    cases rt
    exact hp _ _ _ _ _ _ p1 h3 fun v H' o => k v H' (At.out S A1.hl A.hw o) trivial
theorem rd_call {p : Prim} {r : List V → Hp → VK → Prop} (hp : PN c p r) {es : List E} : ∀ σ H Q, rdE c Φ Ψ (.prim p es) σ H Q → tCB r (rdA c Φ Ψ es) σ H Q := by
  intro σ H Q ⟨F, env, stk, ws, A, o, env', h, k⟩
  rw [ev] at h
  obtain ⟨⟨os, e1⟩, h1, h⟩ := R.bind_ok h
  obtain ⟨ts, h2, h⟩ := R.bind_ok h
  obtain ⟨t, h3, h⟩ := R.bind_ok h
  cases h
  have h2 := R.opt_ok h2
  have h3 := R.opt_ok h3
  refine ⟨F, env, stk, ws, A, os, _, h1, fun vs H1 A1 ok => ?_⟩
  obtain ⟨O, S, rt⟩ := A1.ops A.hw ok h2
  exact hp _ _ _ _ _ _ rt h3 fun v H' o => k v H' (At.out S A1.hl A.hw o) trivial
/-- a value as a test -/
theorem rd_test {e : E} : ∀ σ H Q, rdT c Φ Ψ e σ H Q → tB (rdE c Φ Ψ e) σ H Q := by
  intro σ H Q ⟨F, env, stk, ws, A, b, fr, env', h, k⟩
  refine ⟨F, env, stk, ws, A, _, _, h, fun v H1 A1 _ => ?_⟩
  obtain ⟨O, S⟩ := A1.sim
  obtain ⟨v', q1, q2⟩ := S.ent (env'.length + stk.length) ⟨.bl b, if fr then .own else .sh⟩ (by
    rw [← List.append_assoc, List.getElem?_append_right (by simp)]; simp [OV.sl])
  have hs := A1.hl
  have hw := A.hw
  rw [← List.append_assoc, List.getElem?_append_right (by simp; omega)] at q1
  have e0 : env'.length + stk.length - (σ ++ ws).length = 0 := by simp; omega
  rw [e0] at q1
  simp only [List.getElem?_cons_zero, Option.some.injEq] at q1
  subst q1
  have hb : v = .bl b := by
    rcases q2.repT with q | ⟨a, e, q⟩
    · rw [Rep] at q; exact q
    · exact q.elim
  exact ⟨b, hb, k H1 (A1.drop A.hw)⟩
theorem rd_args_nil : ∀ σ H Q, rdA c Φ Ψ [] σ H Q → tNil σ H Q := by
  intro σ H Q ⟨F, env, stk, ws, A, os, env', h, k⟩
  simp only [evs] at h
  cases h
  exact k [] H (by simpa using A) .nil
theorem rd_args_cons {e : E} {es : List E} : ∀ σ H Q, rdA c Φ Ψ (e :: es) σ H Q → tCons (rdE c Φ Ψ e) (rdA c Φ Ψ es) σ H Q := by
  intro σ H Q ⟨F, env, stk, ws, A, os, env', h, k⟩
  simp only [evs] at h
  obtain ⟨⟨o1, e1⟩, h1, h⟩ := R.bind_ok h
  obtain ⟨⟨os2, e2⟩, h2, h⟩ := R.bind_ok h
  cases h
  refine ⟨F, env, stk, ws, A, o1, e1, h1, fun x H1 A1 ok1 => ⟨F, e1, _, _, A1, os2, _, h2, fun xs H2 A2 ok2 => ?_⟩⟩
  refine k (x :: xs) H2 ?_ (.cons ok1 ok2)
  rw [List.append_assoc, List.append_assoc] at A2
  exact A2
end
end DD
/-! DPrim: the operations by values, each by a rule of the layer. -/
namespace DD
open PySem L2

theorem line_eq : (line : Nat) = sizeLine := by rw [sizeLine_eq]; rfl
section
variable {c : Cn} {H H' : Hp} {Av : Addr → Prop} {v : V}
theorem RepT.non (h : RepT c H Av .non v) : v = .non := by
  rcases h with h | ⟨a, _, h⟩
  · rw [Rep] at h; exact h
  · exact h.elim
theorem RepT.bl {b : Bool} (h : RepT c H Av (.bl b) v) : v = .bl b := by
  rcases h with h | ⟨a, _, h⟩
  · rw [Rep] at h; exact h
  · exact h.elim
theorem RepT.int {i : Int} (h : RepT c H Av (.int i) v) : v = .int i := by
  rcases h with h | ⟨a, _, h⟩
  · rw [Rep] at h; exact h
  · exact h.elim
theorem RepT.str {x : Str} (h : RepT c H Av (.str x) v) : v = .str x := by
  rcases h with h | ⟨a, _, h⟩
  · rw [Rep] at h; exact h
  · exact h.elim
theorem RepT.tup {ts : List T} (h : RepT c H Av (.tup ts) v) : ∃ a vs, v = .ref a ∧ H a = some (.tup vs) ∧ RepL c H Av ts vs := by
  rcases h with h | ⟨a, _, h⟩
  · rw [Rep] at h; exact h
  · exact h.elim
theorem RepT.lst {ts : List T} (h : RepT c H Av (.lst ts) v) : ∃ a vs, v = .ref a ∧ H a = some (.lst vs) ∧ RepL c H Av ts vs := by
  rcases h with h | ⟨a, e, h⟩
  · rw [Rep] at h
    obtain ⟨a, vs, e, _, h1, h2⟩ := h
    exact ⟨a, vs, e, h1, h2⟩
  · obtain ⟨vs, h1, h2⟩ := h
    exact ⟨a, vs, e, h1, h2⟩
theorem RepT.rep_tup {ts : List T} (h : RepT c H Av (.tup ts) v) : Rep c H Av (.tup ts) v := by
  rcases h with h | ⟨a, _, h⟩
  · exact h
  · exact h.elim
theorem RepT.scr {ns : List Int} (h : RepT c H Av (.scr ns) v) : ∃ a, v = .ref a ∧ SqL c.K H a (ns.map V.int) := by
  rcases h with h | ⟨a, _, h⟩
  · rw [Rep] at h
    obtain ⟨a, e, h⟩ := h
    refine ⟨a, e, ?_⟩
    rcases h with ⟨o, h⟩ | h
    · exact .inl (.inr ⟨o, h⟩)
    · rcases h with (h | ⟨o, h⟩) | h
      · cases h
      · cases h
      · exact .inr h
  · exact h.elim

theorem RepL.length : ∀ {ts : List T} {vs : List V}, RepL c H Av ts vs → ts.length = vs.length
  | [], vs, h => by rw [RepL] at h; subst h; rfl
  | t :: ts, vs, h => by
    rw [RepL] at h
    obtain ⟨v, r, rfl, _, h⟩ := h
    simp [RepL.length h]
theorem RepL.cons {t : T} {ts : List T} {v : V} {vs : List V} (h1 : Rep c H Av t v) (h2 : RepL c H Av ts vs) : RepL c H Av (t :: ts) (v :: vs) := by
  rw [RepL]; exact ⟨v, vs, rfl, h1, h2⟩
theorem RepL.nil : RepL c H Av [] [] := by rw [RepL]
theorem RepL.inv {t : T} {ts : List T} {vs : List V} (h : RepL c H Av (t :: ts) vs) : ∃ v r, vs = v :: r ∧ Rep c H Av t v ∧ RepL c H Av ts r := by
  rw [RepL] at h; exact h
theorem RepL.inv_nil {vs : List V} (h : RepL c H Av [] vs) : vs = [] := by rw [RepL] at h; exact h
theorem RepL.append : ∀ {ts us : List T} {vs ws : List V}, RepL c H Av ts vs → RepL c H Av us ws → RepL c H Av (ts ++ us) (vs ++ ws)
  | [], us, vs, ws, h1, h2 => by rw [h1.inv_nil]; exact h2
  | t :: ts, us, vs, ws, h1, h2 => by
    obtain ⟨v, r, rfl, p, q⟩ := h1.inv
    exact RepL.cons p (RepL.append q h2)
theorem RepL.get : ∀ {ts : List T} {vs : List V} {i : Nat} {t : T}, RepL c H Av ts vs → ts[i]? = some t → ∃ v, vs[i]? = some v ∧ Rep c H Av t v
  | [], _, _, _, _, e => by simp at e
  | t :: ts, vs, 0, t', h, e => by
    obtain ⟨v, r, rfl, p, q⟩ := h.inv
    simp only [List.getElem?_cons_zero, Option.some.injEq] at e
    subst e
    exact ⟨v, rfl, p⟩
  | t :: ts, vs, i + 1, t', h, e => by
    obtain ⟨v, r, rfl, p, q⟩ := h.inv
    simp only [List.getElem?_cons_succ] at e ⊢
    exact RepL.get q e
theorem RepL.take : ∀ {ts : List T} {vs : List V} (n : Nat), RepL c H Av ts vs → RepL c H Av (ts.take n) (vs.take n)
  | _, _, 0, _ => by simp only [List.take_zero]; exact RepL.nil
  | [], vs, n + 1, h => by rw [h.inv_nil]; exact RepL.nil
  | t :: ts, vs, n + 1, h => by
    obtain ⟨v, r, rfl, p, q⟩ := h.inv
    exact RepL.cons p (RepL.take n q)
theorem RepL.drop : ∀ {ts : List T} {vs : List V} (n : Nat), RepL c H Av ts vs → RepL c H Av (ts.drop n) (vs.drop n)
  | _, _, 0, h => h
  | [], vs, n + 1, h => by rw [h.inv_nil]; exact RepL.nil
  | t :: ts, vs, n + 1, h => by
    obtain ⟨v, r, rfl, p, q⟩ := h.inv
    exact RepL.drop n q
theorem RepL.reverse : ∀ {ts : List T} {vs : List V}, RepL c H Av ts vs → RepL c H Av ts.reverse vs.reverse
  | [], vs, h => by rw [h.inv_nil]; exact RepL.nil
  | t :: ts, vs, h => by
    obtain ⟨v, r, rfl, p, q⟩ := h.inv
    rw [List.reverse_cons, List.reverse_cons]
    exact RepL.append (RepL.reverse q) (RepL.cons p RepL.nil)
theorem RepL.rep {ts : List T} {vs : List V} (h : RepL c H Av ts vs) : ∀ n : Nat, RepL c H Av (List.replicate n ts).flatten (List.replicate n vs).flatten
  | 0 => RepL.nil
  | n + 1 => by
    rw [List.replicate_succ, List.replicate_succ, List.flatten_cons, List.flatten_cons]
    exact RepL.append h (RepL.rep h n)
theorem RepL.set : ∀ {ts : List T} {vs : List V} {t : T} {v : V} (i : Nat), RepL c H Av ts vs → Rep c H Av t v → RepL c H Av (ts.set i t) (vs.set i v)
  | [], vs, _, _, _, h, _ => by rw [h.inv_nil]; exact RepL.nil
  | t' :: ts, vs, t, v, 0, h, r => by
    obtain ⟨v', rr, rfl, p, q⟩ := h.inv
    exact RepL.cons r q
  | t' :: ts, vs, t, v, i + 1, h, r => by
    obtain ⟨v', rr, rfl, p, q⟩ := h.inv
    exact RepL.cons p (RepL.set i q r)
theorem RepL.eraseIdx : ∀ {ts : List T} {vs : List V} (i : Nat), RepL c H Av ts vs → RepL c H Av (ts.eraseIdx i) (vs.eraseIdx i)
  | [], vs, _, h => by rw [h.inv_nil]; exact RepL.nil
  | t' :: ts, vs, 0, h => by
    obtain ⟨v', rr, rfl, p, q⟩ := h.inv
    exact q
  | t' :: ts, vs, i + 1, h => by
    obtain ⟨v', rr, rfl, p, q⟩ := h.inv
    exact RepL.cons p (RepL.eraseIdx i q)
theorem RepL.dropLast {ts : List T} {vs : List V} (h : RepL c H Av ts vs) : RepL c H Av ts.dropLast vs.dropLast := by
  rw [List.dropLast_eq_take, List.dropLast_eq_take, h.length]
  exact h.take _
theorem RepL.ints : ∀ {ns : List Int} {vs : List V}, RepL c H Av (ns.map T.int) vs → vs = ns.map V.int
  | [], vs, h => h.inv_nil
  | n :: ns, vs, h => by
    obtain ⟨v, r, rfl, p, q⟩ := RepL.inv (t := .int n) (ts := ns.map T.int) h
    rw [Rep] at p
    rw [p, RepL.ints q]; rfl
theorem RepL.of_ints : ∀ (ns : List Int), RepL c H Av (ns.map T.int) (ns.map V.int)
  | [] => RepL.nil
  | n :: ns => RepL.cons (by rw [Rep]) (RepL.of_ints ns)

mutual
theorem Rep.dp : ∀ (n : Nat) (t : T) (v : V), T.dat n t = true → Rep c H Av t v → Dp c.K H v t.toD
  | _, .non, v, _, h => by rw [Rep] at h; subst h; exact .non
  | _, .bl b, v, _, h => by rw [Rep] at h; subst h; exact .bl b
  | _, .int i, v, _, h => by rw [Rep] at h; subst h; exact .int i
  | _, .str x, v, _, h => by rw [Rep] at h; subst h; exact .str x
  | n + 1, .tup ts, v, d, h => by
    rw [Rep] at h
    obtain ⟨a, vs, rfl, h1, h2⟩ := h
    rw [T.toD]
    exact .tup (SqT.of h1) (RepL.dp n ts vs (by rw [T.dat] at d; exact d) h2)
  | n + 1, .lst ts, v, d, h => by
    rw [Rep] at h
    obtain ⟨a, vs, rfl, _, h1, h2⟩ := h
    rw [T.toD]
    exact .lst (SqL.of h1) (RepL.dp n ts vs (by rw [T.dat] at d; exact d) h2)
  | 0, .tup ts, v, d, h => by rw [T.dat] at d; cases d
  | 0, .lst ts, v, d, h => by rw [T.dat] at d; cases d
  | n, .dct _, v, d, h => by rw [T.dat] at d; cases d
  | n, .ins _ _, v, d, h => by rw [T.dat] at d; cases d
  | n, .scr _, v, d, h => by rw [T.dat] at d; cases d
theorem RepL.dp : ∀ (n : Nat) (ts : List T) (vs : List V), T.dats n ts = true → RepL c H Av ts vs → DpAll c.K H vs (T.toDs ts)
  | _, [], vs, _, h => by rw [h.inv_nil, T.toDs]; exact .nil
  | n, t :: ts, vs, d, h => by
    obtain ⟨v, r, rfl, p, q⟩ := h.inv
    rw [T.dats, Bool.and_eq_true] at d
    rw [T.toDs]
    exact .cons (Rep.dp n t v d.1 p) (RepL.dp n ts r d.2 q)
end
theorem RepT.dp (n : Nat) {t : T} (d : T.dat n t = true) (h : RepT c H Av t v) : Dp c.K H v t.toD := by
  rcases h with h | ⟨a, e, h⟩
  · exact Rep.dp n t v d h
  · cases t with
    | lst ts =>
      obtain ⟨vs, h1, h2⟩ := h
      cases n with
      | zero => rw [T.dat] at d; cases d
      | succ n =>
        subst e
        rw [T.toD]
        exact .lst (SqL.of h1) (RepL.dp n ts vs (by rw [T.dat] at d; exact d) h2)
    | dct kvs => cases n <;> (rw [T.dat] at d; cases d)
    | _ => exact h.elim
mutual
theorem dat_lay : ∀ (n : Nat) (t : T), T.dat n t = true → PyData.canLay0 t.toD = true ∧ PyData.depth t.toD ≤ n
  | n, .non, _ => by simp [T.toD, PyData.canLay0, PyData.depth]
  | n, .bl b, _ => by simp [T.toD, PyData.canLay0, PyData.depth]
  | n, .int i, _ => by simp [T.toD, PyData.canLay0, PyData.depth]
  | n, .str x, d => by
    have d' : PyData.strOk x = true := by cases n <;> (rw [T.dat] at d; exact d)
    simp [T.toD, PyData.canLay0, PyData.depth, d']
  | n + 1, .tup ts, d => by
    have q := dats_lay n ts (by rw [T.dat] at d; exact d)
    simp only [T.toD, PyData.canLay0, PyData.depth]
    exact ⟨q.1, by omega⟩
  | n + 1, .lst ts, d => by
    have q := dats_lay n ts (by rw [T.dat] at d; exact d)
    simp only [T.toD, PyData.canLay0, PyData.depth]
    exact ⟨q.1, by omega⟩
  | 0, .tup ts, d => by rw [T.dat] at d; cases d
  | 0, .lst ts, d => by rw [T.dat] at d; cases d
  | n, .dct _, d => by rw [T.dat] at d; cases d
  | n, .ins _ _, d => by rw [T.dat] at d; cases d
  | n, .scr _, d => by rw [T.dat] at d; cases d
theorem dats_lay : ∀ (n : Nat) (ts : List T), T.dats n ts = true → PyData.canLayAll0 (T.toDs ts) = true ∧ PyData.depthAll (T.toDs ts) ≤ n
  | n, [], _ => by simp [T.toDs, PyData.canLayAll0, PyData.depthAll]
  | n, t :: ts, d => by
    rw [T.dats, Bool.and_eq_true] at d
    have p := dat_lay n t d.1
    have q := dats_lay n ts d.2
    simp only [T.toDs, PyData.canLayAll0, PyData.depthAll]
    exact ⟨by rw [p.1, q.1]; rfl, by omega⟩
end
theorem dat_shaped {n : Nat} {t : T} (hn : n ≤ 64) (d : T.dat n t = true) : SeqAt.shaped t.toD = true := by
  have q := dat_lay n t d
  show (PyData.canLay0 t.toD && decide (PyData.depth t.toD ≤ 64)) = true
  rw [Bool.and_eq_true]
  exact ⟨q.1, decide_eq_true (by omega)⟩

/-! ### outcomes -/
theorem Out.sh {t : T} {v : V} {fr : Bool} (hf : fr = false) (r : Rep c H Av t v) : Out c Av H fr t v H := by
  subst hf
  exact ⟨Gr.refl, r⟩
theorem Out.int {i : Int} {p : Prim} : Out c Av H (p.makes && isCell (.int i)) (.int i) (.int i) H := Out.sh (by simp [isCell]) (by rw [Rep])
theorem Out.bl {b : Bool} {p : Prim} : Out c Av H (p.makes && isCell (.bl b)) (.bl b) (.bl b) H := Out.sh (by simp [isCell]) (by rw [Rep])
theorem Out.lst {ts : List T} {vs : List V} {p : Prim} {a : Addr} (hp : p.makes = true) (ha : H a = none) (r : RepL c H Av ts vs) : Out c Av H (p.makes && isCell (.lst ts)) (.lst ts) (.ref a) (upd H a (.lst vs)) := by
  rw [hp]
  refine ⟨Gr.upd ha, a, rfl, ha, vs, upd_same, RepL.mono (Kp.of_all (Gr.upd ha)) (fun b o e z => ?_) _ _ r⟩
  rcases z with z | z
  · exact z
  · subst z; rw [ha] at e; cases e
theorem Out.tup {ts : List T} {vs : List V} {p : Prim} {a : Addr} (ha : H a = none) (r : RepL c H Av ts vs) : Out c Av H (p.makes && isCell (.tup ts)) (.tup ts) (.ref a) (upd H a (.tup vs)) := by
  refine ⟨Gr.upd ha, ?_⟩
  rw [if_neg (by simp [isCell]), Rep]
  exact ⟨a, vs, rfl, upd_same, RepL.mono (Kp.of_all (Gr.upd ha)) (fun _ _ _ z => z) _ _ r⟩
end

/-! ### two-place operations -/
section
variable {c : Cn}
/-- + of ints, lists, tuples, texts -/
def rAddT (c : Cn) : R2 := fun x y H Q => rI0 (fun i j => .int (i + j)) x y H Q ∨ rCat x y H Q ∨ rCatA c.K x y H Q ∨ ∃ i j, x = .str i ∧ y = .str j ∧ i.length + j.length ≤ sizeLine ∧ Q (.str (i ++ j)) H
theorem op_addT {X : Cx} (hK : X.K = c.K) : OpR X (binaryOp .Add) (rAddT c) := op_add.or (op_cat.or ((hK ▸ op_catA).or op_add_str))
theorem p2_add : P2 c .add (rAddT c) := by
  intro Av H tx ty x y t Q hx hy h k
  replace h : sAdd tx ty = some t := h
  cases tx <;> cases ty <;> simp only [sAdd] at h <;> try contradiction
  case int.int i j =>
    cases h
    exact .inl ⟨i, j, hx.int, hy.int, k _ _ Out.int⟩
  case str.str i j =>
    split at h <;> cases h
    rename_i hl
    exact .inr (.inr (.inr ⟨i, j, hx.str, hy.str, by rw [← line_eq]; exact hl, k _ _ (Out.sh (by simp [isCell]) (by rw [Rep]))⟩))
  case tup.tup as bs =>
    split at h <;> cases h
    rename_i hl
    obtain ⟨a, vs, rfl, h1, h2⟩ := hx.tup
    obtain ⟨b, ws, rfl, h3, h4⟩ := hy.tup
    refine .inr (.inr (.inl ⟨a, b, vs, ws, rfl, rfl, SqT.of h1, SqT.of h3, by rw [← line_eq, ← h2.length, ← h4.length]; exact hl, fun e => ?_, fun _ e => ?_, fun _ _ p hp => k _ _ (Out.tup hp (h2.append h4))⟩))
    · have e0 : as = [] := List.eq_nil_of_length_eq_zero (by rw [h2.length, e]; rfl)
      subst e0
      refine k _ _ (Out.sh (by simp [isCell]) ?_)
      exact hy.rep_tup
    · have e0 : bs = [] := List.eq_nil_of_length_eq_zero (by rw [h4.length, e]; rfl)
      subst e0
      refine k _ _ (Out.sh (by simp [isCell]) ?_)
      rw [List.append_nil]
      exact hx.rep_tup
  case lst.lst as bs =>
    split at h <;> cases h
    rename_i hl
    obtain ⟨a, vs, rfl, h1, h2⟩ := hx.lst
    obtain ⟨b, ws, rfl, h3, h4⟩ := hy.lst
    exact .inr (.inl ⟨a, b, vs, ws, rfl, rfl, h1, h3, by rw [← line_eq, ← h2.length, ← h4.length]; exact hl, fun p hp => k _ _ (Out.lst rfl hp (h2.append h4))⟩)
theorem p2_sub : P2 c .sub (rI0 fun i j => .int (i - j)) := by
  intro Av H tx ty x y t Q hx hy h k
  replace h : sSub tx ty = some t := h
  cases tx <;> cases ty <;> simp only [sSub] at h <;> try contradiction
  case int.int i j =>
    cases h
    exact ⟨i, j, hx.int, hy.int, k _ _ Out.int⟩
theorem small64_ok {i : Int} (h : small64 i = true) : -(2 ^ 64) < i ∧ i < 2 ^ 64 := by
  unfold small64 at h
  rw [Bool.and_eq_true] at h
  exact ⟨of_decide_eq_true h.1, of_decide_eq_true h.2⟩
def rMulT : R2 := fun x y H Q => rI CMul (fun i j => .int (i * j)) x y H Q ∨ rRep x y H Q
theorem op_mulT {X : Cx} : OpR X (binaryOp .Mult) rMulT := op_mul.or op_rep
theorem p2_fdiv : P2 c .fdiv (rI CDiv fun i j => .int (i / j)) := by
  intro Av H tx ty x y t Q hx hy h k
  replace h : sFdiv tx ty = some t := h
  cases tx <;> cases ty <;> simp only [sFdiv] at h <;> try contradiction
  case int.int i j =>
    split at h <;> cases h
    rename_i hl
    exact ⟨i, j, hx.int, hy.int, hl, k _ _ Out.int⟩
theorem p2_mod : P2 c .mod (rI (fun _ j => 0 < j) fun i j => .int (i % j)) := by
  intro Av H tx ty x y t Q hx hy h k
  replace h : sMod tx ty = some t := h
  cases tx <;> cases ty <;> simp only [sMod] at h <;> try contradiction
  case int.int i j =>
    split at h <;> cases h
    rename_i hl
    exact ⟨i, j, hx.int, hy.int, hl, k _ _ Out.int⟩
theorem p2_pow : P2 c .pow (rI CPow fun i j => .int (i ^ j.toNat)) := by
  intro Av H tx ty x y t Q hx hy h k
  replace h : sPow tx ty = some t := h
  cases tx <;> cases ty <;> simp only [sPow] at h <;> try contradiction
  case int.int i j =>
    split at h <;> cases h
    rename_i hl
    exact ⟨i, j, hx.int, hy.int, hl, k _ _ Out.int⟩
theorem p1_neg : P1 c .neg (rU fun i => .int (-i)) := by
  intro Av H tx x t Q hx h k
  replace h : sNeg tx = some t := h
  cases tx <;> simp only [sNeg] at h <;> try contradiction
  case int i =>
    cases h
    exact ⟨i, hx.int, k _ _ Out.int⟩
theorem p2_eq : P2 c .eq (rEqD c.K) := by
  intro Av H tx ty x y t Q hx hy h k
  replace h : sEq tx ty = some t := h
  unfold sEq at h
  split at h <;> cases h
  rename_i hd
  rw [Bool.and_eq_true] at hd
  exact ⟨_, _, hx.dp 60 hd.1, hy.dp 60 hd.2, dat_shaped (by decide) hd.1, dat_shaped (by decide) hd.2, k _ _ Out.bl⟩
theorem p2_ne : P2 c .ne (rNeD c.K) := by
  intro Av H tx ty x y t Q hx hy h k
  replace h : sNe tx ty = some t := h
  unfold sNe at h
  split at h <;> cases h
  rename_i hd
  rw [Bool.and_eq_true] at hd
  exact ⟨_, _, hx.dp 60 hd.1, hy.dp 60 hd.2, dat_shaped (by decide) hd.1, dat_shaped (by decide) hd.2, k _ _ Out.bl⟩
theorem p2_lt : P2 c .lt (rI0 fun i j => .bl (decide (i < j))) := by
  intro Av H tx ty x y t Q hx hy h k
  replace h : sLt tx ty = some t := h
  cases tx <;> cases ty <;> simp only [sLt] at h <;> try contradiction
  case int.int i j => cases h; exact ⟨i, j, hx.int, hy.int, k _ _ Out.bl⟩
theorem p2_le : P2 c .le (rI0 fun i j => .bl (decide (i ≤ j))) := by
  intro Av H tx ty x y t Q hx hy h k
  replace h : sLe tx ty = some t := h
  cases tx <;> cases ty <;> simp only [sLe] at h <;> try contradiction
  case int.int i j => cases h; exact ⟨i, j, hx.int, hy.int, k _ _ Out.bl⟩
theorem p2_gt : P2 c .gt (rI0 fun i j => .bl (decide (j < i))) := by
  intro Av H tx ty x y t Q hx hy h k
  replace h : sGt tx ty = some t := h
  cases tx <;> cases ty <;> simp only [sGt] at h <;> try contradiction
  case int.int i j => cases h; exact ⟨i, j, hx.int, hy.int, k _ _ Out.bl⟩
theorem p2_ge : P2 c .ge (rI0 fun i j => .bl (decide (j ≤ i))) := by
  intro Av H tx ty x y t Q hx hy h k
  replace h : sGe tx ty = some t := h
  cases tx <;> cases ty <;> simp only [sGe] at h <;> try contradiction
  case int.int i j => cases h; exact ⟨i, j, hx.int, hy.int, k _ _ Out.bl⟩
theorem RepT.ne_non {H : Hp} {Av : Addr → Prop} {t : T} {v : V} (h : RepT c H Av t v) (n : t ≠ .non) : v ≠ .non := by
  intro e
  subst e
  cases t with
  | non => exact n rfl
  | bl b => cases h.bl
  | int i => cases h.int
  | str x => cases h.str
  | tup ts => obtain ⟨a, vs, e, _⟩ := h.tup; cases e
  | lst ts => obtain ⟨a, vs, e, _⟩ := h.lst; cases e
  | dct kvs =>
    rcases h with h | ⟨a, e, _⟩
    · rw [Rep] at h; obtain ⟨a, e, _⟩ := h; cases e
    · cases e
  | ins n fs =>
    rcases h with h | ⟨a, e, _⟩
    · rw [Rep] at h; obtain ⟨a, dx, fv, e, _⟩ := h; cases e
    · cases e
  | scr ns => obtain ⟨a, e, _⟩ := h.scr; cases e
def rIsN : R2 := fun x y H Q => y = .non ∧ Q (.bl (decide (x = .non))) H
def rNotN : R2 := fun x y H Q => y = .non ∧ Q (.bl (!decide (x = .non))) H
theorem non_dec {H : Hp} {Av : Addr → Prop} {t : T} {v : V} (h : RepT c H Av t v) : decide (v = .non) = isNon t := by
  by_cases e : t = .non
  · subst e; rw [h.non]; rfl
  · rw [decide_eq_false (h.ne_non e)]
    cases t <;> first | exact absurd rfl e | rfl
theorem p2_isN : P2 c .isN rIsN := by
  intro Av H tx ty x y t Q hx hy h k
  replace h : sIsN tx ty = some t := h
  unfold sIsN at h
  split at h <;> cases h
  rename_i hn
  have e : ty = .non := by cases ty <;> first | rfl | cases hn
  subst e
  refine ⟨hy.non, ?_⟩
  rw [non_dec hx]
  exact k _ _ Out.bl
theorem p2_notN : P2 c .notN rNotN := by
  intro Av H tx ty x y t Q hx hy h k
  replace h : sNotN tx ty = some t := h
  unfold sNotN at h
  split at h <;> cases h
  rename_i hn
  have e : ty = .non := by cases ty <;> first | rfl | cases hn
  subst e
  refine ⟨hy.non, ?_⟩
  rw [non_dec hx]
  exact k _ _ Out.bl
end
end DD
/-! DPrim2: built-in calls, subscripts, by values. -/
namespace DD
open PySem L2
section
variable {c : Cn}
/-! ### subscripts -/
theorem ixAt_get {H : Hp} {Av : Addr → Prop} {ts : List T} {vs : List V} {i : Int} {t : T} (r : RepL c H Av ts vs) (h : ixAt ts i = some t) : ∃ v, atI vs i = some v ∧ Rep c H Av t v := by
  unfold ixAt at h
  unfold atI ixN
  have hl := r.length
  by_cases h0 : 0 ≤ i
  · rw [if_pos h0] at h ⊢
    obtain ⟨v, h1, h2⟩ := r.get h
    have hi : i.toNat < vs.length := (List.getElem?_eq_some_iff.mp h1).1
    rw [if_pos (by omega)]
    exact ⟨v, h1, h2⟩
  · rw [if_neg h0] at h ⊢
    by_cases h1 : -(ts.length : Int) ≤ i
    · rw [if_pos h1] at h
      rw [if_pos (by rw [← hl]; exact h1)]
      obtain ⟨v, h2, h3⟩ := r.get h
      refine ⟨v, ?_, h3⟩
      rw [hl] at h2
      exact h2
    · rw [if_neg h1] at h; cases h
theorem p2_ixS : ∀ (Av : Addr → Prop) (H : Hp) (tx ty : T) (x y : V) (t : T) (Q : VK), RepT c H Av tx x → RepT c H Av ty y → sIx tx ty = some t → tyDict tx = false → (∀ v H', Out c Av H false t v H' → Q v H') → rIx c.K x y H Q := by
  intro Av H tx ty x y t Q hx hy h hd k
  cases tx <;> cases ty <;> simp only [sIx] at h <;> try contradiction
  case lst.int ts i =>
    obtain ⟨a, vs, rfl, h1, h2⟩ := hx.lst
    obtain ⟨v, q1, q2⟩ := ixAt_get h2 h
    exact .inl ⟨a, vs, i, v, rfl, hy.int, SqL.of h1, q1, k _ _ (Out.sh rfl q2)⟩
  case tup.int ts i =>
    obtain ⟨a, vs, rfl, h1, h2⟩ := hx.tup
    obtain ⟨v, q1, q2⟩ := ixAt_get h2 h
    exact .inr (.inl ⟨a, vs, i, v, rfl, hy.int, SqT.of h1, q1, k _ _ (Out.sh rfl q2)⟩)
/-! ### in -/
theorem any_toD (x : T) : ∀ ts : List T, ((T.toDs ts).any fun z => PyData.eqv z x.toD) = ts.any fun y => T.eqv y x
  | [] => rfl
  | t :: ts => by rw [T.toDs, List.any_cons, List.any_cons, any_toD x ts]; rfl
def rInS (K : PySem.W.Frag) (neg : Bool) : R2 := fun x y H Q => ∃ d ds, Dp K H x d ∧ (Dp K H y (.list ds) ∨ Dp K H y (.tuple ds)) ∧ PyData.canLay0 d = true ∧ PyData.canLayAll0 ds = true ∧ PyData.depth d ≤ 64 ∧ Q (.bl (if neg then !(ds.any fun z => PyData.eqv z d) else ds.any fun z => PyData.eqv z d)) H
theorem op_inS {X : Cx} (hK : X.K = c.K) (hu : X.A.units + 200 < cLine) : OpR X (compareOp .In) (rInS c.K false) := by
  intro pins s σ H x y v u Q I rx ry h
  obtain ⟨d, ds, hd, he, sd, se, hdp, q⟩ := h
  rw [← hK] at hd he
  obtain ⟨as, r1⟩ := Dp.reads I d x v hd rx
  have room : X.A.units + 1 + min (PyData.depthAll ds) d.depth < cLine := by omega
  rcases he with he | he
  · obtain ⟨bs, r2⟩ := Dp.reads I (.list ds) y u he ry
    exact SeqAt.in_list_reads r2 r1 se sd room ⟨.bl _, H, I, rfl, q⟩
  · obtain ⟨bs, r2⟩ := Dp.reads I (.tuple ds) y u he ry
    exact SeqAt.in_tuple_reads r2 r1 se sd room ⟨.bl _, H, I, rfl, q⟩
theorem op_notinS {X : Cx} (hK : X.K = c.K) (hu : X.A.units + 200 < cLine) : OpR X (compareOp .NotIn) (rInS c.K true) := by
  intro pins s σ H x y v u Q I rx ry h
  obtain ⟨d, ds, hd, he, sd, se, hdp, q⟩ := h
  rw [← hK] at hd he
  obtain ⟨as, r1⟩ := Dp.reads I d x v hd rx
  have room : X.A.units + 1 + min (PyData.depthAll ds) d.depth < cLine := by omega
  rcases he with he | he
  · obtain ⟨bs, r2⟩ := Dp.reads I (.list ds) y u he ry
    exact SeqAt.notIn_list_reads r2 r1 se sd room ⟨.bl _, H, I, rfl, q⟩
  · obtain ⟨bs, r2⟩ := Dp.reads I (.tuple ds) y u he ry
    exact SeqAt.notIn_tuple_reads r2 r1 se sd room ⟨.bl _, H, I, rfl, q⟩
theorem RepL.dpl {H : Hp} {Av : Addr → Prop} {n : Nat} {ts : List T} {vs : List V} (d : T.dats n ts = true) (h : RepL c H Av ts vs) : DpAll c.K H vs (T.toDs ts) := RepL.dp n ts vs d h
theorem in_core {neg : Bool} {Av : Addr → Prop} {H : Hp} {tx : T} {ts : List T} {x y : V} {t : T} {Q : VK} (hx : RepT c H Av tx x) (hy : (∃ a vs, y = .ref a ∧ H a = some (.lst vs) ∧ RepL c H Av ts vs) ∨ ∃ a vs, y = .ref a ∧ H a = some (.tup vs) ∧ RepL c H Av ts vs)
    (h : (if T.dat 59 tx && T.dats 59 ts then some (T.bl (if neg then !(ts.any fun y => T.eqv y tx) else ts.any fun y => T.eqv y tx)) else none) = some t) (k : ∀ v H', Out c Av H false t v H' → Q v H') : rInS c.K neg x y H Q := by
  split at h <;> cases h
  rename_i hd
  rw [Bool.and_eq_true] at hd
  have l1 := dat_lay 59 tx hd.1
  have l2 := dats_lay 59 ts hd.2
  refine ⟨tx.toD, T.toDs ts, hx.dp 59 hd.1, ?_, l1.1, l2.1, by omega, ?_⟩
  · rcases hy with ⟨a, vs, rfl, h1, h2⟩ | ⟨a, vs, rfl, h1, h2⟩
    · exact .inl (.lst (SqL.of h1) (h2.dpl hd.2))
    · exact .inr (.tup (SqT.of h1) (h2.dpl hd.2))
  · rw [any_toD]
    exact k _ _ (Out.sh rfl (by rw [Rep]))
theorem p2_inS (Av : Addr → Prop) (H : Hp) (tx ty : T) (x y : V) (t : T) (Q : VK) (hx : RepT c H Av tx x) (hy : RepT c H Av ty y) (h : sIn tx ty = some t) (hd : tyDict ty = false) (k : ∀ v H', Out c Av H false t v H' → Q v H') : rInS c.K false x y H Q := by
  cases ty <;> simp only [sIn] at h <;> try contradiction
  case lst ts => exact in_core hx (.inl hy.lst) h k
  case tup ts => exact in_core hx (.inr hy.tup) h k
theorem p2_notinS (Av : Addr → Prop) (H : Hp) (tx ty : T) (x y : V) (t : T) (Q : VK) (hx : RepT c H Av tx x) (hy : RepT c H Av ty y) (h : sNotin tx ty = some t) (hd : tyDict ty = false) (k : ∀ v H', Out c Av H false t v H' → Q v H') : rInS c.K true x y H Q := by
  cases ty <;> simp only [sNotin] at h <;> try contradiction
  case lst ts => exact in_core (neg := true) hx (.inl hy.lst) h k
  case tup ts => exact in_core (neg := true) hx (.inr hy.tup) h k

/-! ### one argument -/
theorem RepTs.one {H : Hp} {Av : Addr → Prop} {p : Prim} {f : T → Option T} {ts : List T} {vs : List V} {t : T} (r : RepTs c H Av ts vs) (h : one f ts = some t) : ∃ tx x, ts = [tx] ∧ vs = [x] ∧ RepT c H Av tx x ∧ f tx = some t := by
  cases r with
  | nil => cases h
  | cons a r =>
    cases r with
    | nil => exact ⟨_, _, rfl, rfl, a, h⟩
    | cons b r => cases h
theorem RepTs.two {H : Hp} {Av : Addr → Prop} {p : Prim} {f : T → T → Option T} {ts : List T} {vs : List V} {t : T} (r : RepTs c H Av ts vs) (h : two f ts = some t) : ∃ tx ty x y, ts = [tx, ty] ∧ vs = [x, y] ∧ RepT c H Av tx x ∧ RepT c H Av ty y ∧ f tx ty = some t := by
  cases r with
  | nil => cases h
  | cons a r =>
    cases r with
    | nil => cases h
    | cons b r =>
      cases r with
      | nil => exact ⟨_, _, _, _, rfl, rfl, a, b, h⟩
      | cons _ _ => cases h
def rLenT (K : PySem.W.Frag) : List V → Hp → VK → Prop := fun xs H Q => ∃ x n, xs = [x] ∧ LenV K x H n ∧ Q (.int n) H
theorem pn_len (Av : Addr → Prop) (H : Hp) (ts : List T) (vs : List V) (t : T) (Q : VK) (r : RepTs c H Av ts vs) (h : one sLen ts = some t) (hd : ∀ a, ts = [a] → tyDict a = false) (k : ∀ v H', Out c Av H false t v H' → Q v H') : rLenT c.K vs H Q := by
  have q := r.one (p := .len) h
  clear h r
  obtain ⟨tx, x, rfl, rfl, hx, h⟩ := q
  replace hd := hd _ rfl
  cases tx <;> simp only [sLen] at h <;> try contradiction
  case lst ts =>
    cases h
    obtain ⟨a, ws, rfl, h1, h2⟩ := hx.lst
    exact ⟨_, ts.length, rfl, .inl ⟨ws, SqL.of h1, h2.length⟩, k _ _ (Out.sh rfl (by rw [Rep]))⟩
  case tup ts =>
    cases h
    obtain ⟨a, ws, rfl, h1, h2⟩ := hx.tup
    exact ⟨_, ts.length, rfl, .inr ⟨ws, SqT.of h1, h2.length⟩, k _ _ (Out.sh rfl (by rw [Rep]))⟩
  case str z =>
    split at h <;> cases h
    rename_i hl
    rw [hx.str]
    exact ⟨_, z.length, rfl, ⟨by rw [← line_eq]; exact hl, rfl⟩, k _ _ (Out.sh rfl (by rw [Rep]))⟩
theorem pn_abs : PN c .abs (fun xs H Q => ∃ i, xs = [.int i] ∧ Q (.int (if i < 0 then -i else i)) H) := by
  intro Av H ts vs t Q r h k
  have q := r.one (p := .abs) h
  clear h r
  obtain ⟨tx, x, rfl, rfl, hx, h⟩ := q
  cases tx <;> simp only [sAbs] at h <;> try contradiction
  case int i => cases h; rw [hx.int]; exact ⟨i, rfl, k _ _ Out.int⟩
theorem pn_int : PN c .int (fun xs H Q => (∃ i, xs = [.int i] ∧ Q (.int i) H) ∨ ∃ k, xs = [.bl k] ∧ Q (.int (if k then 1 else 0)) H) := by
  intro Av H ts vs t Q r h k
  have q := r.one (p := .int) h
  clear h r
  obtain ⟨tx, x, rfl, rfl, hx, h⟩ := q
  cases tx <;> simp only [sInt] at h <;> try contradiction
  case int i => cases h; rw [hx.int]; exact .inl ⟨i, rfl, k _ _ Out.int⟩
  case bl b => cases h; rw [hx.bl]; exact .inr ⟨b, rfl, k _ _ Out.int⟩
theorem seq_of {H : Hp} {Av : Addr → Prop} {t : T} {x : V} {ts : List T} (hx : RepT c H Av t x) (h : seqOf t = some ts) : (∃ a vs, x = .ref a ∧ H a = some (.lst vs) ∧ RepL c H Av ts vs ∧ t = .lst ts) ∨ ∃ a vs, x = .ref a ∧ H a = some (.tup vs) ∧ RepL c H Av ts vs ∧ t = .tup ts := by
  cases t <;> simp only [seqOf] at h <;> try contradiction
  case tup ws => cases h; obtain ⟨a, vs, e, h1, h2⟩ := hx.tup; exact .inr ⟨a, vs, e, h1, h2, rfl⟩
  case lst ws => cases h; obtain ⟨a, vs, e, h1, h2⟩ := hx.lst; exact .inl ⟨a, vs, e, h1, h2, rfl⟩
theorem pn_tuple : PN c .tuple (fun xs H Q => ∃ p ys, xs = [.ref p] ∧ ((SqL c.K H p ys ∧ ∀ l, H l = none → Q (.ref l) (upd H l (.tup ys))) ∨ (SqT c.K H p ys ∧ Q (.ref p) H))) := by
  intro Av H ts vs t Q r h k
  have q := r.one (p := .tuple) h
  clear h r
  obtain ⟨tx, x, rfl, rfl, hx, h⟩ := q
  unfold sTuple at h
  cases e : seqOf tx with
  | none => rw [e] at h; cases h
  | some us =>
    rw [e] at h
    cases h
    rcases seq_of hx e with ⟨a, ws, rfl, h1, h2, rfl⟩ | ⟨a, ws, rfl, h1, h2, rfl⟩
    · exact ⟨a, ws, rfl, .inl ⟨SqL.of h1, fun l hl => k _ _ (Out.tup hl h2)⟩⟩
    · exact ⟨a, ws, rfl, .inr ⟨SqT.of h1, k _ _ (Out.sh (by simp [isCell]) hx.rep_tup)⟩⟩
theorem pn_list : PN c .list (fun xs H Q => ∃ p ys, xs = [.ref p] ∧ (SqL c.K H p ys ∨ SqT c.K H p ys) ∧ ∀ l, H l = none → Q (.ref l) (upd H l (.lst ys))) := by
  intro Av H ts vs t Q r h k
  have q := r.one (p := .list) h
  clear h r
  obtain ⟨tx, x, rfl, rfl, hx, h⟩ := q
  unfold sList at h
  cases e : seqOf tx with
  | none => rw [e] at h; cases h
  | some us =>
    rw [e] at h
    cases h
    rcases seq_of hx e with ⟨a, ws, rfl, h1, h2, rfl⟩ | ⟨a, ws, rfl, h1, h2, rfl⟩
    · exact ⟨a, ws, rfl, .inl (SqL.of h1), fun l hl => k _ _ (Out.lst rfl hl h2)⟩
    · exact ⟨a, ws, rfl, .inr (SqT.of h1), fun l hl => k _ _ (Out.lst rfl hl h2)⟩
theorem sumI_ints : ∀ {ts : List T} {n : Int}, sumI ts = some n → ∃ ns : List Int, ts = ns.map T.int ∧ n = ns.sum
  | [], n, h => by simp only [sumI] at h; cases h; exact ⟨[], rfl, rfl⟩
  | .int i :: r, n, h => by
    simp only [sumI] at h
    cases e : sumI r with
    | none => rw [e] at h; cases h
    | some m =>
      rw [e] at h
      cases h
      obtain ⟨ns, rfl, rfl⟩ := sumI_ints e
      exact ⟨i :: ns, rfl, by simp⟩
  | .non :: _, _, h | .bl _ :: _, _, h | .str _ :: _, _, h | .tup _ :: _, _, h | .lst _ :: _, _, h | .dct _ :: _, _, h | .ins _ _ :: _, _, h | .scr _ :: _, _, h => by simp only [sumI] at h; cases h
def rSumT (K : PySem.W.Frag) : List V → Hp → VK → Prop := fun vs H Q => ∃ (a : Addr) (ns : List Int), vs = [V.ref a] ∧ SqT K H a (ns.map V.int) ∧ Q (.int ns.sum) H
theorem cr_sumT {X : Cx} (hc : X.calm = true) : CallR X (.builtin "sum") (rSumT X.K) := by
  intro pins s σ H vs us Q I r h
  obtain ⟨a, ns, rfl, hs, q⟩ := h
  obtain ⟨its, rv, hl, _⟩ := I.tuple hs
  rw [Vals.ref1 r]
  have hi := rv.ints
  obtain ⟨xs, e⟩ := hi.allInts.items
  have hn : PySem.numsOf (intItems xs).toList = ns := by rw [← e]; exact hi.numsOf
  rw [PySem.nums_intItems] at hn
  have hl : s.heap.IsTuple a its.toArray := hl
  rw [e] at hl
  refine PySem.W.ktm_sumG (I.ok.hd hc) hl fun h' tk t' hk => ⟨.int ns.sum, H, I.kept hk, ⟨t', ?_⟩, q⟩
  rw [preSum_eq, List.take_of_length_le (by simp), hn]
theorem pn_sum : PN c .sum (fun vs H Q => rSum c.K vs H Q ∨ rSumT c.K vs H Q) := by
  intro Av H ts vs t Q r h k
  have q := r.one (p := .sum) h
  clear h r
  obtain ⟨tx, x, rfl, rfl, hx, h⟩ := q
  cases tx <;> simp only [sSum] at h <;> try contradiction
  case lst us =>
    cases e : sumI us with
    | none => rw [e] at h; cases h
    | some n =>
      rw [e] at h
      cases h
      obtain ⟨ns, rfl, rfl⟩ := sumI_ints e
      obtain ⟨a, ws, rfl, h1, h2⟩ := hx.lst
      rw [h2.ints] at h1
      exact .inl ⟨a, ns, rfl, SqL.of h1, k _ _ Out.int⟩
  case tup us =>
    cases e : sumI us with
    | none => rw [e] at h; cases h
    | some n =>
      rw [e] at h
      cases h
      obtain ⟨ns, rfl, rfl⟩ := sumI_ints e
      obtain ⟨a, ws, rfl, h1, h2⟩ := hx.tup
      rw [h2.ints] at h1
      exact .inr ⟨a, ns, rfl, SqT.of h1, k _ _ Out.int⟩
theorem blsT_bls : ∀ {ts : List T} {bs : List Bool}, blsT ts = some bs → ts = bs.map T.bl
  | [], n, h => by simp only [blsT] at h; cases h; rfl
  | .bl i :: r, n, h => by
    simp only [blsT] at h
    cases e : blsT r with
    | none => rw [e] at h; cases h
    | some m => rw [e] at h; cases h; rw [blsT_bls e]; rfl
  | .non :: _, _, h | .int _ :: _, _, h | .str _ :: _, _, h | .tup _ :: _, _, h | .lst _ :: _, _, h | .dct _ :: _, _, h | .ins _ _ :: _, _, h | .scr _ :: _, _, h => by simp only [blsT] at h; cases h
theorem RepL.bls {H : Hp} {Av : Addr → Prop} : ∀ {bs : List Bool} {vs : List V}, RepL c H Av (bs.map T.bl) vs → vs = bs.map V.bl
  | [], vs, h => h.inv_nil
  | n :: ns, vs, h => by
    obtain ⟨v, r, rfl, p, q⟩ := RepL.inv (t := .bl n) (ts := ns.map T.bl) h
    rw [Rep] at p
    rw [p, RepL.bls q]; rfl
theorem pn_all : PN c .all (rAll c.K) := by
  intro Av H ts vs t Q r h k
  have q := r.one (p := .all) h
  clear h r
  obtain ⟨tx, x, rfl, rfl, hx, h⟩ := q
  cases tx <;> simp only [sAll] at h <;> try contradiction
  case lst us =>
    cases e : blsT us with
    | none => rw [e] at h; cases h
    | some bs =>
      rw [e] at h
      cases h
      obtain ⟨a, ws, rfl, h1, h2⟩ := hx.lst
      rw [blsT_bls e] at h2
      rw [h2.bls] at h1
      exact ⟨a, bs, rfl, SqL.of h1, k _ _ Out.bl⟩
theorem pn_any : PN c .any (rAny c.K) := by
  intro Av H ts vs t Q r h k
  have q := r.one (p := .any) h
  clear h r
  obtain ⟨tx, x, rfl, rfl, hx, h⟩ := q
  cases tx <;> simp only [sAny] at h <;> try contradiction
  case lst us =>
    cases e : blsT us with
    | none => rw [e] at h; cases h
    | some bs =>
      rw [e] at h
      cases h
      obtain ⟨a, ws, rfl, h1, h2⟩ := hx.lst
      rw [blsT_bls e] at h2
      rw [h2.bls] at h1
      exact ⟨a, bs, rfl, SqL.of h1, k _ _ Out.bl⟩
theorem pn_min2 : PN c .min2 (fun xs H Q => ∃ i j, xs = [.int i, .int j] ∧ Q (.int (if j < i then j else i)) H) := by
  intro Av H ts vs t Q r h k
  have q := r.two (p := .min2) h
  clear h r
  obtain ⟨tx, ty, x, y, rfl, rfl, hx, hy, h⟩ := q
  cases tx <;> cases ty <;> simp only [sMin2] at h <;> try contradiction
  case int.int i j => cases h; rw [hx.int, hy.int]; exact ⟨i, j, rfl, k _ _ Out.int⟩
theorem pn_max2 : PN c .max2 (fun xs H Q => ∃ i j, xs = [.int i, .int j] ∧ Q (.int (if j > i then j else i)) H) := by
  intro Av H ts vs t Q r h k
  have q := r.two (p := .max2) h
  clear h r
  obtain ⟨tx, ty, x, y, rfl, rfl, hx, hy, h⟩ := q
  cases tx <;> cases ty <;> simp only [sMax2] at h <;> try contradiction
  case int.int i j => cases h; rw [hx.int, hy.int]; exact ⟨i, j, rfl, k _ _ Out.int⟩
/-! ### isinstance of a built-in type -/
def tyOfT : T → String
  | .non => "NoneType" | .bl _ => "bool" | .int _ => "int" | .str _ => "str" | .tup _ => "tuple" | .lst _ => "list" | .dct _ => "dict" | _ => ""
theorem tyOf_rep {H : Hp} {Av : Addr → Prop} {t : T} {v : V} (h : RepT c H Av t v) (hs : (isScr t || isIns t) = false) : TyOf c.K H v (.type (tyOfT t)) := by
  cases t with
  | non => rw [h.non]; exact .non
  | bl b => rw [h.bl]; exact .bl b
  | int i => rw [h.int]; exact .int i
  | str x => rw [h.str]; exact .str x
  | tup ts => obtain ⟨a, vs, rfl, h1, _⟩ := h.tup; exact .tup h1
  | lst ts => obtain ⟨a, vs, rfl, h1, _⟩ := h.lst; exact .lst h1
  | dct kvs =>
    rcases h with h | ⟨a, rfl, h⟩
    · rw [Rep] at h
      obtain ⟨a, rfl, _, h⟩ := h
      rcases h with ⟨ks, h, _⟩ | ⟨ks, h, _⟩
      · exact .dK h
      · exact .dT h
    · rcases h with ⟨ks, h, _⟩ | ⟨ks, h, _⟩
      · exact .dK h
      · exact .dT h
  | ins n fs => cases hs
  | scr ns => cases hs
/-- isinstance(x, T) -/
def rIsTy (K : PySem.W.Frag) (n : String) : List V → Hp → VK → Prop := fun xs H Q => ∃ x t b, xs = [x, .ty n] ∧ TyOf K H x t ∧ PySem.W.kitOne K t (.type n) = some b ∧ Q (.bl b) H
theorem call_isTyB {X : Cx} {n : String} : CallR X (.builtin "isinstance") (rIsTy X.K n) := by
  intro pins s σ H xs us Q I r h
  obtain ⟨x, t, b, rfl, ty, e, q⟩ := h
  obtain ⟨u1, u2, rfl, r1, r2⟩ := vals2 r
  cases (show u2 = Value.type n from r2)
  exact isinst_ok I r1 ty e fun tk => ⟨.bl b, H, I.tok tk, rfl, q⟩
end
end DD
/-! DSeq: slices, sorting, least and greatest, count, index. -/
namespace DD
open PySem L2
section
variable {c : Cn}
/-! ### slices -/
theorem cutT_rep {H : Hp} {Av : Addr → Prop} {ts : List T} {vs : List V} (r : RepL c H Av ts vs) (lo hi : Option Int) : RepL c H Av (cutT ts lo hi) (cutV vs lo hi) := by
  have hl := r.length
  have e1 : ∀ (n d : Nat) (o : Option Int), clipO n d o = HT.sIx n d o := fun n d o => by cases o <;> rfl
  unfold cutT cutV
  rw [e1, e1, hl]
  exact (r.drop _).take _
def rSlT' (K : PySem.W.Frag) : V → Option Int → Option Int → Hp → VK → Prop := fun x lo hi H Q => rSlL K x lo hi H Q ∨ rSlA K x lo hi H Q
theorem sl_all {X : Cx} : SlR X (rSlT' X.K) := sl_list.or sl_tupA
theorem slice_core {Av : Addr → Prop} {H : Hp} {tx : T} {x : V} {lo hi : Option Int} {t : T} {Q : VK} (hx : RepT c H Av tx x) (h : sSlice tx lo hi = some t) (k : ∀ v H', Out c Av H (true && isCell t) t v H' → Q v H') : rSlT' c.K x lo hi H Q := by
  unfold sSlice at h
  split at h
  · rename_i ts
    cases h
    obtain ⟨a, vs, rfl, h1, h2⟩ := hx.lst
    exact .inl ⟨a, vs, rfl, SqL.of h1, fun p hp => k _ _ (Out.lst (p := .list) rfl hp (cutT_rep h2 lo hi))⟩
  · rename_i ts
    cases h
    obtain ⟨a, vs, rfl, h1, h2⟩ := hx.tup
    refine .inr ⟨a, vs, rfl, SqT.of h1, fun e => ?_, fun _ p hp => k _ _ (Out.tup (p := .list) hp (cutT_rep h2 lo hi))⟩
    have r := cutT_rep h2 lo hi
    have e0 : cutV vs lo hi = vs := by
      unfold cutV
      rw [e.1, e.2]
      simp
    rw [e0] at r
    refine k _ _ (Out.sh (by simp [isCell]) ?_)
    rw [Rep]
    exact ⟨a, vs, rfl, h1, r⟩
  · rename_i ns
    cases h
    obtain ⟨a, rfl, h1⟩ := hx.scr
    exact .inl ⟨a, _, rfl, h1, fun p hp => k _ _ (Out.lst (p := .list) rfl hp (cutT_rep (RepL.of_ints ns) lo hi))⟩
  · cases h
/-! ### sorting -/
theorem lt_le (rev : Bool) : PySem.W.dataLe rev T.toD = fun a b => cond rev (!T.ltv a b) (!T.ltv b a) := PySem.W.dataLe_eq rev T.toD
theorem ins_eq {α : Type} {le : α → α → Bool} {ins : α → List α → List α} (h0 : ∀ x, ins x [] = [x]) (h1 : ∀ x y ys, ins x (y :: ys) = if le x y then x :: y :: ys else y :: ins x ys) :
    ∀ (x : α) (l₁ l₂ : List α), (∀ b ∈ l₁, le x b = false) → (∀ b, l₂.head? = some b → le x b = true) → ins x (l₁ ++ l₂) = l₁ ++ x :: l₂
  | x, [], [], _, _ => h0 x
  | x, [], b :: l₂, _, g => by rw [List.nil_append, h1, if_pos (g b rfl)]; rfl
  | x, a :: l₁, l₂, h, g => by
    rw [List.cons_append, h1, if_neg (by rw [h a List.mem_cons_self]; exact Bool.false_ne_true), ins_eq h0 h1 x l₁ l₂ (fun b hb => h b (List.mem_cons_of_mem _ hb)) g]; rfl
theorem sort_eq {α : Type} {le : α → α → Bool} {ins : α → List α → List α} {srt : List α → List α} (tr : ∀ a b c, le a b = true → le b c = true → le a c = true) (tot : ∀ a b, (le a b || le b a) = true)
    (h0 : ∀ x, ins x [] = [x]) (h1 : ∀ x y ys, ins x (y :: ys) = if le x y then x :: y :: ys else y :: ins x ys) (s0 : srt [] = []) (s1 : ∀ x xs, srt (x :: xs) = ins x (srt xs)) : ∀ l : List α, l.mergeSort le = srt l
  | [] => by rw [s0]; simp
  | x :: xs => by
    obtain ⟨l₁, l₂, e1, e2, e3⟩ := List.mergeSort_cons tr tot x xs
    rw [s1, ← sort_eq tr tot h0 h1 s0 s1 xs, e2, e1]
    symm
    refine ins_eq h0 h1 x l₁ l₂ (fun b hb => ?_) fun b hb => ?_
    · have := e3 b hb
      simpa using this
    · cases l₂ with
      | nil => cases hb
      | cons d l₂ =>
        cases hb
        have p := List.pairwise_mergeSort tr tot (x :: xs)
        rw [e1, List.pairwise_append] at p
        exact (List.pairwise_cons.mp p.2.1).1 _ List.mem_cons_self
theorem le_tr (rev : Bool) : ∀ a b d : T, PySem.W.dataLe rev T.toD a b = true → PySem.W.dataLe rev T.toD b d = true → PySem.W.dataLe rev T.toD a d = true := (PySem.W.sortLe_total _ rev _).trans
theorem le_tot (rev : Bool) : ∀ a b : T, (PySem.W.dataLe rev T.toD a b || PySem.W.dataLe rev T.toD b a) = true := fun a b => by
  rw [Bool.or_eq_true]
  exact (PySem.W.sortLe_total _ rev _).total a b
theorem merge_up (l : List T) : l.mergeSort (PySem.W.dataLe false T.toD) = sortT l := by
  refine sort_eq (ins := insT) (le_tr false) (le_tot false) (fun x => rfl) (fun x y ys => ?_) rfl (fun x xs => rfl) l
  show (if T.ltv y x = true then _ else _) = _
  rw [lt_le]
  show _ = if (!T.ltv y x) = true then _ else _
  cases T.ltv y x <;> rfl
theorem merge_down (l : List T) : l.mergeSort (PySem.W.dataLe true T.toD) = sortTr l := by
  refine sort_eq (ins := insTr) (le_tr true) (le_tot true) (fun x => rfl) (fun x y ys => ?_) rfl (fun x xs => rfl) l
  show (if T.ltv x y = true then _ else _) = _
  rw [lt_le]
  show _ = if (!T.ltv x y) = true then _ else _
  cases T.ltv x y <;> rfl
theorem alk_all {xs : List T} (h : alkAll xs = true) : PySem.W.AllAlike (xs.map T.toD) := by
  intro d hd d' hd'
  obtain ⟨x, hx, rfl⟩ := List.mem_map.mp hd
  obtain ⟨y, hy, rfl⟩ := List.mem_map.mp hd'
  exact List.all_eq_true.mp (List.all_eq_true.mp h x hx) y hy
theorem dats_mem {n : Nat} : ∀ {xs : List T}, T.dats n xs = true → ∀ x ∈ xs, T.dat n x = true
  | [], _, x, hx => nomatch hx
  | y :: ys, h, x, hx => by
    rw [T.dats, Bool.and_eq_true] at h
    rcases List.mem_cons.mp hx with rfl | hx
    · exact h.1
    · exact dats_mem h.2 x hx
theorem srt_able {xs : List T} (hd : T.dats 40 xs = true) (h : (xs.all isTupC || xs.all noTupNon) = true) : PySem.W.Sortable (xs.map T.toD) := by
  rw [Bool.or_eq_true] at h
  rcases h with h | h
  · refine .inl fun d hd => ?_
    obtain ⟨x, hx, rfl⟩ := List.mem_map.mp hd
    have q := List.all_eq_true.mp h x hx
    cases x with
    | tup ts =>
      cases ts with
      | nil => cases q
      | cons t ts => exact ⟨t.toD, T.toDs ts, by rw [T.toD, T.toDs]⟩
    | _ => cases q
  · refine .inr fun d hd' => ?_
    obtain ⟨x, hx, rfl⟩ := List.mem_map.mp hd'
    have q := List.all_eq_true.mp h x hx
    have d' := dats_mem hd x hx
    cases x with
    | non => cases q
    | tup _ => cases q
    | bl _ => exact ⟨(fun e => by simp [T.toD] at e), fun ys e => by simp [T.toD] at e⟩
    | int _ => exact ⟨(fun e => by simp [T.toD] at e), fun ys e => by simp [T.toD] at e⟩
    | str _ => exact ⟨(fun e => by simp [T.toD] at e), fun ys e => by simp [T.toD] at e⟩
    | lst _ => exact ⟨(fun e => by simp [T.toD] at e), fun ys e => by simp [T.toD] at e⟩
    | dct _ => simp [T.dat] at d'
    | ins _ _ => simp [T.dat] at d'
    | scr _ => simp [T.dat] at d'
/-- values and what they stand for, one by one -/
def RV (c : Cn) (H : Hp) (Av : Addr → Prop) (u : Value) (t : T) : Prop := ∃ v, RelV v u ∧ Rep c H Av t v
theorem each_of {H : Hp} {Av : Addr → Prop} : ∀ {ts : List T} {vs : List V} {us : List Value}, RepL c H Av ts vs → Vals vs us → PySem.W.EachIs (RV c H Av) us ts
  | [], vs, us, r, q => by
    rw [r.inv_nil] at q
    cases q
    exact .nil
  | t :: ts, vs, us, r, q => by
    obtain ⟨v, rr, rfl, p, r'⟩ := r.inv
    cases q with
    | cons q1 q2 => exact .cons ⟨v, q1, p⟩ (each_of r' q2)
theorem of_each {H : Hp} {Av : Addr → Prop} : ∀ {us : List Value} {ts : List T}, PySem.W.EachIs (RV c H Av) us ts → ∃ vs, RepL c H Av ts vs ∧ Vals vs us
  | _, _, .nil => ⟨[], RepL.nil, .nil⟩
  | _, _, .cons ⟨v, h1, h2⟩ r => by
    obtain ⟨vs, q1, q2⟩ := of_each r
    exact ⟨v :: vs, RepL.cons h2 q1, .cons h1 q2⟩
theorem each_reads {X : Cx} {pins : List (Addr × Obj)} {s : Shared} {σ : St} {H : Hp} {Av : Addr → Prop} (hK : X.K = c.K) (I : Inv X pins σ H s) : ∀ {us : List Value} {ts : List T}, T.dats 40 ts = true → PySem.W.EachIs (RV c H Av) us ts → PySem.W.EachIs (fun v b => ∃ as, Reads s.heap v (T.toD b) as) us ts
  | _, _, _, .nil => .nil
  | _, _, d, .cons ⟨v, h1, h2⟩ r => by
    rw [T.dats, Bool.and_eq_true] at d
    have q := Rep.dp 40 _ v d.1 h2
    rw [← hK] at q
    exact .cons (Dp.reads I _ _ _ q h1) (each_reads hK I d.2 r)
/-- sorted(xs), sorted(xs, reverse=True): xs of the trees ts, which can be sorted -/
def rSortD (c : Cn) (Av : Addr → Prop) (srt : List T → List T) : V → Hp → VK → Prop := fun x H Q => ∃ a vs ts, x = .ref a ∧ H a = some (.lst vs) ∧ RepL c H Av ts vs ∧ srtOk ts = true ∧ ∀ p ws, H p = none → RepL c H Av (srt ts) ws → Q (.ref p) (upd H p (.lst ws))
theorem sort_len (ts : List T) : (ts.mergeSort (PySem.W.dataLe false T.toD)).length = ts.length := List.length_mergeSort ts
theorem sorted_run {X : Cx} {pins : List (Addr × Obj)} {s : Shared} {σ : St} {H : Hp} {Av : Addr → Prop} {x : V} {u : Value} {Q : VK} (hK : X.K = c.K) (hu : X.A.units + 200 < cLine) (I : Inv X pins σ H s) (rx : RelV x u) (h : rSortD c Av sortT x H Q) :
    wpAny (model X.prog X.w) X.A (call (.builtin "sorted") [u]) (EP X pins σ Q) X.xe s := by
  obtain ⟨a, vs, ts, rfl, hH, hr, hs, q⟩ := h
  cases rx
  obtain ⟨its, rv, hl, hz⟩ := I.list (SqL.of hH)
  unfold srtOk at hs
  rw [Bool.and_eq_true, Bool.and_eq_true] at hs
  obtain ⟨⟨s1, s2⟩, s3⟩ := hs
  have ea := each_of hr rv
  refine PySem.W.sorted_data (enc := T.toD) hl.isList ea (each_reads hK I s1 ea) (alk_all s2) (srt_able s1 s3) (by rw [hr.length]; exact hz) (fun b hb => ?_) fun out hlen eo => ?_
  · have := (dat_lay 40 b (dats_mem s1 b hb)).2
    omega
  rw [merge_up] at eo
  obtain ⟨ws, w1, w2⟩ := of_each eo
  obtain ⟨ep, he'⟩ := PyProof.Rows.sortedAll_at s.heap its out.toArray
  refine ⟨.ref _, upd H (s.heap.objs.size + 1) (.lst ws), I.laid (t' := s.toks) (fun _ _ => PyProof.Rows.sortedAll_old) (Nat.le_succ _) ⟨?_, out, ep, w2, he'⟩, rfl, q _ _ (I.hok.fresh (Nat.le_succ _)) w1⟩
  rw [w2.length, hlen, hr.length]; exact hz
theorem sorted_runR {X : Cx} {pins : List (Addr × Obj)} {s : Shared} {σ : St} {H : Hp} {Av : Addr → Prop} {x : V} {u : Value} {Q : VK} (hK : X.K = c.K) (hu : X.A.units + 200 < cLine) (I : Inv X pins σ H s) (rx : RelV x u) (h : rSortD c Av sortTr x H Q) :
    wpAny (model X.prog X.w) X.A (call (.builtin "sorted") [u] [(Str.ofString "reverse", .bool true)]) (EP X pins σ Q) X.xe s := by
  obtain ⟨a, vs, ts, rfl, hH, hr, hs, q⟩ := h
  cases rx
  obtain ⟨its, rv, hl, hz⟩ := I.list (SqL.of hH)
  unfold srtOk at hs
  rw [Bool.and_eq_true, Bool.and_eq_true] at hs
  obtain ⟨⟨s1, s2⟩, s3⟩ := hs
  have ea := each_of hr rv
  refine PySem.W.sorted_rev_data (enc := T.toD) hl.isList ea (each_reads hK I s1 ea) (alk_all s2) (srt_able s1 s3) (by rw [hr.length]; exact hz) (fun b hb => ?_) fun out hlen eo => ?_
  · have := (dat_lay 40 b (dats_mem s1 b hb)).2
    omega
  rw [merge_down] at eo
  obtain ⟨ws, w1, w2⟩ := of_each eo
  obtain ⟨ep, he'⟩ := PyProof.Rows.sortedAll_at s.heap its out.toArray
  refine ⟨.ref _, upd H (s.heap.objs.size + 1) (.lst ws), I.laid (t' := s.toks) (fun _ _ => PyProof.Rows.sortedAll_old) (Nat.le_succ _) ⟨?_, out, ep, w2, he'⟩, rfl, q _ _ (I.hok.fresh (Nat.le_succ _)) w1⟩
  rw [w2.length, hlen, hr.length]; exact hz
end
end DD
/-! DTup: tuple * int, any int. -/
namespace L2
open PySem PySem.Spec PyProof.Rows
theorem tuple_mul1 (l : Addr) (items : Array Value) (n : Nat) (dd : Option Addr) (sl : Array (Option Value)) (x : Int) (u : Tok) (c0 : (decide (x < -(2 ^ 63)) || decide (x ≥ 2 ^ 63)) = false) (c1 : (items.isEmpty || x == 1) = true) :
    Meets (Builtin.«tuple.__mul__» ⟨[.ref l, .int x u], []⟩) (fun _ R s => s.heap.get? l = some { cls := .type "tuple", dict := dd, data := .seq items n, slots := sl } ∧ R (.ok (.ret (Value.ref l))) s) :=
  .of_wp fun prog w A R s h => by
    obtain ⟨hp, g, d, tk, os⟩ := s
    obtain ⟨hl, h⟩ := h
    have f1 := AutoSeq1.idx_int
    wp_walk using wpAny_loadPart' hl
    repeat (first
      | (refine wpAny_ite_false (decide_eq_false (by rw [c0]; exact Bool.false_ne_true)) ?_; wp_walk using wpAny_loadPart' hl)
      | (refine wpAny_ite_true (decide_eq_true c1) ?_; wp_walk using wpAny_loadPart' hl))
    exact ⟨_, rfl, h⟩
theorem tuple_mul0 (l : Addr) (items : Array Value) (n : Nat) (dd : Option Addr) (sl : Array (Option Value)) (x : Int) (u : Tok) (c0 : (decide (x < -(2 ^ 63)) || decide (x ≥ 2 ^ 63)) = false) (c1 : (items.isEmpty || x == 1) = false) (c2 : (decide (x ≤ 0) || items.isEmpty) = true) :
    Meets (Builtin.«tuple.__mul__» ⟨[.ref l, .int x u], []⟩) (fun _ R s => s.heap.get? l = some { cls := .type "tuple", dict := dd, data := .seq items n, slots := sl } ∧
      R (.ok (.ret (Value.ref s.heap.objs.size))) { s with heap := s.heap.push { cls := Value.type "tuple", data := Data.seq #[] }, toks := s.toks }) :=
  .of_wp fun prog w A R s h => by
    obtain ⟨hp, g, d, tk, os⟩ := s
    obtain ⟨hl, h⟩ := h
    have f1 := AutoSeq1.idx_int
    wp_walk using wpAny_loadPart' hl
    repeat (first
      | (refine wpAny_ite_false (decide_eq_false (by rw [c0]; exact Bool.false_ne_true)) ?_; wp_walk using wpAny_loadPart' hl)
      | (refine wpAny_ite_false (decide_eq_false (by rw [c1]; exact Bool.false_ne_true)) ?_; wp_walk using wpAny_loadPart' hl)
      | (refine wpAny_ite_true (decide_eq_true c2) ?_; wp_walk using wpAny_loadPart' hl))
    exact ⟨_, rfl, h⟩

def rRepA (K : PySem.W.Frag) : R2 := fun x y H Q => ∃ l k xs, x = .ref l ∧ y = .int k ∧ SqT K H l xs ∧ k ≤ 1000 ∧ -(2 ^ 63) ≤ k ∧ xs.length ≤ 1000 ∧
  ((xs = [] ∨ k = 1) → Q (.ref l) H) ∧ (¬(xs = [] ∨ k = 1) → ∀ p, H p = none → Q (.ref p) (upd H p (.tup (List.replicate k.toNat xs).flatten)))
theorem op_repA {X : Cx} : OpR X (binaryOp .Mult) (rRepA X.K) := by
  intro pins s σ H x y v u Q I rx ry h
  obtain ⟨l, k, xs, rfl, rfl, hT, h2, h1, hz, qa, qb⟩ := h
  by_cases hk2 : xs ≠ [] ∧ 2 ≤ k
  · exact op_repT pins s σ H _ _ v u Q I rx ry ⟨l, k, xs, rfl, rfl, hT, hk2.1, hk2.2, h2, hz, qb fun z => z.elim hk2.1 fun e => by omega⟩
  cases rx
  obtain ⟨t, rfl⟩ := ry
  obtain ⟨its, r, ⟨⟨cls, dd, data, sl⟩, ho, hc, n, hd⟩, hs⟩ := I.tuple hT
  simp only at hc hd
  subst hc hd
  have hle : its.length = xs.length := r.length.symm
  have c0 : (decide (k < -(2 ^ 63)) || decide (k ≥ 2 ^ 63)) = false := by
    rw [decide_eq_false (by omega), decide_eq_false (by omega)] <;> rfl
  refine wpAny_binaryOp_repeat_ref (T := "tuple") (U := "int") (by decide) ⟨_, ho, rfl⟩ (fun s' => typeIs_int s' k t) noFill_tuple_mul F.fills_int_mul F.slot_int_rmul repeat_tuple F.slot_int_index.lookup
    (call_meets F.slot_int_rmul (typeIs_int s k t) F.entry_int_rmul (F.args_int_rmul_2 _ _) (int_rmul_tuple k t l its.toArray n dd sl) ⟨ho, rfl, ⟨_, ho, rfl⟩, ?_⟩)
  by_cases hc : xs = [] ∨ k = 1
  · have c1 : (its.toArray.isEmpty || k == 1) = true := by
      rcases hc with e | e
      · have : its = [] := List.eq_nil_of_length_eq_zero (by rw [hle, e]; rfl)
        rw [this]; rfl
      · rw [e]; simp
    exact call_meets F.slot_tuple_mul ⟨_, ho, rfl⟩ F.entry_tuple_mul (F.args_tuple_mul_2 _ _) (tuple_mul1 l its.toArray n dd sl k t c0 c1) ⟨ho, .ref l, H, I, rfl, qa hc⟩
  · have hne : its ≠ [] := fun e => hc (.inl (List.eq_nil_of_length_eq_zero (by rw [← hle, e]; rfl)))
    have hi : its.toArray.isEmpty = false := by
      cases its with
      | nil => exact absurd rfl hne
      | cons a b => rfl
    have k0 : k ≤ 0 := by
      rcases Int.lt_or_le k 1 with z | z
      · omega
      · rcases Int.lt_or_le k 2 with w | w
        · exact absurd (.inr (by omega)) hc
        · exact absurd ⟨fun e => hc (.inl e), w⟩ hk2
    have c1 : (its.toArray.isEmpty || k == 1) = false := by
      rw [hi, Bool.false_or]
      exact beq_eq_false_iff_ne.mpr (by omega)
    have c2 : (decide (k ≤ 0) || its.toArray.isEmpty) = true := by rw [decide_eq_true k0]; rfl
    refine call_meets F.slot_tuple_mul ⟨_, ho, rfl⟩ F.entry_tuple_mul (F.args_tuple_mul_2 _ _) (tuple_mul0 l its.toArray n dd sl k t c0 c1 c2) ⟨ho, ?_⟩
    have e0 : (List.replicate k.toNat xs).flatten = [] := by rw [Int.toNat_of_nonpos k0]; rfl
    have q := qb hc _ (I.hok.fresh (Nat.le_refl s.heap.objs.size))
    rw [e0] at q
    exact ⟨.ref s.heap.objs.size, _, I.laid (t' := s.toks) (o := .tup []) (fun b ob q => Heap.get?_push_of_some _ q) (Nat.le_refl _) ⟨Nat.zero_le _, [], .nil, IsTup.new _ _⟩, rfl, q⟩
end L2
namespace DD
open PySem L2
variable {c : Cn}
def rMulA (c : Cn) : R2 := fun x y H Q => rI CMul (fun i j => .int (i * j)) x y H Q ∨ rRep x y H Q ∨ rRepA c.K x y H Q
theorem op_mulA {X : Cx} (hK : X.K = c.K) : OpR X (binaryOp .Mult) (rMulA c) := op_mul.or (op_rep.or (hK ▸ op_repA))
theorem p2_mul : P2 c .mul (rMulA c) := by
  intro Av H tx ty x y t Q hx hy h k
  replace h : sMul tx ty = some t := h
  cases tx <;> cases ty <;> simp only [sMul] at h <;> try contradiction
  case int.int i j =>
    split at h <;> cases h
    rename_i hm
    refine .inl ⟨i, j, hx.int, hy.int, ?_, k _ _ Out.int⟩
    unfold mulOk at hm
    rw [Bool.or_eq_true] at hm
    exact hm.imp small64_ok small64_ok
  case lst.int ts i =>
    split at h <;> cases h
    rename_i hm
    obtain ⟨a, vs, rfl, h1, h2⟩ := hx.lst
    exact .inr (.inl ⟨a, i, vs, rfl, hy.int, h1, hm.1.1, hm.1.2, by rw [← line_eq, ← h2.length]; exact hm.2, fun p hp => k _ _ (Out.lst rfl hp (h2.rep _))⟩)
  case tup.int ts i =>
    split at h <;> cases h
    rename_i hm
    obtain ⟨a, vs, rfl, h1, h2⟩ := hx.tup
    refine .inr (.inr ⟨a, i, vs, rfl, hy.int, SqT.of h1, hm.2.1, hm.2.2, by rw [← h2.length]; exact hm.1, fun e => ?_, fun _ p hp => k _ _ (Out.tup hp (h2.rep _))⟩)
    have e0 : (List.replicate i.toNat ts).flatten = ts := by
      rcases e with e | e
      · have : ts = [] := List.eq_nil_of_length_eq_zero (by rw [h2.length, e]; rfl)
        subst this
        simp
      · subst e; simp
    rw [e0] at k
    exact k _ _ (Out.sh (by simp [isCell]) hx.rep_tup)
end DD
/-! DEnum: enumerate of a tuple. -/
namespace L2
open PySem PySem.Spec PyProof.Rows Builtin
theorem meets_enum_newB1 {v : Value} {o : Obj} {H : Heap → Prop} (B : Begins v o H) :
    Meets (Builtin.«enumerate.__new__» ⟨[.type "enumerate", v], []⟩) (fun _ R s => H s.heap ∧
      R (.ok (.ret (.ref (s.heap.push o).objs.size))) { s with heap := (s.heap.push o).push { cls := .type "enumerate", data := .fields #[.none, .bool false, .ref s.heap.objs.size, rawInt 0, .none, .none] } }) :=
  .of_wp fun prog w A R s h => by
    obtain ⟨hp, g, d, tk, os⟩ := s; obtain ⟨h1, h⟩ := h
    have hsub := sub_enumerate
    have q1 : ∀ {A' : Around} {E : Value → Shared → Prop} {Q : Value → Shared → Prop}, Q (.ref hp.objs.size) ⟨hp.push o, g, d, tk, os⟩ → wpAny (model prog w) A' (pyIter v) Q E ⟨hp, g, d, tk, os⟩ :=
      fun q => B.iter prog w _ _ ⟨hp, g, d, tk, os⟩ _ h1 q
    wp_walk using q1
    refine wpAny_stack_any fun st => wpAny_pure ?_
    split
    · rename_i c _ _ _ _ _
      cases (c == Value.type "enumerate")
      · wp_walk using q1
        exact ⟨_, rfl, h⟩
      · wp_walk using q1
        exact ⟨_, rfl, h⟩
    · wp_walk using q1
      exact ⟨_, rfl, h⟩
section
variable {prog : Program} {w : World} {A : Around} {E : Value → Shared → Prop} {s : Shared}
theorem call_enum1 {v : Value} {o : Obj} {H : Heap → Prop} {Q : Value → Shared → Prop} (B : Begins v o H) (h1 : H s.heap)
    (h : ∀ h', IsEnum h' (s.heap.objs.size + 1) s.heap.objs.size 0 .none → h'.get? s.heap.objs.size = some o → h'.objs.size = s.heap.objs.size + 2 →
      (∀ b o, s.heap.get? b = some o → h'.get? b = some o) → Q (.ref (s.heap.objs.size + 1)) { s with heap := h' }) :
    wpAny (model prog w) A (call (.type "enumerate") [v]) Q E s := by
  refine callType_new F.called_enumerate (by decide) (F.typeCall_enumerate_1 _) (F.newCall_enumerate_1 _) (fun obj => F.args_object_init_2 obj _) F.entry_enumerate_new
    (meets_enum_newB1 B) ⟨h1, ?_⟩
  have hz : (s.heap.push o).objs.size = s.heap.objs.size + 1 := Heap.size_push ..
  show _ ∧ _
  rw [hz]
  have he : IsEnum ((s.heap.push o).push { cls := .type "enumerate", data := .fields #[.none, .bool false, .ref s.heap.objs.size, rawInt 0, .none, .none] }) (s.heap.objs.size + 1) s.heap.objs.size 0 .none := by
    have := Heap.get?_push_size (s.heap.push o) (o := { cls := .type "enumerate", data := .fields #[.none, .bool false, .ref s.heap.objs.size, rawInt 0, .none, .none] }) rfl
    rw [hz] at this; exact this
  refine ⟨⟨_, he, rfl⟩, h _ he (Heap.get?_push_of_some _ (Heap.get?_push_size _ B.free)) (by rw [Heap.size_push, hz]) fun b o x => Heap.get?_push_of_some _ (Heap.get?_push_of_some _ x)⟩
end
/-- the tuple at a, each item in a new pair -/
def IteT (K : PySem.W.Frag) (a : Addr) : It :=
  ⟨fun i H => ∃ (xs : List V) (x : V), SqT K H a xs ∧ xs[i]? = some x, fun i H v H' => ∃ T x, v = .ref T ∧ H T = none ∧ H' = upd H T (.tup [.int (i : Nat), x]) ∧ ∀ xs, SqT K H a xs → xs[i]? = some x, fun i H => ∃ xs : List V, SqT K H a xs ∧ xs.length = i⟩
theorem turn_enumT {P : Program} {w : World} {K : PySem.W.Frag} {elts : List Expr} {kk : Nat} {tpos : Pos} (a e it : Addr) :
    Turn P w K (.Tuple elts kk tpos) (IteT K a) [e, it] e (fun i h => (∃ old, IsEnum h e it ((i : Nat) : Int) old) ∧ h.IsTupleIter it a i ∧ e ≠ it) where
  mem := by simp
  obj := fun i h st b hb => by
    obtain ⟨⟨old, he⟩, ⟨o, ho, hc, hd⟩, _⟩ := st
    have e' : b = e ∨ b = it := by simpa using hb
    rcases e' with z | z
    · rw [z]; exact ⟨_, he, fun v q => nomatch q⟩
    · rw [z]; exact ⟨o, ho, fun v q => by rw [hd] at q; cases q⟩
  keep := fun i h h' st k => let ⟨⟨old, he⟩, hi, hne⟩ := st; ⟨⟨old, k e (by simp) _ he⟩, hi.at fun o q => k it (by simp) o q, hne⟩
  item := by
    intro X hP hw hK hc i pins s σ H E I hf st hg
    subst hP hw hK
    obtain ⟨⟨old, he⟩, hit, hne⟩ := st
    obtain ⟨xs, x, hq, hx⟩ := hg
    obtain ⟨its, rv, p, hz⟩ := I.tuple hq
    obtain ⟨u, hu, ru⟩ := rv.get hx
    have hel : e < s.heap.objs.size := Heap.lt_size he
    have hil : it < s.heap.objs.size := by obtain ⟨_, q, _⟩ := hit; exact Heap.lt_size q
    have pt : s.heap.IsTuple a its.toArray := p
    have hea : e ≠ a := fun z => by
      obtain ⟨o, ho, hc, _⟩ := pt
      rw [← z, he] at ho; cases ho; exact absurd (show Value.type "enumerate" = Value.type "tuple" from hc) (by decide)
    have hai : a ≠ it := fun z => by
      obtain ⟨o, ho, hc, _⟩ := pt
      obtain ⟨o2, ho2, hc2, _⟩ := hit
      rw [z, ho2] at ho; cases ho; rw [hc2] at hc; exact absurd hc (by decide)
    have hlt : i < its.toArray.size := by
      have := (List.getElem?_eq_some_iff.mp hu).1
      simpa using this
    refine wpAny_pyNext_enum_itemD (Draws.tuple (A := X.A.in1) (show X.A.in1.handled = none from I.ok.hd hc) it a hai its.toArray) he ⟨hit, pt⟩ hlt hne (by simpa using And.intro hne hea) fun x' h' tk hP' ho st' hT hsz hk => ?_
    have ex : x' = u := by
      have hP' : its.toArray[i]? = some x' := hP'
      rw [show its.toArray[i]? = its[i]? by simp, hu] at hP'
      exact (Option.some.inj hP').symm
    subst ex
    refine ⟨_, rfl, wpAny_letOwnedTupleGo_enum (s := { s with heap := h', toks := tk + 1 }) ho fun h'' he' sb => ?_⟩
    have hT2 : h''.get? s.heap.objs.size = some { cls := .type "tuple", data := .seq #[.int i tk, x'] } := (sb.2 _ (Nat.ne_of_gt hel)).trans hT
    have new : ObjOk X.prog X.w (upd H s.heap.objs.size (.tup [.int (i : Nat), x])) h'' s.heap.objs.size (.tup [.int (i : Nat), x]) :=
      ⟨by show 2 ≤ sizeLine; decide, [.int i tk, x'], .cons ⟨_, rfl⟩ (.cons ru .nil), ⟨_, hT2, rfl, _, rfl⟩⟩
    have I1 : Inv X pins σ (upd H s.heap.objs.size (.tup [.int (i : Nat), x])) { s with heap := h'', toks := tk + 1 } :=
      I.turnedNew (ch := [e, it]) (fun b ob hb q => (sb.2 b (fun z => hb (by simp [z]))).trans (hk b ob (fun z => hb (by simp [z])) (fun z => hb (by simp [z])) q)) hf (Nat.le_refl _) new
    refine ⟨.ref s.heap.objs.size, _, I1, rfl, ⟨_, x, rfl, I.hok.fresh (Nat.le_refl _), rfl, fun ys hy => by rw [I.tuple_inj hy hq]; exact hx⟩, ⟨⟨x', ?_⟩, st'.1.at fun o q => (sb.2 it (Ne.symm hne)).trans q, hne⟩, fun b hb => ?_⟩
    · have e1 : ((i + 1 : Nat) : Int) = (i : Int) + 1 := by omega
      rw [e1]; exact he'
    · have hb' : b < s.heap.objs.size := by
        have e' : b = e ∨ b = it := by simpa using hb
        rcases e' with z | z
        · rw [z]; exact hel
        · rw [z]; exact hil
      rw [upd_ne (Nat.ne_of_lt hb')]
      exact (hf b hb).1
  done := by
    intro X hP hw hK hc i pins s σ H E I hf st hg
    subst hP hw hK
    obtain ⟨⟨old, he⟩, hit, hne⟩ := st
    obtain ⟨xs, hq, hx⟩ := hg
    obtain ⟨its, rv, p, hz⟩ := I.tuple hq
    have pt : s.heap.IsTuple a its.toArray := p
    have hai : a ≠ it := fun z => by
      obtain ⟨o, ho, hc, _⟩ := pt
      obtain ⟨o2, ho2, hc2, _⟩ := hit
      rw [z, ho2] at ho; cases ho; rw [hc2] at hc; exact absurd hc (by decide)
    obtain ⟨f0, f1, f2, f3, f4, f5⟩ := hf it (by simp)
    have hl := rv.length
    have hn : its.toArray.size = i := by simp; omega
    subst hn
    exact wpAny_pyNext_enum_endD (Draws.tuple (A := X.A.in1) (show X.A.in1.handled = none from I.ok.hd hc) it a hai its.toArray) he ⟨hit, pt⟩ fun h' eb => ⟨rfl, I.turned (t' := s.toks) (fun b o hb q => eb b o hb q) f0 f1 f3 f4 f5⟩
  self := fun A i s Q E st h => let ⟨⟨_, he⟩, _⟩ := st; wpAny_pyIter_enum he h
def iEnumA (K : PySem.W.Frag) (ta : TA) : TI := fun σ H R => ta σ H fun vs H1 => ∃ a xs, vs = [.ref a] ∧ ((SqL K H1 a xs ∧ R (Ite K a) H1) ∨ (SqT K H1 a xs ∧ R (IteT K a) H1))
theorem pi_enumA {X : Cx} {e : Expr} {ta : TA} {p pos tpos : Pos} {elts : List Expr} {kk : Nat} (hg : Gl X "enumerate") (hm : X.mg "enumerate" = none) (ha : PA X [e] ta) (hs : starEach [e] X.env = [(false, eval e X.env)] := by rfl) :
    PI X (.Tuple elts kk tpos) (.Call (.Name "enumerate" p) [e] [] pos) (iEnumA X.K ta) := by
  refine ⟨fun pins s σ H R I h => ?_⟩
  refine Call_ (ld_blt I hg hm boot_enumerate (PyProof.Rows.callWith_type1 (thn (ha.run pos pins s σ H _ I h) fun us s1 ⟨vs, H1, I1, r1, q1⟩ => ?_) hs rfl))
  obtain ⟨a, xs, ex, q⟩ := q1
  subst ex
  cases r1 with
  | cons r rr =>
    cases rr
    cases r
    have fp : ∀ b, b ∈ [s1.heap.objs.size + 1, s1.heap.objs.size] → FpOk X pins H1 b := fun b hb => by
      have e' : b = s1.heap.objs.size + 1 ∨ b = s1.heap.objs.size := by simpa using hb
      have hle : s1.heap.objs.size ≤ b := by
        rcases e' with z | z
        · rw [z]; exact Nat.le_add_right _ _
        · rw [z]; exact Nat.le_refl _
      exact I1.fpOk hle (I1.hok.fresh hle)
    rcases q with ⟨hq, q⟩ | ⟨hq, q⟩
    · obtain ⟨its, rv, p', hz⟩ := I1.list hq
      refine call_enumerate_list p'.isList fun h' he hit hsz hk => wpAny_pyIter_enum he ?_
      have I2 : Inv X pins σ H1 { s1 with heap := h' } := I1.kept (t' := s1.toks) hk
      exact ⟨s1.heap.objs.size + 1, [s1.heap.objs.size + 1, s1.heap.objs.size], _, _, H1, rfl, I2, turn_enum a (s1.heap.objs.size + 1) s1.heap.objs.size, ⟨⟨.none, he⟩, hit, Nat.succ_ne_self _⟩, fp, q⟩
    · obtain ⟨its, rv, p', hz⟩ := I1.tuple hq
      refine call_enum1 (begins_tuple a its.toArray) (show s1.heap.IsTuple a its.toArray from p') fun h' he hit hsz hk => wpAny_pyIter_enum he ?_
      have I2 : Inv X pins σ H1 { s1 with heap := h' } := I1.kept (t' := s1.toks) hk
      exact ⟨s1.heap.objs.size + 1, [s1.heap.objs.size + 1, s1.heap.objs.size], _, _, H1, rfl, I2, turn_enumT a (s1.heap.objs.size + 1) s1.heap.objs.size, ⟨⟨.none, he⟩, ⟨_, hit, rfl, rfl⟩, Nat.succ_ne_self _⟩, fp, q⟩
theorem PI.or {X : Cx} {tg e : Expr} {w1 w2 : TI} (h1 : PI X tg e w1) (h2 : PI X tg e w2) : PI X tg e (fun σ H R => w1 σ H R ∨ w2 σ H R) :=
  ⟨fun pins s σ H R I h => h.elim (h1.run pins s σ H R I) (h2.run pins s σ H R I)⟩
theorem PI.wk {X : Cx} {tg e : Expr} {w1 w2 : TI} (h1 : PI X tg e w1) (k : ∀ σ H R, w2 σ H R → w1 σ H R) : PI X tg e w2 :=
  ⟨fun pins s σ H R I h => h1.run pins s σ H R I (k σ H R h)⟩
end L2
/-! DPrim3: sorted, isinstance, an index or slice by -1. -/
namespace DD
open PySem L2
variable {c : Cn}
/-! ### sorted -/
def rSort (c : Cn) : List V → Hp → VK → Prop := fun vs H Q => ∃ x Av, vs = [x] ∧ rSortD c Av sortT x H Q
theorem cr_sort {X : Cx} (hK : X.K = c.K) (hu : X.A.units + 200 < cLine) : CallR X (.builtin "sorted") (rSort c) := by
  intro pins s σ H xs us Q I r h
  obtain ⟨x, Av, rfl, h⟩ := h
  cases r with
  | cons r1 r => cases r; exact sorted_run hK hu I r1 h
theorem srt_cond {Av : Addr → Prop} {H : Hp} {p : Prim} (hp : p.makes = true) {tx : T} {x : V} {srt : List T → List T} {ts : List T} {Q : VK} (hx : RepT c H Av (.lst ts) x) (hs : srtOk ts = true) (k : ∀ v H', Out c Av H (p.makes && isCell (.lst (srt ts))) (.lst (srt ts)) v H' → Q v H') : rSortD c Av srt x H Q := by
  obtain ⟨a, vs, rfl, h1, h2⟩ := hx.lst
  exact ⟨a, vs, ts, rfl, h1, h2, hs, fun q ws hq hw => k _ _ (Out.lst hp hq hw)⟩
theorem pn_sorted : PN c .sorted (rSort c) := by
  intro Av H ts vs t Q r h k
  have q := r.one (p := .sorted) h
  clear h r
  obtain ⟨tx, x, rfl, rfl, hx, h⟩ := q
  cases tx <;> simp only [sSorted] at h <;> try contradiction
  case lst us =>
    split at h
    · cases h; exact ⟨x, Av, rfl, srt_cond (p := .sorted) (tx := .lst us) rfl hx (by assumption) k⟩
    · cases h
def rSortR (c : Cn) : List V → List V → Hp → VK → Prop := fun vs zs H Q => ∃ x Av, vs = [x] ∧ zs = [.bl true] ∧ rSortD c Av sortTr x H Q
theorem cr_sortR {X : Cx} (hK : X.K = c.K) (hu : X.A.units + 200 < cLine) : CallRK X (.builtin "sorted") [Str.ofString "reverse"] (rSortR c) := by
  intro pins s σ H xs zs us ws Q I r r2 h
  obtain ⟨x, Av, rfl, rfl, h⟩ := h
  cases r with
  | cons r1 r =>
    cases r
    cases r2 with
    | cons r2 r =>
      cases r
      cases (show _ = Value.bool true from r2)
      exact sorted_runR hK hu I r1 h
theorem p1_sortR : P1 c .sortedRev (fun x H Q => rSortR c [x] [.bl true] H Q) := by
  intro Av H tx x t Q hx h k
  replace h : sSortedRev tx = some t := h
  cases tx <;> simp only [sSortedRev] at h <;> try contradiction
  case lst us =>
    split at h
    · cases h; exact ⟨x, Av, rfl, rfl, srt_cond (p := .sortedRev) (tx := .lst us) rfl hx (by assumption) k⟩
    · cases h
/-! ### isinstance -/
def tyNm : Prim → Option (Str × String)
  | .isInt => some ("int", "int") | .isBool => some ("bool", "bool") | .isTup => some ("tuple", "tuple") | .isList => some ("list", "list") | .isStr => some ("str", "str") | .isDict => some ("dict", "dict")
  | _ => none
theorem tyNm_boot {p : Prim} {x : Str} {n : String} (h : tyNm p = some (x, n)) : bootBuiltins x = some (.type n) := by
  cases p <;> simp only [tyNm, Option.some.injEq, reduceCtorEq, Prod.mk.injEq] at h <;> (obtain ⟨rfl, rfl⟩ := h; rfl)
theorem p1_isTy {p : Prim} {x : Str} {n : String} (h : tyNm p = some (x, n)) : P1 c p (fun x H Q => rIsTy c.K n [x, .ty n] H Q) := by
  intro Av H tx x t Q hx hs k
  cases p <;> simp only [tyNm, Option.some.injEq, reduceCtorEq, Prod.mk.injEq] at h <;> (
    obtain ⟨rfl, rfl⟩ := h
    simp only [Prim.sem, one, sTy] at hs
    split at hs
    · cases hs
    · rename_i hn
      cases hs
      have hn : (isScr tx || isIns tx) = false := (Bool.not_eq_true _).mp hn
      refine ⟨x, _, _, rfl, tyOf_rep hx hn, ?_, k _ _ Out.bl⟩
      cases tx <;> first | (simp only [tyOfT, tyInt, tyBool, tyTup, tyList, tyStr, tyDict]; exact kit_ty (by decide +kernel)) | (exact absurd hn (by simp [isScr, isIns])))
def tyTL : List V := [.ty "tuple", .ty "list"]
def rIsSq (K : PySem.W.Frag) : V → Hp → VK → Prop := fun x H Q => ∀ p, H p = none → rIsiT K [x, .ref p] (upd H p (.tup tyTL)) Q
theorem TyX.upd {K : PySem.W.Frag} {H : Hp} {x : V} {t : Value} {p : Addr} {o : HO} (h : TyOf K H x t) (hp : H p = none) : TyOf K (upd H p o) x t := by
  have g : ∀ a u, H a = some u → L2.upd H p o a = some u := fun a u e => Gr.upd hp a u e
  cases h with
  | non => exact .non
  | bl b => exact .bl b
  | int i => exact .int i
  | str x => exact .str x
  | flt x => exact .flt x
  | lst e => exact .lst (g _ _ e)
  | frz e => exact .frz (g _ _ e)
  | tup e => exact .tup (g _ _ e)
  | dK e => exact .dK (g _ _ e)
  | dT e => exact .dT (g _ _ e)
  | ins e => exact .ins (g _ _ e) (by assumption) (by assumption) (by assumption) (by assumption) (by assumption)
theorem p1_isSq : P1 c .isSeq (rIsSq c.K) := by
  intro Av H tx x t Q hx hs k p hp
  simp only [Prim.sem, one, sTy] at hs
  split at hs
  · cases hs
  · rename_i hn
    cases hs
    have hn : (isScr tx || isIns tx) = false := (Bool.not_eq_true _).mp hn
    refine ⟨x, p, tyTL, _, [.type "tuple", .type "list"], tySeq tx, rfl, if_pos rfl, .cons (.ty _) (.cons (.ty _) .nil), .base (TyX.upd (tyOf_rep hx hn) hp), ?_, k _ _ ⟨Gr.upd hp, by rw [if_neg (by simp [isCell, Prim.makes])]; rw [Rep]⟩⟩
    cases tx <;> first | rfl | (exact absurd hn (by simp [isScr, isIns]))
end DD
/-! DChk: does a piece of the language say what a piece of the text says? -/
namespace DD
open PySem L2

inductive GE where
  | fn (i : Nat) (np : Nat) (io : Option Nat)
  | cst (t : T)
  | free
structure Gm where
  N : List Str
  names : List (Str × NameKind)
  own : Option (List Str)
  G : List (Str × GE)

def Gm.vis (Γ : Gm) (x : Str) : Bool := match Γ.names.lookup x with
  | some .local => true
  | some .cell => true
  | some .free => true
  | _ => false
def Gm.lcl (Γ : Gm) (x : Str) : Bool := match Γ.names.lookup x with
  | some .local => true
  | _ => false
def Gm.cel (Γ : Gm) (x : Str) : Bool := match Γ.names.lookup x with
  | some .cell => true
  | _ => false
/-- a name that may be stored to -/
def Gm.st (Γ : Gm) (x : Str) : Bool := Γ.lcl x || (Γ.cel x && match Γ.own with
  | none => true
  | some l => l.contains x)
def Gm.gl (Γ : Gm) (x : Str) : Bool := match Γ.names.lookup x with
  | some .globalImplicit => true
  | _ => false
def Gm.at_ (Γ : Gm) (i : Nat) (x : Str) : Bool := decide (Γ.N[i]? = some x)
def plainName (x : Str) : Bool := !(x == ("__debug__" : Str)) && !(x == ("__classdict__" : Str)) && !(x == ("__name__" : Str))
/-- a name that is read -/
def Gm.rd (Γ : Gm) (i : Nat) (x : Str) : Bool := Γ.at_ i x && Γ.vis x && plainName x
/-- a built-in name -/
def Gm.free (Γ : Gm) (x : Str) : Bool := Γ.gl x && plainName x && (match Γ.G.lookup x with
  | some .free => true
  | _ => false)

def noStar : Expr → Bool
  | .Starred _ _ => false
  | _ => true
def binO : Prim → Option Operator
  | .add => some .Add | .sub => some .Sub | .mul => some .Mult | .fdiv => some .FloorDiv | .mod => some .Mod | .pow => some .Pow
  | _ => none
def cmpO : Prim → Option CmpOp
  | .eq => some .Eq | .ne => some .NotEq | .lt => some .Lt | .le => some .LtE | .gt => some .Gt | .ge => some .GtE
  | .isN => some .Is | .notN => some .IsNot | .inn => some .In | .notin => some .NotIn
  | _ => none
/-- what is behind in or not in, what is walked: no display of a set -/
def noSet : Expr → Bool
  | .Set _ _ _ => false
  | _ => true
def ordO : Prim → Option CmpOp
  | .eq => some .Eq | .lt => some .Lt | .le => some .LtE | .gt => some .Gt | .ge => some .GtE
  | _ => none
/-- built-in functions and types that are called -/
def callee : Prim → Option (Str × Value)
  | .len => some ("len", .builtin "len") | .sum => some ("sum", .builtin "sum") | .abs => some ("abs", .builtin "abs")
  | .int => some ("int", .type "int") | .tuple => some ("tuple", .type "tuple") | .list => some ("list", .type "list")
  | .sorted => some ("sorted", .builtin "sorted")
  | .min2 => some ("min", .builtin "min") | .max2 => some ("max", .builtin "max") | .all => some ("all", .builtin "all") | .any => some ("any", .builtin "any")
  | _ => none
/-- an index that is no slice -/
def plainIxE : Expr → Bool
  | .Slice _ _ _ _ => false
  | _ => true
/-- an expression whose value is never read in place -/
def notPeek : E → Bool
  | .var _ => true
  | .cst _ => true
  | .mv _ => true
  | .prim _ _ => true
  | .call _ _ => true
  | _ => false
def cstOk : T → Const → Bool
  | .non, .none => true
  | .bl a, .bool b => a == b
  | .int i, .int j => i == j
  | .str x, .str y => x == y
  | _, _ => false
def isIo : E → Bool
  | .io _ => true
  | _ => false
/-- the one argument that may be changed stands where it must, no other is read in place -/
def chkArgs (io : Option Nat) (es : List E) : Bool := (match io with
  | none => es.all fun e => !isIo e
  | some p => (match es[p]? with
    | some e => isIo e
    | none => false) && ((es.take p).all fun e => !isIo e) && (es.drop (p + 1)).all fun e => !isIo e)
def isTupE : Expr → Bool
  | .Tuple _ _ _ => true
  | _ => false
/-- what is walked: the expressions that are run first -/
def iterArgs (Γ : Gm) (k : ItK) (tg it : Expr) : Option (List Expr) := match k with
  | .val => some [it]
  | .range1 => match it with
    | .Call (.Name f _) [a] [] _ => if f == ("range" : Str) && Γ.free f then some [a] else none
    | _ => none
  | .range2 => match it with
    | .Call (.Name f _) [a, b] [] _ => if f == ("range" : Str) && Γ.free f then some [a, b] else none
    | _ => none
  | .enum => match it with
    | .Call (.Name f _) [a] [] _ => if f == ("enumerate" : Str) && Γ.free f && isTupE tg then some [a] else none
    | _ => none
  | .zip => match it with
    | .Call (.Name f _) [a, b] [] _ => if f == ("zip" : Str) && Γ.free f && isTupE tg then some [a, b] else none
    | _ => none
  | _ => none
mutual
def chkP (Γ : Gm) : P → Expr → Bool
  | .s i, x => match x with
    | .Name f _ => Γ.at_ i f && Γ.st f
    | _ => false
  | .t ps, x => match x with
    | .Tuple xs _ _ => chkPs Γ ps xs
    | _ => false
def chkPs (Γ : Gm) : List P → List Expr → Bool
  | [], xs => xs.isEmpty
  | p :: ps, xs => match xs with
    | x :: xs => noStar x && chkP Γ p x && chkPs Γ ps xs
    | [] => false
end
mutual
def slotsP : P → List Nat
  | .s i => [i]
  | .t ps => slotsPs ps
def slotsPs : List P → List Nat
  | [] => []
  | p :: ps => slotsP p ++ slotsPs ps
end
/-- the names of a block -/
def relN (outer names : List (Str × NameKind)) : List (Str × NameKind) := names.map fun (n, k) => if (k == .free && outer.lookup n == some .cell) then (n, .cell) else (n, k)
def ownOf (Γ : Gm) (own : List Nat) : List (Str × Nat) := own.map fun i => (Γ.N.getD i default, i)
def dumScope (names : List (Str × NameKind)) (scope : Scope) : Scope := { scope with names := names }
def Gm.blk (Γ : Gm) (scope : Scope) : Gm := { N := Γ.N, names := relN Γ.names scope.names, own := some ((scope.names.filter fun p => match p.2 with | .cell => true | _ => false).map (·.1)), G := Γ.G }
def celOk (scope : Scope) : Bool := (scope.names.filter fun p => match p.2 with | .cell => true | _ => false).all fun p => scope.names.lookup p.1 == some .cell
def Gm.blkOk (Γ : Gm) (scope : Scope) (own : List Nat) : Bool := blkC Γ.N (dumScope Γ.names scope) scope (ownOf Γ own) && decide own.Nodup && own.all (fun i => decide (i < Γ.N.length)) && celOk scope
mutual
def chkE (Γ : Gm) : E → Expr → Bool
  | .cst t, x => match x with
    | .Constant k _ _ => cstOk t k
    | .Name f _ => Γ.gl f && plainName f && (match Γ.G.lookup f with
      | some (.cst t') => T.beq t t'
      | _ => false)
    | _ => false
  | .var i, x => match x with
    | .Name f _ => Γ.rd i f
    | _ => false
  | .mv i, x => match x with
    | .Name f _ => Γ.rd i f
    | _ => false
  | .peek i, x => match x with
    | .Name f _ => Γ.rd i f
    | _ => false
  | .io i, x => match x with
    | .Name f _ => Γ.rd i f
    | _ => false
  | .tup es, x => match x with
    | .Tuple xs _ _ => chkEs Γ es xs
    | _ => false
  | .lst es, x => match x with
    | .List xs _ => chkEs Γ es xs
    | _ => false
  | .prim p es, x => match x with
    | .BinOp l o r _ => decide (binO p = some o) && chkEs Γ es [l, r]
    | .Compare l [o] [r] _ => decide (cmpO p = some o) && noSet r && chkEs Γ es [l, r]
    | .UnaryOp .USub y _ => decide (p = .neg) && chkEs Γ es [y]
    | .Subscript l r _ => (match r with
      | .Slice none (some u) none _ => decide (p = .slU) && chkEs Γ es [l, u]
      | .Slice (some u) none none _ => decide (p = .slL) && chkEs Γ es [l, u]
      | .Slice (some u) (some w) none _ => decide (p = .slLU) && (match es with
        | [_, b, _] => notPeek b
        | _ => false) && chkEs Γ es [l, u, w]
      | .Slice none none (some (.UnaryOp .USub (.Constant (.int 1) _ _) _)) _ => decide (p = .slRev) && chkEs Γ es [l]
      | r => decide (p = .ix) && plainIxE r && chkEs Γ es [l, r])
    | .Call (.Name f _) xs [] _ => (match callee p with
      | some (nm, _) => f == nm && Γ.free f && !xs.isEmpty && chkEs Γ es xs
      | none => match tyNm p, xs with
        | some (nm, _), [y, .Name z _] => f == ("isinstance" : Str) && Γ.free f && z == nm && Γ.free z && chkEs Γ es [y]
        | none, [y, .Tuple [.Name z1 _, .Name z2 _] _ _] => decide (p = .isSeq) && f == ("isinstance" : Str) && Γ.free f && z1 == ("tuple" : Str) && Γ.free z1 && z2 == ("list" : Str) && Γ.free z2 && chkEs Γ es [y]
        | _, _ => false)
    | .Call (.Name f _) [y] [⟨some kw, .Constant (.bool true) _ _, _⟩] _ => decide (p = .sortedRev) && f == ("sorted" : Str) && Γ.free f && kw == ("reverse" : Str) && chkEs Γ es [y]
    | _ => false
  | .and a b, x => match x with
    | .BoolOp .And (y :: z :: rest) pos => chkE Γ a y && (match rest with
      | [] => chkE Γ b z
      | _ :: _ => chkE Γ b (.BoolOp .And (z :: rest) pos))
    | _ => false
  | .or a b, x => match x with
    | .BoolOp .Or (y :: z :: rest) pos => chkE Γ a y && (match rest with
      | [] => chkE Γ b z
      | _ :: _ => chkE Γ b (.BoolOp .Or (z :: rest) pos))
    | _ => false
  | .not a, x => match x with
    | .UnaryOp .Not y _ => chkE Γ a y
    | _ => false
  | .ite c a b, x => match x with
    | .IfExp t y z _ => chkE Γ c t && chkE Γ a y && chkE Γ b z
    | _ => false
  | .chain o1 o2 a b c, x => match x with
    | .Compare l [p1, p2] [m, r] _ => decide (ordO o1 = some p1) && decide (ordO o2 = some p2) && noSet m && noSet r && chkE Γ a l && chkE Γ b m && chkE Γ c r
    | _ => false
  | .call f es, x => match x with
    | .Call (.Name g _) xs [] _ => Γ.gl g && plainName g && !xs.isEmpty && (match Γ.G.lookup g with
      | some (.fn i np io) => i == f && decide (es.length = np) && chkArgs io es && chkEs Γ es xs
      | _ => false)
    | _ => false
  | .comp own g k es cond elt, x => match x with
    | .ListComp elt' [⟨tg, it, ifs, 0⟩] scope _ => noSet it && (slotsP g).all (fun i => own.contains i) && Γ.blkOk scope own && (match iterArgs Γ k tg it with
      | some xs => chkEs Γ es xs
      | none => false) && chkP (Γ.blk scope) g tg && (match ifs with
      | [] => chkO (Γ.blk scope) cond none
      | [y] => chkO (Γ.blk scope) cond (some y)
      | _ => false) && chkE (Γ.blk scope) elt elt'
    | _ => false
  | .comp2 own g k es g2 k2 es2 own2 cond elt, x => match x with
    | .ListComp elt' [⟨tg, it, [], 0⟩, ⟨tg1, it1, ifs, 0⟩] scope _ => noSet it && noSet it1 && (slotsP g).all (fun i => own.contains i) && (slotsP g2).all (fun i => own2.contains i) && Γ.blkOk scope own && own2.all (fun i => own.contains i) && decide own2.Nodup && (match iterArgs Γ k tg it with
      | some xs => chkEs Γ es xs
      | none => false) && chkP (Γ.blk scope) g tg && (match iterArgs (Γ.blk scope) k2 tg1 it1 with
      | some xs => chkEs (Γ.blk scope) es2 xs
      | none => false) && chkP (Γ.blk scope) g2 tg1 && (match ifs with
      | [] => chkO (Γ.blk scope) cond none
      | [y] => chkO (Γ.blk scope) cond (some y)
      | _ => false) && chkE (Γ.blk scope) elt elt'
    | _ => false
  | .mk _ _, _ => false
  | .fld _ _, _ => false
  | .pop _, _ => false
  | .popAt _ _, _ => false
  | .dcomp _ _ _ _ _ _, _ => false
  | .dct _, _ => false
def chkEs (Γ : Gm) : List E → List Expr → Bool
  | [], xs => xs.isEmpty
  | e :: es, xs => match xs with
    | x :: xs => noStar x && chkE Γ e x && chkEs Γ es xs
    | [] => false
def chkO (Γ : Gm) : Option E → Option Expr → Bool
  | none, x => x.isNone
  | some e, x => match x with
    | some x => chkE Γ e x
    | none => false
end
end DD
/-! DSnd: what the evaluator says of an expression, the model's run gives. -/
namespace DD
open PySem L2

def badF : Nat → Fn := fun _ _ => .bad

/-! ### the promise of a def -/
/-- where the changed argument stands -/
def ioAt (io : Option Nat) (vs : List V) (a : Addr) : Prop := ∃ p, io = some p ∧ vs[p]? = some (.ref a)
structure PreF (c : Cn) (io : Option Nat) (A : Addr → Prop) (H : Hp) (ts : List T) (vs : List V) : Prop where
  ad : ∀ a, A a → H a ≠ none
  len : vs.length = ts.length
  nio : ∀ a, ioAt io vs a → ¬A a
  par : ∀ i t, ts[i]? = some t → ∃ v, vs[i]? = some v ∧ if io = some i then ∃ a, v = .ref a ∧ CellOk c H (fun b => A b ∨ ioAt io vs b) t a else Rep c H (fun b => A b ∨ ioAt io vs b) t v
structure PostF (c : Cn) (io : Option Nat) (A : Addr → Prop) (H : Hp) (vs : List V) (t : T) (fr : Bool) (out : Option T) (v : V) (H' : Hp) : Prop where
  keep : ∀ b o, H b = some o → ¬ioAt io vs b → H' b = some o
  dom : ∀ b, H b ≠ none → H' b ≠ none
  res : if fr = true then ∃ p, v = .ref p ∧ H p = none ∧ CellOk c H' (fun b => (A b ∨ ioAt io vs b) ∨ b = p) t p else Rep c H' (fun b => A b ∨ ioAt io vs b) t v
  outs : ∀ p, io = some p → ∃ a t', vs[p]? = some (.ref a) ∧ out = some t' ∧ CellOk c H' (fun b => (A b ∨ ioAt io vs b) ∨ (fr = true ∧ v = .ref b)) t' a
  outN : io = none → out = none
def spF (c : Cn) (Φ : Fn) (np : Nat) (io : Option Nat) : Sp := fun vs H Q _ => vs.length = np ∧ ∃ A ts t fr out, PreF c io A H ts vs ∧ Φ ts = .ok (t, fr, out) ∧ ∀ v H', PostF c io A H vs t fr out v H' → Q v H'

/-! ### where one stands -/
def GOk (c : Cn) (W : Nat) (D : Nat → Option Df) (n : Nat) (X : Cx) (x : Str) : GE → Prop
  | .fn i np io => ∃ (fa : Addr) (fd : FuncData) (ps : List Str), X.mg x = some (.ref fa) ∧ PySem.W.keepIn X.K (.ref fa) = true ∧ Binds X.K fd ps [] ∧ FnOk X.prog X.w X.K X.mg X.base CX0 n fa fd ps (spF c (fnS W D n i) np io)
  | .cst t => ∃ u v, X.mg x = some u ∧ RelV v u ∧ ∀ H Av, Rep c H Av t v
  | .free => X.mg x = none
structure Good (c : Cn) (W : Nat) (D : Nat → Option Df) (Γ : Gm) (n : Nat) (X : Cx) : Prop where
  K : X.K = c.K
  N : X.N = Γ.N
  nd : X.N.Nodup
  names : X.env.scope.names = Γ.names
  kind : X.env.scope.kind = .function
  calm : X.calm = true
  room : Room n X.A
  fn : ∀ x, Γ.st x = true → Loc X.env.scope x ∧ (X.fn x = true ∨ X.env.scope.names.lookup x = some .local)
  glob : ∀ x g, Γ.G.lookup x = some g → GOk c W D n X x g

section
variable {c : Cn} {W : Nat} {D : Nat → Option Df} {Γ : Gm} {n : Nat} {X : Cx}

theorem Good.vis (g : Good c W D Γ n X) {x : Str} (h : Γ.vis x = true) : Vis X.env.scope x := by
  unfold Gm.vis at h
  rw [← g.names] at h
  unfold Vis
  split at h
  · exact .inl (by assumption)
  · exact .inr (.inl (by assumption))
  · exact .inr (.inr (by assumption))
  · cases h
theorem Good.gl (g : Good c W D Γ n X) {x : Str} (h : Γ.gl x = true) : Gl X x := by
  unfold Gm.gl at h
  rw [← g.names] at h
  unfold Gl Env.kindOf
  split at h
  · assumption
  · cases h
theorem plainName_ok {x : Str} (h : plainName x = true) : (x == ("__debug__" : Str)) = false ∧ (x == ("__classdict__" : Str)) = false ∧ x ≠ "__name__" := by
  unfold plainName at h
  rw [Bool.and_eq_true, Bool.and_eq_true, Bool.not_eq_true', Bool.not_eq_true', Bool.not_eq_true'] at h
  exact ⟨h.1.1, h.1.2, fun e => by rw [e] at h; have := h.2; simp at this⟩
theorem Good.free (g : Good c W D Γ n X) {x : Str} (h : Γ.free x = true) : Gl X x ∧ X.mg x = none ∧ x ≠ "__name__" ∧ (x == ("__debug__" : Str)) = false := by
  unfold Gm.free at h
  rw [Bool.and_eq_true, Bool.and_eq_true] at h
  obtain ⟨⟨h1, h2⟩, h3⟩ := h
  have p := plainName_ok h2
  refine ⟨g.gl h1, ?_, p.2.2, p.1⟩
  split at h3
  · rename_i e
    exact g.glob _ _ e
  · cases h3
theorem Good.rd (g : Good c W D Γ n X) {i : Nat} {x : Str} {pos : Pos} (h : Γ.rd i x = true) : PE X (.Name x pos) (tVar i) := by
  unfold Gm.rd at h
  rw [Bool.and_eq_true, Bool.and_eq_true] at h
  obtain ⟨⟨h1, h2⟩, h3⟩ := h
  have p := plainName_ok h3
  refine pe_var ?_ (g.vis h2) p.1 p.2.1
  rw [g.N]
  exact of_decide_eq_true h1
theorem Good.un (g : Good c W D Γ n X) : X.A.units + 200 < cLine := by
  have := g.room.un
  omega

/-! ### blocks -/
theorem Good.relN (g : Good c W D Γ n X) (scope : Scope) : (relabel scope X.env).names = relN Γ.names scope.names := by
  unfold relabel DD.relN
  refine List.map_congr_left fun p _ => ?_
  have e1 : (X.env.scope.kind == ScopeKind.function) = true := by rw [g.kind]; rfl
  have e2 : X.env.kindOf p.1 = Γ.names.lookup p.1 := by rw [← g.names]; rfl
  simp only [e1, e2, Bool.and_true]
theorem Good.blk (g : Good c W D Γ n X) {scope : Scope} {own : List Nat} (h : Γ.blkOk scope own = true) : BlkOk X.N X.env.scope scope (ownOf Γ own) ∧ own.Nodup ∧ (∀ i ∈ own, i < X.N.length) ∧
    ∀ (s : Shared) (H : Hp) (C : Addr) (cl : List (Str × Addr)) (fp : List Addr), Good c W D (Γ.blk scope) n (X.blk s H scope (compEnvC scope cl C X.env) fp) := by
  unfold Gm.blkOk at h
  simp only [Bool.and_eq_true, decide_eq_true_eq] at h
  obtain ⟨⟨⟨h1, h2⟩, h3⟩, h4⟩ := h
  have b := blkOk_by h1
  refine ⟨?_, h2, fun i hi => ?_, fun s H C cl fp => ?_⟩
  · rw [g.N]
    exact ⟨b.kind, b.uniq, b.ix, fun y hy e => by have := b.free y hy e; rw [g.names]; exact this, b.own⟩
  · rw [g.N]
    have := List.all_eq_true.mp h3 i hi
    simpa using this
  · refine ⟨g.K, g.N, g.nd, g.relN scope, ?_, g.calm, g.room, fun x hx => ?_, g.glob⟩
    · exact b.kind
    · have el : ∀ y, (relabel scope X.env).names.lookup y = (DD.relN Γ.names scope.names).lookup y := fun y => by rw [g.relN scope]
      unfold Gm.st at hx
      rw [Bool.or_eq_true, Bool.and_eq_true] at hx
      rcases hx with hx | ⟨hx, hy⟩
      · unfold Gm.lcl at hx
        split at hx
        · rename_i e
          have e : (relabel scope X.env).names.lookup x = some .local := (el x).trans e
          exact ⟨.inl e, .inr e⟩
        · cases hx
      · unfold Gm.cel at hx
        split at hx
        · rename_i e
          have e : (relabel scope X.env).names.lookup x = some .cell := (el x).trans e
          refine ⟨.inr e, .inl ?_⟩
          have hy : ((scope.names.filter fun p => match p.2 with | .cell => true | _ => false).map (·.1)).contains x = true := hy
          rw [List.contains_iff_mem] at hy
          obtain ⟨p, hp, rfl⟩ := List.mem_map.mp hy
          have := List.all_eq_true.mp h4 p hp
          exact this
        · cases hx
theorem ownOf_snd {own : List Nat} : (ownOf Γ own).map (·.2) = own := by
  unfold ownOf
  rw [List.map_map]
  exact (List.map_congr_left fun _ _ => rfl).trans (List.map_id own)

/-! ### argument lists -/
theorem star_cons {x : Expr} {xs : List Expr} {env : Env} (h : noStar x = true) : starEach (x :: xs) env = (false, eval x env) :: starEach xs env := by
  cases x <;> first | rfl | cases h
theorem star_any {pos : Pos} {env : Env} : ∀ {xs : List Expr}, xs.all noStar = true → (backTo pos (starEach xs env)).any (·.1) = false
  | [], _ => rfl
  | x :: xs, h => by
    rw [List.all_cons, Bool.and_eq_true] at h
    rw [star_cons h.1]
    show (false || (backTo pos (starEach xs env)).any (·.1)) = false
    rw [star_any h.2]; rfl
theorem chkEs_star : ∀ {es : List E} {xs : List Expr}, chkEs Γ es xs = true → xs.all noStar = true
  | [], [], _ => rfl
  | [], x :: xs, h => by rw [chkEs] at h; cases h
  | e :: es, [], h => by rw [chkEs] at h; cases h
  | e :: es, x :: xs, h => by
    rw [chkEs, Bool.and_eq_true, Bool.and_eq_true] at h
    rw [List.all_cons, h.1.1, chkEs_star h.2]; rfl
theorem chkEs_len : ∀ {es : List E} {xs : List Expr}, chkEs Γ es xs = true → xs.length = es.length
  | [], [], _ => rfl
  | [], x :: xs, h => by rw [chkEs] at h; cases h
  | e :: es, [], h => by rw [chkEs] at h; cases h
  | e :: es, x :: xs, h => by
    rw [chkEs, Bool.and_eq_true, Bool.and_eq_true] at h
    simp [chkEs_len h.2]

/-! ### names -/
theorem At.entV {F : Fr} {env stk : En} {σ : St} {ws : List (Option V)} {H : Hp} (A : At c F env stk σ ws H) {i : Nat} {sl : Sl} (h : getS env i = some sl) : ∃ v, σ[i]? = some (some v) := by
  obtain ⟨O, S⟩ := A.sim
  have h1 := getS_some h
  have hi : i < env.length := (List.getElem?_eq_some_iff.mp h1).1
  obtain ⟨v, q1, _⟩ := S.ent i sl (by rw [List.getElem?_append_left hi]; exact h1)
  rw [List.getElem?_append_left (by rw [← A.hl]; exact hi)] at q1
  exact ⟨v, q1⟩
/-- the map of a name's read: the top of the stack is the slot's value -/
def mapTop (i k : Nat) : Nat → Nat := fun j => if j = k then i else j
theorem rd_peek {i : Nat} {Φ Ψ : Nat → Fn} {e : E} (he : e = .peek i ∨ e = .io i) : ∀ σ H Q, rdE c Φ Ψ e σ H Q → tVar i σ H Q := by
  intro σ H Q ⟨F, env, stk, ws, A, o, env', h, k⟩
  have key : ∃ sl, getS env i = some sl ∧ o = .s i ∧ env' = env := by
    rcases he with rfl | rfl
    · rw [ev] at h
      split at h
      · rename_i sl e; cases h; exact ⟨_, e, rfl, rfl⟩
      · cases h
    · rw [ev] at h
      split at h
      · rename_i e; cases h; exact ⟨_, e, rfl, rfl⟩
      · rename_i e; cases h; exact ⟨_, e, rfl, rfl⟩
      · cases h
  obtain ⟨sl, e, rfl, rfl⟩ := key
  obtain ⟨v, hv⟩ := A.entV e
  refine ⟨v, hv, k v H ⟨A.hl, by simp [A.hw], ?_⟩ hv⟩
  obtain ⟨O, S⟩ := A.sim
  have := S.push_none (some v)
  rw [List.append_assoc, List.append_assoc] at this
  exact ⟨O, this⟩
theorem set_at {env : En} {i j : Nat} {x : Option Sl} {y : Option Sl} (h : (env.set i x)[j]? = some y) : (j = i ∧ y = x) ∨ (j ≠ i ∧ env[j]? = some y) := by
  by_cases e : j = i
  · subst e
    have hl : j < (env.set j x).length := (List.getElem?_eq_some_iff.mp h).1
    rw [List.getElem?_set_self (by simpa using hl)] at h
    exact .inl ⟨rfl, (Option.some.inj h).symm⟩
  · rw [List.getElem?_set_ne (Ne.symm e)] at h
    exact .inr ⟨e, h⟩
/-- slot i is read off: its own entry becomes x, the value lies on the stack -/
theorem At.read {F : Fr} {env stk : En} {σ : St} {ws : List (Option V)} {H : Hp} (A : At c F env stk σ ws H) {i : Nat} {t : T} {m m2 : Md} {v : V} {x : Option Sl} (h : getS env i = some ⟨t, m⟩) (hv : σ[i]? = some (some v)) (hm : m ≠ .io)
    (hx : (x = some ⟨t, .sh⟩ ∧ m2 = .sh) ∨ (x = none ∧ m2 = m)) : At c F (env.set i x) (stk ++ [some ⟨t, m2⟩]) σ (ws ++ [some v]) H := by
  have hl := A.hl
  have hw := A.hw
  have h1 := getS_some h
  have hi : i < env.length := (List.getElem?_eq_some_iff.mp h1).1
  obtain ⟨O, S⟩ := A.sim
  refine ⟨by simpa using hl, by simp [hw], S.re (by simp [hl, hw]) (mapTop i (env.length + stk.length)) fun j sl hj => ?_⟩
  have tot : (env ++ stk).length = env.length + stk.length := by simp
  -- what a place of the new list says
  have cases_ : ∀ (j : Nat) (sl : Sl), (env.set i x ++ (stk ++ [some ⟨t, m2⟩]))[j]? = some (some sl) → (j = env.length + stk.length ∧ sl = ⟨t, m2⟩) ∨ (j = i ∧ x = some sl) ∨ (j ≠ i ∧ j < env.length + stk.length ∧ (env ++ stk)[j]? = some (some sl)) := by
    intro j sl hj
    by_cases a : j < env.length
    · rw [List.getElem?_append_left (by simpa using a)] at hj
      rcases set_at hj with ⟨e1, e2⟩ | ⟨e1, e2⟩
      · exact .inr (.inl ⟨e1, e2.symm⟩)
      · exact .inr (.inr ⟨e1, by omega, by rw [List.getElem?_append_left a]; exact e2⟩)
    · rw [List.getElem?_append_right (by simp; omega)] at hj
      simp only [List.length_set] at hj
      by_cases b : j - env.length < stk.length
      · rw [List.getElem?_append_left b] at hj
        refine .inr (.inr ⟨by omega, by omega, ?_⟩)
        rw [List.getElem?_append_right (by omega)]
        exact hj
      · rw [List.getElem?_append_right (by omega)] at hj
        have e0 : j - env.length - stk.length = 0 := by
          cases q : j - env.length - stk.length with
          | zero => rfl
          | succ n => rw [q] at hj; simp at hj
        rw [e0] at hj
        simp only [List.getElem?_cons_zero, Option.some.injEq] at hj
        exact .inl ⟨by omega, hj.symm⟩
  have valAt : ∀ j, j < env.length + stk.length → (σ ++ (ws ++ [some v]))[j]? = (σ ++ ws)[j]? := fun j hj => by
    rw [← List.append_assoc, List.getElem?_append_left (by simp; omega)]
  have valTop : (σ ++ (ws ++ [some v]))[env.length + stk.length]? = some (some v) := by
    rw [← List.append_assoc, List.getElem?_append_right (by simp; omega)]
    have : env.length + stk.length - (σ ++ ws).length = 0 := by simp; omega
    rw [this]; rfl
  have ei : (env ++ stk)[i]? = some (some ⟨t, m⟩) := by rw [List.getElem?_append_left hi]; exact h1
  have vi : (σ ++ ws)[i]? = some (some v) := by rw [List.getElem?_append_left (by omega)]; exact hv
  unfold mapTop
  rcases cases_ j sl hj with ⟨rfl, rfl⟩ | ⟨rfl, hxs⟩ | ⟨hne, hlt, he⟩
  · -- the top
    rw [if_pos rfl]
    refine ⟨m, ei, by rw [valTop, vi], ?_, fun e => absurd e hm, fun hmm hsl j' sl' hj' hf => ?_, fun hmm hsl j' sl' hj' hf => ?_⟩
    · rcases hx with ⟨_, e⟩ | ⟨_, e⟩
      · show m2 = m ∨ (m2 = .sh ∧ m = .own)
        rw [e]
        cases m with
        | sh => exact .inl rfl
        | own => exact .inr ⟨rfl, rfl⟩
        | io => exact absurd rfl hm
      · exact .inl e
    · rcases cases_ j' sl' hj' with ⟨e1, _⟩ | ⟨e1, e2⟩ | ⟨e1, e2, _⟩
      · exact e1
      · rcases hx with ⟨_, e⟩ | ⟨e, _⟩
        · exact absurd e hsl
        · rw [e] at e2; cases e2
      · rw [if_neg (by omega)] at hf; exact absurd hf e1
    · rcases cases_ j' sl' hj' with ⟨e1, e2⟩ | ⟨e1, e2⟩ | ⟨e1, e2, _⟩
      · rw [e2]; exact hsl
      · rcases hx with ⟨e, _⟩ | ⟨e, _⟩
        · rw [e] at e2; cases e2; rfl
        · rw [e] at e2; cases e2
      · rw [if_neg (by omega)] at hf; exact absurd hf e1
  · -- the slot itself
    rw [if_neg (by omega)]
    rcases hx with ⟨e, em⟩ | ⟨e, _⟩
    · rw [e] at hxs
      cases hxs
      refine ⟨m, ei, valAt _ (by omega), ?_, fun e => absurd e hm, fun _ hsl => absurd rfl hsl, fun hmm hsl j' sl' hj' hf => ?_⟩
      · cases m with
        | sh => exact .inl rfl
        | own => exact .inr ⟨rfl, rfl⟩
        | io => exact absurd rfl hm
      · rcases cases_ j' sl' hj' with ⟨e1, e2⟩ | ⟨e1, e2⟩ | ⟨e1, e2, _⟩
        · rw [e2]; exact em
        · rw [e] at e2; cases e2; rfl
        · rw [if_neg (by omega)] at hf; exact absurd hf e1
    · rw [e] at hxs; cases hxs
  · -- another place
    rw [if_neg (by omega)]
    refine ⟨sl.m, he, valAt j hlt, .inl rfl, fun _ => rfl, fun _ _ j' sl' hj' hf => ?_, fun hmm hsl => absurd hsl hmm⟩
    rcases cases_ j' sl' hj' with ⟨e1, _⟩ | ⟨e1, _⟩ | ⟨e1, e2, _⟩
    · rw [if_pos e1] at hf; exact absurd hf.symm hne
    · rw [if_neg (by omega)] at hf; exact hf
    · rw [if_neg (by omega)] at hf; exact hf
theorem rd_var {i : Nat} {Φ Ψ : Nat → Fn} : ∀ σ H Q, rdE c Φ Ψ (.var i) σ H Q → tVar i σ H Q := by
  intro σ H Q ⟨F, env, stk, ws, A, o, env', h, k⟩
  rw [ev] at h
  split at h
  · cases h
  · rename_i t m hm e
    cases h
    obtain ⟨v, hv⟩ := A.entV e
    exact ⟨v, hv, k v H (A.read e hv hm (.inl ⟨rfl, rfl⟩)) trivial⟩
  · cases h
theorem rd_mv {i : Nat} {Φ Ψ : Nat → Fn} : ∀ σ H Q, rdE c Φ Ψ (.mv i) σ H Q → tVar i σ H Q := by
  intro σ H Q ⟨F, env, stk, ws, A, o, env', h, k⟩
  rw [ev] at h
  split at h
  · rename_i t e
    cases h
    obtain ⟨v, hv⟩ := A.entV e
    exact ⟨v, hv, k v H (A.read e hv (fun z => nomatch z) (.inr ⟨rfl, rfl⟩)) trivial⟩
  · rename_i t e
    cases h
    obtain ⟨v, hv⟩ := A.entV e
    exact ⟨v, hv, k v H (A.read e hv (fun z => nomatch z) (.inr ⟨rfl, rfl⟩)) trivial⟩
  · cases h
theorem At.push_sh {F : Fr} {env stk : En} {σ : St} {ws : List (Option V)} {H : Hp} (A : At c F env stk σ ws H) {t : T} {v : V} (r : ∀ Av, Rep c H Av t v) : At c F env (stk ++ [some ⟨t, .sh⟩]) σ (ws ++ [some v]) H := by
  obtain ⟨O, S⟩ := A.sim
  refine ⟨A.hl, by simp [A.hw], O, ?_⟩
  have := S.push_sh (r (F.av O))
  rw [List.append_assoc, List.append_assoc] at this
  exact this
theorem rd_cst {t : T} {v : V} {Φ Ψ : Nat → Fn} (hr : ∀ H Av, Rep c H Av t v) : ∀ σ H Q, rdE c Φ Ψ (.cst t) σ H Q → tC v σ H Q := by
  intro σ H Q ⟨F, env, stk, ws, A, o, env', h, k⟩
  rw [ev] at h
  cases h
  exact k v H (A.push_sh fun Av => hr H Av) trivial
end
end DD
/-! DSnd2: displays, operations, tests, calls. -/
namespace DD
open PySem L2
section
variable {c : Cn} {W : Nat} {D : Nat → Option Df} {Γ : Gm} {n : Nat} {X : Cx} {F : Fr} {env stk : En} {σ : St} {ws : List (Option V)} {H : Hp} {Φ Ψ : Nat → Fn}

theorem SimO.pre {O : Addr → Option Nat} {es xs : En} {vs ys : List (Option V)} (S : SimO c F O (es ++ xs) (vs ++ ys) H) (hl : vs.length = es.length) : SimO c F O es vs H := by
  refine ⟨hl, S.oa, S.ad, S.od, S.iod, S.keep, fun i sl h => ?_⟩
  have hi : i < es.length := (List.getElem?_eq_some_iff.mp h).1
  obtain ⟨v, h1, h2⟩ := S.ent i sl (by rw [List.getElem?_append_left hi]; exact h)
  rw [List.getElem?_append_left (by omega)] at h1
  exact ⟨v, h1, h2⟩
theorem plain_at : ∀ {os : List OV} {ts : List T}, plain os = some ts → os.length = ts.length ∧ ∀ (k : Nat) (t : T), ts[k]? = some t → ∃ fr : Bool, (os.map OV.sl)[k]? = some (some (⟨t, if fr = true then .own else .sh⟩ : Sl))
  | [], ts, h => by
    rw [plain] at h; cases h
    exact ⟨rfl, fun k t e => by simp at e⟩
  | .v t fr :: os, ts, h => by
    rw [plain] at h
    cases e : plain os with
    | none => rw [e] at h; cases h
    | some r =>
      rw [e] at h
      cases h
      obtain ⟨h1, h2⟩ := plain_at e
      refine ⟨by simp [h1], fun k t' e' => ?_⟩
      cases k with
      | zero =>
        simp only [List.getElem?_cons_zero, Option.some.injEq] at e'
        subst e'
        exact ⟨fr, rfl⟩
      | succ k =>
        simp only [List.getElem?_cons_succ] at e'
        exact h2 k t' e'
  | .s i :: os, ts, h => by rw [plain] at h; cases h
/-- what is put into something is shared from now on -/
theorem At.freeze {os : List OV} {vs : List V} {ts : List T} (S : At c F env (stk ++ os.map OV.sl) σ (ws ++ vs.map some) H) (hl : stk.length = ws.length) (hp : plain os = some ts) (hv : vs.length = os.length) :
    ∃ O, SimO c F O (env ++ stk) (σ ++ ws) H ∧ RepL c H (F.av O) ts vs := by
  obtain ⟨O, S0⟩ := S.sim
  have hs := S.hl
  obtain ⟨hlen, hat⟩ := plain_at hp
  have e1 : env ++ (stk ++ os.map OV.sl) = (env ++ stk) ++ os.map OV.sl := (List.append_assoc ..).symm
  have e2 : σ ++ (ws ++ vs.map some) = (σ ++ ws) ++ vs.map some := (List.append_assoc ..).symm
  rw [e1, e2] at S0
  have tot : (env ++ stk).length = (σ ++ ws).length := by simp [hs, hl]
  obtain ⟨O', S1⟩ : Sim c F ((env ++ stk) ++ ts.map fun t => some (⟨t, .sh⟩ : Sl)) ((σ ++ ws) ++ vs.map some) H := by
    refine S0.re (by simp [← tot, hv, hlen, hs, hl]) (fun j => j) fun j sl hj => ?_
    by_cases a : j < (env ++ stk).length
    · rw [List.getElem?_append_left a] at hj
      refine ⟨sl.m, by rw [List.getElem?_append_left a]; exact hj, rfl, .inl rfl, fun _ => rfl, fun _ _ _ _ _ e => e, fun n e => absurd e n⟩
    · rw [List.getElem?_append_right (by omega)] at hj
      rw [List.getElem?_map] at hj
      cases q : ts[j - (env ++ stk).length]? with
      | none => rw [q] at hj; cases hj
      | some t =>
        rw [q] at hj
        cases hj
        obtain ⟨fr, hfr⟩ := hat _ _ q
        refine ⟨if fr then .own else .sh, by rw [List.getElem?_append_right (by omega)]; exact hfr, rfl, ?_, fun e => ?_, fun _ e => absurd rfl e, fun hm _ j' sl' hj' e => ?_⟩
        · cases fr with
          | false => exact .inl rfl
          | true => exact .inr ⟨rfl, rfl⟩
        · cases fr <;> cases e
        · subst e
          rw [List.getElem?_append_right (by omega), List.getElem?_map, q] at hj'
          cases hj'; rfl
  refine ⟨O', S1.pre tot.symm, ?_⟩
  -- the items
  have get : ∀ k t, ts[k]? = some t → ∃ v, vs[k]? = some v ∧ Rep c H (F.av O') t v := fun k t e => by
    obtain ⟨v, h1, h2⟩ := S1.ent ((env ++ stk).length + k) ⟨t, .sh⟩ (by rw [List.getElem?_append_right (Nat.le_add_right _ _), Nat.add_sub_cancel_left, List.getElem?_map, e]; rfl)
    rw [List.getElem?_append_right (by omega)] at h1
    rw [tot] at h1
    simp only [Nat.add_sub_cancel_left, List.getElem?_map] at h1
    cases q : vs[k]? with
    | none => rw [q] at h1; cases h1
    | some v' => rw [q] at h1; cases h1; exact ⟨v, q, h2⟩
  clear S1 S0 S hat hp e1 e2
  have hl2 : vs.length = ts.length := by omega
  clear hv hlen
  induction ts generalizing vs with
  | nil =>
    have : vs = [] := List.eq_nil_of_length_eq_zero hl2
    subst this
    exact RepL.nil
  | cons t ts ih =>
    cases vs with
    | nil => cases hl2
    | cons v vs =>
      obtain ⟨v', q1, q2⟩ := get 0 t rfl
      cases q1
      exact RepL.cons q2 (ih (fun k t' e => get (k + 1) t' e) (by simpa using hl2))

theorem rd_tup {es : List E} : ∀ σ H Q, rdE c Φ Ψ (.tup es) σ H Q → tTup (rdA c Φ Ψ es) σ H Q := by
  intro σ H Q ⟨F, env, stk, ws, A, o, env', h, k⟩
  rw [ev] at h
  obtain ⟨⟨os, e1⟩, h1, h⟩ := R.bind_ok h
  obtain ⟨ts, h2, h⟩ := R.bind_ok h
  have h2 := R.opt_ok h2
  split at h
  · rename_i hz
    cases h
    refine ⟨F, env, stk, ws, A, os, _, h1, fun vs H1 A1 ok => ?_⟩
    obtain ⟨O, S, rl⟩ := A1.freeze A.hw h2 ok.length.symm
    refine ⟨by rw [← line_eq, ← rl.length]; exact hz, fun p hp => k _ _ (At.out S A1.hl A.hw ?_) trivial⟩
    exact Out.tup (p := .sub) hp rl
  · cases h
theorem rd_lst {es : List E} : ∀ σ H Q, rdE c Φ Ψ (.lst es) σ H Q → tLst (rdA c Φ Ψ es) σ H Q := by
  intro σ H Q ⟨F, env, stk, ws, A, o, env', h, k⟩
  rw [ev] at h
  obtain ⟨⟨os, e1⟩, h1, h⟩ := R.bind_ok h
  obtain ⟨ts, h2, h⟩ := R.bind_ok h
  have h2 := R.opt_ok h2
  split at h
  · rename_i hz
    cases h
    refine ⟨F, env, stk, ws, A, os, _, h1, fun vs H1 A1 ok => ?_⟩
    obtain ⟨O, S, rl⟩ := A1.freeze A.hw h2 ok.length.symm
    refine ⟨by rw [← line_eq, ← rl.length]; exact hz, fun p hp => k _ _ (At.out S A1.hl A.hw ?_) trivial⟩
    exact Out.lst (p := .list) rfl hp rl
  · cases h

/-! ### tests -/
theorem asBl_ok {o : OV} {b : Bool} (h : asBl o = .ok b) : ∃ fr, o = .v (.bl b) fr := by
  unfold asBl at h
  split at h
  · cases h; exact ⟨_, rfl⟩
  · cases h
theorem rdT_of {e : E} {σ : St} {H : Hp} {Q : Bool → Hp → Prop} {F : Fr} {env stk : En} {ws : List (Option V)} (A : At c F env stk σ ws H) {o : OV} {env' : En} {b : Bool} (h : ev Φ Ψ e env = .ok (o, env')) (hb : asBl o = .ok b)
    (k : ∀ H', At c F env' stk σ ws H' → Q b H') : rdT c Φ Ψ e σ H Q := by
  obtain ⟨fr, rfl⟩ := asBl_ok hb
  exact ⟨F, env, stk, ws, A, b, fr, env', h, k⟩
theorem rd_andT {a b : E} : ∀ σ H Q, rdT c Φ Ψ (.and a b) σ H Q → tAnd (rdT c Φ Ψ a) (rdT c Φ Ψ b) σ H Q := by
  intro σ H Q ⟨F, env, stk, ws, A, d, fr, env', h, k⟩
  rw [ev] at h
  obtain ⟨⟨o1, e1⟩, h1, h⟩ := R.bind_ok h
  obtain ⟨x, h2, h⟩ := R.bind_ok h
  refine rdT_of A h1 h2 fun H1 A1 => ?_
  cases x with
  | false => cases h; exact k H1 A1
  | true =>
    obtain ⟨⟨o2, e2⟩, h3, h⟩ := R.bind_ok h
    obtain ⟨y, h4, h⟩ := R.bind_ok h
    cases h
    exact rdT_of A1 h3 h4 k
theorem rd_orT {a b : E} : ∀ σ H Q, rdT c Φ Ψ (.or a b) σ H Q → tOr (rdT c Φ Ψ a) (rdT c Φ Ψ b) σ H Q := by
  intro σ H Q ⟨F, env, stk, ws, A, d, fr, env', h, k⟩
  rw [ev] at h
  obtain ⟨⟨o1, e1⟩, h1, h⟩ := R.bind_ok h
  obtain ⟨x, h2, h⟩ := R.bind_ok h
  refine rdT_of A h1 h2 fun H1 A1 => ?_
  cases x with
  | true => cases h; exact k H1 A1
  | false =>
    obtain ⟨⟨o2, e2⟩, h3, h⟩ := R.bind_ok h
    obtain ⟨y, h4, h⟩ := R.bind_ok h
    cases h
    exact rdT_of A1 h3 h4 k
theorem rd_notT {a : E} : ∀ σ H Q, rdT c Φ Ψ (.not a) σ H Q → tNot (rdT c Φ Ψ a) σ H Q := by
  intro σ H Q ⟨F, env, stk, ws, A, d, fr, env', h, k⟩
  rw [ev] at h
  obtain ⟨⟨o1, e1⟩, h1, h⟩ := R.bind_ok h
  obtain ⟨x, h2, h⟩ := R.bind_ok h
  cases h
  exact rdT_of A h1 h2 k
/-- a bool on the stack -/
theorem At.topBl {v : V} {b : Bool} {fr : Bool} (A : At c F env (stk ++ [(OV.v (.bl b) fr).sl]) σ (ws ++ [some v]) H) (hw : stk.length = ws.length) : v = .bl b ∧ At c F env stk σ ws H := by
  obtain ⟨O, S, rt⟩ := At.ops (os := [.v (.bl b) fr]) (vs := [v]) (ts := [.bl b]) A hw (.cons trivial .nil) rfl
  cases rt with
  | cons p _ => exact ⟨p.bl, A.drop hw⟩
theorem rdE_bl {e : E} {σ : St} {H : Hp} {Q : V → Hp → Prop} {F : Fr} {env stk : En} {ws : List (Option V)} (A : At c F env stk σ ws H) {o : OV} {env' : En} {b : Bool} (h : ev Φ Ψ e env = .ok (o, env')) (hb : asBl o = .ok b)
    (k : ∀ H', At c F env' stk σ ws H' → Q (.bl b) H') : rdE c Φ Ψ e σ H Q := by
  obtain ⟨fr, rfl⟩ := asBl_ok hb
  refine ⟨F, env, stk, ws, A, _, env', h, fun v H1 A1 _ => ?_⟩
  obtain ⟨rfl, A2⟩ := A1.topBl A.hw
  exact k H1 A2
theorem rep_bl {H : Hp} {Av : Addr → Prop} {b : Bool} : Rep c H Av (.bl b) (.bl b) := by rw [Rep]
theorem rd_and {a b : E} : ∀ σ H Q, rdE c Φ Ψ (.and a b) σ H Q → tAndV (rdE c Φ Ψ a) (rdE c Φ Ψ b) σ H Q := by
  intro σ H Q ⟨F, env, stk, ws, A, o, env', h, k⟩
  rw [ev] at h
  obtain ⟨⟨o1, e1⟩, h1, h⟩ := R.bind_ok h
  obtain ⟨x, h2, h⟩ := R.bind_ok h
  refine rdE_bl A h1 h2 fun H1 A1 => ⟨x, rfl, ?_⟩
  cases x with
  | false => cases h; exact k _ _ (A1.push_sh fun _ => rep_bl) trivial
  | true =>
    obtain ⟨⟨o2, e2⟩, h3, h⟩ := R.bind_ok h
    obtain ⟨y, h4, h⟩ := R.bind_ok h
    cases h
    exact rdE_bl A1 h3 h4 fun H2 A2 => k _ _ (A2.push_sh fun _ => rep_bl) trivial
theorem rd_or {a b : E} : ∀ σ H Q, rdE c Φ Ψ (.or a b) σ H Q → tOrV (rdE c Φ Ψ a) (rdE c Φ Ψ b) σ H Q := by
  intro σ H Q ⟨F, env, stk, ws, A, o, env', h, k⟩
  rw [ev] at h
  obtain ⟨⟨o1, e1⟩, h1, h⟩ := R.bind_ok h
  obtain ⟨x, h2, h⟩ := R.bind_ok h
  refine rdE_bl A h1 h2 fun H1 A1 => ⟨x, rfl, ?_⟩
  cases x with
  | true => cases h; exact k _ _ (A1.push_sh fun _ => rep_bl) trivial
  | false =>
    obtain ⟨⟨o2, e2⟩, h3, h⟩ := R.bind_ok h
    obtain ⟨y, h4, h⟩ := R.bind_ok h
    cases h
    exact rdE_bl A1 h3 h4 fun H2 A2 => k _ _ (A2.push_sh fun _ => rep_bl) trivial
theorem rd_not {a : E} : ∀ σ H Q, rdE c Φ Ψ (.not a) σ H Q → tNotV (rdE c Φ Ψ a) σ H Q := by
  intro σ H Q ⟨F, env, stk, ws, A, o, env', h, k⟩
  rw [ev] at h
  obtain ⟨⟨o1, e1⟩, h1, h⟩ := R.bind_ok h
  obtain ⟨x, h2, h⟩ := R.bind_ok h
  cases h
  exact rdE_bl A h1 h2 fun H1 A1 => ⟨x, rfl, k _ _ (A1.push_sh fun _ => rep_bl) trivial⟩
theorem rd_ite {d a b : E} : ∀ σ H Q, rdE c Φ Ψ (.ite d a b) σ H Q → tIf (rdT c Φ Ψ d) (rdE c Φ Ψ a) (rdE c Φ Ψ b) σ H Q := by
  intro σ H Q ⟨F, env, stk, ws, A, o, env', h, k⟩
  rw [ev] at h
  obtain ⟨⟨o1, e1⟩, h1, h⟩ := R.bind_ok h
  obtain ⟨x, h2, h⟩ := R.bind_ok h
  refine rdT_of A h1 h2 fun H1 A1 => ?_
  cases x with
  | true => exact ⟨F, e1, stk, ws, A1, o, env', h, k⟩
  | false => exact ⟨F, e1, stk, ws, A1, o, env', h, k⟩
/-- a rule that only reads two values and tells a bool -/
def C2 (c : Cn) (p : Prim) (r : R2) : Prop := ∀ (Av : Addr → Prop) (H : Hp) (tx ty : T) (x y : V) (b : Bool) (Q : VK), RepT c H Av tx x → RepT c H Av ty y → p.sem [tx, ty] = some (.bl b) → Q (.bl b) H → r x y H Q
theorem rd_chain {p1 p2 : Prim} {r1 r2 : R2} (h1 : C2 c p1 r1) (h2 : C2 c p2 r2) (hb : ∀ tx ty t, p2.sem [tx, ty] = some t → ∃ b, t = .bl b) {a b d : E} : ∀ σ H Q, rdE c Φ Ψ (.chain p1 p2 a b d) σ H Q → tChain r1 r2 (rdE c Φ Ψ a) (rdE c Φ Ψ b) (rdE c Φ Ψ d) σ H Q := by
  intro σ H Q ⟨F, env, stk, ws, A, o, env', h, k⟩
  rw [ev] at h
  obtain ⟨⟨o1, e1⟩, q1, ha⟩ := R.bind_ok h
  clear h
  obtain ⟨⟨o2, e2⟩, q2, h⟩ := R.bind_ok ha
  clear ha
  obtain ⟨ts, q3, ha⟩ := R.bind_ok h
  clear h
  obtain ⟨t, q4, h⟩ := R.bind_ok ha
  clear ha
  obtain ⟨x, q5, ha⟩ := R.bind_ok h
  clear h
  have h := ha
  clear ha
  replace q3 := R.opt_ok q3
  replace q4 := R.opt_ok q4
  obtain ⟨fr, q5⟩ := asBl_ok q5
  cases q5
  refine ⟨F, env, stk, ws, A, o1, e1, q1, fun v H1 A1 ok1 => ⟨F, e1, _, _, A1, o2, e2, q2, fun u H2 A2 ok2 => ?_⟩⟩
  have A2' : At c F e2 (stk ++ [o1, o2].map OV.sl) σ (ws ++ [v, u].map some) H2 := by
    rw [List.append_assoc, List.append_assoc] at A2
    exact A2
  obtain ⟨O, S, rt⟩ := A2'.ops A.hw (.cons ok1 (.cons ok2 .nil)) q3
  cases rt with
  | cons z1 rt =>
    cases rt with
    | cons z2 rt =>
      cases rt
      refine h1 _ _ _ _ _ _ _ _ z1 z2 q4 ⟨x, rfl, ?_⟩
      by_cases hx : x = true
      · subst hx
        rw [if_pos rfl] at h ⊢
        obtain ⟨⟨o3, e3⟩, q6, h⟩ := R.bind_ok h
        obtain ⟨ts', q7, h⟩ := R.bind_ok h
        obtain ⟨t', q8, h⟩ := R.bind_ok h
        have q7 := R.opt_ok q7
        have q8 := R.opt_ok q8
        cases h
        refine ⟨F, e2, _, _, A2', o3, env', q6, fun w H3 A3 ok3 => ?_⟩
        -- the middle and the last one
        have A3' : At c F env' ((stk ++ [o1.sl]) ++ [o2, o3].map OV.sl) σ ((ws ++ [some v]) ++ [u, w].map some) H3 := by
          have e1 : (stk ++ [o1.sl]) ++ [o2, o3].map OV.sl = (stk ++ [o1, o2].map OV.sl) ++ [o3.sl] := by simp
          have e2 : (ws ++ [some v]) ++ [u, w].map some = (ws ++ [v, u].map some) ++ [some w] := by simp
          rw [e1, e2]
          exact A3
        obtain ⟨O3, S3, rt3⟩ := A3'.ops (by simp [A.hw]) (.cons ok2 (.cons ok3 .nil)) q7
        have A4 : At c F env' stk σ ws H3 := by
          have := A3'.drop (stk := stk ++ [o1.sl]) (ws := ws ++ [some v]) (by simp [A.hw])
          exact this.drop A.hw
        cases rt3 with
        | cons z3 rt3 =>
          cases rt3 with
          | cons z4 rt3 =>
            cases rt3
            obtain ⟨y, rfl⟩ := hb _ _ _ q8
            exact h2 _ _ _ _ _ _ _ _ z3 z4 q8 (k _ _ (A4.push_sh fun _ => rep_bl) trivial)
      · have hx : x = false := by simpa using hx
        subst hx
        rw [if_neg Bool.false_ne_true] at h ⊢
        cases h
        exact k _ _ ((A2'.drop A.hw).push_sh fun _ => rep_bl) trivial
end
end DD
/-! DSnd3: a def of the text, called. -/
namespace DD
open PySem L2
section
variable {c : Cn} {W : Nat} {D : Nat → Option Df} {Γ : Gm} {n : Nat} {X : Cx} {F : Fr} {env stk : En} {σ : St} {ws : List (Option V)} {H : Hp} {Φ Ψ : Nat → Fn}
/-- an operand as it is handed on: shared -/
def OV.fz : OV → Option Sl
  | .v t _ => some ⟨t, .sh⟩
  | .s _ => none
theorem At.fz {os : List OV} {vs : List V} (S : At c F env (stk ++ os.map OV.sl) σ (ws ++ vs.map some) H) (hl : stk.length = ws.length) (hv : os.length = vs.length) :
    ∃ O, SimO c F O (env ++ stk) (σ ++ ws) H ∧ ∀ (k : Nat) (t : T) (fr : Bool), os[k]? = some (OV.v t fr) → ∃ v, vs[k]? = some v ∧ Rep c H (F.av O) t v := by
  obtain ⟨O, S0⟩ := S.sim
  have hs := S.hl
  have e1 : env ++ (stk ++ os.map OV.sl) = (env ++ stk) ++ os.map OV.sl := (List.append_assoc ..).symm
  have e2 : σ ++ (ws ++ vs.map some) = (σ ++ ws) ++ vs.map some := (List.append_assoc ..).symm
  rw [e1, e2] at S0
  have tot : (env ++ stk).length = (σ ++ ws).length := by simp [hs, hl]
  obtain ⟨O', S1⟩ : Sim c F ((env ++ stk) ++ os.map OV.fz) ((σ ++ ws) ++ vs.map some) H := by
    refine S0.re (by simp [hv, hs, hl]) (fun j => j) fun j sl hj => ?_
    by_cases a : j < (env ++ stk).length
    · rw [List.getElem?_append_left a] at hj
      refine ⟨sl.m, by rw [List.getElem?_append_left a]; exact hj, rfl, .inl rfl, fun _ => rfl, fun _ _ _ _ _ e => e, fun n e => absurd e n⟩
    · rw [List.getElem?_append_right (by omega)] at hj
      rw [List.getElem?_map] at hj
      cases q : os[j - (env ++ stk).length]? with
      | none => rw [q] at hj; cases hj
      | some o =>
        rw [q] at hj
        cases o with
        | s i => cases hj
        | v t fr =>
          cases hj
          refine ⟨if fr then .own else .sh, by rw [List.getElem?_append_right (by omega), List.getElem?_map, q]; rfl, rfl, ?_, fun e => ?_, fun _ e => absurd rfl e, fun hm _ j' sl' hj' e => ?_⟩
          · cases fr with
            | false => exact .inl rfl
            | true => exact .inr ⟨rfl, rfl⟩
          · cases fr <;> cases e
          · subst e
            rw [List.getElem?_append_right (by omega), List.getElem?_map, q] at hj'
            cases hj'; rfl
  refine ⟨O', S1.pre tot.symm, fun k t fr e => ?_⟩
  obtain ⟨v, h1, h2⟩ := S1.ent ((env ++ stk).length + k) ⟨t, .sh⟩ (by rw [List.getElem?_append_right (Nat.le_add_right _ _), Nat.add_sub_cancel_left, List.getElem?_map, e]; rfl)
  rw [List.getElem?_append_right (by omega), tot] at h1
  simp only [Nat.add_sub_cancel_left, List.getElem?_map] at h1
  cases q : vs[k]? with
  | none => rw [q] at h1; cases h1
  | some v' => rw [q] at h1; cases h1; exact ⟨v, rfl, h2⟩
theorem OVs.get : ∀ {os : List OV} {vs : List V} {k : Nat} {o : OV}, OVs σ os vs → os[k]? = some o → ∃ v, vs[k]? = some v ∧ OVok σ o v
  | _, _, k, o, .nil, e => by simp at e
  | _, _, 0, o, .cons p q, e => by
    simp only [List.getElem?_cons_zero, Option.some.injEq] at e
    subst e
    exact ⟨_, rfl, p⟩
  | _, _, k + 1, o, .cons p q, e => by
    simp only [List.getElem?_cons_succ] at e ⊢
    exact OVs.get q e
theorem vals_at : ∀ {os : List OV} {ts : List T} {k : Nat} {t : T}, vals env os = some ts → ts[k]? = some t → ∃ o, os[k]? = some o ∧ o.res env = some t
  | [], ts, k, t, h, e => by rw [vals] at h; cases h; simp at e
  | o :: os, ts, k, t, h, e => by
    obtain ⟨t', r, rfl, h1, h2⟩ := vals_cons h
    cases k with
    | zero =>
      simp only [List.getElem?_cons_zero, Option.some.injEq] at e
      subst e
      exact ⟨o, rfl, h1⟩
    | succ k =>
      simp only [List.getElem?_cons_succ] at e ⊢
      exact vals_at h2 e
theorem vals_len : ∀ {os : List OV} {ts : List T}, vals env os = some ts → os.length = ts.length
  | [], ts, h => by rw [vals] at h; cases h; rfl
  | o :: os, ts, h => by
    obtain ⟨t', r, rfl, h1, h2⟩ := vals_cons h
    simp [vals_len h2]
theorem argsOk_at : ∀ {es : List E} {os : List OV}, argsOk es os = true → os.length = es.length ∧ ∀ (k : Nat) (e : E), es[k]? = some e → ∃ o, os[k]? = some o ∧ ((isIo e = true ∧ ∃ i, o = OV.s i) ∨ (isIo e = false ∧ ∃ t fr, o = OV.v t fr))
  | [], [], _ => ⟨rfl, fun k e q => by simp at q⟩
  | [], o :: os, h => by simp [argsOk] at h
  | e :: es, [], h => by cases e <;> simp [argsOk] at h
  | e :: es, o :: os, h => by
    have key : argsOk es os = true ∧ ((isIo e = true ∧ ∃ i, o = OV.s i) ∨ (isIo e = false ∧ ∃ t fr, o = OV.v t fr)) := by
      cases o with
      | s i => cases e <;> simp only [argsOk] at h <;> first | exact ⟨h, .inl ⟨rfl, i, rfl⟩⟩ | cases h
      | v t fr => cases e <;> simp only [argsOk] at h <;> first | exact ⟨h, .inr ⟨rfl, t, fr, rfl⟩⟩ | cases h
    obtain ⟨l, q⟩ := argsOk_at key.1
    refine ⟨by simp [l], fun k e' he => ?_⟩
    cases k with
    | zero =>
      simp only [List.getElem?_cons_zero, Option.some.injEq] at he ⊢
      subst he
      exact ⟨o, rfl, key.2⟩
    | succ k =>
      simp only [List.getElem?_cons_succ] at he ⊢
      exact q k e' he
theorem ioO_none : ∀ {os : List OV}, (∀ (k : Nat) (o : OV), os[k]? = some o → ∃ t fr, o = OV.v t fr) → ioO os = none
  | [], _ => rfl
  | .s i :: os, h => by obtain ⟨t, fr, e⟩ := h 0 _ rfl; cases e
  | .v t fr :: os, h => by
    rw [ioO]
    exact ioO_none fun k o e => h (k + 1) o (by simpa using e)
theorem ioO_some : ∀ {os : List OV} {p i : Nat}, os[p]? = some (OV.s i) → (∀ (k : Nat) (o : OV), k ≠ p → os[k]? = some o → ∃ t fr, o = OV.v t fr) → ioO os = some i
  | [], p, i, h, _ => by simp at h
  | .s j :: os, p, i, h, g => by
    cases p with
    | zero =>
      simp only [List.getElem?_cons_zero, Option.some.injEq] at h
      cases h
      rfl
    | succ p =>
      obtain ⟨t, fr, e⟩ := g 0 _ (by omega) rfl
      cases e
  | .v t fr :: os, p, i, h, g => by
    rw [ioO]
    cases p with
    | zero =>
      simp only [List.getElem?_cons_zero, Option.some.injEq] at h
      cases h
    | succ p => exact ioO_some (p := p) (by simpa using h) fun k o ne e => g (k + 1) o (by omega) (by simpa using e)
theorem upS_ok {i : Nat} {f : T → Option T} {env' : En} (h : upS env i f = .ok env') : ∃ t m t', getS env i = some ⟨t, m⟩ ∧ m ≠ .sh ∧ f t = some t' ∧ env' = env.set i (some ⟨t', m⟩) := by
  unfold upS at h
  split at h
  · rename_i t e
    obtain ⟨t', h1, h2⟩ := R.bind_ok h
    cases h2
    exact ⟨t, .own, t', e, (by decide), R.opt_ok h1, rfl⟩
  · rename_i t e
    obtain ⟨t', h1, h2⟩ := R.bind_ok h
    cases h2
    exact ⟨t, .io, t', e, (by decide), R.opt_ok h1, rfl⟩
  · cases h
theorem chkArgs_at {io : Option Nat} {es : List E} (h : chkArgs io es = true) : ∀ (k : Nat) (e : E), es[k]? = some e → isIo e = decide (io = some k) := by
  intro k e he
  unfold chkArgs at h
  cases io with
  | none =>
    have h := List.all_eq_true.mp h e (List.mem_of_getElem? he)
    simpa using h
  | some p =>
    simp only [Bool.and_eq_true] at h
    obtain ⟨⟨h1, h2⟩, h3⟩ := h
    by_cases q : k = p
    · subst q
      rw [he] at h1
      simpa using h1
    · have hd : decide (some p = some k) = false := decide_eq_false fun z => q (Option.some.inj z).symm
      rw [hd]
      by_cases l : k < p
      · have h := List.all_eq_true.mp h2 e (List.mem_of_getElem? (i := k) (by rw [List.getElem?_take_of_lt l]; exact he))
        simpa using h
      · have h := List.all_eq_true.mp h3 e (List.mem_of_getElem? (i := k - (p + 1)) (by rw [List.getElem?_drop]; rw [show p + 1 + (k - (p + 1)) = k by omega]; exact he))
        simpa using h
theorem chkArgs_pos {p : Nat} {es : List E} (h : chkArgs (some p) es = true) : ∃ e, es[p]? = some e := by
  unfold chkArgs at h
  simp only [Bool.and_eq_true] at h
  cases e : es[p]? with
  | none => rw [e] at h; cases h.1.1
  | some x => exact ⟨x, rfl⟩

theorem rd_fncall {f np : Nat} {io : Option Nat} {es : List E} {E0 : XK} (hn : es.length = np) (ha : chkArgs io es = true) : ∀ σ H Q, rdE c Φ Ψ (.call f es) σ H Q → tCall (spF c (Φ f) np io) [] E0 (rdA c Φ Ψ es) σ H Q := by
  intro σ H Q ⟨F, env, stk, ws, A, o, env', h, k⟩
  rw [ev] at h
  obtain ⟨⟨os, e1⟩, h1, ha2⟩ := R.bind_ok h
  clear h
  obtain ⟨ts, h2, h⟩ := R.bind_ok ha2
  clear ha2
  replace h2 := R.opt_ok h2
  refine ⟨F, env, stk, ws, A, os, e1, h1, fun vs H1 A1 ok => ?_⟩
  split at h
  case isFalse => cases h
  rename_i hargs
  split at h
  case h_2 => cases h
  rename_i t fr out hΦ
  obtain ⟨env2, h3, h4⟩ := R.bind_ok h
  cases h4
  clear h
  obtain ⟨hl1, hat⟩ := argsOk_at hargs
  have hlen := ok.length
  have hlt := vals_len h2
  rw [List.append_nil]
  obtain ⟨O, S, hrep⟩ := A1.fz A.hw hlen
  have hs := A1.hl
  have hw := A.hw
  -- the slots' own values
  have slot : ∀ (i : Nat) (sl : Sl) (v : V), getS e1 i = some sl → σ[i]? = some (some v) → Ent c F O H1 i sl v := fun i sl v q1 q2 => by
    have q1' := getS_some q1
    have hi : i < e1.length := (List.getElem?_eq_some_iff.mp q1').1
    obtain ⟨v', z1, z2⟩ := S.ent i sl (by rw [List.getElem?_append_left hi]; exact q1')
    rw [List.getElem?_append_left (by omega), q2] at z1
    cases z1
    exact z2
  have kp0 : Kp (F.av O) H1 H1 := fun a o e _ => e
  cases io with
  | none =>
    have allv : ∀ (k : Nat) (o : OV), os[k]? = some o → ∃ t fr, o = OV.v t fr := fun k o e => by
      have hk : k < es.length := by rw [← hl1]; exact (List.getElem?_eq_some_iff.mp e).1
      obtain ⟨o', q1, q2⟩ := hat k es[k] (List.getElem?_eq_getElem hk)
      rw [e] at q1
      cases q1
      rcases q2 with ⟨q, _⟩ | ⟨_, q⟩
      · have := chkArgs_at ha k es[k] (List.getElem?_eq_getElem hk)
        rw [q] at this; simp at this
      · exact q
    rw [ioO_none allv] at h3
    have no : ∀ a, ¬ioAt none vs a := fun a ⟨p, e, _⟩ => nomatch e
    cases out with
    | some x => cases h3
    | none =>
      cases h3
      refine ⟨by omega, F.av O, ts, t, fr, none, ⟨fun a q => ?_, by omega, fun a q => absurd q (no a), fun i t' e => ?_⟩, hΦ, fun v H' P => ?_⟩
      · rcases q with q | q
        · exact S.ad a q
        · exact S.od a q
      · obtain ⟨o, q1, q2⟩ := vals_at h2 e
        obtain ⟨t2, fr2, rfl⟩ := allv _ _ q1
        cases q2
        obtain ⟨v, q3, q4⟩ := hrep _ _ _ q1
        refine ⟨v, q3, ?_⟩
        rw [if_neg (fun z => nomatch z)]
        exact Rep.mono kp0 (fun a _ _ z => z.elim id fun z => absurd z (no a)) _ _ q4
      · have gr : Gr H1 H' := fun a o e => P.keep a o e (no a)
        refine k v H' (At.out S hs hw ⟨gr, ?_⟩) trivial
        have r := P.res
        cases fr with
        | false =>
          rw [if_neg Bool.false_ne_true] at r ⊢
          exact Rep.mono (fun a o e _ => e) (fun a _ _ z => .inl z) _ _ r
        | true =>
          rw [if_pos rfl] at r ⊢
          obtain ⟨p, r1, r2, r3⟩ := r
          exact ⟨p, r1, r2, CellOk.mono (fun a o e _ => e) (fun a _ _ z => z.imp .inl id) rfl r3⟩
  | some p =>
    obtain ⟨ep, hep⟩ := chkArgs_pos ha
    obtain ⟨op, q1, q2⟩ := hat p ep hep
    have hio := chkArgs_at ha p ep hep
    rw [decide_eq_true rfl] at hio
    obtain ⟨i, rfl⟩ : ∃ i, op = OV.s i := by
      rcases q2 with ⟨_, q⟩ | ⟨q, _⟩
      · exact q
      · rw [hio] at q; cases q
    have others : ∀ (k : Nat) (o : OV), k ≠ p → os[k]? = some o → ∃ t fr, o = OV.v t fr := fun k o ne e => by
      have hk : k < es.length := by rw [← hl1]; exact (List.getElem?_eq_some_iff.mp e).1
      obtain ⟨o', z1, z2⟩ := hat k es[k] (List.getElem?_eq_getElem hk)
      rw [e] at z1
      cases z1
      rcases z2 with ⟨z, _⟩ | ⟨_, z⟩
      · have := chkArgs_at ha k es[k] (List.getElem?_eq_getElem hk)
        rw [z, decide_eq_false (fun e => ne (Option.some.inj e).symm)] at this; cases this
      · exact z
    rw [ioO_some q1 others] at h3
    cases out with
    | none => cases h3
    | some t' =>
      obtain ⟨t0, m, t1, u1, u2, u3, rfl⟩ := upS_ok h3
      cases u3
      obtain ⟨v0, w1, w2⟩ := ok.get q1
      have w2 : σ[i]? = some (some v0) := w2
      have en := slot i _ v0 u1 w2
      obtain ⟨a, rfl, hOa, hcell⟩ : ∃ a, v0 = .ref a ∧ O a = some i ∧ CellOk c H1 (F.av O) t0 a := by
        cases m with
        | sh => exact absurd rfl u2
        | own => obtain ⟨a, z1, z2, z3, z5⟩ := en; exact ⟨a, z1, z2, z5⟩
        | io => obtain ⟨a, z1, z2, z3, z5⟩ := en; exact ⟨a, z1, z2, z5⟩
      have ioa : ∀ b, ioAt (some p) vs b ↔ b = a := fun b => ⟨fun ⟨p', e1, e2⟩ => by cases e1; rw [w1] at e2; cases e2; rfl, fun e => ⟨p, rfl, by rw [e]; exact w1⟩⟩
      have av_a : F.av O a := .inr (by rw [hOa]; rfl)
      have av1 : ∀ b, (F.av O b ∧ b ≠ a) ∨ ioAt (some p) vs b → F.av O b := fun b z => z.elim (·.1) fun z => by rw [(ioa b).mp z]; exact av_a
      have av2 : ∀ b, F.av O b → (F.av O b ∧ b ≠ a) ∨ ioAt (some p) vs b := fun b z => by
        by_cases e : b = a
        · exact .inr ((ioa b).mpr e)
        · exact .inl ⟨z, e⟩
      refine ⟨by omega, fun b => F.av O b ∧ b ≠ a, ts, t, fr, some t', ⟨fun b q => ?_, by omega, fun b q z => z.2 ((ioa b).mp q), fun j t2 e => ?_⟩, hΦ, fun v H' P => ?_⟩
      · rcases q.1 with q | q
        · exact S.ad b q
        · exact S.od b q
      · obtain ⟨o, q3, q4⟩ := vals_at h2 e
        by_cases ej : p = j
        · subst ej
          rw [q1] at q3
          cases q3
          have q4 : (getS e1 i).map (·.t) = some t2 := q4
          rw [u1] at q4
          cases q4
          refine ⟨.ref a, w1, ?_⟩
          rw [if_pos rfl]
          exact ⟨a, rfl, CellOk.mono kp0 (fun b _ _ z => av1 b z) rfl hcell⟩
        · obtain ⟨t3, fr3, rfl⟩ := others j o (Ne.symm ej) q3
          cases q4
          obtain ⟨v, q5, q6⟩ := hrep _ _ _ q3
          refine ⟨v, q5, ?_⟩
          rw [if_neg (fun z => ej (Option.some.inj z))]
          exact Rep.mono kp0 (fun b _ _ z => av1 b z) _ _ q6
      · -- behind the call
        obtain ⟨a', t'', z1, z2, z3⟩ := P.outs p rfl
        rw [w1] at z1
        cases z1
        cases z2
        obtain ⟨oa, hoa, moa⟩ := hcell.dom
        obtain ⟨oa', hoa', moa'⟩ := z3.dom
        classical
        let Hm : Hp := fun b => if b = a then H1 a else H' b
        have Hma : Hm a = H1 a := if_pos rfl
        have Hmn : ∀ {b}, b ≠ a → Hm b = H' b := fun h => if_neg h
        have gm : Gr H1 Hm := fun b o e => by
          by_cases q : b = a
          · subst q; rw [Hma]; exact e
          · rw [Hmn q]; exact P.keep b o e fun z => q ((ioa b).mp z)
        have km : ∀ {Av : Addr → Prop}, Av a → Kp Av H' Hm := fun {Av} ha b o e q => by
          by_cases z : b = a
          · subst z
            rw [hoa'] at e
            cases e
            exact (q.elim (fun w => absurd ha w) fun w => absurd moa' w)
          · rw [Hmn z]; exact e
        have om : Out c (F.av O) H1 fr t v Hm := by
          refine ⟨gm, ?_⟩
          have r := P.res
          cases fr with
          | false =>
            rw [if_neg Bool.false_ne_true] at r ⊢
            exact Rep.mono (km (.inr ((ioa a).mpr rfl))) (fun b _ _ z => av2 b z) _ _ r
          | true =>
            rw [if_pos rfl] at r ⊢
            obtain ⟨p', r1, r2, r3⟩ := r
            have hne : p' ≠ a := fun e => by rw [e, hoa] at r2; cases r2
            exact ⟨p', r1, r2, CellOk.mono (km (.inl (.inr ((ioa a).mpr rfl)))) (fun b _ _ z => z.imp (av2 b) id) (Hmn hne) r3⟩
        obtain ⟨O', hO', S'⟩ := S.pushO om
        have hi : i < e1.length := (List.getElem?_eq_some_iff.mp (getS_some u1)).1
        have S2 := S'.put (i := i) (t := t0) (t' := t') (m := m) (a := a) (H' := H') (by rw [List.append_assoc, List.getElem?_append_left hi]; exact getS_some u1) u2 (by rw [List.append_assoc, List.getElem?_append_left (by omega)]; exact w2)
          (fun b o ne e => by rw [Hmn ne] at e; exact e) (CellOk.mono (fun b o e _ => e) (fun b _ _ z => by
            rcases z with z | z
            · exact .inl (av2 b (.inl z))
            · rcases hO' b z with z | z
              · exact .inl (av2 b (.inr z))
              · exact .inr z) rfl z3)
        have S3 : SimO c F O' (e1.set i (some ⟨t', m⟩) ++ (stk ++ [(OV.v t fr).sl])) (σ ++ (ws ++ [some v])) H' := by
          have e1' : (e1 ++ stk ++ [some (⟨t, if fr = true then .own else .sh⟩ : Sl)]).set i (some ⟨t', m⟩) = e1.set i (some ⟨t', m⟩) ++ (stk ++ [(OV.v t fr).sl]) := by
            rw [List.append_assoc, List.set_append_left _ _ hi]; rfl
          rw [e1', List.append_assoc] at S2
          exact S2
        exact k v H' ⟨by simpa using hs, by simp [hw], O', S3⟩ trivial
end
end DD
/-! DStm: stores, targets, blocks. -/
namespace DD
open PySem L2
section
variable {c : Cn} {W : Nat} {D : Nat → Option Df} {Γ : Gm} {n : Nat} {X : Cx} {F : Fr} {env stk : En} {σ : St} {ws : List (Option V)} {H : Hp} {Φ Ψ : Nat → Fn}

/-- the top of the stack goes to slot i -/
theorem At.store {t : T} {m : Md} {v : V} (A : At c F env (stk ++ [some ⟨t, m⟩]) σ (ws ++ [some v]) H) {i : Nat} (hm : m ≠ .io) (hi : i < env.length) : At c F (env.set i (some ⟨t, m⟩)) stk (σ.set i (some v)) ws H := by
  have hl := A.hl
  have hw : stk.length = ws.length := by have := A.hw; simpa using this
  obtain ⟨O, S⟩ := A.sim
  refine ⟨by simpa using hl, hw, S.re (by simp [hl, hw]) (fun j => if j = i then env.length + stk.length else j) fun j sl hj => ?_⟩
  have top : (env ++ (stk ++ [some (⟨t, m⟩ : Sl)]))[env.length + stk.length]? = some (some ⟨t, m⟩) := by
    rw [← List.append_assoc, List.getElem?_append_right (by simp)]; simp
  have topv : (σ ++ (ws ++ [some v]))[env.length + stk.length]? = some (some v) := by
    rw [← List.append_assoc, List.getElem?_append_right (by simp; omega)]
    have : env.length + stk.length - (σ ++ ws).length = 0 := by simp; omega
    rw [this]; rfl
  have cases_ : ∀ (j : Nat) (sl : Sl), (env.set i (some ⟨t, m⟩) ++ stk)[j]? = some (some sl) → j < env.length + stk.length ∧ ((j = i ∧ sl = ⟨t, m⟩) ∨ (j ≠ i ∧ (env ++ stk)[j]? = some (some sl))) := by
    intro j sl hj
    have hlt : j < (env.set i (some (⟨t, m⟩ : Sl)) ++ stk).length := (List.getElem?_eq_some_iff.mp hj).1
    refine ⟨by simpa using hlt, ?_⟩
    by_cases a : j < env.length
    · rw [List.getElem?_append_left (by simpa using a)] at hj
      rcases set_at hj with ⟨e1, e2⟩ | ⟨e1, e2⟩
      · exact .inl ⟨e1, Option.some.inj e2⟩
      · exact .inr ⟨e1, by rw [List.getElem?_append_left a]; exact e2⟩
    · rw [List.getElem?_append_right (by simp; omega)] at hj
      simp only [List.length_set] at hj
      exact .inr ⟨by omega, by rw [List.getElem?_append_right (by omega)]; exact hj⟩
  obtain ⟨hlt, hc⟩ := cases_ j sl hj
  have other : ∀ j, j ≠ i → j < env.length + stk.length → (σ.set i (some v) ++ ws)[j]? = (σ ++ (ws ++ [some v]))[j]? := fun j ne lt => by
    by_cases a : j < σ.length
    · rw [List.getElem?_append_left (by simpa using a), List.getElem?_set_ne (Ne.symm ne), List.getElem?_append_left a]
    · rw [List.getElem?_append_right (by simp; omega), List.getElem?_append_right (by omega), List.length_set, List.getElem?_append_left (by omega)]
  rcases hc with ⟨rfl, rfl⟩ | ⟨ne, he⟩
  · rw [if_pos rfl]
    refine ⟨m, top, ?_, .inl rfl, fun e => absurd e hm, fun _ _ j' sl' hj' hf => ?_, fun a b => absurd b a⟩
    · rw [topv, List.getElem?_append_left (by simp; omega), List.getElem?_set_self (by omega)]
    · by_cases e : j' = j
      · exact e
      · rw [if_neg e] at hf
        have := (cases_ j' sl' hj').1
        omega
  · rw [if_neg ne]
    refine ⟨sl.m, ?_, other j ne hlt, .inl rfl, fun _ => rfl, fun _ _ j' sl' hj' hf => ?_, fun a b => absurd b a⟩
    · rw [← List.append_assoc, List.getElem?_append_left (by simpa using hlt)]; exact he
    · by_cases e : j' = i
      · rw [if_pos e] at hf; omega
      · rw [if_neg e] at hf; exact hf

/-! ### targets -/
def shE (t : T) : Option Sl := some ⟨t, .sh⟩
/-- alike but at some slots -/
def Agr (l : List Nat) (σ σ' : St) : Prop := σ'.length = σ.length ∧ ∀ j, j ∉ l → σ'[j]? = σ[j]?
def rdG (c : Cn) (p : P) : TG := fun v σ H Q => ∃ F env stk ws t env', At c F env (stk ++ [shE t]) σ (ws ++ [some v]) H ∧ asgP p t env = .ok env' ∧ ∀ σ' H', At c F env' stk σ' ws H' → Agr (slotsP p) σ σ' → Q σ' H'
def rdGs (c : Cn) (ps : List P) : TGs := fun vs σ H Q => ∃ F env stk ws ts env', At c F env (stk ++ (ts.map shE).reverse) σ (ws ++ (vs.map some).reverse) H ∧ stk.length = ws.length ∧ ps.length = ts.length ∧
  asgPs ps ts env = .ok env' ∧ ∀ σ' H', At c F env' stk σ' ws H' → Agr (slotsPs ps) σ σ' → Q σ' H'
theorem setS_ok {i : Nat} {t : T} {fr : Bool} {env' : En} (h : setS env i t fr = .ok env') : i < env.length ∧ env' = env.set i (some ⟨t, if fr then .own else .sh⟩) := by
  unfold setS at h
  split at h
  · cases h
  · rename_i e
    cases h
    exact ⟨(List.getElem?_eq_some_iff.mp e).1, rfl⟩
  · cases h
theorem PG.wk {e : Expr} {t t' : TG} (h : PG X e t) (k : ∀ v σ H Q, t' v σ H Q → t v σ H Q) : PG X e t' := ⟨fun pins s σ H v u Q I r q => h.run pins s σ H v u Q I r (k v σ H Q q)⟩
theorem PGs.wk {es : List Expr} {t t' : TGs} (h : PGs X es t) (k : ∀ v σ H Q, t' v σ H Q → t v σ H Q) : PGs X es t' := ⟨fun pins s σ H v u Q I r q => h.run pins s σ H v u Q I r (k v σ H Q q)⟩
theorem rd_gName {i : Nat} : ∀ v σ H Q, rdG c (.s i) v σ H Q → gName i v σ H Q := by
  intro v σ H Q ⟨F, env, stk, ws, t, env', A, h, k⟩
  rw [asgP] at h
  obtain ⟨hi, rfl⟩ := setS_ok h
  refine k _ _ (A.store (fun z => nomatch z) hi) ⟨by simp, fun j hj => ?_⟩
  rw [List.getElem?_set_ne]
  intro e
  exact hj (by rw [slotsP, e]; exact List.mem_singleton.mpr rfl)
theorem rd_gNil : ∀ v σ H Q, rdGs c [] v σ H Q → gNil v σ H Q := by
  intro vs σ H Q ⟨F, env, stk, ws, ts, env', A, h1, h2, h4, k⟩
  have e : ts = [] := List.eq_nil_of_length_eq_zero (by simpa using h2.symm)
  subst e
  simp only [asgPs] at h4
  cases h4
  have hl := A.hw
  simp only [List.length_append, List.length_reverse, List.length_map, List.length_nil] at hl
  have ev : vs = [] := List.eq_nil_of_length_eq_zero (by omega)
  subst ev
  refine ⟨rfl, k _ _ ?_ ⟨rfl, fun _ _ => rfl⟩⟩
  simpa using A
theorem rd_gCons {p : P} {ps : List P} : ∀ v σ H Q, rdGs c (p :: ps) v σ H Q → gCons (rdG c p) (rdGs c ps) v σ H Q := by
  intro vs σ H Q ⟨F, env, stk, ws, ts, env', A, h1, h2, h4, k⟩
  cases ts with
  | nil => cases h2
  | cons t ts =>
    have hl := A.hw
    simp only [List.length_append, List.length_reverse, List.length_map, List.length_cons] at hl
    cases vs with
    | nil => simp only [List.length_nil] at hl; omega
    | cons v vs =>
      simp only [asgPs] at h4
      obtain ⟨e1, h5, h6⟩ := R.bind_ok h4
      simp only [List.map_cons, List.reverse_cons] at A
      rw [← List.append_assoc, ← List.append_assoc] at A
      refine ⟨v, vs, rfl, F, env, _, _, t, e1, A, h5, fun σ1 H1 A1 g1 => ?_⟩
      refine ⟨F, e1, stk, ws, ts, env', A1, h1, by simpa using h2, h6, fun σ2 H2 A2 g2 => k σ2 H2 A2 ⟨g2.1.trans g1.1, fun j hj => ?_⟩⟩
      rw [slotsPs, List.mem_append] at hj
      exact (g2.2 j fun z => hj (.inr z)).trans (g1.2 j fun z => hj (.inl z))
/-- items put on the stack -/
theorem SimO.push_items {O : Addr → Option Nat} {H : Hp} : ∀ {ts : List T} {vs : List V} {es : En} {ws : List (Option V)}, SimO c F O es ws H → RepL c H (F.av O) ts vs → SimO c F O (es ++ (ts.map shE).reverse) (ws ++ (vs.map some).reverse) H
  | [], vs, es, ws, S, r => by
    have := r.inv_nil
    subst this
    simpa using S
  | t :: ts, vs, es, ws, S, r => by
    obtain ⟨v, r', rfl, h1, h2⟩ := r.inv
    have := (SimO.push_items S h2).push_sh h1
    simp only [List.map_cons, List.reverse_cons]
    rw [← List.append_assoc, ← List.append_assoc]
    exact this
/-- the top of the stack is a tuple -/
theorem rd_gTup {K : PySem.W.Frag} {ps : List P} {len : Nat} (hlen : len = ps.length) : ∀ v σ H Q, rdG c (.t ps) v σ H Q → gTup K len (rdGs c ps) v σ H Q := by
  intro v σ H Q ⟨F, env, stk, ws, t, env', A, h, k⟩
  subst hlen
  cases t <;> simp only [asgP] at h <;> try (cases h; done)
  rename_i ts
  split at h
  case isFalse => cases h
  rename_i hl
  have hl : ps.length = ts.length := by simpa using hl
  have hw : stk.length = ws.length := by have := A.hw; simpa using this
  have hs := A.hl
  obtain ⟨O, S, rt⟩ := At.ops (os := [.v (.tup ts) false]) (vs := [v]) (ts := [.tup ts]) A hw (.cons trivial .nil) rfl
  cases rt with
  | cons p _ =>
    obtain ⟨a, vs, rfl, ha, hr⟩ := p.tup
    refine ⟨a, vs, rfl, SqT.of ha, by rw [← hr.length, hl], F, env, stk, ws, ts, env', ⟨hs, ?_, O, ?_⟩, hw, hl, h, k⟩
    · simp [hw, hr.length]
    · rw [← List.append_assoc, ← List.append_assoc]
      exact S.push_items hr

theorem assign_cons {x : Expr} {xs : List Expr} {env : Env} (h : noStar x = true) : assignEach (x :: xs) env = (false, assign x env) :: assignEach xs env := by
  cases x <;> first | rfl | cases h
theorem assign_len {env : Env} : ∀ {xs : List Expr}, xs.all noStar = true → (assignEach xs env).length = xs.length
  | [], _ => rfl
  | x :: xs, h => by
    rw [List.all_cons, Bool.and_eq_true] at h
    rw [assign_cons h.1, List.length_cons, assign_len h.2, List.length_cons]
theorem assign_find {env : Env} : ∀ {xs : List Expr}, xs.all noStar = true → (assignEach xs env).findIdx? (·.1) = none
  | [], _ => rfl
  | x :: xs, h => by
    rw [List.all_cons, Bool.and_eq_true] at h
    rw [assign_cons h.1, List.findIdx?_cons, assign_find h.2]
    rfl
theorem chkPs_star : ∀ {ps : List P} {xs : List Expr}, chkPs Γ ps xs = true → xs.all noStar = true ∧ xs.length = ps.length
  | [], [], _ => ⟨rfl, rfl⟩
  | [], x :: xs, h => by rw [chkPs] at h; cases h
  | e :: es, [], h => by rw [chkPs] at h; cases h
  | e :: es, x :: xs, h => by
    rw [chkPs, Bool.and_eq_true, Bool.and_eq_true] at h
    obtain ⟨h1, h2⟩ := chkPs_star h.2
    rw [List.all_cons, h.1.1, h1]
    exact ⟨rfl, by simp [h2]⟩
mutual
theorem sndP (g : Good c W D Γ n X) : ∀ (p : P) (x : Expr), chkP Γ p x = true → PG X x (rdG c p)
  | .s i, x, h => by
    rw [chkP.eq_def] at h; dsimp only at h
    split at h
    · rw [Bool.and_eq_true] at h
      have q := g.fn _ h.2
      refine PG.wk (pg_name g.nd ?_ q.1 q.2) rd_gName
      rw [g.N]
      exact of_decide_eq_true h.1
    · cases h
  | .t ps, x, h => by
    rw [chkP.eq_def] at h; dsimp only at h
    split at h
    · obtain ⟨h1, h2⟩ := chkPs_star h
      exact PG.wk (pg_tup g.calm (sndPs g ps _ h) (assign_len h1) (assign_find h1)) (rd_gTup h2)
    · cases h
theorem sndPs (g : Good c W D Γ n X) : ∀ (ps : List P) (xs : List Expr), chkPs Γ ps xs = true → PGs X xs (rdGs c ps)
  | [], [], h => PGs.wk pgs_nil rd_gNil
  | [], x :: xs, h => by rw [chkPs] at h; cases h
  | e :: es, [], h => by rw [chkPs] at h; cases h
  | e :: es, x :: xs, h => by
    rw [chkPs, Bool.and_eq_true, Bool.and_eq_true] at h
    exact PGs.wk (pgs_cons (sndP g e x h.1.2) (sndPs g es xs h.2) (by rw [assign_cons h.1.1]; rfl)) rd_gCons
end
end
end DD
/-! DIt: what is walked. -/
namespace DD
open PySem L2
section
variable {c : Cn} {W : Nat} {D : Nat → Option Df} {Γ : Gm} {n : Nat} {X : Cx} {F : Fr} {env stk : En} {σ : St} {ws : List (Option V)} {H : Hp} {Φ Ψ : Nat → Fn}
/-- the iterator J hands out what xs says, as long as the sources stand -/
def Walks (c : Cn) (J : It) (ts : List T) (vs : List V) (xs : List T) : Prop := ∀ (Av : Addr → Prop) (H : Hp), RepL c H Av ts vs → ∀ i, (i = xs.length → J.stop i H) ∧ ∀ t, xs[i]? = some t → J.go i H ∧ ∀ x H3, J.yld i H x H3 → Gr H H3 ∧ Rep c H3 Av t x
def rdI (c : Cn) (Φ Ψ : Nat → Fn) (k : ItK) (es : List E) : TI := fun σ H R => ∃ F env stk ws, At c F env stk σ ws H ∧ ∃ os env' ts xs, evs Φ Ψ es env = .ok (os, env') ∧ plain os = some ts ∧ k.walk ts = some xs ∧
  ∀ J vs H', At c F env' (stk ++ ts.map shE) σ (ws ++ vs.map some) H' → vs.length = ts.length → Walks c J ts vs xs → R J H'
theorem SimO.push_fwd {O : Addr → Option Nat} : ∀ {ts : List T} {vs : List V} {es : En} {ws : List (Option V)}, SimO c F O es ws H → RepL c H (F.av O) ts vs → SimO c F O (es ++ ts.map shE) (ws ++ vs.map some) H
  | [], vs, es, ws, S, r => by
    have := r.inv_nil
    subst this
    simpa using S
  | t :: ts, vs, es, ws, S, r => by
    obtain ⟨v, r', rfl, h1, h2⟩ := r.inv
    have := SimO.push_fwd (S.push_sh h1) h2
    simp only [List.map_cons]
    rw [List.append_assoc, List.append_assoc] at this
    exact this
theorem At.srcs {os : List OV} {vs : List V} {ts : List T} (S : At c F env (stk ++ os.map OV.sl) σ (ws ++ vs.map some) H) (hl : stk.length = ws.length) (hp : plain os = some ts) (hv : vs.length = os.length) :
    At c F env (stk ++ ts.map shE) σ (ws ++ vs.map some) H ∧ ∃ Av, RepL c H Av ts vs := by
  obtain ⟨O, S1, r⟩ := S.freeze hl hp hv
  refine ⟨⟨S.hl, by simp [hl, r.length], O, ?_⟩, _, r⟩
  rw [← List.append_assoc, ← List.append_assoc]
  exact S1.push_fwd r
theorem evs_one {e : E} {env env' : En} {os : List OV} (h : evs Φ Ψ [e] env = .ok (os, env')) : ∃ o, os = [o] ∧ ev Φ Ψ e env = .ok (o, env') := by
  simp only [evs] at h
  obtain ⟨⟨o1, e1⟩, h1, h⟩ := R.bind_ok h
  cases h
  exact ⟨o1, rfl, h1⟩
theorem RepL.one {Av : Addr → Prop} {t : T} {vs : List V} (h : RepL c H Av [t] vs) : ∃ v, vs = [v] ∧ Rep c H Av t v := by
  obtain ⟨v, r, rfl, h1, h2⟩ := h.inv
  have := h2.inv_nil
  subst this
  exact ⟨v, rfl, h1⟩
theorem RepL.two' {Av : Addr → Prop} {t u : T} {vs : List V} (h : RepL c H Av [t, u] vs) : ∃ v w, vs = [v, w] ∧ Rep c H Av t v ∧ Rep c H Av u w := by
  obtain ⟨v, r, rfl, h1, h2⟩ := h.inv
  obtain ⟨w, rfl, h3⟩ := h2.one
  exact ⟨v, w, rfl, h1, h3⟩
theorem Rep.lst' {Av : Addr → Prop} {ts : List T} {v : V} (h : Rep c H Av (.lst ts) v) : ∃ a vs, v = .ref a ∧ H a = some (.lst vs) ∧ RepL c H Av ts vs := (RepT.lst (.inl h))
theorem Rep.tup' {Av : Addr → Prop} {ts : List T} {v : V} (h : Rep c H Av (.tup ts) v) : ∃ a vs, v = .ref a ∧ H a = some (.tup vs) ∧ RepL c H Av ts vs := (RepT.tup (.inl h))
theorem sqL_inj {K : PySem.W.Frag} {a : Addr} {xs ys : List V} (hx : H a = some (.lst xs)) (h : SqL K H a ys) : True := trivial

theorem walks_list {K : PySem.W.Frag} {a : Addr} {xs : List T} : Walks c (Itl K a) [.lst xs] [.ref a] xs := by
  intro Av H r i
  obtain ⟨v, e, h⟩ := r.one
  cases e
  obtain ⟨b, vs, e, hH, hr⟩ := h.lst'
  cases e
  refine ⟨fun e => ⟨vs, SqL.of hH, by rw [← hr.length]; omega⟩, fun t ht => ?_⟩
  obtain ⟨x, hx, hrx⟩ := hr.get ht
  refine ⟨⟨vs, x, SqL.of hH, hx⟩, fun y H3 ⟨e, q⟩ => ?_⟩
  subst e
  have := q vs (SqL.of hH)
  rw [hx] at this
  cases this
  exact ⟨Gr.refl, hrx⟩
theorem walks_tup {K : PySem.W.Frag} {a : Addr} {xs : List T} : Walks c (Itt K a) [.tup xs] [.ref a] xs := by
  intro Av H r i
  obtain ⟨v, e, h⟩ := r.one
  cases e
  obtain ⟨b, vs, e, hH, hr⟩ := h.tup'
  cases e
  refine ⟨fun e => ⟨vs, SqT.of hH, by rw [← hr.length]; omega⟩, fun t ht => ?_⟩
  obtain ⟨x, hx, hrx⟩ := hr.get ht
  refine ⟨⟨vs, x, SqT.of hH, hx⟩, fun y H3 ⟨e, q⟩ => ?_⟩
  subst e
  have := q vs (SqT.of hH)
  rw [hx] at this
  cases this
  exact ⟨Gr.refl, hrx⟩
theorem rangeT_len (lo : Int) : ∀ n, (rangeT lo n).length = n
  | 0 => rfl
  | n + 1 => by rw [rangeT, List.length_cons, rangeT_len (lo + 1) n]
theorem rangeT_get : ∀ (n : Nat) (lo : Int) (i : Nat) (t : T), (rangeT lo n)[i]? = some t → i < n ∧ t = .int (lo + i)
  | 0, lo, i, t, h => by simp [rangeT] at h
  | n + 1, lo, i, t, h => by
    rw [rangeT] at h
    cases i with
    | zero =>
      simp only [List.getElem?_cons_zero, Option.some.injEq] at h
      subst h
      exact ⟨by omega, by simp⟩
    | succ i =>
      simp only [List.getElem?_cons_succ] at h
      obtain ⟨h1, h2⟩ := rangeT_get n (lo + 1) i t h
      exact ⟨by omega, by rw [h2]; congr 1; omega⟩
theorem walks_range {ts : List T} {vs : List V} {lo : Int} {n : Nat} : Walks c (Itr lo n) ts vs (rangeT lo n) := by
  intro Av H r i
  refine ⟨fun e => by rw [rangeT_len] at e; show n ≤ i; omega, fun t ht => ?_⟩
  obtain ⟨h1, h2⟩ := rangeT_get _ _ _ _ ht
  refine ⟨h1, fun x H3 ⟨e, q⟩ => ?_⟩
  subst e q h2
  exact ⟨Gr.refl, by rw [Rep]⟩
theorem enumT_len : ∀ (us : List T) (n : Nat), (enumT n us).length = us.length
  | [], n => rfl
  | u :: us, n => by rw [enumT, List.length_cons, enumT_len us, List.length_cons]
theorem enumT_get : ∀ (us : List T) (n i : Nat) (t : T), (enumT n us)[i]? = some t → ∃ u, us[i]? = some u ∧ t = .tup [.int ((n + i : Nat) : Int), u]
  | [], n, i, t, h => by simp [enumT] at h
  | u :: us, n, i, t, h => by
    rw [enumT] at h
    cases i with
    | zero =>
      simp only [List.getElem?_cons_zero, Option.some.injEq] at h
      subst h
      exact ⟨u, rfl, rfl⟩
    | succ i =>
      simp only [List.getElem?_cons_succ] at h
      obtain ⟨w, h1, h2⟩ := enumT_get us (n + 1) i t h
      exact ⟨w, h1, by rw [h2]; congr 4; omega⟩
theorem rep_pair {Av : Addr → Prop} {p : Addr} {t u : T} {x y : V} (hp : H p = none) (h1 : Rep c H Av t x) (h2 : Rep c H Av u y) : Gr H (upd H p (.tup [x, y])) ∧ Rep c (upd H p (.tup [x, y])) Av (.tup [t, u]) (.ref p) := by
  have g : Gr H (upd H p (.tup [x, y])) := Gr.upd hp
  refine ⟨g, ?_⟩
  rw [Rep]
  exact ⟨p, [x, y], rfl, if_pos rfl, RepL.cons (Rep.mono (Kp.of_all g) (fun _ _ _ z => z) _ _ h1) (RepL.cons (Rep.mono (Kp.of_all g) (fun _ _ _ z => z) _ _ h2) RepL.nil)⟩
theorem walks_enum {K : PySem.W.Frag} {a : Addr} {us : List T} : Walks c (Ite K a) [.lst us] [.ref a] (enumT 0 us) := by
  intro Av H r i
  obtain ⟨v, e, h⟩ := r.one
  cases e
  obtain ⟨b, vs, e, hH, hr⟩ := h.lst'
  cases e
  refine ⟨fun e => ⟨vs, SqL.of hH, by rw [enumT_len] at e; rw [← hr.length]; omega⟩, fun t ht => ?_⟩
  obtain ⟨u, hu, rfl⟩ := enumT_get _ _ _ _ ht
  obtain ⟨x, hx, hrx⟩ := hr.get hu
  refine ⟨⟨vs, x, SqL.of hH, hx⟩, fun y H3 ⟨p, z, e1, e2, e3, q⟩ => ?_⟩
  have := q vs (SqL.of hH)
  rw [hx] at this
  cases this
  subst e1 e3
  rw [Nat.zero_add]
  exact rep_pair e2 (by rw [Rep]) hrx
theorem walks_enumT {K : PySem.W.Frag} {a : Addr} {us : List T} : Walks c (IteT K a) [.tup us] [.ref a] (enumT 0 us) := by
  intro Av H r i
  obtain ⟨v, e, h⟩ := r.one
  cases e
  obtain ⟨b, vs, e, hH, hr⟩ := h.tup'
  cases e
  refine ⟨fun e => ⟨vs, SqT.of hH, by rw [enumT_len] at e; rw [← hr.length]; omega⟩, fun t ht => ?_⟩
  obtain ⟨u, hu, rfl⟩ := enumT_get _ _ _ _ ht
  obtain ⟨x, hx, hrx⟩ := hr.get hu
  refine ⟨⟨vs, x, SqT.of hH, hx⟩, fun y H3 ⟨p, z, e1, e2, e3, q⟩ => ?_⟩
  have := q vs (SqT.of hH)
  rw [hx] at this
  cases this
  subst e1 e3
  rw [Nat.zero_add]
  exact rep_pair e2 (by rw [Rep]) hrx
theorem zipT_len : ∀ (us ws : List T), (zipT us ws).length = min us.length ws.length
  | [], _ => by simp [zipT]
  | _ :: _, [] => by simp [zipT]
  | u :: us, w :: ws => by rw [zipT, List.length_cons, zipT_len us ws, List.length_cons, List.length_cons]; omega
theorem zipT_get : ∀ (us ws : List T) (i : Nat) (t : T), (zipT us ws)[i]? = some t → ∃ u w, us[i]? = some u ∧ ws[i]? = some w ∧ t = .tup [u, w]
  | [], _, i, t, h => by simp [zipT] at h
  | _ :: _, [], i, t, h => by simp [zipT] at h
  | u :: us, w :: ws, i, t, h => by
    rw [zipT] at h
    cases i with
    | zero =>
      simp only [List.getElem?_cons_zero, Option.some.injEq] at h
      subst h
      exact ⟨u, w, rfl, rfl, rfl⟩
    | succ i =>
      simp only [List.getElem?_cons_succ] at h ⊢
      exact zipT_get us ws i t h
theorem walks_zip {K : PySem.W.Frag} {a b : Addr} {us ws : List T} : Walks c (Itz K a b) [.lst us, .lst ws] [.ref a, .ref b] (zipT us ws) := by
  intro Av H r i
  obtain ⟨v, w, e, h, h'⟩ := r.two'
  cases e
  obtain ⟨_, vs, e, hH, hr⟩ := h.lst'
  cases e
  obtain ⟨_, vs', e, hH', hr'⟩ := h'.lst'
  cases e
  refine ⟨fun e => ⟨vs, vs', SqL.of hH, SqL.of hH', by rw [zipT_len] at e; rw [← hr.length, ← hr'.length]; omega⟩, fun t ht => ?_⟩
  obtain ⟨u, w, hu, hw, rfl⟩ := zipT_get _ _ _ _ ht
  obtain ⟨x, hx, hrx⟩ := hr.get hu
  obtain ⟨y, hy, hry⟩ := hr'.get hw
  refine ⟨⟨vs, vs', x, y, SqL.of hH, SqL.of hH', hx, hy⟩, fun z H3 ⟨p, x2, y2, e1, e2, e3, q, q'⟩ => ?_⟩
  have := q vs (SqL.of hH)
  rw [hx] at this
  cases this
  have := q' vs' (SqL.of hH')
  rw [hy] at this
  cases this
  subst e1 e3
  exact rep_pair e2 hrx hry
theorem walks_zipT {K : PySem.W.Frag} {a b : Addr} {us ws : List T} : Walks c (RZ.ItzT K a b) [.tup us, .tup ws] [.ref a, .ref b] (zipT us ws) := by
  intro Av H r i
  obtain ⟨v, w, e, h, h'⟩ := r.two'
  cases e
  obtain ⟨_, vs, e, hH, hr⟩ := h.tup'
  cases e
  obtain ⟨_, vs', e, hH', hr'⟩ := h'.tup'
  cases e
  refine ⟨fun e => ⟨vs, vs', SqT.of hH, SqT.of hH', by rw [zipT_len] at e; rw [← hr.length, ← hr'.length]; omega⟩, fun t ht => ?_⟩
  obtain ⟨u, w, hu, hw, rfl⟩ := zipT_get _ _ _ _ ht
  obtain ⟨x, hx, hrx⟩ := hr.get hu
  obtain ⟨y, hy, hry⟩ := hr'.get hw
  refine ⟨⟨vs, vs', x, y, SqT.of hH, SqT.of hH', hx, hy⟩, fun z H3 ⟨p, x2, y2, e1, e2, e3, q, q'⟩ => ?_⟩
  have := q vs (SqT.of hH)
  rw [hx] at this
  cases this
  have := q' vs' (SqT.of hH')
  rw [hy] at this
  cases this
  subst e1 e3
  exact rep_pair e2 hrx hry
theorem plain_one {o : OV} {ts : List T} (h : plain [o] = some ts) : ∃ t fr, o = .v t fr ∧ ts = [t] := by
  cases o with
  | s i => rw [plain] at h; cases h
  | v t fr => rw [plain, plain] at h; cases h; exact ⟨t, fr, rfl, rfl⟩
/-- the rule -/
theorem sndI (g : Good c W D Γ n X) {k : ItK} {tg it : Expr} {xs : List Expr} {es : List E} (h : iterArgs Γ k tg it = some xs) (hs : xs.all noStar = true) (hA : PA X xs (rdA c Φ Ψ es)) (hE : ∀ e, es = [e] → xs = [it] → PE X it (rdE c Φ Ψ e)) (hl : xs.length = es.length) :
    PI X tg it (rdI c Φ Ψ k es) := by
  cases k <;> simp only [iterArgs] at h <;> try contradiction
  case val =>
    cases h
    obtain ⟨e, rfl⟩ : ∃ e, es = [e] := by
      cases es with
      | nil => cases hl
      | cons e es => cases es with
        | nil => exact ⟨e, rfl⟩
        | cons _ _ => simp at hl
    have pe := hE e rfl rfl
    refine PI.wk ((pi_list pe).or (pi_tup pe)) ?_
    intro σ H R ⟨F, env, stk, ws, A, os, env', ts, xs, h1, h2, h3, k⟩
    obtain ⟨o, rfl, h4⟩ := evs_one h1
    obtain ⟨t, fr, rfl, rfl⟩ := plain_one h2
    cases t <;> simp only [ItK.walk, reduceCtorEq, Option.some.injEq] at h3
    · subst h3
      refine .inr ⟨F, env, stk, ws, A, _, _, h4, fun v H1 A1 ok1 => ?_⟩
      obtain ⟨A2, Av, r⟩ := At.srcs (os := [_]) (vs := [v]) A1 A.hw h2 rfl
      obtain ⟨_, e, r1⟩ := r.one
      cases e
      obtain ⟨a, vs, rfl, hH, hr⟩ := r1.tup'
      exact ⟨a, rfl, ⟨vs, SqT.of hH⟩, k _ _ _ A2 rfl walks_tup⟩
    · subst h3
      refine .inl ⟨F, env, stk, ws, A, _, _, h4, fun v H1 A1 ok1 => ?_⟩
      obtain ⟨A2, Av, r⟩ := At.srcs (os := [_]) (vs := [v]) A1 A.hw h2 rfl
      obtain ⟨_, e, r1⟩ := r.one
      cases e
      obtain ⟨a, vs, rfl, hH, hr⟩ := r1.lst'
      exact ⟨a, rfl, ⟨vs, SqL.of hH⟩, k _ _ _ A2 rfl walks_list⟩
  case range1 =>
    split at h
    · split at h
      · rename_i _ f p0 a pos hc
        cases h
        simp only [Bool.and_eq_true, beq_iff_eq] at hc
        obtain ⟨rfl, hf⟩ := hc
        have q := g.free hf
        rw [List.all_cons, Bool.and_eq_true] at hs
        refine PI.wk (pi_range1 q.1 q.2.1 hA (star_cons hs.1)) ?_
        intro σ H R ⟨F, env, stk, ws, A, os, env', ts, xs, h1, h2, h3, k⟩
        refine ⟨F, env, stk, ws, A, os, env', h1, fun vs H1 A1 ok1 => ?_⟩
        obtain ⟨A2, Av, r⟩ := At.srcs A1 A.hw h2 ok1.length.symm
        simp only [ItK.walk] at h3
        split at h3 <;> try contradiction
        rename_i j hk
        split at h3
        · rename_i hz
          cases h3
          cases hk
          obtain ⟨v, rfl, r1⟩ := r.one
          rw [Rep] at r1
          subst r1
          unfold in62 at hz
          rw [Bool.and_eq_true, decide_eq_true_eq, decide_eq_true_eq] at hz
          exact ⟨_, rfl, hz.1, hz.2, k _ _ _ A2 rfl walks_range⟩
        · cases h3
      · cases h
    · cases h
  case range2 =>
    split at h
    · split at h
      · rename_i _ f p0 a b pos hc
        cases h
        simp only [Bool.and_eq_true, beq_iff_eq] at hc
        obtain ⟨rfl, hf⟩ := hc
        have q := g.free hf
        rw [List.all_cons, Bool.and_eq_true, List.all_cons, Bool.and_eq_true] at hs
        refine PI.wk (pi_range2 q.1 q.2.1 hA (by rw [star_cons hs.1, star_cons hs.2.1]; rfl) (by rw [star_cons hs.2.1]; rfl)) ?_
        intro σ H R ⟨F, env, stk, ws, A, os, env', ts, xs, h1, h2, h3, k⟩
        refine ⟨F, env, stk, ws, A, os, env', h1, fun vs H1 A1 ok1 => ?_⟩
        obtain ⟨A2, Av, r⟩ := At.srcs A1 A.hw h2 ok1.length.symm
        simp only [ItK.walk] at h3
        split at h3 <;> try contradiction
        rename_i i j hk
        split at h3
        · rename_i hz
          cases h3
          cases hk
          obtain ⟨v, w, rfl, r1, r2⟩ := r.two'
          rw [Rep] at r1 r2
          subst r1 r2
          unfold in62 at hz
          simp only [Bool.and_eq_true, decide_eq_true_eq] at hz
          exact ⟨_, _, rfl, ⟨hz.1.1, hz.1.2, hz.2.1, hz.2.2⟩, k _ _ _ A2 rfl walks_range⟩
        · cases h3
      · cases h
    · cases h
  case enum =>
    split at h
    · split at h
      · rename_i _ f p0 a pos hc
        cases h
        simp only [Bool.and_eq_true, beq_iff_eq] at hc
        obtain ⟨⟨rfl, hf⟩, ht⟩ := hc
        cases tg <;> simp only [isTupE] at ht <;> try contradiction
        have q := g.free hf
        rw [List.all_cons, Bool.and_eq_true] at hs
        refine PI.wk (pi_enumA q.1 q.2.1 hA (star_cons hs.1)) ?_
        intro σ H R ⟨F, env, stk, ws, A, os, env', ts, xs, h1, h2, h3, k⟩
        refine ⟨F, env, stk, ws, A, os, env', h1, fun vs H1 A1 ok1 => ?_⟩
        obtain ⟨A2, Av, r⟩ := At.srcs A1 A.hw h2 ok1.length.symm
        simp only [ItK.walk] at h3
        split at h3 <;> try contradiction
        · cases h3
          obtain ⟨v, rfl, r1⟩ := r.one
          obtain ⟨a, vs, rfl, hH, hr⟩ := r1.lst'
          exact ⟨a, vs, rfl, .inl ⟨SqL.of hH, k _ _ _ A2 rfl walks_enum⟩⟩
        · cases h3
          obtain ⟨v, rfl, r1⟩ := r.one
          obtain ⟨a, vs, rfl, hH, hr⟩ := r1.tup'
          exact ⟨a, vs, rfl, .inr ⟨SqT.of hH, k _ _ _ A2 rfl walks_enumT⟩⟩
      · cases h
    · cases h
  case zip =>
    split at h
    · split at h
      · rename_i _ f p0 a b pos hc
        cases h
        simp only [Bool.and_eq_true, beq_iff_eq] at hc
        obtain ⟨⟨rfl, hf⟩, ht⟩ := hc
        cases tg <;> simp only [isTupE] at ht <;> try contradiction
        have q := g.free hf
        rw [List.all_cons, Bool.and_eq_true] at hs
        refine PI.wk (RZ.pi_zipA q.1 q.2.1 hA (star_cons hs.1) (star_any hs.2)) ?_
        intro σ H R ⟨F, env, stk, ws, A, os, env', ts, xs, h1, h2, h3, k⟩
        refine ⟨F, env, stk, ws, A, os, env', h1, fun vs H1 A1 ok1 => ?_⟩
        obtain ⟨A2, Av, r⟩ := At.srcs A1 A.hw h2 ok1.length.symm
        simp only [ItK.walk] at h3
        split at h3 <;> try contradiction
        · cases h3
          obtain ⟨v, w, rfl, r1, r2⟩ := r.two'
          obtain ⟨a, vs, rfl, hH, hr⟩ := r1.lst'
          obtain ⟨b, vs', rfl, hH', hr'⟩ := r2.lst'
          exact ⟨a, b, vs, vs', rfl, .inl ⟨SqL.of hH, SqL.of hH', k _ _ _ A2 rfl walks_zip⟩⟩
        · cases h3
          obtain ⟨v, w, rfl, r1, r2⟩ := r.two'
          obtain ⟨a, vs, rfl, hH, hr⟩ := r1.tup'
          obtain ⟨b, vs', rfl, hH', hr'⟩ := r2.tup'
          exact ⟨a, b, vs, vs', rfl, .inr ⟨SqT.of hH, SqT.of hH', k _ _ _ A2 rfl walks_zipT⟩⟩
      · cases h
    · cases h
end
end DD
/-! DBlk: comprehensions. -/
namespace DD
open PySem L2
section
variable {c : Cn} {W : Nat} {D : Nat → Option Df} {Γ : Gm} {n : Nat} {X : Cx} {F : Fr} {env stk : En} {σ : St} {ws : List (Option V)} {H : Hp} {Φ Ψ : Nat → Fn}

theorem At.forget (A : At c F env stk σ ws H) {i : Nat} (h : env[i]? = some none) (w : Option V) : At c F env stk (σ.set i w) ws H := by
  obtain ⟨O, S⟩ := A.sim
  have hl := A.hl
  have hw := A.hw
  refine ⟨by simpa using hl, hw, O, by simp [hl, hw], S.oa, S.ad, S.od, S.iod, S.keep, fun j sl hj => ?_⟩
  obtain ⟨v, h1, h2⟩ := S.ent j sl hj
  refine ⟨v, ?_, h2⟩
  have hi : i < env.length := (List.getElem?_eq_some_iff.mp h).1
  have ne : i ≠ j := fun e => by
    subst e
    rw [List.getElem?_append_left hi, h] at hj; cases hj
  by_cases a : j < σ.length
  · rw [List.getElem?_append_left (by simpa using a), List.getElem?_set_ne ne]
    rw [List.getElem?_append_left a] at h1
    exact h1
  · rw [List.getElem?_append_right (by simp; omega), List.length_set]
    rw [List.getElem?_append_right (by omega)] at h1
    exact h1
theorem At.dropSlot (A : At c F env stk σ ws H) (i : Nat) : At c F (env.set i none) stk σ ws H := by
  obtain ⟨O, S⟩ := A.sim
  have hl := A.hl
  have hw := A.hw
  refine ⟨by simpa using hl, hw, S.re (by simp [hl, hw]) (fun j => j) fun j sl hj => ?_⟩
  refine ⟨sl.m, ?_, rfl, .inl rfl, fun _ => rfl, fun _ _ _ _ _ e => e, fun n e => absurd e n⟩
  by_cases a : j < env.length
  · rw [List.getElem?_append_left (by simpa using a)] at hj
    rcases set_at hj with ⟨e1, e2⟩ | ⟨e1, e2⟩
    · cases e2
    · rw [List.getElem?_append_left a]; exact e2
  · rw [List.getElem?_append_right (by simp; omega), List.length_set] at hj
    rw [List.getElem?_append_right (by omega)]
    exact hj
theorem At.push_none (A : At c F env stk σ ws H) (w : Option V) : At c F env (stk ++ [none]) σ (ws ++ [w]) H := by
  obtain ⟨O, S⟩ := A.sim
  refine ⟨A.hl, by simp [A.hw], O, ?_⟩
  have := S.push_none w
  rw [List.append_assoc, List.append_assoc] at this
  exact this
theorem set_none_at {i : Nat} (hi : i < env.length) : (env.set i none)[i]? = some none := by rw [List.getElem?_set_self hi]
theorem At.takeS (A : At c F env stk σ ws H) {i : Nat} (hi : i < env.length) : At c F (env.set i none) (stk ++ [sav env i]) (σ.set i none) (ws ++ [(σ[i]?).join]) H := by
  have gen : At c F (env.set i none) (stk ++ [none]) (σ.set i none) (ws ++ [(σ[i]?).join]) H := At.forget ((A.dropSlot i).push_none _) (set_none_at hi) none
  unfold sav
  split
  · exact gen
  · rename_i h
    cases e : getS env i with
    | none => exact gen
    | some sl =>
      obtain ⟨t, m⟩ := sl
      obtain ⟨v, hv⟩ := A.entV e
      have hm : m ≠ .io := fun z => by subst z; exact h t e
      have := A.read e hv hm (.inr ⟨rfl, rfl⟩)
      have ej : (σ[i]?).join = some v := by rw [hv]; rfl
      rw [ej]
      exact At.forget this (set_none_at hi) none
theorem At.putS {sl : Option Sl} {w : Option V} (A : At c F env (stk ++ [sl]) σ (ws ++ [w]) H) {i : Nat} (hi : i < env.length) (hm : ∀ s, sl = some s → s.m ≠ .io) : At c F (env.set i sl) stk (σ.set i w) ws H := by
  have hw : stk.length = ws.length := by have := A.hw; simpa using this
  cases sl with
  | none => exact At.forget ((A.drop hw).dropSlot i) (set_none_at hi) w
  | some s =>
    obtain ⟨O, S⟩ := A.sim
    have hl := A.hl
    obtain ⟨v, h1, _⟩ := S.ent (env.length + stk.length) s (by rw [← List.append_assoc, List.getElem?_append_right (by simp)]; simp)
    rw [← List.append_assoc, List.getElem?_append_right (by simp; omega)] at h1
    have e0 : env.length + stk.length - (σ ++ ws).length = 0 := by simp; omega
    rw [e0] at h1
    simp only [List.getElem?_cons_zero, Option.some.injEq] at h1
    subst h1
    exact A.store (hm s rfl) hi
theorem sav_m {i : Nat} {s : Sl} (h : sav env i = some s) : s.m ≠ .io := by
  unfold sav at h
  split at h
  · cases h
  · rename_i hh
    intro e
    obtain ⟨t, m⟩ := s
    cases e
    exact hh t h

/-! ### the own names of a block -/
def savL (env : En) : List Nat → En
  | [] => []
  | i :: is => savL env is ++ [sav env i]
def savV (σ : St) : List Nat → List (Option V)
  | [] => []
  | i :: is => savV σ is ++ [(σ[i]?).join]
def unS (σ : St) : St → List Nat → St
  | τ, [] => τ
  | τ, i :: is => unS σ (τ.set i ((σ[i]?).join)) is
theorem wipeE_len : ∀ own : List Nat, (wipeE env own).length = env.length
  | [] => rfl
  | i :: is => by rw [wipeE, List.length_set, wipeE_len is]
theorem wipeE_out {j : Nat} : ∀ {own : List Nat}, j ∉ own → (wipeE env own)[j]? = env[j]?
  | [], _ => rfl
  | i :: is, h => by
    rw [List.mem_cons] at h
    rw [wipeE, List.getElem?_set_ne (fun e => h (.inl e.symm)), wipeE_out (fun z => h (.inr z))]
theorem wipe_out {j : Nat} : ∀ {own : List Nat}, j ∉ own → (wipe σ own)[j]? = σ[j]?
  | [], _ => rfl
  | i :: is, h => by
    rw [List.mem_cons] at h
    rw [wipe, List.getElem?_set_ne (fun e => h (.inl e.symm)), wipe_out (fun z => h (.inr z))]
theorem wipe_in {j : Nat} (hj : j < σ.length) : ∀ {own : List Nat}, j ∈ own → (wipe σ own)[j]? = some none
  | i :: is, h => by
    rw [wipe]
    by_cases e : i = j
    · subst e; rw [List.getElem?_set_self (by rw [wipe_length]; exact hj)]
    · rw [List.getElem?_set_ne e]
      exact wipe_in hj ((List.mem_cons.mp h).resolve_left fun z => e z.symm)
theorem wipe_agr {l own : List Nat} {τ τ2 : St} (h : Agr l (wipe τ own) τ2) (hs : ∀ i ∈ l, i ∈ own) : wipe τ2 own = wipe τ own := by
  refine List.ext_getElem? fun j => ?_
  have hl : τ2.length = τ.length := h.1.trans (wipe_length _ _)
  by_cases hj : j ∈ own
  · by_cases lt : j < τ.length
    · rw [wipe_in lt hj, wipe_in (by omega) hj]
    · rw [List.getElem?_eq_none (by rw [wipe_length]; omega), List.getElem?_eq_none (by rw [wipe_length]; omega)]
  · rw [wipe_out hj, h.2 j (fun z => hj (hs j z))]
theorem At.wipeS : ∀ {own : List Nat}, own.Nodup → (∀ i ∈ own, i < env.length) → At c F env stk σ ws H → At c F (wipeE env own) (stk ++ savL env own) (wipe σ own) (ws ++ savV σ own) H
  | [], _, _, A => by simpa [savL, savV, wipeE, wipe] using A
  | i :: is, nd, hi, A => by
    have nd := List.nodup_cons.mp nd
    have B := At.wipeS nd.2 (fun j hj => hi j (List.mem_cons_of_mem _ hj)) A
    have C := B.takeS (i := i) (by rw [wipeE_len]; exact hi i List.mem_cons_self)
    have e1 : sav (wipeE env is) i = sav env i := by unfold sav getS; rw [wipeE_out nd.1]
    have e2 : (wipe σ is)[i]? = σ[i]? := wipe_out nd.1
    rw [e1, e2, List.append_assoc, List.append_assoc] at C
    exact C
theorem At.unwipe {old : En} {σ0 : St} : ∀ {own : List Nat} {env : En} {σ : St}, (∀ i ∈ own, i < env.length) → At c F env (stk ++ savL old own) σ (ws ++ savV σ0 own) H → At c F (unE old env own) stk (unS σ0 σ own) ws H
  | [], env, σ, _, A => by simpa [savL, savV, unE, unS] using A
  | i :: is, env, σ, hi, A => by
    rw [savL, savV, ← List.append_assoc, ← List.append_assoc] at A
    have B := A.putS (i := i) (hi i List.mem_cons_self) fun s e => sav_m e
    exact At.unwipe (own := is) (fun j hj => by rw [List.length_set]; exact hi j (List.mem_cons_of_mem _ hj)) B
theorem unS_eq : ∀ {own : List Nat} {τ : St}, τ.length = σ.length → (∀ j, j ∉ own → τ[j]? = σ[j]?) → unS σ τ own = σ
  | [], τ, hl, h => List.ext_getElem? fun j => h j (by simp)
  | i :: is, τ, hl, h => by
    rw [unS]
    refine unS_eq (by rw [List.length_set]; exact hl) fun j hj => ?_
    by_cases e : i = j
    · subst e
      by_cases lt : i < σ.length
      · rw [List.getElem?_set_self (by omega)]
        rw [List.getElem?_eq_getElem lt]; rfl
      · rw [List.getElem?_eq_none (by rw [List.length_set]; omega), List.getElem?_eq_none (by omega)]
    · rw [List.getElem?_set_ne e]
      exact h j fun z => (List.mem_cons.mp z).elim (fun w => e w.symm) hj
theorem unS_wipe {own : List Nat} : unS σ (wipe σ own) own = σ := unS_eq (wipe_length _ _) fun j hj => wipe_out hj
theorem At.wipeD : ∀ {own : List Nat}, (∀ i ∈ own, i < env.length) → At c F env stk σ ws H → At c F (wipeE env own) stk (wipe σ own) ws H
  | [], _, A => A
  | i :: is, hi, A => by
    have B := At.wipeD (own := is) (fun j hj => hi j (List.mem_cons_of_mem _ hj)) A
    exact At.forget (B.dropSlot i) (set_none_at (by rw [wipeE_len]; exact hi i List.mem_cons_self)) none
theorem wipe_idem {own : List Nat} : wipe (wipe σ own) own = wipe σ own := wipe_agr ⟨rfl, fun _ _ => rfl⟩ fun i h => h

/-! ### the list that is made -/
def dl (acc : List T) : Option Sl := some ⟨.lst acc, .own⟩
theorem At.app_own {A B : En} {A' B' : List (Option V)} {acc : List T} {d : Option V} {t : T} {fr : Bool} {y : V} (S : At c F env (A ++ [dl acc] ++ B ++ [(OV.v t fr).sl]) σ (A' ++ [d] ++ B' ++ [some y]) H) (hA : A.length = A'.length) (hB : B.length = B'.length) :
    ∃ p accV, d = some (.ref p) ∧ H p = some (.lst accV) ∧ accV.length = acc.length ∧ At c F env (A ++ [dl (acc ++ [t])] ++ B) σ (A' ++ [d] ++ B') (upd H p (.lst (accV ++ [y]))) := by
  obtain ⟨O, S1, r⟩ := At.freeze (os := [.v t fr]) (vs := [y]) (ts := [t]) S (by simp [hA, hB]) rfl rfl
  have hl := S.hl
  have e1 : (env ++ (A ++ [dl acc] ++ B))[env.length + A.length]? = some (some ⟨.lst acc, .own⟩) := by
    rw [List.getElem?_append_right (Nat.le_add_right _ _), Nat.add_sub_cancel_left, List.append_assoc, List.getElem?_append_right (Nat.le_refl _), Nat.sub_self]; rfl
  have e2 : (σ ++ (A' ++ [d] ++ B'))[env.length + A.length]? = some d := by
    rw [hl, hA, List.getElem?_append_right (Nat.le_add_right _ _), Nat.add_sub_cancel_left, List.append_assoc, List.getElem?_append_right (Nat.le_refl _), Nat.sub_self]; rfl
  obtain ⟨v, h1, p, rfl, hO, _, accV, hH, hr⟩ := S1.ent _ _ e1
  rw [e2] at h1
  cases h1
  obtain ⟨y', hy, r1⟩ := r.one
  cases hy
  refine ⟨p, accV, rfl, hH, hr.length.symm, hl, by simp [hA, hB], O, ?_⟩
  have kp : Kp (F.av O) H (upd H p (.lst (accV ++ [y]))) := fun a o e q => by
    by_cases z : a = p
    · subst z
      rcases q with q | q
      · exact absurd (.inr (by rw [hO]; rfl)) q
      · rw [hH] at e; cases e; exact absurd trivial q
    · rw [upd_ne z]; exact e
  have := S1.put (t' := .lst (acc ++ [t])) e1 (fun z => nomatch z) e2 (H' := upd H p (.lst (accV ++ [y]))) (fun b o n e => by rw [upd_ne n]; exact e)
    ⟨_, upd_same, RepL.append (RepL.mono kp (fun _ _ _ z => z) _ _ hr) (RepL.cons (Rep.mono kp (fun _ _ _ z => z) _ _ r1) RepL.nil)⟩
  have e3 : (env ++ (A ++ [dl acc] ++ B)).set (env.length + A.length) (some ⟨.lst (acc ++ [t]), .own⟩) = env ++ (A ++ [dl (acc ++ [t])] ++ B) := by
    rw [List.set_append_right _ _ (Nat.le_add_right _ _), Nat.add_sub_cancel_left, List.append_assoc, List.set_append_right _ _ (Nat.le_refl _), Nat.sub_self, List.append_assoc]
    rfl
  rw [e3] at this
  exact this
theorem At.srcsGet {A B : En} {A' B' : List (Option V)} {ts : List T} {vs : List V} (S : At c F env (A ++ ts.map shE ++ B) σ (A' ++ vs.map some ++ B') H) (hA : A.length = A'.length) (hv : vs.length = ts.length) :
    ∃ O, SimO c F O (env ++ (A ++ ts.map shE ++ B)) (σ ++ (A' ++ vs.map some ++ B')) H ∧ RepL c H (F.av O) ts vs := by
  obtain ⟨O, S1⟩ := S.sim
  have hl := S.hl
  refine ⟨O, S1, ?_⟩
  have get : ∀ k t, ts[k]? = some t → ∃ v, vs[k]? = some v ∧ Rep c H (F.av O) t v := fun k t e => by
    have hk : k < ts.length := (List.getElem?_eq_some_iff.mp e).1
    obtain ⟨v, h1, h2⟩ := S1.ent (env.length + (A.length + k)) ⟨t, .sh⟩ (by
      rw [List.getElem?_append_right (Nat.le_add_right _ _), Nat.add_sub_cancel_left, List.append_assoc, List.getElem?_append_right (Nat.le_add_right _ _), Nat.add_sub_cancel_left, List.getElem?_append_left (by simpa using hk), List.getElem?_map, e]; rfl)
    rw [hl, hA, List.getElem?_append_right (Nat.le_add_right _ _), Nat.add_sub_cancel_left, List.append_assoc, List.getElem?_append_right (Nat.le_add_right _ _), Nat.add_sub_cancel_left, List.getElem?_append_left (by simp; omega), List.getElem?_map] at h1
    cases q : vs[k]? with
    | none => rw [q] at h1; cases h1
    | some v' => rw [q] at h1; cases h1; exact ⟨v, q, h2⟩
  clear S1 S hl hA
  induction ts generalizing vs with
  | nil =>
    have : vs = [] := List.eq_nil_of_length_eq_zero hv
    subst this
    exact RepL.nil
  | cons t ts ih =>
    cases vs with
    | nil => cases hv
    | cons v vs =>
      obtain ⟨v', q1, q2⟩ := get 0 t rfl
      cases q1
      exact RepL.cons q2 (ih (by simpa using hv) (fun k t' e => get (k + 1) t' e))
/-- a value from the heap of an iterator -/
theorem At.item {O : Addr → Option Nat} {H3 : Hp} {t : T} {x : V} (S : SimO c F O (env ++ stk) (σ ++ ws) H) (hl : env.length = σ.length) (hw : stk.length = ws.length) (g : Gr H H3) (r : Rep c H3 (F.av O) t x) : At c F env (stk ++ [shE t]) σ (ws ++ [some x]) H3 := by
  refine ⟨hl, by simp [hw], O, ?_⟩
  have := (S.grow g).push_sh r
  rw [List.append_assoc, List.append_assoc] at this
  exact this
end
end DD
/-! DBlk2: the loops of comprehensions. -/
namespace DD
open PySem L2
section
variable {c : Cn} {W : Nat} {D : Nat → Option Df} {Γ : Gm} {n : Nat} {X : Cx} {F : Fr} {env stk : En} {σ : St} {ws : List (Option V)} {H : Hp} {Φ Ψ : Nat → Fn}
def tOf (c : Cn) (Φ Ψ : Nat → Fn) : Option E → TT
  | none => tYes
  | some e => rdT c Φ Ψ e
theorem tOf_ok {cond : Option E} {A : En} {A' : List (Option V)} {b : Bool} {env' : En} (S : At c F env A σ A' H) (h : evc Φ Ψ cond env = .ok (b, env')) {Q : Bool → Hp → Prop} (k : ∀ H', At c F env' A σ A' H' → Q b H') : tOf c Φ Ψ cond σ H Q := by
  cases cond with
  | none => rw [evc] at h; cases h; exact k _ S
  | some e =>
    rw [evc] at h
    obtain ⟨⟨o, e1⟩, h1, h2⟩ := R.bind_ok h
    obtain ⟨d, h3, h4⟩ := R.bind_ok h2
    cases h4
    exact rdT_of S h1 h3 k
theorem drop_cons {α : Type} {xs : List α} {i : Nat} (h : i < xs.length) : xs.drop i = xs[i] :: xs.drop (i + 1) := List.drop_eq_getElem_cons h
theorem loop_core {J : It} {ts : List T} {vs : List V} {xs : List T} {own : List Nat} {g : P} {cond : Option E} {elt : E} {A B : En} {A' B' : List (Option V)} {τ : St} {p : Addr} (hA : A.length = A'.length) (hB : B.length = B'.length) (hw : Walks c J ts vs xs)
    (hsrc : ∀ env acc σ H, At c F env (A ++ [dl acc] ++ B) σ (A' ++ [some (.ref p)] ++ B') H → ∃ O, SimO c F O (env ++ (A ++ [dl acc] ++ B)) (σ ++ (A' ++ [some (.ref p)] ++ B')) H ∧ RepL c H (F.av O) ts vs)
    (hs : ∀ i ∈ slotsP g, i ∈ own) (ho : ∀ i ∈ own, i < τ.length) {ys : List T} {envZ : En} {End : Hp → Prop} (hEnd : ∀ H, At c F (wipeE envZ own) (A ++ [dl ys] ++ B) (wipe τ own) (A' ++ [some (.ref p)] ++ B') H → End H)
    {acc0 : List T} {env0 : En} {H0 : Hp} (h0 : loopC (fun e => ev Φ Ψ elt e) (fun e => evc Φ Ψ cond e) g own xs acc0 env0 = .ok (ys, envZ)) (A0 : At c F (wipeE env0 own) (A ++ [dl acc0] ++ B) (wipe τ own) (A' ++ [some (.ref p)] ++ B') H0) :
    ∃ W : Nat → Nat → Hp → Prop, (∃ m, W 0 m H0) ∧ ∀ i m H, W i m H →
      (J.stop i H ∧ End H) ∨ (J.go i H ∧ ∃ Nx : Hp → Prop, (∀ H', Nx H' → ∃ m', m' < m ∧ W (i + 1) m' H') ∧ ∀ x H', J.yld i H x H' → rdG c g x (wipe τ own) H' fun σ2 H2 => wipe σ2 own = wipe τ own ∧ tOf c Φ Ψ cond σ2 H2 fun b H3 =>
        if b = true then rdE c Φ Ψ elt σ2 H3 fun y H4 => ∃ acc, H4 p = some (.lst acc) ∧ acc.length < sizeLine ∧ Nx (upd H4 p (.lst (acc ++ [y]))) else Nx H3) := by
  let V : Nat → Hp → Prop := fun i H => ∃ acc e, loopC (fun e => ev Φ Ψ elt e) (fun e => evc Φ Ψ cond e) g own (xs.drop i) acc e = .ok (ys, envZ) ∧ At c F (wipeE e own) (A ++ [dl acc] ++ B) (wipe τ own) (A' ++ [some (.ref p)] ++ B') H
  refine ⟨fun i m H => m = xs.length - i ∧ i ≤ xs.length ∧ V i H, ⟨xs.length, by simp, Nat.zero_le _, acc0, env0, h0, A0⟩, ?_⟩
  rintro i m H ⟨rfl, hi, acc, e, hloop, A1⟩
  obtain ⟨O, S, rl⟩ := hsrc _ _ _ _ A1
  have walk := hw _ _ rl i
  by_cases hlt : i < xs.length
  · refine .inr ?_
    have hx := List.getElem?_eq_getElem hlt
    obtain ⟨go, yld⟩ := walk.2 _ hx
    rw [drop_cons hlt] at hloop
    simp only [loopC] at hloop
    obtain ⟨e1, q1, hloop⟩ := R.bind_ok hloop
    obtain ⟨⟨b, e2⟩, q2, hloop⟩ := R.bind_ok hloop
    refine ⟨go, V (i + 1), fun H' hv => ⟨xs.length - (i + 1), by omega, rfl, hlt, hv⟩, fun x H' hy => ?_⟩
    obtain ⟨gr, rx⟩ := yld x H' hy
    have A2 := At.item S A1.hl A1.hw gr rx
    refine ⟨F, _, _, _, _, e1, A2, q1, fun σ2 H2 A3 agr => ?_⟩
    have ew : wipe σ2 own = wipe τ own := wipe_agr agr hs
    have hl2 : σ2.length = τ.length := agr.1.trans (wipe_length _ _)
    refine ⟨ew, tOf_ok A3 q2 fun H3 A4 => ?_⟩
    have nxt : ∀ {acc' : List T} {e' : En} {H' : Hp}, loopC (fun e => ev Φ Ψ elt e) (fun e => evc Φ Ψ cond e) g own (xs.drop (i + 1)) acc' e' = .ok (ys, envZ) → At c F e' (A ++ [dl acc'] ++ B) σ2 (A' ++ [some (.ref p)] ++ B') H' → V (i + 1) H' := fun {acc' e' H'} hl A5 => by
      refine ⟨acc', e', hl, ?_⟩
      have := A5.wipeD (own := own) fun i hi => by rw [A5.hl, hl2]; exact ho i hi
      rw [ew] at this
      exact this
    cases b with
    | false =>
      rw [if_neg Bool.false_ne_true] at hloop ⊢
      exact nxt hloop A4
    | true =>
      rw [if_pos rfl] at hloop ⊢
      obtain ⟨⟨o, e3⟩, q3, hloop⟩ := R.bind_ok hloop
      cases o with
      | s j => cases hloop
      | v t fr =>
        simp only at hloop
        split at hloop
        · rename_i hz
          refine ⟨F, e2, _, _, A4, _, _, q3, fun y H4 A5 _ => ?_⟩
          obtain ⟨p', accV, e4, hH, hlen, A6⟩ := At.app_own A5 hA hB
          cases e4
          exact ⟨accV, hH, by rw [hlen]; rw [line_eq] at hz; exact hz, nxt hloop A6⟩
        · cases hloop
  · refine .inl ?_
    have ei : i = xs.length := by omega
    subst ei
    rw [List.drop_length] at hloop
    simp only [loopC] at hloop
    cases hloop
    exact ⟨walk.1 rfl, hEnd _ A1⟩
/-- a new empty list on the stack -/
theorem At.newList (A : At c F env stk σ ws H) {p : Addr} (hp : H p = none) : At c F env (stk ++ [dl []]) σ (ws ++ [some (.ref p)]) (upd H p (.lst [])) := by
  obtain ⟨O, S⟩ := A.sim
  exact At.out (t := .lst []) (fr := true) S A.hl A.hw ⟨Gr.upd hp, by rw [if_pos rfl]; exact ⟨p, rfl, hp, ⟨[], upd_same, RepL.nil⟩⟩⟩
/-- what lies below the top is left out -/
theorem At.dropMid {M : En} {M' : List (Option V)} {s : Option Sl} {w : Option V} (A : At c F env (stk ++ M ++ [s]) σ (ws ++ M' ++ [w]) H) (hw : stk.length = ws.length) (hM : M.length = M'.length) (hm : ∀ x, s = some x → x.m ≠ .io) : At c F env (stk ++ [s]) σ (ws ++ [w]) H := by
  obtain ⟨O, S⟩ := A.sim
  have hl := A.hl
  have tot : ∀ j, j < env.length + stk.length → (env ++ (stk ++ [s]))[j]? = (env ++ (stk ++ M ++ [s]))[j]? ∧ (σ ++ (ws ++ [w]))[j]? = (σ ++ (ws ++ M' ++ [w]))[j]? := fun j hj => by
    have e1 : ∀ {α : Type} (X Y Z : List α), j < X.length + Y.length → (X ++ (Y ++ Z))[j]? = (X ++ Y)[j]? := fun X Y Z h => by
      rw [← List.append_assoc, List.getElem?_append_left (by simpa using h)]
    rw [List.append_assoc stk, List.append_assoc ws, e1 _ _ _ hj, e1 _ _ _ hj, e1 _ _ _ (by omega), e1 _ _ _ (by omega)]
    exact ⟨rfl, rfl⟩
  have top1 : (env ++ (stk ++ [s]))[env.length + stk.length]? = some s := by
    rw [List.getElem?_append_right (Nat.le_add_right _ _), Nat.add_sub_cancel_left, List.getElem?_append_right (Nat.le_refl _), Nat.sub_self]; rfl
  have top2 : (env ++ (stk ++ M ++ [s]))[env.length + (stk.length + M.length)]? = some s := by
    rw [List.getElem?_append_right (Nat.le_add_right _ _), Nat.add_sub_cancel_left, List.getElem?_append_right (by simp)]; simp
  have topv1 : (σ ++ (ws ++ [w]))[env.length + stk.length]? = some w := by
    rw [hl, hw, List.getElem?_append_right (Nat.le_add_right _ _), Nat.add_sub_cancel_left, List.getElem?_append_right (Nat.le_refl _), Nat.sub_self]; rfl
  have topv2 : (σ ++ (ws ++ M' ++ [w]))[env.length + (stk.length + M.length)]? = some w := by
    rw [hl, hw, hM, List.getElem?_append_right (Nat.le_add_right _ _), Nat.add_sub_cancel_left, List.getElem?_append_right (by simp)]; simp
  refine ⟨hl, by simp [hw], S.re (by simp [hl, hw]) (fun j => if j = env.length + stk.length then env.length + (stk.length + M.length) else j) fun j sl hj => ?_⟩
  have hjl : j < env.length + (stk.length + 1) := by
    have := (List.getElem?_eq_some_iff.mp hj).1
    simpa using this
  by_cases e : j = env.length + stk.length
  · rw [if_pos e]
    subst e
    rw [top1] at hj
    cases hj
    refine ⟨sl.m, top2, by rw [topv1, topv2], .inl rfl, fun z => absurd z (hm _ rfl), fun _ _ j' sl' hj' hf => ?_, fun a b => absurd b a⟩
    by_cases e' : j' = env.length + stk.length
    · exact e'
    · rw [if_neg e'] at hf
      have := (List.getElem?_eq_some_iff.mp hj').1
      simp only [List.length_append, List.length_cons, List.length_nil] at this
      omega
  · rw [if_neg e]
    have hlt : j < env.length + stk.length := by omega
    refine ⟨sl.m, by rw [← (tot j hlt).1]; exact hj, (tot j hlt).2, .inl rfl, fun _ => rfl, fun _ _ j' sl' hj' hf => ?_, fun a b => absurd b a⟩
    by_cases e' : j' = env.length + stk.length
    · rw [if_pos e'] at hf; omega
    · rw [if_neg e'] at hf; exact hf
theorem savL_len {own : List Nat} : (savL env own).length = (savV σ own).length := by
  induction own with
  | nil => rfl
  | cons i is ih => simp [savL, savV, ih]
/-- behind the block -/
theorem At.blkEnd {A B : En} {A' B' : List (Option V)} {own : List Nat} {old envZ : En} {ys : List T} {w : Option V} (hA : A.length = A'.length) (hB : B.length = B'.length) (ho : ∀ i ∈ own, i < envZ.length) (S : At c F (wipeE envZ own) (A ++ B ++ [dl ys] ++ savL old own) (wipe σ own) (A' ++ B' ++ [w] ++ savV σ own) H) :
    At c F (backE old envZ own) (A ++ [dl ys]) σ (A' ++ [w]) H := by
  have := S.unwipe (fun i hi => by rw [wipeE_len]; exact ho i hi)
  rw [unS_wipe] at this
  exact this.dropMid hA hB fun x e => by cases e; exact fun z => nomatch z
theorem rd_comp {k : ItK} {own : List Nat} {g : P} {es : List E} {cond : Option E} {elt : E} (nd : own.Nodup) (hs : ∀ i ∈ slotsP g, i ∈ own) :
    ∀ σ H Q, (∀ i ∈ own, i < σ.length) → rdE c Φ Ψ (.comp own g k es cond elt) σ H Q → tLc (rdI c Φ Ψ k es) (rdG c g) (tOf c Φ Ψ cond) (rdE c Φ Ψ elt) own σ H Q := by
  intro σ H Q ho ⟨F, env, stk, ws, A, o, env', h, k'⟩
  rw [ev] at h
  obtain ⟨⟨os, e1⟩, h1, ha⟩ := R.bind_ok h
  clear h
  obtain ⟨ts, h2, h⟩ := R.bind_ok ha
  clear ha
  obtain ⟨xs, h3, ha⟩ := R.bind_ok h
  clear h
  obtain ⟨⟨ys, envZ⟩, h4, h5⟩ := R.bind_ok ha
  clear ha
  cases h5
  refine ⟨F, env, stk, ws, A, os, e1, ts, xs, h1, R.opt_ok h2, R.opt_ok h3, fun J vs H1 A1 hlv hw p hp => ?_⟩
  have hle := A1.hl
  have A2 := A1.newList hp
  have A3 := A2.wipeS nd fun i hi => by rw [hle]; exact ho i hi
  have hA : (stk ++ ts.map shE).length = (ws ++ vs.map some).length := by simp [A.hw, hlv]
  refine loop_core (A := stk ++ ts.map shE) (B := savL e1 own) hA savL_len hw (fun env acc σ H S => ?_) hs ho (fun H S => ?_) h4 A3
  · have := At.srcsGet (A := stk) (B := [dl acc] ++ savL e1 own) (A' := ws) (B' := [some (.ref p)] ++ savV _ own) (ts := ts) (vs := vs) (by simpa using S) A.hw hlv
    simpa using this
  · have hz : ∀ i ∈ own, i < envZ.length := fun i hi => by
      have := S.hl
      rw [wipeE_len, wipe_length] at this
      rw [this]; exact ho i hi
    exact k' _ _ (At.blkEnd (B := ts.map shE) A.hw (by simp [hlv]) hz S) trivial

theorem wipe_sub {own own2 : List Nat} (h : ∀ i ∈ own2, i ∈ own) : wipe (wipe σ own2) own = wipe σ own := by
  refine List.ext_getElem? fun j => ?_
  by_cases hj : j ∈ own
  · by_cases lt : j < σ.length
    · rw [wipe_in lt hj, wipe_in (by rw [wipe_length]; exact lt) hj]
    · rw [List.getElem?_eq_none (by rw [wipe_length, wipe_length]; omega), List.getElem?_eq_none (by rw [wipe_length]; omega)]
  · rw [wipe_out hj, wipe_out hj, wipe_out fun z => hj (h j z)]
theorem wipeE_in {j : Nat} (hj : j < env.length) : ∀ {own : List Nat}, j ∈ own → (wipeE env own)[j]? = some none
  | i :: is, h => by
    rw [wipeE]
    by_cases e : i = j
    · subst e; rw [List.getElem?_set_self (by rw [wipeE_len]; exact hj)]
    · rw [List.getElem?_set_ne e]
      exact wipeE_in hj ((List.mem_cons.mp h).resolve_left fun z => e z.symm)
theorem wipeE_sub {own own2 : List Nat} (h : ∀ i ∈ own2, i ∈ own) : wipeE (wipeE env own2) own = wipeE env own := by
  refine List.ext_getElem? fun j => ?_
  by_cases hj : j ∈ own
  · by_cases lt : j < env.length
    · rw [wipeE_in lt hj, wipeE_in (by rw [wipeE_len]; exact lt) hj]
    · rw [List.getElem?_eq_none (by rw [wipeE_len, wipeE_len]; omega), List.getElem?_eq_none (by rw [wipeE_len]; omega)]
  · rw [wipeE_out hj, wipeE_out hj, wipeE_out fun z => hj (h j z)]
theorem tt_if {A B : Prop} (a : A) : if true = true then A else B := by rw [if_pos rfl]; exact a
theorem rd_comp2 {k k2 : ItK} {own own2 : List Nat} {g g2 : P} {es es2 : List E} {cond : Option E} {elt : E} (nd : own.Nodup) (hs : ∀ i ∈ slotsP g, i ∈ own) (hs2 : ∀ i ∈ slotsP g2, i ∈ own2) (h2o : ∀ i ∈ own2, i ∈ own) :
    ∀ σ H Q, (∀ i ∈ own, i < σ.length) → rdE c Φ Ψ (.comp2 own g k es g2 k2 es2 own2 cond elt) σ H Q → tLc2 (rdI c Φ Ψ k es) (rdG c g) tYes (rdI c Φ Ψ k2 es2) (rdG c g2) (tOf c Φ Ψ cond) (rdE c Φ Ψ elt) own own2 σ H Q := by
  intro σ H Q ho ⟨F, env, stk, ws, A, o, env', h, k'⟩
  rw [ev] at h
  obtain ⟨⟨os, e1⟩, h1, ha⟩ := R.bind_ok h
  clear h
  obtain ⟨ts, h2, h⟩ := R.bind_ok ha
  clear ha
  obtain ⟨xs, h3, ha⟩ := R.bind_ok h
  clear h
  obtain ⟨⟨ys, envZ⟩, h4, h5⟩ := R.bind_ok ha
  clear ha
  cases h5
  refine ⟨F, env, stk, ws, A, os, e1, ts, xs, h1, R.opt_ok h2, R.opt_ok h3, fun J vs H1 A1 hlv hw p hp => ?_⟩
  have hle := A1.hl
  have A2 := A1.newList hp
  have A3 := A2.wipeS nd fun i hi => by rw [hle]; exact ho i hi
  have hA : (stk ++ ts.map shE).length = (ws ++ vs.map some).length := by simp [A.hw, hlv]
  have hsv : (savL e1 own).length = (savV σ own).length := savL_len
  let inner : List T → En → R (List T × En) := fun acc env => (evs Φ Ψ es2 env).bind fun (os, env) => (R.opt (plain os)).bind fun ts => (R.opt (k2.walk ts)).bind fun ys => loopC (fun e => ev Φ Ψ elt e) (fun e => evc Φ Ψ cond e) g2 own2 ys acc env
  let V : Nat → Hp → Prop := fun i H => ∃ acc e, loopC2 inner g own (xs.drop i) acc e = .ok (ys, envZ) ∧ At c F (wipeE e own) ((stk ++ ts.map shE) ++ [dl acc] ++ savL e1 own) (wipe σ own) ((ws ++ vs.map some) ++ [some (.ref p)] ++ savV σ own) H
  refine ⟨fun i m H => m = xs.length - i ∧ i ≤ xs.length ∧ V i H, ⟨xs.length, by simp, Nat.zero_le _, [], e1, h4, A3⟩, ?_⟩
  rintro i m H ⟨rfl, hi, acc, e, hloop, B1⟩
  obtain ⟨O, S, rl⟩ : ∃ O, SimO c F O (wipeE e own ++ ((stk ++ ts.map shE) ++ [dl acc] ++ savL e1 own)) (wipe σ own ++ ((ws ++ vs.map some) ++ [some (.ref p)] ++ savV σ own)) H ∧ RepL c H (F.av O) ts vs := by
    have := At.srcsGet (A := stk) (B := [dl acc] ++ savL e1 own) (A' := ws) (B' := [some (.ref p)] ++ savV _ own) (ts := ts) (vs := vs) (by simpa using B1) A.hw hlv
    simpa using this
  have walk := hw _ _ rl i
  by_cases hlt : i < xs.length
  · refine .inr ?_
    have hx := List.getElem?_eq_getElem hlt
    obtain ⟨go, yld⟩ := walk.2 _ hx
    rw [drop_cons hlt] at hloop
    simp only [loopC2] at hloop
    obtain ⟨e2, q1, hloop⟩ := R.bind_ok hloop
    obtain ⟨⟨acc2, e3⟩, q2, hloop⟩ := R.bind_ok hloop
    refine ⟨go, V (i + 1), fun H' hv => ⟨xs.length - (i + 1), by omega, rfl, hlt, hv⟩, fun x H' hy => ?_⟩
    obtain ⟨gr, rx⟩ := yld x H' hy
    have B2 := At.item S B1.hl B1.hw gr rx
    refine ⟨F, _, _, _, _, e2, B2, q1, fun σ2 H2 B3 agr => ?_⟩
    have ew : wipe σ2 own = wipe σ own := wipe_agr agr hs
    have hl2 : σ2.length = σ.length := agr.1.trans (wipe_length _ _)
    refine ⟨ew, ?_⟩
    unfold tYes
    dsimp only
    rw [if_pos rfl]
    obtain ⟨⟨os2, e4⟩, u1, u⟩ := R.bind_ok q2
    clear q2
    obtain ⟨ts2, u2, u'⟩ := R.bind_ok u
    clear u
    obtain ⟨xs2, u3, u⟩ := R.bind_ok u'
    clear u'
    refine ⟨F, e2, _, _, B3, os2, e4, ts2, xs2, u1, R.opt_ok u2, R.opt_ok u3, fun J2 vs2 H3 B4 hlv2 hw2 => ?_⟩
    have hl4 : e4.length = σ.length := by rw [B4.hl, hl2]
    have ho2 : ∀ i ∈ own2, i < σ2.length := fun i hi => by rw [hl2]; exact ho i (h2o i hi)
    have B5 := B4.wipeD (own := own2) fun i hi => by rw [B4.hl]; exact ho2 i hi
    refine loop_core (F := F) (A := stk ++ ts.map shE) (B := savL e1 own ++ ts2.map shE) (A' := ws ++ vs.map some) (B' := savV σ own ++ vs2.map some) hA (by simp [hsv, hlv2]) hw2 (fun env acc σ H S => ?_) hs2 ho2 (fun H6 S6 => ?_) u ?_
    · have := At.srcsGet (A := stk ++ ts.map shE ++ [dl acc] ++ savL e1 own) (B := []) (A' := ws ++ vs.map some ++ [some (.ref p)] ++ savV _ own) (B' := []) (ts := ts2) (vs := vs2) (by simpa using S) (by simp [A.hw, hlv, hsv]) hlv2
      simpa using this
    · refine ⟨acc2, e3, hloop, ?_⟩
      have S7 : At c F (wipeE e3 own2) (((stk ++ ts.map shE) ++ [dl acc2] ++ savL e1 own) ++ ts2.map shE) (wipe σ2 own2) (((ws ++ vs.map some) ++ [some (.ref p)] ++ savV σ own) ++ vs2.map some) H6 := by simpa using S6
      have S8 := S7.drop (by simp [A.hw, hlv, hsv])
      have S9 := S8.wipeD (own := own) fun i hi => by rw [S8.hl, wipe_length, hl2]; exact ho i hi
      rw [wipeE_sub h2o, wipe_sub h2o, ew] at S9
      exact S9
    · simpa using B5
  · refine .inl ?_
    have ei : i = xs.length := by omega
    subst ei
    rw [List.drop_length] at hloop
    simp only [loopC2] at hloop
    cases hloop
    refine ⟨walk.1 rfl, ?_⟩
    have hz : ∀ i ∈ own, i < envZ.length := fun i hi => by
      have := B1.hl
      rw [wipeE_len, wipe_length] at this
      rw [this]; exact ho i hi
    exact k' _ _ (At.blkEnd (B := ts.map shE) A.hw (by simp [hlv]) hz B1) trivial
end
end DD
/-! DSnd4: all expressions. -/
namespace DD
open PySem L2
section
variable {c : Cn} {W : Nat} {D : Nat → Option Df} {Γ : Gm} {n : Nat} {X : Cx}
abbrev rE (c : Cn) (W : Nat) (D : Nat → Option Df) (n : Nat) (e : E) : TE := rdE c (fnS W D n) badF e
abbrev rT (c : Cn) (W : Nat) (D : Nat → Option Df) (n : Nat) (e : E) : TT := rdT c (fnS W D n) badF e
abbrev rA (c : Cn) (W : Nat) (D : Nat → Option Df) (n : Nat) (es : List E) : TA := rdA c (fnS W D n) badF es
theorem rdE_mono {Φ Ψ : Nat → Fn} {e : E} {σ : St} {H : Hp} {Q Q' : VK} (h : rdE c Φ Ψ e σ H Q) (k : ∀ v H', Q v H' → Q' v H') : rdE c Φ Ψ e σ H Q' := by
  obtain ⟨F, env, stk, ws, A, o, env', h1, h2⟩ := h
  exact ⟨F, env, stk, ws, A, o, env', h1, fun v H' A' ok => k _ _ (h2 v H' A' ok)⟩
theorem PE.wkI {e : Expr} {t t' : TE} (h : PE X e t) (k : ∀ σ H Q, σ.length = X.N.length → t' σ H Q → t σ H Q) : PE X e t' := ⟨fun pins s σ H Q I q => h.run pins s σ H Q I (k σ H Q I.len q)⟩

/-! ### the rules of the operations -/
/-- a binary operator -/
theorem bin_ok (g : Good c W D Γ n X) {p : Prim} {o : Operator} (h : binO p = some o) : ∃ r, OpR X (binaryOp o) r ∧ P2 c p r := by
  cases p <;> simp only [binO, Option.some.injEq, reduceCtorEq] at h <;> subst h
  · exact ⟨_, op_addT g.K, p2_add⟩
  · exact ⟨_, op_sub, p2_sub⟩
  · exact ⟨_, op_mulA g.K, p2_mul⟩
  · exact ⟨_, op_fdiv, p2_fdiv⟩
  · exact ⟨_, op_mod, p2_mod⟩
  · exact ⟨_, op_pow, p2_pow⟩
theorem p2_in : P2 c .inn (rInS c.K false) := by
  intro Av H tx ty x y t Q hx hy h k
  replace h : sIn tx ty = some t := h
  refine p2_inS Av H tx ty x y t Q hx hy h ?_ k
  cases ty <;> first | rfl | (simp [sIn] at h)
theorem p2_notin : P2 c .notin (rInS c.K true) := by
  intro Av H tx ty x y t Q hx hy h k
  replace h : sNotin tx ty = some t := h
  refine p2_notinS Av H tx ty x y t Q hx hy h ?_ k
  cases ty <;> first | rfl | (simp [sNotin] at h)
theorem cmp_ok (g : Good c W D Γ n X) {p : Prim} {o : CmpOp} (h : cmpO p = some o) : ∃ r, OpR X (compareOp o) r ∧ P2 c p r := by
  have hu : X.A.units + 64 < cLine := by have := g.un; omega
  cases p <;> simp only [cmpO, Option.some.injEq, reduceCtorEq] at h <;> subst h
  · exact ⟨_, op_eqD hu, g.K ▸ p2_eq⟩
  · exact ⟨_, op_neD hu, g.K ▸ p2_ne⟩
  · exact ⟨_, op_lt, p2_lt⟩
  · exact ⟨_, op_le, p2_le⟩
  · exact ⟨_, op_gt, p2_gt⟩
  · exact ⟨_, op_ge, p2_ge⟩
  · exact ⟨_, op_isN, p2_isN⟩
  · exact ⟨_, op_notN, p2_notN⟩
  · exact ⟨_, op_inS g.K g.un, p2_in⟩
  · exact ⟨_, op_notinS g.K g.un, p2_notin⟩
/-- ints compared -/
theorem c2_int {p : Prim} {f : Int → Int → Bool} (h : ∀ tx ty t, p.sem [tx, ty] = some t → ∃ i j, tx = .int i ∧ ty = .int j ∧ t = .bl (f i j)) : C2 c p (rI0 fun i j => .bl (f i j)) := by
  intro Av H tx ty x y b Q hx hy hs q
  obtain ⟨i, j, rfl, rfl, e⟩ := h _ _ _ hs
  cases e
  exact ⟨i, j, hx.int, hy.int, q⟩
theorem ord_sem {p : Prim} {f : T → T → Option T} {g : Int → Int → Bool} (hp : p.sem = two f) (h : ∀ a b, f a b = match a, b with | .int i, .int j => some (.bl (g i j)) | _, _ => none) : ∀ tx ty t, p.sem [tx, ty] = some t → ∃ i j, tx = .int i ∧ ty = .int j ∧ t = .bl (g i j) := by
  intro tx ty t e
  rw [hp] at e
  replace e : f tx ty = some t := e
  rw [h] at e
  split at e
  · cases e; exact ⟨_, _, rfl, rfl, rfl⟩
  · cases e
theorem lt_sem : ∀ tx ty t, Prim.lt.sem [tx, ty] = some t → ∃ i j, tx = .int i ∧ ty = .int j ∧ t = .bl (decide (i < j)) := ord_sem (f := sLt) rfl fun a b => by cases a <;> cases b <;> rfl
theorem le_sem : ∀ tx ty t, Prim.le.sem [tx, ty] = some t → ∃ i j, tx = .int i ∧ ty = .int j ∧ t = .bl (decide (i ≤ j)) := ord_sem (f := sLe) rfl fun a b => by cases a <;> cases b <;> rfl
theorem gt_sem : ∀ tx ty t, Prim.gt.sem [tx, ty] = some t → ∃ i j, tx = .int i ∧ ty = .int j ∧ t = .bl (decide (j < i)) := ord_sem (f := sGt) rfl fun a b => by cases a <;> cases b <;> rfl
theorem ge_sem : ∀ tx ty t, Prim.ge.sem [tx, ty] = some t → ∃ i j, tx = .int i ∧ ty = .int j ∧ t = .bl (decide (j ≤ i)) := ord_sem (f := sGe) rfl fun a b => by cases a <;> cases b <;> rfl
theorem bl_of {p : Prim} {g : Int → Int → Bool} (h : ∀ tx ty t, p.sem [tx, ty] = some t → ∃ i j, tx = .int i ∧ ty = .int j ∧ t = .bl (g i j)) : ∀ tx ty t, p.sem [tx, ty] = some t → ∃ b, t = .bl b := fun tx ty t e => by
  obtain ⟨i, j, _, _, e⟩ := h tx ty t e
  exact ⟨_, e⟩
theorem c2_eq : C2 c .eq (rEqD c.K) := by
  intro Av H tx ty x y b Q hx hy h k
  replace h : sEq tx ty = some (.bl b) := h
  unfold sEq at h
  split at h <;> cases h
  rename_i hd
  rw [Bool.and_eq_true] at hd
  exact ⟨_, _, hx.dp 60 hd.1, hy.dp 60 hd.2, dat_shaped (by decide) hd.1, dat_shaped (by decide) hd.2, k⟩
theorem eq_sem : ∀ tx ty t, Prim.eq.sem [tx, ty] = some t → ∃ b, t = .bl b := by
  intro tx ty t h
  replace h : sEq tx ty = some t := h
  unfold sEq at h
  split at h <;> cases h
  exact ⟨_, rfl⟩
theorem ord_ok (g : Good c W D Γ n X) {p : Prim} {o : CmpOp} (h : ordO p = some o) : ∃ r, OpR X (compareOp o) r ∧ C2 c p r ∧ ∀ tx ty t, p.sem [tx, ty] = some t → ∃ b, t = .bl b := by
  have hu : X.A.units + 64 < cLine := by have := g.un; omega
  cases p <;> simp only [ordO, Option.some.injEq, reduceCtorEq] at h <;> subst h
  · exact ⟨_, op_eqD hu, g.K ▸ c2_eq, eq_sem⟩
  · exact ⟨_, op_lt, c2_int lt_sem, bl_of lt_sem⟩
  · exact ⟨_, op_le, c2_int le_sem, bl_of le_sem⟩
  · exact ⟨_, op_gt, c2_int gt_sem, bl_of gt_sem⟩
  · exact ⟨_, op_ge, c2_int ge_sem, bl_of ge_sem⟩
/-- a built-in that is called -/
theorem callee_ok (g : Good c W D Γ n X) {p : Prim} {nm : Str} {f : Value} (h : callee p = some (nm, f)) : ∃ r, CallR X f r ∧ PN c p r ∧ bootBuiltins nm = some f ∧ ((∃ id, f = .builtin id) ∨ ∃ T, f = .type T) := by
  have hc := g.calm
  have hK := g.K
  cases p <;> simp only [callee, Option.some.injEq, reduceCtorEq, Prod.mk.injEq] at h <;> obtain ⟨rfl, rfl⟩ := h
  · refine ⟨_, call_len, fun Av H ts vs t Q r h k => ?_, rfl, .inl ⟨_, rfl⟩⟩
    rw [hK]
    exact pn_len Av H ts vs t Q r h (fun a e => by subst e; cases a <;> first | rfl | (simp [Prim.sem, one, sLen] at h)) k
  · exact ⟨_, (cr_sum hc).or (cr_sumT hc), hK ▸ pn_sum, rfl, .inl ⟨_, rfl⟩⟩
  · exact ⟨_, call_abs, pn_abs, rfl, .inl ⟨_, rfl⟩⟩
  · exact ⟨_, call_int1, pn_int, rfl, .inr ⟨_, rfl⟩⟩
  · exact ⟨_, call_tuple_of, hK ▸ pn_tuple, rfl, .inr ⟨_, rfl⟩⟩
  · exact ⟨_, call_list_of, hK ▸ pn_list, rfl, .inr ⟨_, rfl⟩⟩
  · exact ⟨_, cr_sort hK g.un, pn_sorted, rfl, .inl ⟨_, rfl⟩⟩
  · exact ⟨_, call_min2 hc, pn_min2, rfl, .inl ⟨_, rfl⟩⟩
  · exact ⟨_, call_max2 hc, pn_max2, rfl, .inl ⟨_, rfl⟩⟩
  · exact ⟨_, cr_all hc, hK ▸ pn_all, rfl, .inl ⟨_, rfl⟩⟩
  · exact ⟨_, cr_any hc, hK ▸ pn_any, rfl, .inl ⟨_, rfl⟩⟩
theorem ix_ok (g : Good c W D Γ n X) : ∃ r, IxR X r ∧ P2 c .ix r := by
  refine ⟨_, ix_seq, fun Av H tx ty x y t Q hx hy h k => ?_⟩
  rw [g.K]
  replace h : sIx tx ty = some t := h
  refine p2_ixS Av H tx ty x y t Q hx hy h ?_ k
  cases tx <;> first | rfl | (cases ty <;> simp [sIx] at h)

/-! ### slices -/
theorem p2_slL : P2 c .slL (fun x y H Q => ∃ i, y = .int i ∧ rSlT' c.K x (some i) none H Q) := by
  intro Av H tx ty x y t Q hx hy h k
  replace h : sSlL tx ty = some t := h
  cases ty <;> simp only [sSlL, reduceCtorEq] at h
  exact ⟨_, hy.int, slice_core hx h k⟩
theorem p2_slU : P2 c .slU (fun x y H Q => ∃ i, y = .int i ∧ rSlT' c.K x none (some i) H Q) := by
  intro Av H tx ty x y t Q hx hy h k
  replace h : sSlU tx ty = some t := h
  cases ty <;> simp only [sSlU, reduceCtorEq] at h
  exact ⟨_, hy.int, slice_core hx h k⟩
theorem notPeek_v {Φ Ψ : Nat → Fn} {e : E} (h : notPeek e = true) {env env' : En} {o : OV} (he : ev Φ Ψ e env = .ok (o, env')) : ∃ t fr, o = .v t fr := by
  cases e <;> simp only [notPeek] at h <;> try contradiction
  case cst t => rw [ev] at he; cases he; exact ⟨_, _, rfl⟩
  case var i =>
    rw [ev] at he
    split at he <;> cases he
    exact ⟨_, _, rfl⟩
  case mv i =>
    rw [ev] at he
    split at he <;> cases he <;> exact ⟨_, _, rfl⟩
  case prim p es =>
    rw [ev] at he
    obtain ⟨⟨os, e1⟩, h1, he⟩ := R.bind_ok he
    obtain ⟨ts, h2, he⟩ := R.bind_ok he
    obtain ⟨t, h3, he⟩ := R.bind_ok he
    cases he
    exact ⟨_, _, rfl⟩
  case call f es =>
    rw [ev] at he
    obtain ⟨⟨os, e1⟩, h1, he⟩ := R.bind_ok he
    obtain ⟨ts, h2, he⟩ := R.bind_ok he
    split at he
    · split at he
      · obtain ⟨e2, h3, he⟩ := R.bind_ok he
        cases he
        exact ⟨_, _, rfl⟩
      · cases he
    · cases he
theorem rd_slLU {Φ Ψ : Nat → Fn} {a b d : E} (hb : notPeek b = true) : ∀ σ H Q, rdE c Φ Ψ (.prim .slLU [a, b, d]) σ H Q → tSl (rSlT' c.K) (rdE c Φ Ψ a) (tPart (rdE c Φ Ψ b)) (tPart (rdE c Φ Ψ d)) σ H Q := by
  intro σ H Q ⟨F, env, stk, ws, A, o, env', h, k⟩
  rw [ev] at h
  obtain ⟨⟨os, e1⟩, h1, ha⟩ := R.bind_ok h
  clear h
  obtain ⟨ts, h2, h⟩ := R.bind_ok ha
  clear ha
  obtain ⟨t, h3, ha⟩ := R.bind_ok h
  clear h
  cases ha
  replace h2 := R.opt_ok h2
  replace h3 := R.opt_ok h3
  simp only [evs] at h1
  obtain ⟨⟨o1, e2⟩, q1, h1⟩ := R.bind_ok h1
  obtain ⟨⟨os2, e3⟩, q2, h1⟩ := R.bind_ok h1
  cases h1
  obtain ⟨⟨o2, e4⟩, q3, h4⟩ := R.bind_ok q2
  obtain ⟨⟨os3, e5⟩, q4, h5⟩ := R.bind_ok h4
  cases h5
  obtain ⟨⟨o3, e6⟩, q5, h6⟩ := R.bind_ok q4
  cases h6
  obtain ⟨t2, fr2, rfl⟩ := notPeek_v hb q3
  obtain ⟨t1, r1, rfl, v1, v2⟩ := vals_cons h2
  obtain ⟨t2', r2, rfl, v3, v4⟩ := vals_cons v2
  obtain ⟨t3, r3, rfl, v5, v6⟩ := vals_cons v4
  rw [vals] at v6
  cases v6
  cases v3
  have h3 : sSlLU t1 t2 t3 = some t := h3
  obtain ⟨i, j, rfl, rfl, h3⟩ : ∃ i j, t2 = .int i ∧ t3 = .int j ∧ sSlice t1 (some i) (some j) = some t := by
    cases t2 <;> cases t3 <;> simp only [sSlLU, reduceCtorEq] at h3
    exact ⟨_, _, rfl, rfl, h3⟩
  refine ⟨F, env, stk, ws, A, o1, e2, q1, fun x H1 A1 ok1 => ⟨F, e2, _, _, A1, _, e4, q3, fun y H2 A2 ok2 => ?_⟩⟩
  obtain ⟨O, S, rt⟩ := At.ops (os := [.v (.int i) fr2]) (vs := [y]) (ts := [.int i]) A2 A1.hw (.cons trivial .nil) rfl
  cases rt with
  | cons p _ =>
    refine ⟨i, p.int, F, e4, _, _, A2, o3, _, q5, fun z H3 A3 ok3 => ?_⟩
    have A3' : At c F e6 (stk ++ [o1, .v (.int i) fr2, o3].map OV.sl) σ (ws ++ [x, y, z].map some) H3 := by
      rw [List.append_assoc, List.append_assoc, List.append_assoc, List.append_assoc] at A3
      exact A3
    obtain ⟨O3, S3, rt3⟩ := A3'.ops A.hw (.cons ok1 (.cons trivial (.cons ok3 .nil))) h2
    cases rt3 with
    | cons p1 rt3 =>
      cases rt3 with
      | cons p2 rt3 =>
        cases rt3 with
        | cons p3 rt3 =>
          refine ⟨j, p3.int, slice_core p1 h3 fun v H' o => k v H' (At.out S3 A3'.hl A.hw o) trivial⟩
theorem p1_slRev : P1 c .slRev (fun x H Q => ∃ a xs, x = .ref a ∧ SqL c.K H a xs ∧ ∀ p, H p = none → Q (.ref p) (upd H p (.lst xs.reverse))) := by
  intro Av H tx x t Q hx h k
  replace h : sSlRev tx = some t := h
  cases tx <;> simp only [sSlRev, reduceCtorEq, Option.some.injEq] at h
  case lst ts =>
    subst h
    obtain ⟨a, vs, rfl, h1, h2⟩ := hx.lst
    exact ⟨a, vs, rfl, SqL.of h1, fun p hp => k _ _ (Out.lst (p := .slRev) rfl hp h2.reverse)⟩

/-! ### shapes -/
theorem chk2 {es : List E} {l r : Expr} (h : chkEs Γ es [l, r] = true) : ∃ a b, es = [a, b] ∧ noStar l = true ∧ noStar r = true ∧ chkE Γ a l = true ∧ chkE Γ b r = true := by
  cases es with
  | nil => rw [chkEs] at h; cases h
  | cons a es =>
    rw [chkEs, Bool.and_eq_true, Bool.and_eq_true] at h
    cases es with
    | nil => rw [chkEs] at h; cases h.2
    | cons b es =>
      obtain ⟨⟨h1, h2⟩, h⟩ := h
      rw [chkEs, Bool.and_eq_true, Bool.and_eq_true] at h
      cases es with
      | nil => exact ⟨a, b, rfl, h1, h.1.1, h2, h.1.2⟩
      | cons d es => obtain ⟨_, h⟩ := h; rw [chkEs] at h; cases h
theorem chk1 {es : List E} {l : Expr} (h : chkEs Γ es [l] = true) : ∃ a, es = [a] ∧ noStar l = true ∧ chkE Γ a l = true := by
  cases es with
  | nil => rw [chkEs] at h; cases h
  | cons a es =>
    rw [chkEs, Bool.and_eq_true, Bool.and_eq_true] at h
    cases es with
    | nil => exact ⟨a, rfl, h.1.1, h.1.2⟩
    | cons b es => obtain ⟨_, h⟩ := h; rw [chkEs] at h; cases h
theorem chk3 {es : List E} {l r u : Expr} (h : chkEs Γ es [l, r, u] = true) : ∃ a b d, es = [a, b, d] ∧ chkE Γ a l = true ∧ chkE Γ b r = true ∧ chkE Γ d u = true := by
  cases es with
  | nil => rw [chkEs] at h; cases h
  | cons a es =>
    rw [chkEs, Bool.and_eq_true, Bool.and_eq_true] at h
    obtain ⟨b, d, rfl, _, _, h1, h2⟩ := chk2 h.2
    exact ⟨a, b, d, rfl, h.1.2, h1, h2⟩
theorem behind_ok {op : CmpOp} {r : Expr} (h : noSet r = true) : behindInMarks op r = false := by
  cases r <;> first | rfl | cases h
theorem plainIx_ok {r : Expr} (h : plainIxE r = true) : PlainIx r := by
  cases r with
  | Slice _ _ _ _ => cases h
  | _ => intro o i; rfl
def isTest : Expr → Bool
  | .UnaryOp .Not _ _ => false
  | .BoolOp _ _ _ => false
  | .IfExp _ _ _ _ => false
  | .Compare _ _ _ _ => false
  | _ => true
theorem isTest_ok {e : Expr} {env : Env} (h : isTest e = true) : ∀ whole, isTrue e env whole = (do let v ← whole; standAt e.pos; holding [v] (truthy v)) := by
  intro whole
  cases e with
  | UnaryOp op a p => cases op <;> first | rfl | cases h
  | _ => first | rfl | cases h
end
end DD
/-! DSnd5: all expressions. -/
namespace DD
open PySem L2
section
variable {c : Cn} {W : Nat} {D : Nat → Option Df} {Γ : Gm} {n : Nat} {X : Cx}
theorem cst_const {t : T} {k : Const} {j : Nat} {pos : Pos} (h : cstOk t k = true) {Φ Ψ : Nat → Fn} : PE X (.Constant k j pos) (rdE c Φ Ψ (.cst t)) := by
  cases t <;> cases k <;> simp only [cstOk, beq_iff_eq, reduceCtorEq, Bool.false_eq_true] at h
  · exact PE.wk pe_non (rd_cst fun H Av => by rw [Rep])
  · subst h; exact PE.wk pe_bl (rd_cst fun H Av => by rw [Rep])
  · subst h; exact PE.wk pe_int (rd_cst fun H Av => by rw [Rep])
  · subst h; exact PE.wk pe_str (rd_cst fun H Av => by rw [Rep])
mutual
theorem T.beq_eq : ∀ {a b : T}, T.beq a b = true → a = b
  | .non, b, h => by cases b <;> simp [T.beq] at h; rfl
  | .bl a, b, h => by cases b <;> simp [T.beq] at h; rw [h]
  | .int a, b, h => by cases b <;> simp [T.beq] at h; rw [h]
  | .str a, b, h => by cases b <;> simp [T.beq] at h; rw [h]
  | .tup xs, b, h => by cases b <;> simp [T.beq] at h; rw [T.beqs_eq h]
  | .lst xs, b, h => by cases b <;> simp [T.beq] at h; rw [T.beqs_eq h]
  | .dct xs, b, h => by cases b <;> simp [T.beq] at h; rw [T.beqk_eq h]
  | .ins n xs, b, h => by cases b <;> simp [T.beq] at h; rw [h.1, T.beqf_eq h.2]
  | .scr xs, b, h => by cases b <;> simp [T.beq] at h; rw [h]
theorem T.beqs_eq : ∀ {a b : List T}, T.beqs a b = true → a = b
  | [], b, h => by cases b <;> simp [T.beqs] at h; rfl
  | x :: xs, b, h => by cases b <;> simp [T.beqs] at h; rw [T.beq_eq h.1, T.beqs_eq h.2]
theorem T.beqk_eq : ∀ {a b : List (T × T)}, T.beqk a b = true → a = b
  | [], b, h => by cases b <;> simp [T.beqk] at h; rfl
  | (x, y) :: xs, b, h => by
    cases b with
    | nil => simp [T.beqk] at h
    | cons p b => obtain ⟨p, q⟩ := p; simp [T.beqk] at h; rw [T.beq_eq h.1.1, T.beq_eq h.1.2, T.beqk_eq h.2]
theorem T.beqf_eq : ∀ {a b : List (Str × T)}, T.beqf a b = true → a = b
  | [], b, h => by cases b <;> simp [T.beqf] at h; rfl
  | (x, y) :: xs, b, h => by
    cases b with
    | nil => simp [T.beqf] at h
    | cons p b => obtain ⟨p, q⟩ := p; simp [T.beqf] at h; rw [h.1.1, T.beq_eq h.1.2, T.beqf_eq h.2]
end
theorem pw_andC {a b : E} {y z : Expr} {rest : List Expr} {pos : Pos} {Φ Ψ : Nat → Fn} (h1 : PT X y (rdT c Φ Ψ a)) (h2 : PW X (.BoolOp .And (z :: rest) pos) (rdT c Φ Ψ b)) : PW X (.BoolOp .And (y :: z :: rest) pos) (rdT c Φ Ψ (.and a b)) := PW.wk (pw_and h1 h2) rd_andT
theorem pw_orC {a b : E} {y z : Expr} {rest : List Expr} {pos : Pos} {Φ Ψ : Nat → Fn} (h1 : PT X y (rdT c Φ Ψ a)) (h2 : PW X (.BoolOp .Or (z :: rest) pos) (rdT c Φ Ψ b)) : PW X (.BoolOp .Or (y :: z :: rest) pos) (rdT c Φ Ψ (.or a b)) := PW.wk (pw_or h1 h2) rd_orT
theorem rd_iteT {d a b : E} {Φ Ψ : Nat → Fn} : True := trivial
theorem all_mem {l own : List Nat} (h : (l.all fun i => own.contains i) = true) : ∀ i ∈ l, i ∈ own := fun i hi => by
  have := List.all_eq_true.mp h i hi
  rwa [List.contains_iff_mem] at this

/-- the operations, by what their parts say -/
theorem prim_ok (g : Good c W D Γ n X) {p : Prim} {es : List E} {x : Expr} (h : chkE Γ (.prim p es) x = true) (ih : ∀ (k : Nat) (e : E) (y : Expr), es[k]? = some e → chkE Γ e y = true → PE X y (rE c W D n e)) (ihA : ∀ ys, chkEs Γ es ys = true → PA X ys (rA c W D n es)) :
    PE X x (rE c W D n (.prim p es)) := by
  rw [chkE.eq_def] at h; dsimp only at h
  split at h
  · -- BinOp
    simp only [Bool.and_eq_true, decide_eq_true_eq] at h
    obtain ⟨a, b, rfl, _, _, h1, h2⟩ := chk2 h.2
    obtain ⟨r, q1, q2⟩ := bin_ok g h.1
    exact PE.wk (pe_op q1 (ih 0 _ _ rfl h1) (ih 1 _ _ rfl h2)) (rd_bin q2)
  · -- Compare
    simp only [Bool.and_eq_true, decide_eq_true_eq] at h
    obtain ⟨a, b, rfl, _, _, h1, h2⟩ := chk2 h.2
    obtain ⟨r, q1, q2⟩ := cmp_ok g h.1.1
    exact PE.wk (pe_cmpR q1 (ih 0 _ _ rfl h1) (ih 1 _ _ rfl h2) (behind_ok h.1.2)) (rd_bin q2)
  · -- USub
    simp only [Bool.and_eq_true, decide_eq_true_eq] at h
    obtain ⟨rfl, h⟩ := h
    obtain ⟨a, rfl, _, h1⟩ := chk1 h
    exact PE.wk (pe_un un_neg (ih 0 _ _ rfl h1)) (rd_un p1_neg)
  · -- Subscript
    split at h
    · simp only [Bool.and_eq_true, decide_eq_true_eq] at h
      obtain ⟨rfl, h⟩ := h
      obtain ⟨a, b, rfl, _, _, h1, h2⟩ := chk2 h
      refine PE.wk (pe_slice sl_all (ih 0 _ _ rfl h1) po_none (po_some (ih 1 _ _ rfl h2))) fun σ H Q q => ?_
      have := rd_bin p2_slU σ H Q q
      rw [← g.K] at this
      exact this
    · simp only [Bool.and_eq_true, decide_eq_true_eq] at h
      obtain ⟨rfl, h⟩ := h
      obtain ⟨a, b, rfl, _, _, h1, h2⟩ := chk2 h
      refine PE.wk (pe_slice sl_all (ih 0 _ _ rfl h1) (po_some (ih 1 _ _ rfl h2)) po_none) fun σ H Q q => ?_
      have := rd_bin p2_slL σ H Q q
      rw [← g.K] at this
      exact this
    · simp only [Bool.and_eq_true, decide_eq_true_eq] at h
      obtain ⟨⟨rfl, hb⟩, h⟩ := h
      obtain ⟨a, b, d, rfl, h1, h2, h3⟩ := chk3 h
      refine PE.wk (pe_slice sl_all (ih 0 _ _ rfl h1) (po_some (ih 1 _ _ rfl h2)) (po_some (ih 2 _ _ rfl h3))) fun σ H Q q => ?_
      have := rd_slLU (c := c) hb σ H Q q
      rw [← g.K] at this
      exact this
    · simp only [Bool.and_eq_true, decide_eq_true_eq] at h
      obtain ⟨rfl, h⟩ := h
      obtain ⟨a, rfl, _, h1⟩ := chk1 h
      refine PE.wk (pe_revL (ih 0 _ _ rfl h1)) fun σ H Q q => ?_
      have := rd_un p1_slRev σ H Q q
      rw [← g.K] at this
      exact this
    · simp only [Bool.and_eq_true, decide_eq_true_eq] at h
      obtain ⟨⟨rfl, hp⟩, h⟩ := h
      obtain ⟨a, b, rfl, _, _, h1, h2⟩ := chk2 h
      obtain ⟨r, q1, q2⟩ := ix_ok g
      exact PE.wk (pe_ix q1 (ih 0 _ _ rfl h1) (ih 1 _ _ rfl h2) (plainIx_ok hp)) (rd_bin q2)
  · -- a call
    rename_i fn0 p0 xs pos
    split at h
    · rename_i nm f hcal
      simp only [Bool.and_eq_true, beq_iff_eq] at h
      obtain ⟨⟨⟨rfl, hf⟩, hne⟩, h⟩ := h
      obtain ⟨r, q1, q2, q3, q4⟩ := callee_ok g hcal
      have hg := g.free hf
      have st := chkEs_star h
      cases xs with
      | nil => cases hne
      | cons x xs =>
        rw [List.all_cons, Bool.and_eq_true] at st
        rcases q4 with ⟨id, rfl⟩ | ⟨T, rfl⟩
        · exact PE.wk (pe_callB q1 hg.1 hg.2.1 q3 (ihA _ h) hg.2.2.1 hg.2.2.2 (star_cons st.1) (star_any st.2)) (rd_call q2)
        · exact PE.wk (pe_callTy q1 hg.1 hg.2.1 q3 (ihA _ h) hg.2.2.1 hg.2.2.2 (star_cons st.1) (star_any st.2)) (rd_call q2)
    · split at h
      · rename_i hty
        simp only [Bool.and_eq_true, beq_iff_eq] at h
        obtain ⟨⟨⟨⟨rfl, hf⟩, rfl⟩, hz⟩, h⟩ := h
        obtain ⟨a, rfl, hs, h1⟩ := chk1 h
        have hg := g.free hf
        have hgz := g.free hz
        exact PE.wk (pe_callB call_isTyB hg.1 hg.2.1 PyProof.Rows.boot_isinstance (pa_cons (ih 0 _ _ rfl h1) (pa_cons (pe_bltn (v := .ty _) hgz.1 hgz.2.1 (tyNm_boot hty) rfl hgz.2.2.1 hgz.2.2.2) pa_nil (star_cons rfl)) (star_cons hs)) hg.2.2.1 hg.2.2.2 (star_cons hs) (star_any rfl)) fun σ H Q q => by
          have := rd_un (p1_isTy hty) σ H Q q
          rw [← g.K] at this
          exact this
      · simp only [Bool.and_eq_true, beq_iff_eq, decide_eq_true_eq] at h
        obtain ⟨⟨⟨⟨⟨⟨⟨rfl, rfl⟩, hf⟩, rfl⟩, hz1⟩, rfl⟩, hz2⟩, h⟩ := h
        obtain ⟨a, rfl, hs, h1⟩ := chk1 h
        have hg := g.free hf
        have g1 := g.free hz1
        have g2 := g.free hz2
        exact PE.wk (pe_callB call_isiT hg.1 hg.2.1 PyProof.Rows.boot_isinstance (pa_cons (ih 0 _ _ rfl h1) (pa_cons (pe_tup (pa_cons (pe_bltn (v := .ty "tuple") g1.1 g1.2.1 (u := .type "tuple") rfl rfl g1.2.2.1 g1.2.2.2) (pa_cons (pe_bltn (v := .ty "list") g2.1 g2.2.1 (u := .type "list") rfl rfl g2.2.2.1 g2.2.2.2) pa_nil (star_cons rfl)) (star_cons rfl))) pa_nil (star_cons rfl)) (star_cons hs)) hg.2.2.1 hg.2.2.2 (star_cons hs) (star_any rfl)) fun σ H Q q => by
          have := rd_un p1_isSq σ H Q q
          rw [← g.K] at this
          exact rdE_mono this fun v H' z => ⟨by show 2 ≤ sizeLine; decide, z⟩
      · cases h
  · -- sorted(.., reverse=True)
    simp only [Bool.and_eq_true, beq_iff_eq, decide_eq_true_eq] at h
    obtain ⟨⟨⟨⟨rfl, rfl⟩, hf⟩, rfl⟩, h⟩ := h
    obtain ⟨a, rfl, hs, h1⟩ := chk1 h
    have hg := g.free hf
    exact PE.wk (pe_callBK (cr_sortR g.K g.un) hg.1 hg.2.1 rfl (pa_cons (ih 0 _ _ rfl h1) pa_nil (star_cons hs)) (pk_cons pe_bl pk_nil) hg.2.2.1 hg.2.2.2 (by rw [star_cons hs]; rfl) (by rw [star_cons hs]; rfl)) (rd_un p1_sortR)
  · cases h
end
end DD
/-! DSnd6: all expressions. -/
namespace DD
open PySem L2
section
variable {c : Cn} {W : Nat} {D : Nat → Option Df} {n : Nat}
/-- a test that is a plain value's truth -/
theorem pt_plain {X : Cx} {x : Expr} {e : E} (h : PE X x (rE c W D n e)) (ht : isTest x = true) : PT X x (rT c W D n e) := PT.wk (pt_val h (isTest_ok ht)) rd_test
theorem rd_tTest {X : Cx} {e : E} {t : TE} (h : ∀ σ H Q, rE c W D n e σ H Q → t σ H Q) : ∀ σ H Q, rT c W D n e σ H Q → tTest t σ H Q := fun σ H Q q => h σ H _ (rd_test σ H Q q)
theorem rT_ite {d a b : E} : ∀ σ H Q, rT c W D n (.ite d a b) σ H Q → tB (tIf (rT c W D n d) (rE c W D n a) (rE c W D n b)) σ H Q := fun σ H Q q => rd_ite σ H _ (rd_test σ H Q q)
/-- a comparison as a test -/
theorem prim_test (g : Good c W D Γ n X) {p : Prim} {es : List E} {l r : Expr} {o : CmpOp} {pos : Pos} (h : chkE Γ (.prim p es) (.Compare l [o] [r] pos) = true) (ih : ∀ (k : Nat) (e : E) (y : Expr), es[k]? = some e → chkE Γ e y = true → PE X y (rE c W D n e)) :
    PT X (.Compare l [o] [r] pos) (rT c W D n (.prim p es)) := by
  rw [chkE.eq_def] at h; dsimp only at h
  simp only [Bool.and_eq_true, decide_eq_true_eq] at h
  obtain ⟨a, b, rfl, _, _, h1, h2⟩ := chk2 h.2
  obtain ⟨r, q1, q2⟩ := cmp_ok g h.1.1
  exact PT.wk (pt_cmpR q1 (ih 0 _ _ rfl h1) (ih 1 _ _ rfl h2) (behind_ok h.1.2)) (rd_tTest (X := X) (rd_bin q2))
theorem lastM {o1 o2 : CmpOp} {b d : Expr} (h1 : noSet d = true) : lastMarks [o1, o2] [b, d] = false := by
  show behindInMarks o2 d = false
  exact behind_ok h1
theorem prim_testA (g : Good c W D Γ n X) {p : Prim} {es : List E} {x : Expr} (h : chkE Γ (.prim p es) x = true) (ih : ∀ (k : Nat) (e : E) (y : Expr), es[k]? = some e → chkE Γ e y = true → PE X y (rE c W D n e)) (ihA : ∀ ys, chkEs Γ es ys = true → PA X ys (rA c W D n es)) :
    PT X x (rT c W D n (.prim p es)) := by
  by_cases ht : isTest x = true
  · exact pt_plain (prim_ok g h ih ihA) ht
  · have h' := h
    rw [chkE.eq_def] at h'; dsimp only at h'
    split at h' <;> first | exact absurd rfl ht | exact prim_test g h ih | cases h'
theorem pt_iteC {X : Cx} {x y z : Expr} {pos : Pos} {d a b : E} (hd : PT X x (rT c W D n d)) (ha : PT X y (rT c W D n a)) (hb : PT X z (rT c W D n b)) : PT X (.IfExp x y z pos) (rT c W D n (.ite d a b)) := by
  refine ⟨fun pins s σ H Q I h => ?_⟩
  show wpAny _ _ (do if ← isTrue x X.env (eval x X.env) then isTrue y X.env (eval y X.env) else isTrue z X.env (eval z X.env)) _ _ _
  obtain ⟨F, env, stk, ws, A, v, fr, env', h, k⟩ := h
  rw [ev] at h
  obtain ⟨⟨o1, e1⟩, h1, h⟩ := R.bind_ok h
  obtain ⟨w, h2, h⟩ := R.bind_ok h
  refine wpAny_bind (thn (hd.run pins s σ H _ I (rdT_of A h1 h2 (Q := fun b H1 => b = w ∧ At c F e1 stk σ ws H1) fun H1 A1 => ⟨rfl, A1⟩)) fun b s1 ⟨H1, I1, e, A1⟩ => ?_)
  subst e
  cases b with
  | true =>
    rw [if_pos rfl] at h ⊢
    exact ha.run pins s1 σ H1 _ I1 ⟨F, e1, stk, ws, A1, v, fr, env', h, k⟩
  | false =>
    rw [if_neg Bool.false_ne_true] at h ⊢
    exact hb.run pins s1 σ H1 _ I1 ⟨F, e1, stk, ws, A1, v, fr, env', h, k⟩
theorem noSet_ok {it : Expr} {env : Env} (h : noSet it = true) : ∀ x, foldedSetIterable it env x = pure x := by
  intro x
  cases it <;> first | rfl | cases h
mutual
theorem sndE : ∀ (e : E) (x : Expr) (Γ : Gm) (X : Cx), Good c W D Γ n X → chkE Γ e x = true → PE X x (rE c W D n e)
  | .cst t, x, Γ, X, g, h => by
    rw [chkE.eq_def] at h; dsimp only at h
    split at h
    · exact cst_const h
    · simp only [Bool.and_eq_true] at h
      obtain ⟨⟨h1, h2⟩, h3⟩ := h
      split at h3
      · rename_i hG
        have e := T.beq_eq h3
        subst e
        obtain ⟨u, v, m1, m2, m3⟩ := g.glob _ _ hG
        exact PE.wk (pe_glob (g.gl h1) m1 m2 (plainName_ok h2).1) (rd_cst fun H Av => m3 H Av)
      · cases h3
    · cases h
  | .var i, x, Γ, X, g, h => by
    rw [chkE.eq_def] at h; dsimp only at h
    split at h
    · exact PE.wk (g.rd h) rd_var
    · cases h
  | .mv i, x, Γ, X, g, h => by
    rw [chkE.eq_def] at h; dsimp only at h
    split at h
    · exact PE.wk (g.rd h) rd_mv
    · cases h
  | .peek i, x, Γ, X, g, h => by
    rw [chkE.eq_def] at h; dsimp only at h
    split at h
    · exact PE.wk (g.rd h) (rd_peek (.inl rfl))
    · cases h
  | .io i, x, Γ, X, g, h => by
    rw [chkE.eq_def] at h; dsimp only at h
    split at h
    · exact PE.wk (g.rd h) (rd_peek (.inr rfl))
    · cases h
  | .tup es, x, Γ, X, g, h => by
    rw [chkE.eq_def] at h; dsimp only at h
    split at h
    · exact PE.wk (pe_tup (sndA es _ Γ X g h)) rd_tup
    · cases h
  | .lst es, x, Γ, X, g, h => by
    rw [chkE.eq_def] at h; dsimp only at h
    split at h
    · exact PE.wk (pe_lst (sndA es _ Γ X g h)) rd_lst
    · cases h
  | .prim p es, x, Γ, X, g, h => prim_ok g h (fun k e y hk hy => sndI1 es k e y Γ X g hk hy) (fun ys hy => sndA es ys Γ X g hy)
  | .and a b, x, Γ, X, g, h => by
    rw [chkE.eq_def] at h; dsimp only at h
    split at h
    · rename_i y z rest pos
      rw [Bool.and_eq_true] at h
      split at h
      · exact PE.wk (pe_and (sndE a y Γ X g h.1) (pe_one (sndE b z Γ X g h.2))) rd_and
      · exact PE.wk (pe_and (sndE a y Γ X g h.1) (sndE b _ Γ X g h.2)) rd_and
    · cases h
  | .or a b, x, Γ, X, g, h => by
    rw [chkE.eq_def] at h; dsimp only at h
    split at h
    · rename_i y z rest pos
      rw [Bool.and_eq_true] at h
      split at h
      · exact PE.wk (pe_or (sndE a y Γ X g h.1) (pe_one (sndE b z Γ X g h.2))) rd_or
      · exact PE.wk (pe_or (sndE a y Γ X g h.1) (sndE b _ Γ X g h.2)) rd_or
    · cases h
  | .not a, x, Γ, X, g, h => by
    rw [chkE.eq_def] at h; dsimp only at h
    split at h
    · exact PE.wk (pe_not (sndE a _ Γ X g h)) rd_not
    · cases h
  | .ite d a b, x, Γ, X, g, h => by
    rw [chkE.eq_def] at h; dsimp only at h
    split at h
    · simp only [Bool.and_eq_true] at h
      exact PE.wk (pe_ifExp (sndT d _ Γ X g h.1.1) (sndE a _ Γ X g h.1.2) (sndE b _ Γ X g h.2)) rd_ite
    · cases h
  | .chain o1 o2 a b d, x, Γ, X, g, h => by
    rw [chkE.eq_def] at h; dsimp only at h
    split at h
    · simp only [Bool.and_eq_true, decide_eq_true_eq] at h
      obtain ⟨⟨⟨⟨⟨⟨h1, h2⟩, h3⟩, h4⟩, h5⟩, h6⟩, h7⟩ := h
      obtain ⟨r1, p1, p2, p3⟩ := ord_ok g h1
      obtain ⟨r2, q1, q2, q3⟩ := ord_ok g h2
      exact PE.wk (pe_chain p1 q1 (sndE a _ Γ X g h5) (sndE b _ Γ X g h6) (sndE d _ Γ X g h7) (lastM h4)) (rd_chain p2 q2 q3)
    · cases h
  | .call f es, x, Γ, X, g, h => by
    rw [chkE.eq_def] at h; dsimp only at h
    split at h
    · rename_i gn p0 xs pos
      simp only [Bool.and_eq_true] at h
      obtain ⟨⟨⟨h1, h2⟩, h3⟩, h4⟩ := h
      split at h4
      · rename_i i np io hG
        simp only [Bool.and_eq_true, beq_iff_eq, decide_eq_true_eq] at h4
        obtain ⟨⟨⟨rfl, h5⟩, h6⟩, h7⟩ := h4
        obtain ⟨fa, fd, ps, m1, m2, m3, m4⟩ := g.glob _ _ hG
        cases xs with
        | nil => cases h3
        | cons x xs =>
          have st := chkEs_star h7
          rw [List.all_cons, Bool.and_eq_true] at st
          exact PE.wk (pe_call m4 g.room (g.gl h1) m1 m2 m3 .nil pass0 (sndA es _ Γ X g h7) (plainName_ok h2).1 (star_cons st.1) (star_any st.2)) (rd_fncall (E0 := E0) h5 h6)
      · cases h4
    · cases h
  | .comp own p k es cond elt, x, Γ, X, g, h => by
    rw [chkE.eq_def] at h; dsimp only at h
    split at h
    · rename_i elt' tg it ifs scope pos
      simp only [Bool.and_eq_true] at h
      obtain ⟨⟨⟨⟨⟨⟨h1, h2⟩, h3⟩, h4⟩, h5⟩, h6⟩, h7⟩ := h
      obtain ⟨bo, nd, hi, gb⟩ := g.blk h3
      split at h4
      · rename_i xs hit
        have pi := sndI g hit (chkEs_star h4) (sndA es xs Γ X g h4) (fun e he hx => by subst hx; exact sndI1 es 0 e it Γ X g (by rw [he]; rfl) (by subst he; rw [chkEs, Bool.and_eq_true, Bool.and_eq_true] at h4; exact h4.1.2)) (chkEs_len h4)
        have pts : ∀ (s : Shared) (H : Hp) (C : Addr) (cl : List (Str × Addr)) (fp : List Addr), PTs (X.blk s H scope (compEnvC scope cl C X.env) fp) ifs (tOf c (fnS W D n) badF cond) := fun s H C cl fp => by
          split at h6
          · cases cond with
            | none => exact pts_nil
            | some e => rw [chkO.eq_def] at h6; cases h6
          · rename_i y
            cases cond with
            | none => rw [chkO.eq_def] at h6; cases h6
            | some e => exact pts_one (sndO (some e) y (Γ.blk scope) _ (gb s H C cl fp) h6 e rfl)
          · cases h6
        refine PE.wkI (pe_lc (wi := rdI c (fnS W D n) badF k es) (g := rdG c p) (tt := tOf c (fnS W D n) badF cond) (te := rE c W D n elt) (own := ownOf Γ own) g.calm g.nd pi bo (fun s H C cl fp => sndP (gb s H C cl fp) p tg h5) pts (fun s H C cl fp => sndE elt elt' (Γ.blk scope) _ (gb s H C cl fp) h7) (noSet_ok h1)) fun σ H Q hl q => ?_
        rw [ownOf_snd]
        exact rd_comp nd (all_mem h2) σ H Q (fun i hi' => by rw [hl]; exact hi i hi') q
      · cases h4
    · cases h
  | .comp2 own p k es p2 k2 es2 own2 cond elt, x, Γ, X, g, h => by
    rw [chkE.eq_def] at h; dsimp only at h
    split at h
    · rename_i elt' tg it tg1 it1 ifs scope pos
      simp only [Bool.and_eq_true] at h
      obtain ⟨⟨⟨⟨⟨⟨⟨⟨⟨⟨⟨⟨h1, h1b⟩, h2⟩, h2b⟩, h3⟩, h3b⟩, h3c⟩, h4⟩, h5⟩, h4b⟩, h5b⟩, h6⟩, h7⟩ := h
      obtain ⟨bo, nd, hi, gb⟩ := g.blk h3
      split at h4
      · rename_i xs hit
        split at h4b
        · rename_i xs1 hit1
          have pi := sndI g hit (chkEs_star h4) (sndA es xs Γ X g h4) (fun e he hx => by subst hx; exact sndI1 es 0 e it Γ X g (by rw [he]; rfl) (by subst he; rw [chkEs, Bool.and_eq_true, Bool.and_eq_true] at h4; exact h4.1.2)) (chkEs_len h4)
          have pi1 : ∀ (s : Shared) (H : Hp) (C : Addr) (cl : List (Str × Addr)) (fp : List Addr), PI (X.blk s H scope (compEnvC scope cl C X.env) fp) tg1 it1 (rdI c (fnS W D n) badF k2 es2) := fun s H C cl fp =>
            sndI (gb s H C cl fp) hit1 (chkEs_star h4b) (sndA es2 xs1 (Γ.blk scope) _ (gb s H C cl fp) h4b) (fun e he hx => by subst hx; exact sndI1 es2 0 e it1 (Γ.blk scope) _ (gb s H C cl fp) (by rw [he]; rfl) (by subst he; rw [chkEs, Bool.and_eq_true, Bool.and_eq_true] at h4b; exact h4b.1.2)) (chkEs_len h4b)
          have pts : ∀ (s : Shared) (H : Hp) (C : Addr) (cl : List (Str × Addr)) (fp : List Addr), PTs (X.blk s H scope (compEnvC scope cl C X.env) fp) ifs (tOf c (fnS W D n) badF cond) := fun s H C cl fp => by
            split at h6
            · cases cond with
              | none => exact pts_nil
              | some e => rw [chkO.eq_def] at h6; cases h6
            · rename_i y
              cases cond with
              | none => rw [chkO.eq_def] at h6; cases h6
              | some e => exact pts_one (sndO (some e) y (Γ.blk scope) _ (gb s H C cl fp) h6 e rfl)
            · cases h6
          refine PE.wkI (pe_lc2 (wi := rdI c (fnS W D n) badF k es) (wi1 := rdI c (fnS W D n) badF k2 es2) (g := rdG c p) (g1 := rdG c p2) (tt := tYes) (tt1 := tOf c (fnS W D n) badF cond) (te := rE c W D n elt) (own := ownOf Γ own) (vs1 := own2) g.calm g.nd pi bo (fun i hi => by rw [ownOf_snd]; exact all_mem h3b i hi) (fun s H C cl fp => sndP (gb s H C cl fp) p tg h5) (fun s H C cl fp => pts_nil) pi1 (fun s H C cl fp => sndP (gb s H C cl fp) p2 tg1 h5b) pts (fun s H C cl fp => sndE elt elt' (Γ.blk scope) _ (gb s H C cl fp) h7) (noSet_ok h1) (fun env => noSet_ok h1b)) fun σ H Q hl q => ?_
          rw [ownOf_snd]
          exact rd_comp2 nd (all_mem h2) (all_mem h2b) (all_mem h3b) σ H Q (fun i hi' => by rw [hl]; exact hi i hi') q
        · cases h4b
      · cases h4
    · cases h
  | .mk _ _, x, Γ, X, g, h => by rw [chkE.eq_def] at h; cases h
  | .fld _ _, x, Γ, X, g, h => by rw [chkE.eq_def] at h; cases h
  | .pop _, x, Γ, X, g, h => by rw [chkE.eq_def] at h; cases h
  | .popAt _ _, x, Γ, X, g, h => by rw [chkE.eq_def] at h; cases h
  | .dcomp _ _ _ _ _ _, x, Γ, X, g, h => by rw [chkE.eq_def] at h; cases h
  | .dct _, x, Γ, X, g, h => by rw [chkE.eq_def] at h; cases h
theorem sndA : ∀ (es : List E) (xs : List Expr) (Γ : Gm) (X : Cx), Good c W D Γ n X → chkEs Γ es xs = true → PA X xs (rA c W D n es)
  | [], [], Γ, X, g, h => PA.wk pa_nil rd_args_nil
  | [], x :: xs, Γ, X, g, h => by rw [chkEs] at h; cases h
  | e :: es, [], Γ, X, g, h => by rw [chkEs] at h; cases h
  | e :: es, x :: xs, Γ, X, g, h => by
    rw [chkEs, Bool.and_eq_true, Bool.and_eq_true] at h
    exact PA.wk (pa_cons (sndE e x Γ X g h.1.2) (sndA es xs Γ X g h.2) (star_cons h.1.1)) rd_args_cons
theorem sndI1 : ∀ (es : List E) (k : Nat) (e : E) (y : Expr) (Γ : Gm) (X : Cx), Good c W D Γ n X → es[k]? = some e → chkE Γ e y = true → PE X y (rE c W D n e)
  | [], k, e, y, Γ, X, g, hk, h => by simp at hk
  | e0 :: es, 0, e, y, Γ, X, g, hk, h => by
    simp only [List.getElem?_cons_zero, Option.some.injEq] at hk
    subst hk
    exact sndE e0 y Γ X g h
  | e0 :: es, k + 1, e, y, Γ, X, g, hk, h => sndI1 es k e y Γ X g (by simpa using hk) h
theorem sndO : ∀ (o : Option E) (y : Expr) (Γ : Gm) (X : Cx), Good c W D Γ n X → chkO Γ o (some y) = true → ∀ e, o = some e → PT X y (rT c W D n e)
  | none, y, Γ, X, g, h, e, he => by cases he
  | some e0, y, Γ, X, g, h, e, he => by
    rw [chkO.eq_def] at h
    cases he
    exact sndT e0 y Γ X g h
/-- a test -/
theorem sndT : ∀ (e : E) (x : Expr) (Γ : Gm) (X : Cx), Good c W D Γ n X → chkE Γ e x = true → PT X x (rT c W D n e)
  | .and a b, x, Γ, X, g, h => by
    rw [chkE.eq_def] at h; dsimp only at h
    split at h
    · rename_i y z rest pos
      rw [Bool.and_eq_true] at h
      split at h
      · exact (pw_andC (sndT a y Γ X g h.1) (pw_and1 (sndT b z Γ X g h.2))).pt
      · exact (pw_andC (sndT a y Γ X g h.1) (sndW b _ _ _ Γ X g h.2)).pt
    · cases h
  | .or a b, x, Γ, X, g, h => by
    rw [chkE.eq_def] at h; dsimp only at h
    split at h
    · rename_i y z rest pos
      rw [Bool.and_eq_true] at h
      split at h
      · exact (pw_orC (sndT a y Γ X g h.1) (pw_or1 (sndT b z Γ X g h.2))).pt
      · exact (pw_orC (sndT a y Γ X g h.1) (sndW b _ _ _ Γ X g h.2)).pt
    · cases h
  | .not a, x, Γ, X, g, h => by
    rw [chkE.eq_def] at h; dsimp only at h
    split at h
    · exact PT.wk (pt_not (sndT a _ Γ X g h)) rd_notT
    · cases h
  | .chain o1 o2 a b d, x, Γ, X, g, h => by
    rw [chkE.eq_def] at h; dsimp only at h
    split at h
    · simp only [Bool.and_eq_true, decide_eq_true_eq] at h
      obtain ⟨⟨⟨⟨⟨⟨h1, h2⟩, h3⟩, h4⟩, h5⟩, h6⟩, h7⟩ := h
      obtain ⟨r1, p1, p2, p3⟩ := ord_ok g h1
      obtain ⟨r2, q1, q2, q3⟩ := ord_ok g h2
      exact PT.wk (pt_chain p1 q1 (sndE a _ Γ X g h5) (sndE b _ Γ X g h6) (sndE d _ Γ X g h7) (lastM h4)) (rd_tTest (X := X) (rd_chain p2 q2 q3))
    · cases h
  | .ite d a b, x, Γ, X, g, h => by
    rw [chkE.eq_def] at h; dsimp only at h
    split at h
    · simp only [Bool.and_eq_true] at h
      exact pt_iteC (sndT d _ Γ X g h.1.1) (sndT a _ Γ X g h.1.2) (sndT b _ Γ X g h.2)
    · cases h
  | .prim p es, x, Γ, X, g, h => prim_testA g h (fun k e y hk hy => sndI1 es k e y Γ X g hk hy) (fun ys hy => sndA es ys Γ X g hy)
  | .cst t, x, Γ, X, g, h => pt_plain (sndE (.cst t) x Γ X g h) (by
    rw [chkE.eq_def] at h; dsimp only at h
    split at h <;> first | rfl | cases h)
  | .var i, x, Γ, X, g, h => pt_plain (sndE (.var i) x Γ X g h) (by
    rw [chkE.eq_def] at h; dsimp only at h
    split at h <;> first | rfl | cases h)
  | .mv i, x, Γ, X, g, h => pt_plain (sndE (.mv i) x Γ X g h) (by
    rw [chkE.eq_def] at h; dsimp only at h
    split at h <;> first | rfl | cases h)
  | .peek i, x, Γ, X, g, h => pt_plain (sndE (.peek i) x Γ X g h) (by
    rw [chkE.eq_def] at h; dsimp only at h
    split at h <;> first | rfl | cases h)
  | .io i, x, Γ, X, g, h => pt_plain (sndE (.io i) x Γ X g h) (by
    rw [chkE.eq_def] at h; dsimp only at h
    split at h <;> first | rfl | cases h)
  | .tup es, x, Γ, X, g, h => pt_plain (sndE (.tup es) x Γ X g h) (by
    rw [chkE.eq_def] at h; dsimp only at h
    split at h <;> first | rfl | cases h)
  | .lst es, x, Γ, X, g, h => pt_plain (sndE (.lst es) x Γ X g h) (by
    rw [chkE.eq_def] at h; dsimp only at h
    split at h <;> first | rfl | cases h)
  | .call f es, x, Γ, X, g, h => pt_plain (sndE (.call f es) x Γ X g h) (by
    rw [chkE.eq_def] at h; dsimp only at h
    split at h <;> first | rfl | cases h)
  | .comp own p k es cond elt, x, Γ, X, g, h => pt_plain (sndE (.comp own p k es cond elt) x Γ X g h) (by
    rw [chkE.eq_def] at h; dsimp only at h
    split at h <;> first | rfl | cases h)
  | .comp2 own p k es p2 k2 es2 own2 cond elt, x, Γ, X, g, h => pt_plain (sndE (.comp2 own p k es p2 k2 es2 own2 cond elt) x Γ X g h) (by
    rw [chkE.eq_def] at h; dsimp only at h
    split at h <;> first | rfl | cases h)
  | .mk _ _, x, Γ, X, g, h => by rw [chkE.eq_def] at h; cases h
  | .fld _ _, x, Γ, X, g, h => by rw [chkE.eq_def] at h; cases h
  | .pop _, x, Γ, X, g, h => by rw [chkE.eq_def] at h; cases h
  | .popAt _ _, x, Γ, X, g, h => by rw [chkE.eq_def] at h; cases h
  | .dcomp _ _ _ _ _ _, x, Γ, X, g, h => by rw [chkE.eq_def] at h; cases h
  | .dct _, x, Γ, X, g, h => by rw [chkE.eq_def] at h; cases h
theorem sndW : ∀ (e : E) (op : BoolOp) (ys : List Expr) (pos : Pos) (Γ : Gm) (X : Cx), Good c W D Γ n X → chkE Γ e (.BoolOp op ys pos) = true → PW X (.BoolOp op ys pos) (rT c W D n e)
  | .and a b, op, ys, pos, Γ, X, g, h => by
    rw [chkE.eq_def] at h; dsimp only at h
    split at h
    · rename_i y z rest pos he
      cases he
      rw [Bool.and_eq_true] at h
      split at h
      · exact pw_andC (sndT a y Γ X g h.1) (pw_and1 (sndT b z Γ X g h.2))
      · exact pw_andC (sndT a y Γ X g h.1) (sndW b _ _ _ Γ X g h.2)
    · cases h
  | .or a b, op, ys, pos, Γ, X, g, h => by
    rw [chkE.eq_def] at h; dsimp only at h
    split at h
    · rename_i y z rest pos he
      cases he
      rw [Bool.and_eq_true] at h
      split at h
      · exact pw_orC (sndT a y Γ X g h.1) (pw_or1 (sndT b z Γ X g h.2))
      · exact pw_orC (sndT a y Γ X g h.1) (sndW b _ _ _ Γ X g h.2)
    · cases h
  | .cst t, op, ys, pos, Γ, X, g, h => by
    rw [chkE.eq_def] at h; cases h
  | .var i, op, ys, pos, Γ, X, g, h => by
    rw [chkE.eq_def] at h; cases h
  | .mv i, op, ys, pos, Γ, X, g, h => by
    rw [chkE.eq_def] at h; cases h
  | .peek i, op, ys, pos, Γ, X, g, h => by
    rw [chkE.eq_def] at h; cases h
  | .io i, op, ys, pos, Γ, X, g, h => by
    rw [chkE.eq_def] at h; cases h
  | .tup es, op, ys, pos, Γ, X, g, h => by
    rw [chkE.eq_def] at h; cases h
  | .lst es, op, ys, pos, Γ, X, g, h => by
    rw [chkE.eq_def] at h; cases h
  | .prim p es, op, ys, pos, Γ, X, g, h => by
    rw [chkE.eq_def] at h; cases h
  | .not a, op, ys, pos, Γ, X, g, h => by
    rw [chkE.eq_def] at h; cases h
  | .ite d a b, op, ys, pos, Γ, X, g, h => by
    rw [chkE.eq_def] at h; cases h
  | .chain o1 o2 a b d, op, ys, pos, Γ, X, g, h => by
    rw [chkE.eq_def] at h; cases h
  | .call f es, op, ys, pos, Γ, X, g, h => by
    rw [chkE.eq_def] at h; cases h
  | .comp own p k es cond elt, op, ys, pos, Γ, X, g, h => by
    rw [chkE.eq_def] at h; cases h
  | .comp2 own p k es p2 k2 es2 own2 cond elt, op, ys, pos, Γ, X, g, h => by
    rw [chkE.eq_def] at h; cases h
  | .mk _ _, op, ys, pos, Γ, X, g, h => by
    rw [chkE.eq_def] at h; cases h
  | .fld _ _, op, ys, pos, Γ, X, g, h => by
    rw [chkE.eq_def] at h; cases h
  | .pop _, op, ys, pos, Γ, X, g, h => by
    rw [chkE.eq_def] at h; cases h
  | .popAt _ _, op, ys, pos, Γ, X, g, h => by
    rw [chkE.eq_def] at h; cases h
  | .dcomp _ _ _ _ _ _, op, ys, pos, Γ, X, g, h => by
    rw [chkE.eq_def] at h; cases h
  | .dct _, op, ys, pos, Γ, X, g, h => by
    rw [chkE.eq_def] at h; cases h
end
end
end DD
/-! DStm2: the check of statements; what is written to slots. -/
namespace DD
open PySem L2
def isComp : E → Bool
  | .comp _ _ _ _ _ _ => true
  | .comp2 _ _ _ _ _ _ _ _ _ _ => true
  | _ => false
/-- does a comprehension's value go to the name by the swapped road? -/
def swapsB (Γ : Gm) (e : Expr) (t : Str) (pos : Pos) : Option Bool := match e with
  | .ListComp _ _ s p => some (Γ.lcl t && pos.line == p.line && !(s.names.any fun (n, k) => n == t && (k == .local || k == .cell)))
  | .SetComp _ _ _ _ => none
  | .DictComp _ _ _ _ _ => none
  | _ => some false
/-- no comprehension at all -/
def noComp : Expr → Bool
  | .ListComp _ _ _ _ => false
  | .SetComp _ _ _ _ => false
  | .DictComp _ _ _ _ _ => false
  | _ => true
def noTup : Expr → Bool
  | .Tuple _ _ _ => false
  | _ => true
def swapOk (vs : List Expr) : Bool := vs.all noStar && !vs.all (foldedForSure 8) && !vs.all (constantsAlone 8)
mutual
def chkS (Γ : Gm) : S → Stmt → Bool
  | .set i e, x => match x with
    | .Assign [.Name f p] y _ => Γ.at_ i f && Γ.st f && chkE Γ e y && (match swapsB Γ y f p with
      | some true => isComp e
      | some false => true
      | none => false)
    | _ => false
  | .asg g e, x => match x with
    | .Assign [.Tuple ts j p] y _ => chkP Γ g (.Tuple ts j p) && chkE Γ e y && noTup y
    | _ => false
  | .par gs es, x => match x with
    | .Assign [.Tuple [.Name a p1, .Name b p2] _ _] (.Tuple ys _ _) _ => (match gs with
      | [.s i, .s j] => Γ.at_ i a && Γ.at_ j b && Γ.lcl a && Γ.lcl b && !(a == b) && decide (i ≠ j) && p2.line == p1.line && decide (ys.length = 2) && swapOk ys && chkEs Γ es ys
      | _ => false)
    | .Assign [.Tuple [.Name a p1, .Name b p2, .Name d p3] _ _] (.Tuple ys _ _) _ => (match gs with
      | [.s i, .s j, .s k] => Γ.at_ i a && Γ.at_ j b && Γ.at_ k d && Γ.lcl a && Γ.lcl b && Γ.lcl d && !(a == b) && !(a == d) && !(b == d) && decide (i ≠ j) && decide (i ≠ k) && decide (j ≠ k) && p2.line == p1.line && p3.line == p1.line && decide (ys.length = 3) && swapOk ys && chkEs Γ es ys
      | _ => false)
    | _ => false
  | .setIx i ix e, x => match x with
    | .Assign [.Subscript (.Name f _) j _] y _ => plainIxE j && Γ.rd i f && chkE Γ ix j && chkE Γ e y
    | _ => false
  | .aug _ _ _, _ => false
  | .augIx _ _ _ _, _ => false
  | .expr e, x => match x with
    | .Expr y _ => noComp y && chkE Γ e y
    | _ => false
  | .app i e, x => match x with
    | .Expr (.Call (.Attribute (.Name f _) m ap) [y] [] cp) _ => Γ.rd i f && m == ("append" : Str) && (ap.endLine == cp.line) && noStar y && chkE Γ e y
    | _ => false
  | .ext i e, x => match x with
    | .Expr (.Call (.Attribute (.Name f _) m ap) [y] [] cp) _ => Γ.rd i f && m == ("extend" : Str) && (ap.endLine == cp.line) && noStar y && chkE Γ e y
    | _ => false
  | .ret e, x => match x with
    | .Return (some y) _ => chkE Γ e y
    | _ => false
  | .retN, x => match x with
    | .Return none _ => true
    | _ => false
  | .ite c a b, x => match x with
    | .If y as bs _ => chkE Γ c y && chkSs Γ a as && chkSs Γ b bs
    | _ => false
  | .forr g k es body, x => match x with
    | .For tg it bs [] _ => noSet it && chkP Γ g tg && (match iterArgs Γ k tg it with
      | some xs => chkEs Γ es xs
      | none => false) && chkSs Γ body bs
    | _ => false
  | .whil c body, x => match x with
    | .While y bs [] _ => chkE Γ c y && chkSs Γ body bs
    | _ => false
  | .brk, x => match x with
    | .Break _ => true
    | _ => false
  | .cont, x => match x with
    | .Continue _ => true
    | _ => false
  | .pass, x => match x with
    | .Pass _ => true
    | _ => false
  | .raise, x => match x with
    | .Raise _ _ _ => true
    | _ => false
def chkSs (Γ : Gm) : List S → List Stmt → Bool
  | [], xs => xs.isEmpty
  | s :: ss, xs => match xs with
    | x :: xs => chkS Γ s x && chkSs Γ ss xs
    | [] => false
end

section
variable {c : Cn} {W : Nat} {D : Nat → Option Df} {Γ : Gm} {n : Nat} {X : Cx} {F : Fr} {env stk : En} {σ : St} {ws : List (Option V)} {H : Hp} {Φ Ψ : Nat → Fn}
/-- an owned or lent slot -/
theorem At.cell (A : At c F env stk σ ws H) {i : Nat} {t : T} {m : Md} (hi : getS env i = some ⟨t, m⟩) (hm : m ≠ .sh) : ∃ a O, σ[i]? = some (some (.ref a)) ∧ O a = some i ∧ SimO c F O (env ++ stk) (σ ++ ws) H ∧ CellOk c H (F.av O) t a := by
  obtain ⟨O, S⟩ := A.sim
  have h1 := getS_some hi
  have hl : i < env.length := (List.getElem?_eq_some_iff.mp h1).1
  obtain ⟨v, q1, q2⟩ := S.ent i _ (by rw [List.getElem?_append_left hl]; exact h1)
  rw [List.getElem?_append_left (by rw [← A.hl]; exact hl)] at q1
  cases m with
  | sh => exact absurd rfl hm
  | own => obtain ⟨a, rfl, z2, z3, z5⟩ := q2; exact ⟨a, O, q1, z2, S, z5⟩
  | io => obtain ⟨a, rfl, z2, z3, z5⟩ := q2; exact ⟨a, O, q1, z2, S, z5⟩
/-- a cell is written: what stood elsewhere stands -/
theorem At.mut {O : Addr → Option Nat} (S : SimO c F O (env ++ stk) (σ ++ ws) H) (hl : env.length = σ.length) (hw : stk.length = ws.length) {i : Nat} {t t' : T} {m : Md} {a : Addr} {o ob : HO} (hi : getS env i = some ⟨t, m⟩) (hm : m ≠ .sh) (hv : σ[i]? = some (some (.ref a))) (hO : O a = some i) (hH : H a = some o) (mo : MutO o)
    (k : Kp (F.av O) H (upd H a ob) → CellOk c (upd H a ob) (F.av O) t' a) : At c F (env.set i (some ⟨t', m⟩)) stk σ ws (upd H a ob) := by
  have h1 := getS_some hi
  have hil : i < env.length := (List.getElem?_eq_some_iff.mp h1).1
  have kp : Kp (F.av O) H (upd H a ob) := fun b u e q => by
    by_cases z : b = a
    · subst z
      rcases q with q | q
      · exact absurd (.inr (by rw [hO]; rfl)) q
      · rw [hH] at e; cases e; exact absurd mo q
    · rw [upd_ne z]; exact e
  refine ⟨by simpa using hl, hw, O, ?_⟩
  have := S.put (i := i) (t := t) (t' := t') (m := m) (a := a) (by rw [List.getElem?_append_left hil]; exact h1) hm (by rw [List.getElem?_append_left (by omega)]; exact hv) (H' := upd H a ob) (fun b u n e => by rw [upd_ne n]; exact e) (k kp)
  rw [List.set_append_left _ _ hil] at this
  exact this
theorem RepL.kp {H' : Hp} {Av : Addr → Prop} (k : Kp Av H H') {ts : List T} {vs : List V} (r : RepL c H Av ts vs) : RepL c H' Av ts vs := RepL.mono k (fun _ _ _ z => z) _ _ r
theorem Rep.kp {H' : Hp} {Av : Addr → Prop} (k : Kp Av H H') {t : T} {v : V} (r : Rep c H Av t v) : Rep c H' Av t v := Rep.mono k (fun _ _ _ z => z) _ _ r
/-- slot i is a list that ends with the top of the stack -/
theorem At.append {i : Nat} {xs : List T} {m : Md} {t : T} {fr : Bool} {y : V} (A : At c F env (stk ++ [(OV.v t fr).sl]) σ (ws ++ [some y]) H) (hw : stk.length = ws.length) (hi : getS env i = some ⟨.lst xs, m⟩) (hm : m ≠ .sh) :
    ∃ a vs, σ[i]? = some (some (.ref a)) ∧ H a = some (.lst vs) ∧ vs.length = xs.length ∧ At c F (env.set i (some ⟨.lst (xs ++ [t]), m⟩)) stk σ ws (upd H a (.lst (vs ++ [y]))) := by
  obtain ⟨O, S, r⟩ := At.freeze (os := [.v t fr]) (vs := [y]) (ts := [t]) A hw rfl rfl
  obtain ⟨y', e, r1⟩ := r.one
  cases e
  obtain ⟨v, q1, q2⟩ := S.ent i ⟨.lst xs, m⟩ (by rw [List.getElem?_append_left (List.getElem?_eq_some_iff.mp (getS_some hi)).1]; exact getS_some hi)
  have hil : i < env.length := (List.getElem?_eq_some_iff.mp (getS_some hi)).1
  have hl := A.hl
  rw [List.getElem?_append_left (by omega)] at q1
  obtain ⟨a, rfl, hO, vs, hH, hr⟩ : ∃ a, v = .ref a ∧ O a = some i ∧ CellOk c H (F.av O) (.lst xs) a := by
    cases m with
    | sh => exact absurd rfl hm
    | own => obtain ⟨a, z1, z2, z3, z5⟩ := q2; exact ⟨a, z1, z2, z5⟩
    | io => obtain ⟨a, z1, z2, z3, z5⟩ := q2; exact ⟨a, z1, z2, z5⟩
  exact ⟨a, vs, q1, hH, hr.length.symm, At.mut S hl hw hi hm q1 hO hH trivial fun kp => ⟨_, upd_same, (hr.kp kp).append (RepL.cons (r1.kp kp) RepL.nil)⟩⟩
/-- slot i, a list, with the top of the stack at place j -/
theorem At.setAt {i j : Nat} {xs : List T} {m : Md} {t : T} {fr : Bool} {y : V} (A : At c F env (stk ++ [(OV.v t fr).sl]) σ (ws ++ [some y]) H) (hw : stk.length = ws.length) (hi : getS env i = some ⟨.lst xs, m⟩) (hm : m ≠ .sh) :
    ∃ a vs, σ[i]? = some (some (.ref a)) ∧ H a = some (.lst vs) ∧ vs.length = xs.length ∧ At c F (env.set i (some ⟨.lst (xs.set j t), m⟩)) stk σ ws (upd H a (.lst (vs.set j y))) := by
  obtain ⟨O, S, r⟩ := At.freeze (os := [.v t fr]) (vs := [y]) (ts := [t]) A hw rfl rfl
  obtain ⟨y', e, r1⟩ := r.one
  cases e
  obtain ⟨v, q1, q2⟩ := S.ent i ⟨.lst xs, m⟩ (by rw [List.getElem?_append_left (List.getElem?_eq_some_iff.mp (getS_some hi)).1]; exact getS_some hi)
  have hil : i < env.length := (List.getElem?_eq_some_iff.mp (getS_some hi)).1
  have hl := A.hl
  rw [List.getElem?_append_left (by omega)] at q1
  obtain ⟨a, rfl, hO, vs, hH, hr⟩ : ∃ a, v = .ref a ∧ O a = some i ∧ CellOk c H (F.av O) (.lst xs) a := by
    cases m with
    | sh => exact absurd rfl hm
    | own => obtain ⟨a, z1, z2, z3, z5⟩ := q2; exact ⟨a, z1, z2, z5⟩
    | io => obtain ⟨a, z1, z2, z3, z5⟩ := q2; exact ⟨a, z1, z2, z5⟩
  exact ⟨a, vs, q1, hH, hr.length.symm, At.mut S hl hw hi hm q1 hO hH trivial fun kp => ⟨_, upd_same, (hr.kp kp).set j (r1.kp kp)⟩⟩
/-- slot i, a list, with a list's items behind -/
theorem At.extend {i : Nat} {xs us : List T} {m : Md} {fr : Bool} {y : V} (A : At c F env (stk ++ [(OV.v (.lst us) fr).sl]) σ (ws ++ [some y]) H) (hw : stk.length = ws.length) (hi : getS env i = some ⟨.lst xs, m⟩) (hm : m ≠ .sh) :
    ∃ a b vs zs, σ[i]? = some (some (.ref a)) ∧ y = .ref b ∧ H a = some (.lst vs) ∧ H b = some (.lst zs) ∧ vs.length = xs.length ∧ zs.length = us.length ∧ At c F (env.set i (some ⟨.lst (xs ++ us), m⟩)) stk σ ws (upd H a (.lst (vs ++ zs))) := by
  obtain ⟨O, S, r⟩ := At.freeze (os := [.v (.lst us) fr]) (vs := [y]) (ts := [.lst us]) A hw rfl rfl
  obtain ⟨y', e, r1⟩ := r.one
  cases e
  obtain ⟨b, zs, rfl, hb, hz⟩ := r1.lst'
  obtain ⟨v, q1, q2⟩ := S.ent i ⟨.lst xs, m⟩ (by rw [List.getElem?_append_left (List.getElem?_eq_some_iff.mp (getS_some hi)).1]; exact getS_some hi)
  have hil : i < env.length := (List.getElem?_eq_some_iff.mp (getS_some hi)).1
  have hl := A.hl
  rw [List.getElem?_append_left (by omega)] at q1
  obtain ⟨a, rfl, hO, vs, hH, hr⟩ : ∃ a, v = .ref a ∧ O a = some i ∧ CellOk c H (F.av O) (.lst xs) a := by
    cases m with
    | sh => exact absurd rfl hm
    | own => obtain ⟨a, z1, z2, z3, z5⟩ := q2; exact ⟨a, z1, z2, z5⟩
    | io => obtain ⟨a, z1, z2, z3, z5⟩ := q2; exact ⟨a, z1, z2, z5⟩
  exact ⟨a, b, vs, zs, q1, rfl, hH, hb, hr.length.symm, hz.length.symm, At.mut S hl hw hi hm q1 hO hH trivial fun kp => ⟨_, upd_same, (hr.kp kp).append (hz.kp kp)⟩⟩
end
end DD
/-! DSw: stores that are swapped. -/
namespace DD
open PySem L2
theorem star_none {vs : List Expr} (h : vs.all noStar = true) : (vs.any fun | .Starred .. => true | _ => false) = false := by
  induction vs with
  | nil => rfl
  | cons v vs ih =>
    rw [List.all_cons, Bool.and_eq_true] at h
    rw [List.any_cons, ih h.2, Bool.or_false]
    cases v <;> first | rfl | cases h.1
theorem sw2 {env : Env} {x y : Str} {px py pt p2 : Pos} {kt k2 : Nat} {vs : List Expr} (hk : env.scope.kind = .function) (hx : env.scope.names.lookup x = some .local) (hy : env.scope.names.lookup y = some .local) (hl : (py.line == px.line) = true) (hne : (x == y) = false) (hv : vs.length = 2) (ho : swapOk vs = true) :
    swappedStores [.Tuple [.Name x px, .Name y py] kt pt] (.Tuple vs k2 p2) env = pure (some [x, y]) := by
  unfold swapOk at ho
  rw [Bool.and_eq_true, Bool.and_eq_true, Bool.not_eq_true', Bool.not_eq_true'] at ho
  obtain ⟨⟨h1, h2⟩, h3⟩ := ho
  have ky : env.kindOf y = some .local := hy
  have kx : env.kindOf x = some .local := hx
  have hb : env.blockKind = .function := by unfold Env.blockKind; rw [hk]; rfl
  have s := star_none h1
  have hl' : py.line = px.line := by simpa using hl
  have hne2 : (y == x) = false := by
    rw [beq_eq_false_iff_ne] at hne ⊢
    exact fun e => hne e.symm
  unfold swappedStores
  simp only [hb, hv, kx, ky, s, h2, h3, List.filterMap_cons, List.filterMap_nil, List.head?_cons, Option.map_some, Option.getD_some, Expr.pos, hl', List.length_cons, List.length_nil]
  have er : [x, y].eraseDups = [x, y] := by simp [List.eraseDups_cons, hne, hne2]
  simp [er]
  intro e he hm
  have q := List.all_eq_true.mp h1 e he
  cases e <;> first | (exact absurd q Bool.false_ne_true) | cases hm
theorem sw3 {env : Env} {x y z : Str} {px py pz pt p2 : Pos} {kt k2 : Nat} {vs : List Expr} (hk : env.scope.kind = .function) (hx : env.scope.names.lookup x = some .local) (hy : env.scope.names.lookup y = some .local) (hz : env.scope.names.lookup z = some .local) (hl : (py.line == px.line) = true) (hlz : (pz.line == px.line) = true) (hne : (x == y) = false) (hnz : (x == z) = false) (hyz : (y == z) = false) (hv : vs.length = 3) (ho : swapOk vs = true) :
    swappedStores [.Tuple [.Name x px, .Name y py, .Name z pz] kt pt] (.Tuple vs k2 p2) env = pure (some [x, y, z]) := by
  unfold swapOk at ho
  rw [Bool.and_eq_true, Bool.and_eq_true, Bool.not_eq_true', Bool.not_eq_true'] at ho
  obtain ⟨⟨h1, h2⟩, h3⟩ := ho
  have ky : env.kindOf y = some .local := hy
  have kx : env.kindOf x = some .local := hx
  have kz : env.kindOf z = some .local := hz
  have hb : env.blockKind = .function := by unfold Env.blockKind; rw [hk]; rfl
  have s := star_none h1
  have hl' : py.line = px.line := by simpa using hl
  have hlz' : pz.line = px.line := by simpa using hlz
  have hne2 : (y == x) = false := by
    rw [beq_eq_false_iff_ne] at hne ⊢
    exact fun e => hne e.symm
  have hnz2 : (z == x) = false := by
    rw [beq_eq_false_iff_ne] at hnz ⊢
    exact fun e => hnz e.symm
  have hyz2 : (z == y) = false := by
    rw [beq_eq_false_iff_ne] at hyz ⊢
    exact fun e => hyz e.symm
  unfold swappedStores
  simp only [hb, hv, kx, ky, kz, s, h2, h3, List.filterMap_cons, List.filterMap_nil, List.head?_cons, Option.map_some, Option.getD_some, Expr.pos, hl', hlz', List.length_cons, List.length_nil]
  have er : [x, y, z].eraseDups = [x, y, z] := by simp [List.eraseDups_cons, hne, hne2, hnz, hnz2, hyz, hyz2]
  simp [er]
  intro e he hm
  have q := List.all_eq_true.mp h1 e he
  cases e <;> first | (exact absurd q Bool.false_ne_true) | cases hm
end DD
/-! DStm3: readings of statements. -/
namespace DD
open PySem L2
section
variable {c : Cn} {W : Nat} {D : Nat → Option Df} {Γ : Gm} {n : Nat} {X : Cx} {F : Fr} {env stk : En} {σ : St} {ws : List (Option V)} {H : Hp} {Φ Ψ : Nat → Fn}
def Done (c : Cn) (F : Fr) (stk : En) (ws : List (Option V)) (E : Ends) (env : En) : Fl → Prop
  | .nx => ∀ σ H, At c F env stk σ ws H → E.nx σ H
  | .bk => ∀ σ H, At c F env stk σ ws H → E.bk σ H
  | .ct => ∀ σ H, At c F env stk σ ws H → E.ct σ H
  | .rt t fr => ∀ v σ H, At c F env (stk ++ [(OV.v t fr).sl]) σ (ws ++ [some v]) H → E.rt v H
def rdS (c : Cn) (Φ Ψ : Nat → Fn) (W : Nat) (s : S) : TS := fun E σ H => ∃ F env stk ws fl env', At c F env stk σ ws H ∧ exec Φ Ψ W s env = .ok (fl, env') ∧ Done c F stk ws E env' fl
def rdSs (c : Cn) (Φ Ψ : Nat → Fn) (W : Nat) (ss : List S) : TS := fun E σ H => ∃ F env stk ws fl env', At c F env stk σ ws H ∧ execs Φ Ψ W ss env = .ok (fl, env') ∧ Done c F stk ws E env' fl
theorem rds_nil : ∀ E σ H, rdSs c Φ Ψ W [] E σ H → tNext E σ H := by
  intro E σ H ⟨F, env, stk, ws, fl, env', A, h, d⟩
  simp only [execs] at h
  cases h
  exact d σ H A
theorem rds_cons {s : S} {ss : List S} : ∀ E σ H, rdSs c Φ Ψ W (s :: ss) E σ H → tSeq (rdS c Φ Ψ W s) (rdSs c Φ Ψ W ss) E σ H := by
  intro E σ H ⟨F, env, stk, ws, fl, env', A, h, d⟩
  simp only [execs] at h
  obtain ⟨⟨f1, e1⟩, h1, h⟩ := R.bind_ok h
  refine ⟨F, env, stk, ws, f1, e1, A, h1, ?_⟩
  cases f1 with
  | nx => exact fun σ1 H1 A1 => ⟨F, e1, stk, ws, fl, env', A1, h, d⟩
  | bk => cases h; exact d
  | ct => cases h; exact d
  | rt t fr => cases h; exact d
theorem rd_set {i : Nat} {e : E} : ∀ E σ H, rdS c Φ Ψ W (.set i e) E σ H → tAsg (rdE c Φ Ψ e) (gName i) E σ H := by
  intro E σ H ⟨F, env, stk, ws, fl, env', A, h, d⟩
  rw [exec] at h
  obtain ⟨⟨o, e1⟩, h1, h⟩ := R.bind_ok h
  cases o with
  | s j => cases h
  | v t fr =>
    obtain ⟨e2, h2, h⟩ := R.bind_ok h
    cases h
    obtain ⟨hi, rfl⟩ := setS_ok h2
    refine ⟨F, env, stk, ws, A, _, e1, h1, fun v H1 A1 _ => ?_⟩
    exact d _ _ (A1.store (by cases fr <;> exact fun z => nomatch z) hi)
theorem rd_asg {g : P} {e : E} : ∀ E σ H, rdS c Φ Ψ W (.asg g e) E σ H → tAsg (rdE c Φ Ψ e) (rdG c g) E σ H := by
  intro E σ H ⟨F, env, stk, ws, fl, env', A, h, d⟩
  rw [exec] at h
  obtain ⟨⟨o, e1⟩, h1, h⟩ := R.bind_ok h
  cases o with
  | s j => cases h
  | v t fr =>
    obtain ⟨e2, h3, h⟩ := R.bind_ok h
    cases h
    refine ⟨F, env, stk, ws, A, _, e1, h1, fun v H1 A1 _ => ?_⟩
    obtain ⟨A2, Av, r⟩ := At.srcs (os := [.v t fr]) (vs := [v]) (ts := [t]) A1 A.hw rfl rfl
    exact ⟨F, e1, stk, ws, t, env', A2, h3, fun σ' H' A' _ => d σ' H' A'⟩
theorem rd_par2 {i j : Nat} {es : List E} (hij : i ≠ j) (hl : es.length = 2) : ∀ E σ H, rdS c Φ Ψ W (.par [.s i, .s j] es) E σ H → tPar i j (rdA c Φ Ψ es) E σ H := by
  intro E σ H ⟨F, env, stk, ws, fl, env', A, h, d⟩
  rw [exec] at h
  obtain ⟨⟨os, e1⟩, h1, h⟩ := R.bind_ok h
  obtain ⟨e2, h2, h⟩ := R.bind_ok h
  cases h
  refine ⟨F, env, stk, ws, A, os, e1, h1, fun vs H1 A1 ok => ?_⟩
  have hlen := ok.length
  cases os with
  | nil => simp [asgTs] at h2
  | cons o1 os =>
    cases os with
    | nil => cases o1 <;> simp only [asgTs] at h2
             · obtain ⟨_, _, h2⟩ := R.bind_ok h2; cases h2
             · cases h2
    | cons o2 os =>
      cases o1 with
      | s _ => simp only [asgTs] at h2; cases h2
      | v t1 f1 =>
        simp only [asgTs, asgT] at h2
        obtain ⟨e3, h3, h2⟩ := R.bind_ok h2
        cases o2 with
        | s _ => simp only [asgTs] at h2; cases h2
        | v t2 f2 =>
          simp only [asgTs, asgT] at h2
          obtain ⟨e4, h4, h2⟩ := R.bind_ok h2
          cases os with
          | cons _ _ => simp only [asgTs] at h2; cases h2
          | nil =>
            simp only [asgTs] at h2
            cases h2
            obtain ⟨hi, rfl⟩ := setS_ok h3
            obtain ⟨hj, rfl⟩ := setS_ok h4
            obtain ⟨v1, v2, rfl⟩ : ∃ v1 v2, vs = [v1, v2] := by
              cases ok with
              | cons _ ok =>
                cases ok with
                | cons _ ok => cases ok; exact ⟨_, _, rfl⟩
            refine ⟨v1, v2, rfl, d _ _ ?_⟩
            have A2 : At c F e1 (stk ++ [(OV.v t1 f1).sl] ++ [(OV.v t2 f2).sl]) σ (ws ++ [some v1] ++ [some v2]) H1 := by simpa using A1
            have hj' : j < e1.length := by simpa using hj
            have A3 := (A2.store (i := j) (by cases f2 <;> exact fun z => nomatch z) hj').store (i := i) (by cases f1 <;> exact fun z => nomatch z) (by simpa using hi)
            rw [List.set_comm _ _ (Ne.symm hij), List.set_comm _ _ (Ne.symm hij)] at A3
            exact A3
theorem rd_par3 {i j l : Nat} {es : List E} (hij : i ≠ j) (hil : i ≠ l) (hjl : j ≠ l) : ∀ E σ H, rdS c Φ Ψ W (.par [.s i, .s j, .s l] es) E σ H → tPar3 i j l (rdA c Φ Ψ es) E σ H := by
  intro E σ H ⟨F, env, stk, ws, fl, env', A, h, d⟩
  rw [exec] at h
  obtain ⟨⟨os, e1⟩, h1, h⟩ := R.bind_ok h
  obtain ⟨e2, h2, h⟩ := R.bind_ok h
  cases h
  refine ⟨F, env, stk, ws, A, os, e1, h1, fun vs H1 A1 ok => ?_⟩
  obtain ⟨t1, f1, t2, f2, t3, f3, rfl⟩ : ∃ t1 f1 t2 f2 t3 f3, os = [.v t1 f1, .v t2 f2, .v t3 f3] := by
    cases os with
    | nil => simp [asgTs] at h2
    | cons o1 os =>
      cases o1 with
      | s _ => simp only [asgTs] at h2; cases h2
      | v t1 f1 =>
        simp only [asgTs] at h2
        obtain ⟨e3, h3, h2⟩ := R.bind_ok h2
        cases os with
        | nil => simp only [asgTs] at h2; cases h2
        | cons o2 os =>
          cases o2 with
          | s _ => simp only [asgTs] at h2; cases h2
          | v t2 f2 =>
            simp only [asgTs] at h2
            obtain ⟨e4, h4, h2⟩ := R.bind_ok h2
            cases os with
            | nil => simp only [asgTs] at h2; cases h2
            | cons o3 os =>
              cases o3 with
              | s _ => simp only [asgTs] at h2; cases h2
              | v t3 f3 =>
                simp only [asgTs] at h2
                obtain ⟨e5, h5, h2⟩ := R.bind_ok h2
                cases os with
                | nil => exact ⟨_, _, _, _, _, _, rfl⟩
                | cons _ _ => simp only [asgTs] at h2; cases h2
  simp only [asgTs, asgT] at h2
  obtain ⟨e3, h3, h2⟩ := R.bind_ok h2
  obtain ⟨e4, h4, h2⟩ := R.bind_ok h2
  obtain ⟨e5, h5, h2⟩ := R.bind_ok h2
  cases h2
  obtain ⟨hi, rfl⟩ := setS_ok h3
  obtain ⟨hj, rfl⟩ := setS_ok h4
  obtain ⟨hl, rfl⟩ := setS_ok h5
  obtain ⟨v1, v2, v3, rfl⟩ : ∃ v1 v2 v3, vs = [v1, v2, v3] := by
    cases ok with
    | cons _ ok =>
      cases ok with
      | cons _ ok =>
        cases ok with
        | cons _ ok => cases ok; exact ⟨_, _, _, rfl⟩
  refine ⟨v1, v2, v3, rfl, d _ _ ?_⟩
  have A2 : At c F e1 (stk ++ [(OV.v t1 f1).sl] ++ [(OV.v t2 f2).sl] ++ [(OV.v t3 f3).sl]) σ (ws ++ [some v1] ++ [some v2] ++ [some v3]) H1 := by simpa using A1
  have hl' : l < e1.length := by simpa using hl
  have hj' : j < e1.length := by simpa using hj
  have A3 := ((A2.store (i := l) (by cases f3 <;> exact fun z => nomatch z) hl').store (i := j) (by cases f2 <;> exact fun z => nomatch z) (by simpa using hj')).store (i := i) (by cases f1 <;> exact fun z => nomatch z) (by simpa using hi)
  have e1 : ∀ {α : Type} (xs : List α) (a b d : α), ((xs.set l d).set j b).set i a = ((xs.set i a).set j b).set l d := fun xs a b d => by
    rw [List.set_comm (l := xs.set l d) _ _ (Ne.symm hij), List.set_comm (l := xs) _ _ (Ne.symm hil), List.set_comm (l := xs.set i a) _ _ (Ne.symm hjl)]
  rw [e1, e1] at A3
  exact A3
theorem rd_setIx {i : Nat} {ix e : E} : ∀ E σ H, rdS c Φ Ψ W (.setIx i ix e) E σ H → tAsg (rdE c Φ Ψ e) (gSub (tVar i) (rdE c Φ Ψ ix) rSetL) E σ H := by
  intro E σ H ⟨F, env, stk, ws, fl, env', A, h, d⟩
  rw [exec] at h
  obtain ⟨⟨o, e1⟩, h1, h⟩ := R.bind_ok h
  cases o with
  | s j => cases h
  | v t fr =>
    simp only at h
    split at h
    · rename_i t' fr' sl ho hs
      cases ho
      obtain ⟨⟨o2, e2⟩, h2, h⟩ := R.bind_ok h
      obtain ⟨k, h3, h⟩ := R.bind_ok h
      obtain ⟨e3, h4, h⟩ := R.bind_ok h
      cases h
      have h3 := R.opt_ok h3
      obtain ⟨t0, m, t1, u1, u2, u3, rfl⟩ := upS_ok h4
      refine ⟨F, env, stk, ws, A, _, e1, h1, fun v H1 A1 _ => ?_⟩
      obtain ⟨v0, hv0⟩ := A1.entV hs
      refine ⟨v0, hv0, F, e1, _, _, A1, o2, e2, h2, fun w H2 A2 ok2 => ?_⟩
      obtain ⟨O, S, rt⟩ := At.ops (os := [o2]) (vs := [w]) (ts := [k]) A2 A1.hw (.cons ok2 .nil) (by rw [vals, h3]; rfl)
      have A3 := A2.drop A1.hw
      cases rt with
      | cons p _ =>
        cases t0 <;> cases k <;> simp only [setIxT, reduceCtorEq] at u3
        case lst.int xs z h3o =>
        cases hx : ixPl xs.length z with
        | none => rw [hx] at u3; cases u3
        | some q =>
          rw [hx] at u3
          cases u3
          obtain ⟨a, vs, w1, w2, w3, A4⟩ := At.setAt (j := q) A3 A.hw u1 u2
          rw [hv0] at w1
          cases w1
          exact ⟨a, vs, z, q, rfl, p.int, w2, by rw [w3]; exact hx, d _ _ A4⟩
    · cases h
theorem add_ip (a b : Int) : sAdd (.int a) (.int b) = some (.int (a + b)) := rfl
theorem rd_app {i : Nat} {e : E} : ∀ E σ H, rdS c Φ Ψ W (.app i e) E σ H → tDrop (tBM X.K "list" rAppend (tVar i) (tCons (rdE c Φ Ψ e) tNil)) E σ H := by
  intro E σ H ⟨F, env, stk, ws, fl, env', A, h, d⟩
  rw [exec] at h
  split at h
  · rename_i xs0 m0 h0
    obtain ⟨⟨o, e1⟩, h1, h⟩ := R.bind_ok h
    cases o with
    | s j => cases h
    | v t fr =>
      obtain ⟨e2, h2, h⟩ := R.bind_ok h
      cases h
      obtain ⟨t0, m, t1, u1, u2, u3, rfl⟩ := upS_ok h2
      obtain ⟨v0, hv0⟩ := A.entV h0
      refine ⟨v0, hv0, ?_, F, env, stk, ws, A, _, e1, h1, fun y H1 A1 _ => ?_⟩
      · obtain ⟨O, S⟩ := A.sim
        obtain ⟨v', q1, q2⟩ := S.ent i ⟨.lst xs0, m0⟩ (by rw [List.getElem?_append_left (List.getElem?_eq_some_iff.mp (getS_some h0)).1]; exact getS_some h0)
        rw [List.getElem?_append_left (by rw [← A.hl]; exact (List.getElem?_eq_some_iff.mp (getS_some h0)).1), hv0] at q1
        cases q1
        obtain ⟨a, vs, rfl, hH, _⟩ := q2.repT.lst
        exact .inl ⟨rfl, vs, SqL.of hH⟩
      · cases t0 <;> simp only [reduceCtorEq] at u3
        rename_i xs
        split at u3
        · rename_i hz
          cases u3
          obtain ⟨a, vs, w1, w2, w3, A4⟩ := At.append A1 A.hw u1 u2
          rw [hv0] at w1
          cases w1
          exact ⟨a, vs, y, rfl, rfl, w2, by rw [w3, ← line_eq]; exact hz, d _ _ A4⟩
        · cases u3
  · cases h
theorem rd_ext {i : Nat} {e : E} : ∀ E σ H, rdS c Φ Ψ W (.ext i e) E σ H → tDrop (tBM X.K "list" rExtend (tVar i) (tCons (rdE c Φ Ψ e) tNil)) E σ H := by
  intro E σ H ⟨F, env, stk, ws, fl, env', A, h, d⟩
  rw [exec] at h
  split at h
  · rename_i xs0 m0 h0
    obtain ⟨⟨o, e1⟩, h1, h⟩ := R.bind_ok h
    simp only at h
    split at h
    · rename_i us fr
      obtain ⟨e2, h2, h⟩ := R.bind_ok h
      cases h
      obtain ⟨t0, m, t1, u1, u2, u3, rfl⟩ := upS_ok h2
      obtain ⟨v0, hv0⟩ := A.entV h0
      refine ⟨v0, hv0, ?_, F, env, stk, ws, A, _, e1, h1, fun y H1 A1 _ => ?_⟩
      · obtain ⟨O, S⟩ := A.sim
        obtain ⟨v', q1, q2⟩ := S.ent i ⟨.lst xs0, m0⟩ (by rw [List.getElem?_append_left (List.getElem?_eq_some_iff.mp (getS_some h0)).1]; exact getS_some h0)
        rw [List.getElem?_append_left (by rw [← A.hl]; exact (List.getElem?_eq_some_iff.mp (getS_some h0)).1), hv0] at q1
        cases q1
        obtain ⟨a, vs, rfl, hH, _⟩ := q2.repT.lst
        exact .inl ⟨rfl, vs, SqL.of hH⟩
      · cases t0 <;> simp only [reduceCtorEq] at u3
        rename_i xs
        split at u3
        · rename_i hz
          cases u3
          obtain ⟨a, b, vs, zs, w1, rfl, w2, w2b, w3, w4, A4⟩ := At.extend A1 A.hw u1 u2
          rw [hv0] at w1
          cases w1
          exact ⟨a, b, vs, zs, rfl, rfl, w2, w2b, by rw [w3, w4, ← line_eq]; exact hz, d _ _ A4⟩
        · cases u3
    · cases h
  · cases h
theorem rd_expr {e : E} : ∀ E σ H, rdS c Φ Ψ W (.expr e) E σ H → tDrop (rdE c Φ Ψ e) E σ H := by
  intro E σ H ⟨F, env, stk, ws, fl, env', A, h, d⟩
  rw [exec] at h
  obtain ⟨⟨o, e1⟩, h1, h⟩ := R.bind_ok h
  cases h
  exact ⟨F, env, stk, ws, A, o, _, h1, fun v H1 A1 _ => d _ _ (A1.drop A.hw)⟩
theorem rd_ret {e : E} : ∀ E σ H, rdS c Φ Ψ W (.ret e) E σ H → tRet (rdE c Φ Ψ e) E σ H := by
  intro E σ H ⟨F, env, stk, ws, fl, env', A, h, d⟩
  rw [exec] at h
  obtain ⟨⟨o, e1⟩, h1, h⟩ := R.bind_ok h
  cases o with
  | s j => cases h
  | v t fr =>
    cases h
    exact ⟨F, env, stk, ws, A, _, _, h1, fun v H1 A1 _ => d _ _ _ A1⟩
theorem rd_retN : ∀ E σ H, rdS c Φ Ψ W .retN E σ H → tRetN E σ H := by
  intro E σ H ⟨F, env, stk, ws, fl, env', A, h, d⟩
  rw [exec] at h
  cases h
  exact d _ _ _ (A.push_sh fun Av => by rw [Rep])
theorem rd_if {e : E} {a b : List S} : ∀ E σ H, rdS c Φ Ψ W (.ite e a b) E σ H → tIfS (rdT c Φ Ψ e) (rdSs c Φ Ψ W a) (rdSs c Φ Ψ W b) E σ H := by
  intro E σ H ⟨F, env, stk, ws, fl, env', A, h, d⟩
  rw [exec] at h
  obtain ⟨⟨o, e1⟩, h1, h⟩ := R.bind_ok h
  obtain ⟨x, h2, h⟩ := R.bind_ok h
  refine rdT_of A h1 h2 fun H1 A1 => ?_
  cases x with
  | true => exact ⟨F, e1, stk, ws, fl, env', A1, h, d⟩
  | false => exact ⟨F, e1, stk, ws, fl, env', A1, h, d⟩
/-- a loop's end, where its sources still stand -/
theorem done_drop {M : En} {M' : List (Option V)} {E E' : Ends} {fl : Fl} {e : En} (hw : stk.length = ws.length) (hM : M.length = M'.length) (d : Done c F stk ws E e fl) (h1 : fl = .nx → ∀ σ H, E.nx σ H → E'.nx σ H) : True := trivial
theorem rd_for {k : ItK} {g : P} {es : List E} {body : List S} : ∀ E σ H, rdS c Φ Ψ W (.forr g k es body) E σ H → tFor (rdI c Φ Ψ k es) (rdG c g) (rdSs c Φ Ψ W body) E σ H := by
  intro E σ H ⟨F, env, stk, ws, fl, envZ, A, h, d⟩
  rw [exec] at h
  obtain ⟨⟨os, e1⟩, h1, ha⟩ := R.bind_ok h
  clear h
  obtain ⟨ts, h2, h⟩ := R.bind_ok ha
  clear ha
  obtain ⟨xs, h3, ha⟩ := R.bind_ok h
  clear h
  refine ⟨F, env, stk, ws, A, os, e1, ts, xs, h1, R.opt_ok h2, R.opt_ok h3, fun J vs H1 A1 hlv hw => ?_⟩
  let V : Nat → St → Hp → Prop := fun i σ H => ∃ e, loopF (fun env => execs Φ Ψ W body env) g (xs.drop i) e = .ok (fl, envZ) ∧ At c F e (stk ++ ts.map shE) σ (ws ++ vs.map some) H
  have hM : (ts.map shE).length = (vs.map some).length := by simp [hlv]
  refine ⟨fun i m σ H => m = xs.length - i ∧ i ≤ xs.length ∧ V i σ H, ⟨xs.length, by simp, Nat.zero_le _, e1, ha, A1⟩, ?_⟩
  rintro i m σ H ⟨rfl, hi, e, hloop, B1⟩
  obtain ⟨O, S, rl⟩ : ∃ O, SimO c F O (e ++ (stk ++ ts.map shE)) (σ ++ (ws ++ vs.map some)) H ∧ RepL c H (F.av O) ts vs := by
    have := At.srcsGet (A := stk) (B := []) (A' := ws) (B' := []) (ts := ts) (vs := vs) (by simpa using B1) A.hw hlv
    simpa using this
  have walk := hw _ _ rl i
  by_cases hlt : i < xs.length
  · refine .inr ?_
    have hx := List.getElem?_eq_getElem hlt
    obtain ⟨go, yld⟩ := walk.2 _ hx
    rw [drop_cons hlt] at hloop
    simp only [loopF] at hloop
    obtain ⟨e2, q1, hloop⟩ := R.bind_ok hloop
    obtain ⟨⟨f1, e3⟩, q2, hloop⟩ := R.bind_ok hloop
    refine ⟨go, V (i + 1), fun σ' H' hv => ⟨xs.length - (i + 1), by omega, rfl, hlt, hv⟩, fun x H' hy => ?_⟩
    obtain ⟨gr, rx⟩ := yld x H' hy
    have B2 := At.item S B1.hl B1.hw gr rx
    refine ⟨F, _, _, _, _, e2, B2, q1, fun σ2 H2 B3 agr => ?_⟩
    refine ⟨F, e2, _, _, f1, e3, B3, q2, ?_⟩
    cases f1 with
    | nx => exact fun σ' H' A' => ⟨e3, hloop, A'⟩
    | ct => exact fun σ' H' A' => ⟨e3, hloop, A'⟩
    | bk => cases hloop; exact fun σ' H' A' => d σ' H' (A'.drop A.hw)
    | rt t fr =>
      cases hloop
      refine fun v σ' H' A' => d v σ' H' (A'.dropMid A.hw hM fun x e => ?_)
      cases e
      cases fr <;> exact fun z => nomatch z
  · refine .inl ?_
    have ei : i = xs.length := by omega
    subst ei
    rw [List.drop_length] at hloop
    simp only [loopF] at hloop
    cases hloop
    exact ⟨walk.1 rfl, d _ _ (B1.drop A.hw)⟩
theorem rd_while {e : E} {body : List S} : ∀ E σ H, rdS c Φ Ψ W (.whil e body) E σ H → tWhile (rdT c Φ Ψ e) (rdSs c Φ Ψ W body) E σ H := by
  intro E σ H ⟨F, env, stk, ws, fl, envZ, A, h, d⟩
  rw [exec] at h
  refine ⟨fun m σ H => ∃ e1, loopW (fun env => (ev Φ Ψ e env).bind fun (o, env) => (asBl o).bind fun b => .ok (b, env)) (fun env => execs Φ Ψ W body env) m e1 = .ok (fl, envZ) ∧ At c F e1 stk σ ws H, ⟨W, env, h, A⟩, ?_⟩
  rintro m σ H ⟨e1, hl, A1⟩
  cases m with
  | zero => simp only [loopW] at hl; cases hl
  | succ m =>
    simp only [loopW] at hl
    obtain ⟨⟨b, e2⟩, h1, hl⟩ := R.bind_ok hl
    obtain ⟨⟨o, e3⟩, h2, h3⟩ := R.bind_ok h1
    obtain ⟨b', h4, h5⟩ := R.bind_ok h3
    cases h5
    refine rdT_of A1 h2 h4 fun H1 A2 => ?_
    cases b with
    | false =>
      simp only [Bool.false_eq_true, if_false] at hl ⊢
      cases hl
      exact d _ _ A2
    | true =>
      simp only [if_true] at hl ⊢
      obtain ⟨⟨f1, e4⟩, h6, hl⟩ := R.bind_ok hl
      refine ⟨fun σ' H' => ∃ e1, loopW (fun env => (ev Φ Ψ e env).bind fun (o, env) => (asBl o).bind fun b => .ok (b, env)) (fun env => execs Φ Ψ W body env) m e1 = .ok (fl, envZ) ∧ At c F e1 stk σ' ws H', fun σ' H' hv => ⟨m, by omega, hv⟩, F, _, stk, ws, f1, e4, A2, h6, ?_⟩
      cases f1 with
      | nx => exact fun σ' H' A' => ⟨e4, hl, A'⟩
      | ct => exact fun σ' H' A' => ⟨e4, hl, A'⟩
      | bk => cases hl; exact fun σ' H' A' => d σ' H' A'
      | rt t fr => cases hl; exact fun v σ' H' A' => d v σ' H' A'
end
end DD
/-! DStm4: all statements. -/
namespace DD
open PySem L2
section
variable {c : Cn} {W : Nat} {D : Nat → Option Df} {n : Nat}
abbrev rS (c : Cn) (W : Nat) (D : Nat → Option Df) (n : Nat) (s : S) : TS := rdS c (fnS W D n) badF W s
abbrev rSs (c : Cn) (W : Nat) (D : Nat → Option Df) (n : Nat) (s : List S) : TS := rdSs c (fnS W D n) badF W s
theorem PS.wkI {X : Cx} {e : Stmt} {t t' : TS} (h : PS X e t) (k : ∀ D σ H, σ.length = X.N.length → t' D σ H → t D σ H) : PS X e t' := ⟨fun pins s σ H D I q => h.run pins s σ H D I (k D σ H I.len q)⟩
theorem swaps_ok {Γ : Gm} {X : Cx} (g : Good c W D Γ n X) {y : Expr} {f : Str} {p : Pos} {l : Nat} {b : Bool} (h : swapsB Γ y f p = some b) : swapsWith y (some (.Name f p)) l X.env = pure b := by
  have hb : X.env.blockKind = .function := by unfold Env.blockKind; rw [g.kind]; rfl
  have hl : (X.env.kindOf f == some NameKind.local) = Γ.lcl f := by
    unfold Gm.lcl
    rw [← g.names]
    show (X.env.scope.names.lookup f == some NameKind.local) = _
    cases X.env.scope.names.lookup f with
    | none => rfl
    | some k => cases k <;> rfl
  cases y <;> simp only [swapsB, Option.some.injEq, reduceCtorEq] at h <;> first | (subst h; rfl) | skip
  case ListComp elt gs sc pp =>
    have e : swapsWith (.ListComp elt gs sc pp) (some (.Name f p)) l X.env = pure (X.env.blockKind == .function && X.env.kindOf f == some .local && p.line == pp.line && !(sc.names.any fun (n, k) => n == f && (k == .local || k == .cell))) := rfl
    rw [e, hb, hl, ← h]
    rfl
theorem set_comp {Γ : Gm} {X : Cx} (g : Good c W D Γ n X) {i : Nat} {f : Str} {p pos : Pos} {e : E} {y : Expr} (hi : X.N[i]? = some f) (hl : X.env.scope.names.lookup f = some .local) (hsw : swapsWith y (some (.Name f p)) pos.line X.env = pure true) (hc : isComp e = true) (h : chkE Γ e y = true) :
    PS X (.Assign [.Name f p] y pos) (rS c W D n (.set i e)) := by
  cases e <;> simp only [isComp, Bool.false_eq_true] at hc
  case comp own p' k es cond elt =>
    rw [chkE.eq_def] at h; dsimp only at h
    split at h
    · rename_i elt' tg it ifs scope pos'
      simp only [Bool.and_eq_true] at h
      obtain ⟨⟨⟨⟨⟨⟨h1, h2⟩, h3⟩, h4⟩, h5⟩, h6⟩, h7⟩ := h
      obtain ⟨bo, nd, hi', gb⟩ := g.blk h3
      split at h4
      · rename_i xs hit
        have pi := sndI g hit (chkEs_star h4) (sndA es xs Γ X g h4) (fun e he hx => by subst hx; exact sndI1 es 0 e it Γ X g (by rw [he]; rfl) (by subst he; rw [chkEs, Bool.and_eq_true, Bool.and_eq_true] at h4; exact h4.1.2)) (chkEs_len h4)
        have pts : ∀ (s : Shared) (H : Hp) (C : Addr) (cl : List (Str × Addr)) (fp : List Addr), PTs (X.blk s H scope (compEnvC scope cl C X.env) fp) ifs (tOf c (fnS W D n) badF cond) := fun s H C cl fp => by
          split at h6
          · cases cond with
            | none => exact pts_nil
            | some e => rw [chkO.eq_def] at h6; cases h6
          · rename_i y
            cases cond with
            | none => rw [chkO.eq_def] at h6; cases h6
            | some e => exact pts_one (sndO (some e) y (Γ.blk scope) _ (gb s H C cl fp) h6 e rfl)
          · cases h6
        refine PS.wkI (ps_setLc (i := i) (wi := rdI c (fnS W D n) badF k es) (g := rdG c p') (tt := tOf c (fnS W D n) badF cond) (te := rE c W D n elt) (own := ownOf Γ own) g.calm g.nd hi hl hsw pi bo (fun s H C cl fp => sndP (gb s H C cl fp) p' tg h5) pts (fun s H C cl fp => sndE elt elt' (Γ.blk scope) _ (gb s H C cl fp) h7) (noSet_ok h1)) fun E σ H hl q => ?_
        rw [ownOf_snd]
        exact rd_comp nd (all_mem h2) σ H _ (fun i hi'' => by rw [hl]; exact hi' i hi'') (rd_set E σ H q)
      · cases h4
    · cases h
  case comp2 own p' k es p2 k2 es2 own2 cond elt =>
    rw [chkE.eq_def] at h; dsimp only at h
    split at h
    · rename_i elt' tg it tg1 it1 ifs scope pos'
      simp only [Bool.and_eq_true] at h
      obtain ⟨⟨⟨⟨⟨⟨⟨⟨⟨⟨⟨⟨h1, h1b⟩, h2⟩, h2b⟩, h3⟩, h3b⟩, h3c⟩, h4⟩, h5⟩, h4b⟩, h5b⟩, h6⟩, h7⟩ := h
      obtain ⟨bo, nd, hi', gb⟩ := g.blk h3
      split at h4
      · rename_i xs hit
        split at h4b
        · rename_i xs1 hit1
          have pi := sndI g hit (chkEs_star h4) (sndA es xs Γ X g h4) (fun e he hx => by subst hx; exact sndI1 es 0 e it Γ X g (by rw [he]; rfl) (by subst he; rw [chkEs, Bool.and_eq_true, Bool.and_eq_true] at h4; exact h4.1.2)) (chkEs_len h4)
          have pi1 : ∀ (s : Shared) (H : Hp) (C : Addr) (cl : List (Str × Addr)) (fp : List Addr), PI (X.blk s H scope (compEnvC scope cl C X.env) fp) tg1 it1 (rdI c (fnS W D n) badF k2 es2) := fun s H C cl fp =>
            sndI (gb s H C cl fp) hit1 (chkEs_star h4b) (sndA es2 xs1 (Γ.blk scope) _ (gb s H C cl fp) h4b) (fun e he hx => by subst hx; exact sndI1 es2 0 e it1 (Γ.blk scope) _ (gb s H C cl fp) (by rw [he]; rfl) (by subst he; rw [chkEs, Bool.and_eq_true, Bool.and_eq_true] at h4b; exact h4b.1.2)) (chkEs_len h4b)
          have pts : ∀ (s : Shared) (H : Hp) (C : Addr) (cl : List (Str × Addr)) (fp : List Addr), PTs (X.blk s H scope (compEnvC scope cl C X.env) fp) ifs (tOf c (fnS W D n) badF cond) := fun s H C cl fp => by
            split at h6
            · cases cond with
              | none => exact pts_nil
              | some e => rw [chkO.eq_def] at h6; cases h6
            · rename_i y
              cases cond with
              | none => rw [chkO.eq_def] at h6; cases h6
              | some e => exact pts_one (sndO (some e) y (Γ.blk scope) _ (gb s H C cl fp) h6 e rfl)
            · cases h6
          refine PS.wkI (ps_setLc2 (i := i) (wi := rdI c (fnS W D n) badF k es) (wi1 := rdI c (fnS W D n) badF k2 es2) (g := rdG c p') (g1 := rdG c p2) (tt := tYes) (tt1 := tOf c (fnS W D n) badF cond) (te := rE c W D n elt) (own := ownOf Γ own) (vs1 := own2) g.calm g.nd hi hl hsw pi bo (fun i hi => by rw [ownOf_snd]; exact all_mem h3b i hi) (fun s H C cl fp => sndP (gb s H C cl fp) p' tg h5) (fun s H C cl fp => pts_nil) pi1 (fun s H C cl fp => sndP (gb s H C cl fp) p2 tg1 h5b) pts (fun s H C cl fp => sndE elt elt' (Γ.blk scope) _ (gb s H C cl fp) h7) (noSet_ok h1) (fun env => noSet_ok h1b)) fun E σ H hl q => ?_
          rw [ownOf_snd]
          exact rd_comp2 nd (all_mem h2) (all_mem h2b) (all_mem h3b) σ H _ (fun i hi'' => by rw [hl]; exact hi' i hi'') (rd_set E σ H q)
        · cases h4b
      · cases h4
    · cases h
theorem lcl_ok {Γ : Gm} {X : Cx} (g : Good c W D Γ n X) {f : Str} (h : Γ.lcl f = true) : X.env.scope.names.lookup f = some .local := by
  unfold Gm.lcl at h
  rw [← g.names] at h
  split at h
  · assumption
  · cases h
theorem at_ok {Γ : Gm} {X : Cx} (g : Good c W D Γ n X) {i : Nat} {f : Str} (h : Γ.at_ i f = true) : X.N[i]? = some f := by
  rw [g.N]; exact of_decide_eq_true h
theorem swapsB_lcl {Γ : Gm} {y : Expr} {f : Str} {p : Pos} (h : swapsB Γ y f p = some true) : Γ.lcl f = true := by
  cases y <;> simp only [swapsB, Option.some.injEq, reduceCtorEq, Bool.false_eq_true, Bool.and_eq_true] at h
  exact h.1.1
theorem assign_sub {o i : Expr} {pos : Pos} {env : Env} (h : plainIxE i = true) : ∀ v, assign (.Subscript o i pos) env v = (do
      let ov ← holding [v] (eval o env)
      let iv ← holding [v, ov] (eval i env)
      standAt pos
      holding [v, ov, iv] (setItem ov iv v)
      release [v, ov, iv] []) := by
  intro v
  cases i with
  | Slice _ _ _ _ => cases h
  | _ => rfl
mutual
theorem sndS (Γ : Gm) (X : Cx) (g : Good c W D Γ n X) (hp : PassesOwn (model X.prog X.w) X.A X.env X.xe) : ∀ (s : S) (x : Stmt), chkS Γ s x = true → PS X x (rS c W D n s)
  | .set i e, x, h => by
    rw [chkS.eq_def] at h; dsimp only at h
    split at h
    · simp only [Bool.and_eq_true] at h
      obtain ⟨⟨⟨h1, h2⟩, h3⟩, h4⟩ := h
      have q := g.fn _ h2
      split at h4
      · rename_i hs
        exact set_comp g (at_ok g h1) (lcl_ok g (swapsB_lcl hs)) (swaps_ok g hs) h4 h3
      · rename_i hs
        exact PS.wk (ps_set g.nd (at_ok g h1) q.1 (sndE e _ Γ X g h3) (swaps_ok g hs) q.2) rd_set
      · cases h4
    · cases h
  | .asg p e, x, h => by
    rw [chkS.eq_def] at h; dsimp only at h
    split at h
    · rename_i ts j p' y pos
      simp only [Bool.and_eq_true] at h
      obtain ⟨⟨h1, h2⟩, h3⟩ := h
      exact PS.wk (ps_asg (sndE e _ Γ X g h2) (sndP g p _ h1) (by cases y <;> rfl) (by cases y <;> first | rfl | cases h3)) rd_asg
    · cases h
  | .par gs es, x, h => by
    rw [chkS.eq_def] at h; dsimp only at h
    split at h
    · split at h
      · simp only [Bool.and_eq_true, decide_eq_true_eq, Bool.not_eq_true'] at h
        obtain ⟨⟨⟨⟨⟨⟨⟨⟨⟨h1, h2⟩, h3⟩, h4⟩, h5⟩, h6⟩, h7⟩, h8⟩, h9⟩, h10⟩ := h
        have hA := sndA es _ Γ X g h10
        rename_i ys _ _ _ _ _ _
        obtain ⟨y1, y2, rfl⟩ : ∃ y1 y2, ys = [y1, y2] := by
          match ys, h8 with
          | [a, b], _ => exact ⟨a, b, rfl⟩
        exact PS.wk (ps_par g.calm g.nd (at_ok g h1) (at_ok g h2) h6 (lcl_ok g h3) (lcl_ok g h4) hA (sw2 g.kind (lcl_ok g h3) (lcl_ok g h4) h7 h5 h8 h9)) (rd_par2 h6 (chkEs_len h10).symm)
      · cases h
    · split at h
      · simp only [Bool.and_eq_true, decide_eq_true_eq, Bool.not_eq_true'] at h
        obtain ⟨⟨⟨⟨⟨⟨⟨⟨⟨⟨⟨⟨⟨⟨⟨⟨h1, h2⟩, h3⟩, h4⟩, h5⟩, h6⟩, h7⟩, h8⟩, h9⟩, h10⟩, h11⟩, h12⟩, h13⟩, h14⟩, h15⟩, h16⟩, h17⟩ := h
        have hA := sndA es _ Γ X g h17
        rename_i ys _ _ _ _ _ _ _
        obtain ⟨y1, y2, y3, rfl⟩ : ∃ y1 y2 y3, ys = [y1, y2, y3] := by
          match ys, h15 with
          | [a, b, d], _ => exact ⟨a, b, d, rfl⟩
        exact PS.wk (ps_par3 g.calm g.nd (at_ok g h1) (at_ok g h2) (at_ok g h3) h10 h11 h12 (lcl_ok g h4) (lcl_ok g h5) (lcl_ok g h6) hA (sw3 g.kind (lcl_ok g h4) (lcl_ok g h5) (lcl_ok g h6) h13 h14 h7 h8 h9 h15 h16)) (rd_par3 h10 h11 h12)
      · cases h
    · cases h
  | .setIx i ix e, x, h => by
    rw [chkS.eq_def] at h; dsimp only at h
    split at h
    · rename_i f p1 j p2 y pos
      simp only [Bool.and_eq_true] at h
      obtain ⟨⟨⟨h0, h1⟩, h2⟩, h3⟩ := h
      exact PS.wk (ps_asg (sndE e _ Γ X g h3) (pg_sub (g.rd h1) (sndE ix _ Γ X g h2) set_list (assign_sub h0)) (by cases y <;> rfl) (by cases y <;> rfl)) rd_setIx
    · cases h
  | .aug i p e, x, h => by rw [chkS.eq_def] at h; cases h
  | .augIx _ _ _ _, x, h => by rw [chkS.eq_def] at h; cases h
  | .expr e, x, h => by
    rw [chkS.eq_def] at h; dsimp only at h
    split at h
    · rename_i y pos
      rw [Bool.and_eq_true] at h
      exact PS.wk (ps_expr (sndE e _ Γ X g h.2) (by cases y <;> first | rfl | exact absurd h.1 Bool.false_ne_true)) rd_expr
    · cases h
  | .app i e, x, h => by
    rw [chkS.eq_def] at h; dsimp only at h
    split at h
    · simp only [Bool.and_eq_true, beq_iff_eq] at h
      obtain ⟨⟨⟨⟨h1, rfl⟩, h3⟩, h4⟩, h5⟩ := h
      exact PS.wk (ps_expr (pe_bm F.plainAttrs_list slot_list_append type_list_append mt_append (g.rd h1) (pa_cons (sndE e _ Γ X g h5) pa_nil (star_cons h4)) rfl (by rw [star_cons h4]; rfl) (by rw [h3]; exact beq_self_eq_true _) (star_cons h4) rfl) rfl) rd_app
    · cases h
  | .ext i e, x, h => by
    rw [chkS.eq_def] at h; dsimp only at h
    split at h
    · simp only [Bool.and_eq_true, beq_iff_eq] at h
      obtain ⟨⟨⟨⟨h1, rfl⟩, h3⟩, h4⟩, h5⟩ := h
      exact PS.wk (ps_expr (pe_bm F.plainAttrs_list F.slot_list_extend F.type_list_extend mt_extend (g.rd h1) (pa_cons (sndE e _ Γ X g h5) pa_nil (star_cons h4)) rfl (by rw [star_cons h4]; rfl) (by rw [h3]; exact beq_self_eq_true _) (star_cons h4) rfl) rfl) rd_ext
    · cases h
  | .ret e, x, h => by
    rw [chkS.eq_def] at h; dsimp only at h
    split at h
    · exact PS.wk (ps_ret (sndE e _ Γ X g h)) rd_ret
    · cases h
  | .retN, x, h => by
    rw [chkS.eq_def] at h; dsimp only at h
    split at h
    · exact PS.wk ps_retN rd_retN
    · cases h
  | .ite d a b, x, h => by
    rw [chkS.eq_def] at h; dsimp only at h
    split at h
    · simp only [Bool.and_eq_true] at h
      exact PS.wk (ps_if (sndT d _ Γ X g h.1.1) (sndSs Γ X g hp a _ h.1.2) (sndSs Γ X g hp b _ h.2)) rd_if
    · cases h
  | .forr p k es body, x, h => by
    rw [chkS.eq_def] at h; dsimp only at h
    split at h
    · rename_i tg it bs pos
      simp only [Bool.and_eq_true] at h
      obtain ⟨⟨⟨h1, h2⟩, h3⟩, h4⟩ := h
      split at h3
      · rename_i xs hit
        have pi := sndI g hit (chkEs_star h3) (sndA es xs Γ X g h3) (fun e he hx => by subst hx; exact sndI1 es 0 e it Γ X g (by rw [he]; rfl) (by subst he; rw [chkEs, Bool.and_eq_true, Bool.and_eq_true] at h3; exact h3.1.2)) (chkEs_len h3)
        exact PS.wk (ps_for hp g.calm pi (sndP g p tg h2) (sndSs Γ X g hp body bs h4) (noSet_ok h1)) rd_for
      · cases h3
    · cases h
  | .whil d body, x, h => by
    rw [chkS.eq_def] at h; dsimp only at h
    split at h
    · rw [Bool.and_eq_true] at h
      exact PS.wk (ps_while hp (sndT d _ Γ X g h.1) (sndSs Γ X g hp body _ h.2)) rd_while
    · cases h
  | .brk, x, h => by
    rw [chkS.eq_def] at h; dsimp only at h
    split at h
    · refine PS.wk ps_break fun E σ H ⟨F, env, stk, ws, fl, env', A, h, d⟩ => ?_
      rw [exec] at h; cases h; exact d _ _ A
    · cases h
  | .cont, x, h => by
    rw [chkS.eq_def] at h; dsimp only at h
    split at h
    · refine PS.wk ps_continue fun E σ H ⟨F, env, stk, ws, fl, env', A, h, d⟩ => ?_
      rw [exec] at h; cases h; exact d _ _ A
    · cases h
  | .pass, x, h => by
    rw [chkS.eq_def] at h; dsimp only at h
    split at h
    · refine PS.wk ps_pass fun E σ H ⟨F, env, stk, ws, fl, env', A, h, d⟩ => ?_
      rw [exec] at h; cases h; exact d _ _ A
    · cases h
  | .raise, x, h => PS.wk ps_never fun E σ H ⟨F, env, stk, ws, fl, env', A, h, d⟩ => by
      rw [exec] at h; cases h
theorem sndSs (Γ : Gm) (X : Cx) (g : Good c W D Γ n X) (hp : PassesOwn (model X.prog X.w) X.A X.env X.xe) : ∀ (ss : List S) (xs : List Stmt), chkSs Γ ss xs = true → PSs X xs (rSs c W D n ss)
  | [], [], h => PSs.wk pss_nil rds_nil
  | [], x :: xs, h => by rw [chkSs] at h; cases h
  | s :: ss, [], h => by rw [chkSs] at h; cases h
  | s :: ss, x :: xs, h => by
    rw [chkSs, Bool.and_eq_true] at h
    exact PSs.wk (pss_cons (sndS Γ X g hp s x h.1) (sndSs Γ X g hp ss xs h.2)) rds_cons
end
end
end DD
/-! DDef: the defs of the text keep the evaluator's promise. -/
namespace DD
open PySem L2
/-- a def of the text, with what says what it does -/
structure Dr where
  d : He.DefD
  N : List Str
  ps : List Str
  df : Df
def isFn : ScopeKind → Bool
  | .function => true
  | _ => false
def scOk (N ps : List Str) (sc : Scope) : Bool := isFn sc.kind && !sc.isCoroutine && !sc.isGenerator && decide N.Nodup && decide (N.take ps.length = ps) && (ps.all fun x => match sc.names.lookup x with
  | some .local => true
  | some .cell => true
  | _ => false) && sc.names.all fun y => match y.2 with
  | .free => false
  | _ => true
theorem scOk_ok {N ps : List Str} {sc : Scope} (h : scOk N ps sc = true) : FnScope N ps sc := by
  unfold scOk at h
  simp only [Bool.and_eq_true, Bool.not_eq_true', decide_eq_true_eq] at h
  obtain ⟨⟨⟨⟨⟨⟨h1, h2⟩, h3⟩, h4⟩, h5⟩, h6⟩, h7⟩ := h
  refine ⟨?_, h2, h3, h4, h5, fun x hx => ?_, fun y hy e => ?_⟩
  · unfold isFn at h1
    split at h1
    · assumption
    · cases h1
  · have := List.all_eq_true.mp h6 x hx
    split at this
    · exact .inl (by assumption)
    · exact .inr (by assumption)
    · cases this
  · have := List.all_eq_true.mp h7 y hy
    rw [e] at this
    cases this
/-- the def's body says what the language says -/
def Dr.ok (G : List (Str × GE)) (r : Dr) : Bool := scOk r.N r.ps r.d.scope && decide (r.N.length = r.df.slots) && decide (r.ps.length = r.df.np) && (match r.df.io with | none => true | some q => decide (q < r.df.np)) && decide (r.df.np ≤ r.df.slots) && chkSs { N := r.N, names := r.d.scope.names, own := none, G := G } r.df.body r.d.body
section
variable {c : Cn} {W : Nat} {D : Nat → Option Df} {n : Nat} {P : Program} {w : World} {mg : Str → Option Value} {base : Heap}
noncomputable def ownS (io : Option Nat) (vs : List V) (a : Addr) : Option Nat := match io with
  | some q => if vs[q]? = some (.ref a) then some q else none
  | none => none
def ioF (io : Option Nat) (vs : List V) (i : Nat) : Option Addr := if io = some i then (match vs[i]? with
  | some (.ref a) => some a
  | _ => none) else none
theorem ownS_iff {io : Option Nat} {vs : List V} (a : Addr) : (ownS io vs a).isSome = true ↔ ioAt io vs a := by
  unfold ownS
  cases io with
  | none => exact ⟨(fun z => nomatch z), fun ⟨q, e, _⟩ => nomatch e⟩
  | some q =>
    by_cases e : vs[q]? = some (.ref a)
    · simp only [if_pos e]; exact ⟨fun _ => ⟨q, rfl, e⟩, fun _ => rfl⟩
    · simp only [if_neg e]; exact ⟨(fun z => nomatch z), fun ⟨q', e1, e2⟩ => by cases e1; exact absurd e2 e⟩
/-- the frame of a def at its entry -/
theorem At.start {io : Option Nat} {A : Addr → Prop} {H : Hp} {ts : List T} {vs : List V} {N : List Str} (p : PreF c io A H ts vs) (hN : ts.length ≤ N.length) (hio : ∀ q, io = some q → q < ts.length) :
    At c { A := A, H0 := H, io := ioF io vs } (startE io ts N.length) [] (L2.start N vs) [] H := by
  have lE : (startE io ts N.length).length = N.length := by simp [startE]; omega
  have lS : (L2.start N vs).length = N.length := by simp [L2.start, p.len]; omega
  refine ⟨by rw [lE, lS], rfl, ownS io vs, ?_⟩
  rw [List.append_nil, List.append_nil]
  have own : ∀ a, (ownS io vs a).isSome = true ↔ ioAt io vs a := ownS_iff
  have ent : ∀ i t, ts[i]? = some t → ∃ v, vs[i]? = some v ∧ if io = some i then ∃ a, v = .ref a ∧ CellOk c H (fun b => A b ∨ ioAt io vs b) t a else Rep c H (fun b => A b ∨ ioAt io vs b) t v := p.par
  have iodom : ∀ a, ioAt io vs a → H a ≠ none := fun a ⟨q, e1, e2⟩ => by
    have hq := hio q e1
    obtain ⟨v, v1, v2⟩ := ent q ts[q] (List.getElem?_eq_getElem hq)
    rw [if_pos e1] at v2
    obtain ⟨b, rfl, v3⟩ := v2
    rw [e2] at v1
    cases v1
    obtain ⟨o, ho, _⟩ := v3.dom
    rw [ho]; exact fun z => nomatch z
  refine ⟨by rw [lE, lS], fun a q => p.nio a ((own a).mp q), p.ad, fun a q => iodom a ((own a).mp q), fun i b e => ?_, fun b o e _ => e, fun i sl hi => ?_⟩
  · have e : ioF io vs i = some b := e
    unfold ioF at e
    by_cases z : io = some i
    · simp only [if_pos z] at e
      cases hv : vs[i]? with
      | none => rw [hv] at e; cases e
      | some v =>
        rw [hv] at e
        cases v <;> simp only [reduceCtorEq, Option.some.injEq] at e
        subst e
        have := iodom _ ⟨i, z, hv⟩
        exact ⟨this, this⟩
    · simp only [if_neg z] at e
      cases e
  · have av : ∀ b, (A b ∨ (ownS io vs b).isSome = true) ↔ (A b ∨ ioAt io vs b) := fun b => or_congr Iff.rfl (own b)
    have kp : ∀ {Av : Addr → Prop}, Kp Av H H := fun a o e _ => e
    unfold startE at hi
    by_cases lt : i < ts.length
    · rw [List.getElem?_append_left (by simpa using lt), List.getElem?_mapIdx, List.getElem?_eq_getElem lt] at hi
      simp only [Option.map_some, Option.some.injEq] at hi
      obtain ⟨v, v1, v2⟩ := ent i ts[i] (List.getElem?_eq_getElem lt)
      have hs : (L2.start N vs)[i]? = some (some v) := by
        unfold L2.start
        rw [List.getElem?_append_left (by simp [p.len]; exact lt), List.getElem?_map, v1]; rfl
      refine ⟨v, hs, ?_⟩
      subst hi
      by_cases z : io = some i
      · rw [if_pos z] at v2
        obtain ⟨a, rfl, v3⟩ := v2
        unfold Ent
        simp only [if_pos z]
        refine ⟨a, rfl, ?_, by show ioF io vs i = some a; unfold ioF; rw [if_pos z, v1], CellOk.mono kp (fun b _ _ q => (av b).mp q) rfl v3⟩
        subst z
        unfold ownS
        simp only [v1, if_true]
      · rw [if_neg z] at v2
        unfold Ent
        simp only [if_neg z]
        exact Rep.mono kp (fun b _ _ q => (av b).mp q) _ _ v2
    · rw [List.getElem?_append_right (by simp; omega), List.getElem?_replicate] at hi
      split at hi <;> cases hi
theorem ioF_some {io : Option Nat} {vs : List V} {i : Nat} {b : Addr} (h : ioF io vs i = some b) : io = some i ∧ vs[i]? = some (.ref b) := by
  unfold ioF at h
  by_cases z : io = some i
  · rw [if_pos z] at h
    cases hv : vs[i]? with
    | none => rw [hv] at h; cases h
    | some v =>
      rw [hv] at h
      cases v <;> simp only [reduceCtorEq, Option.some.injEq] at h
      subst h
      exact ⟨z, rfl⟩
  · rw [if_neg z] at h; cases h
/-- what a run of the body leaves, for the caller -/
theorem At.post {io : Option Nat} {A : Addr → Prop} {H H' : Hp} {vs : List V} {t : T} {fr : Bool} {out : Option T} {v : V} {env : En} {σ : St}
    (S : At c { A := A, H0 := H, io := ioF io vs } env ([] ++ [(OV.v t fr).sl]) σ ([] ++ [some v]) H') (ho : outOf io env = some out) (hst : ∀ q, io = some q → ∃ a, vs[q]? = some (.ref a)) : PostF c io A H vs t fr out v H' := by
  have hl := S.hl
  obtain ⟨O, S⟩ := S.sim
  simp only [List.nil_append] at S
  -- the changed argument
  have lent : ∀ q, io = some q → ∃ a t', vs[q]? = some (.ref a) ∧ out = some t' ∧ O a = some q ∧ CellOk c H' (Fr.av { A := A, H0 := H, io := ioF io vs } O) t' a := fun q e => by
    subst e
    unfold outOf at ho
    simp only at ho
    split at ho
    · rename_i t' hg
      cases ho
      obtain ⟨v', h1, a, rfl, h3, h4, h5⟩ := S.ent q ⟨t', .io⟩ (by rw [List.getElem?_append_left (List.getElem?_eq_some_iff.mp (getS_some hg)).1]; exact getS_some hg)
      exact ⟨a, t', (ioF_some h4).2, rfl, h3, h5⟩
    · cases ho
  have ioO : ∀ b, ioAt io vs b → (O b).isSome = true := fun b ⟨q, e1, e2⟩ => by
    obtain ⟨a, t', h1, _, h3, _⟩ := lent q e1
    rw [e2] at h1
    cases h1
    rw [h3]; rfl
  obtain ⟨v', h1, h2⟩ := S.ent env.length ⟨t, if fr = true then .own else .sh⟩ (by rw [List.getElem?_append_right (Nat.le_refl _), Nat.sub_self]; rfl)
  rw [hl, List.getElem?_append_right (Nat.le_refl _), Nat.sub_self] at h1
  cases h1
  have kp : ∀ {Av : Addr → Prop}, Kp Av H' H' := fun a o e _ => e
  have av1 : ∀ b, A b ∨ ioAt io vs b → Fr.av { A := A, H0 := H, io := ioF io vs } O b := fun b z => z.elim .inl fun z => .inr (ioO b z)
  have keep : ∀ b o, H b = some o → ¬ioAt io vs b → H' b = some o := fun b o e n => S.keep b o e fun i z => n ⟨i, (ioF_some z).1, (ioF_some z).2⟩
  refine ⟨keep, fun b hb => ?_, ?_, fun q e => ?_, fun e => ?_⟩
  · by_cases z : ioAt io vs b
    · exact S.od b (ioO b z)
    · cases e : H b with
      | none => exact absurd e hb
      | some o => rw [keep b o e z]; exact fun z => nomatch z
  · cases fr with
    | false =>
      rw [if_neg Bool.false_ne_true]
      exact Rep.mono kp (fun b _ _ z => av1 b z) _ _ h2
    | true =>
      rw [if_pos rfl]
      obtain ⟨p, rfl, h3, h4, h5⟩ := h2
      exact ⟨p, rfl, h4, CellOk.mono kp (fun b _ _ z => z.elim (av1 b) fun z => .inr (by rw [z, h3]; rfl)) rfl h5⟩
  · obtain ⟨a, t', h3, h4, h5, h6⟩ := lent q e
    refine ⟨a, t', h3, h4, CellOk.mono kp (fun b _ _ z => z.elim (av1 b) fun ⟨z1, z2⟩ => ?_) rfl h6⟩
    subst z1
    obtain ⟨p, rfl, h7, h8, h9⟩ := h2
    cases z2
    exact .inr (by rw [h7]; rfl)
  · subst e
    unfold outOf at ho
    cases ho
    rfl
/-- what the global names are -/
def GlOk (c : Cn) (rs : List Dr) (mg : Str → Option Value) (fA : Nat → Addr) (x : Str) : GE → Prop
  | .fn i np io => ∃ r, rs[i]? = some r ∧ np = r.df.np ∧ io = r.df.io ∧ mg x = some (.ref (fA i))
  | .cst t => ∃ u v, mg x = some u ∧ RelV v u ∧ ∀ H Av, Rep c H Av t v
  | .free => mg x = none
def dfs (rs : List Dr) (i : Nat) : Option Df := (rs[i]?).map (·.df)
/-- ALL DEFS: what the language says, the text does, n calls deep -/
theorem all_ok {K : PySem.W.Frag} {G : List (Str × GE)} {rs : List Dr} {fA : Nat → Addr} {fd : Nat → FuncData} (hK : c.K = K) (hG : ∀ x g, G.lookup x = some g → GlOk c rs mg fA x g)
    (hF : ∀ i r, rs[i]? = some r → FunD K r.d.name r.d.qual r.d.params r.d.body r.d.scope [] [] (fA i) (fd i)) (hB : ∀ i r, rs[i]? = some r → Binds K (fd i) r.ps []) (hok : ∀ r ∈ rs, r.ok G = true) :
    ∀ n i r, rs[i]? = some r → FnOk P w K mg base CX0 n (fA i) (fd i) r.ps (spF c (fnS W (dfs rs) n i) r.df.np r.df.io) := by
  have len : ∀ (Φ : Fn) r, r ∈ rs → ∀ vs H Q E, spF c Φ r.df.np r.df.io vs H Q E → vs.length = r.ps.length := fun Φ r hr vs H Q E h => by
    have := hok r hr
    unfold Dr.ok at this
    simp only [Bool.and_eq_true, decide_eq_true_eq] at this
    rw [h.1, this.1.1.1.2]
  intro n
  induction n with
  | zero =>
    intro i r hr
    refine ⟨len _ r (List.mem_of_getElem? hr), fun A outer s H args us vs Q E _ _ _ _ h => ?_⟩
    obtain ⟨_, A, ts, t, fr, out, _, h, _⟩ := h
    cases h
  | succ n ih =>
    intro i r hr
    have hmem := List.mem_of_getElem? hr
    have ok := hok r hmem
    unfold Dr.ok at ok
    simp only [Bool.and_eq_true, decide_eq_true_eq] at ok
    obtain ⟨⟨⟨⟨⟨o1, o2⟩, o3⟩, o5⟩, o6⟩, o4⟩ := ok
    have sc := scOk_ok o1
    refine FunD.ok (hF i r hr) sc (len _ r hmem) fun cdv A outer s H vs Q E room h => ?_
    obtain ⟨hl, Av, ts, t, fr, out, pre, hrun, post⟩ := h
    refine ⟨rSs c W (dfs rs) n r.df.body, PSs.nox (sndSs _ _ ⟨hK.symm, rfl, sc.nd, rfl, sc.kind, rfl, room, fun x hx => ?_, fun x g hx => ?_⟩ PassesOwn.never _ _ o4), ?_⟩
    · unfold Gm.st at hx
      rw [Bool.or_eq_true, Bool.and_eq_true] at hx
      refine ⟨?_, .inl rfl⟩
      rcases hx with hx | ⟨hx, _⟩
      · unfold Gm.lcl at hx
        split at hx
        · exact .inl (by assumption)
        · cases hx
      · unfold Gm.cel at hx
        split at hx
        · exact .inr (by assumption)
        · cases hx
    · have q := hG x g hx
      cases g with
      | free => exact q
      | cst t => exact q
      | fn j np io =>
        obtain ⟨r', h1, rfl, rfl, h4⟩ := q
        exact ⟨fA j, fd j, r'.ps, h4, (hF j r' h1).kp, hB j r' h1, ih j r' h1⟩
    · have lts : ts.length = r.df.np := pre.len.symm.trans hl
      have hrun : fnS W (dfs rs) (n + 1) i ts = .ok (t, fr, out) := hrun
      have hd : dfs rs i = some r.df := by unfold dfs; rw [hr]; rfl
      simp only [fnS, hd] at hrun
      unfold runDf at hrun
      split at hrun
      · obtain ⟨⟨fl, env⟩, h1, h2⟩ := R.bind_ok hrun
        -- the changed argument's place
        have hio : ∀ q, r.df.io = some q → q < ts.length := fun q e => by
          rw [e] at o5
          have := of_decide_eq_true o5
          omega
        have S0 := At.start (N := r.N) pre (by omega) hio
        rw [o2] at S0
        have hst : ∀ q, r.df.io = some q → ∃ a, vs[q]? = some (.ref a) := fun q e => by
          obtain ⟨v, v1, v2⟩ := pre.par q (ts[q]'(hio q e)) (List.getElem?_eq_getElem (hio q e))
          rw [if_pos e] at v2
          obtain ⟨a, rfl, _⟩ := v2
          exact ⟨a, v1⟩
        refine ⟨_, _, [], [], fl, env, S0, h1, ?_⟩
        cases fl with
        | nx =>
          obtain ⟨ou, h3, h4⟩ := R.bind_ok h2
          cases h4
          exact fun σ' H' A' => post _ _ (At.post (A'.push_sh fun Av => by rw [Rep]) (R.opt_ok h3) hst)
        | bk => cases h2
        | ct => cases h2
        | rt t' fr' =>
          obtain ⟨ou, h3, h4⟩ := R.bind_ok h2
          cases h4
          exact fun v σ' H' A' => post _ _ (At.post A' (R.opt_ok h3) hst)
      · cases hrun
end
end DD
/-! DFin: a law by the evaluator. -/
namespace DD
open PySem L2
/-- the names bind as they stand -/
def BndOk (r : Dr) : Prop := ∀ (kV doc pm : Value) (an : Option Addr) (cdv ct : Value) (us : List Value), us.length = r.ps.length → bindArgs (PySem.W.fnOf r.d.name r.d.qual r.d.params r.d.body r.d.scope .none kV doc pm an cdv ct) ⟨us, []⟩ = pure (r.ps.zip us)
def gFact (rs : List Dr) (fa : List He.Fa) (p : Str × GE) : Bool := match p.2 with
  | .fn i np io => (match rs[i]? with
    | some r => decide (r.d.at_ = (p.1, none)) && decide (np = r.df.np) && decide (io = r.df.io)
    | none => false) && fa.any fun f => match f with
      | .glo x => x == p.1
      | _ => false
  | .cst (.int n) => fa.any fun f => match f with
      | .int x m => x == p.1 && m == n
      | _ => false
  | .cst _ => false
  | .free => fa.any fun f => match f with
      | .free x => x == p.1
      | _ => false
def noDfl (r : Dr) : Bool := r.d.dfl.isEmpty && r.d.kwd.isEmpty
def allOk (rs : List Dr) (G : List (Str × GE)) (fa : List He.Fa) : Bool := rs.all (Dr.ok G) && G.all (gFact rs fa) && rs.all noDfl
theorem facts_mem {fa : List He.Fa} {fn : List He.DefD} {K : PySem.W.Frag} (c : He.SaysD fa fn K) {f : He.Fa} (h : f ∈ fa) : f.ok K = true := by
  obtain ⟨i, hi, e⟩ := List.mem_iff_getElem.mp h
  exact c.fact i (f := f) (by rw [List.getElem?_eq_getElem hi, e])
theorem lookup_mem {G : List (Str × GE)} {x : Str} {g : GE} (h : G.lookup x = some g) : (x, g) ∈ G := by
  induction G with
  | nil => cases h
  | cons p G ih =>
    obtain ⟨y, k⟩ := p
    rw [List.lookup_cons] at h
    split at h
    · rename_i e
      cases h
      rw [beq_iff_eq] at e
      subst e
      exact List.mem_cons_self
    · exact List.mem_cons_of_mem _ (ih h)
theorem fin {P : Program} {w : World} {fa : List He.Fa} {rs : List Dr} {G : List (Str × GE)} (ok : allOk rs G fa = true) (bnd : ∀ r ∈ rs, BndOk r) {K : PySem.W.Frag} {h : Heap} {mg : Str → Option Value} (X : K.In h) (NS : h.Ns mainGlobals mg) (c : He.SaysD fa (rs.map (·.d)) K)
    {f : Addr} {x : Str} {i : Nat} {r : Dr} (hr : rs[i]? = some r) (hat : r.d.at_ = (x, none)) (hg : He.Fa.glo x ∈ fa) (hps : r.ps = [("script" : Str)]) (hio : r.df.io = none) (hnp : r.df.np = 1) (hfa : mg x = some (.ref f)) (W n : Nat)
    (law : ∀ ns : List Int, ns.length ≤ 63 → fnS W (dfs rs) n i [.scr ns] = .ok (.bl true, false, none)) :
    ∃ fd : FuncData, (∀ (s : Shared) (v : Value), BindsTo s fd ⟨[v], []⟩ [("script", v)]) ∧ ∃ sp : Sp, (∀ (H : Hp) (a : Addr) (ns : List Int), ns.length ≤ 63 → Only H → SqL K H a (ns.map V.int) → sp [.ref a] H (fun v _ => v = .bl true) fun _ _ _ => False) ∧
      ∀ base : Heap, K.In base → base.Ns mainGlobals mg → FnOk P w K mg base CX0 n f fd [("script" : Str)] sp := by
  unfold allOk at ok
  rw [Bool.and_eq_true, Bool.and_eq_true] at ok
  obtain ⟨⟨ok1, ok2⟩, ok3⟩ := ok
  have hfun : ∀ (j : Nat) (q : Dr), rs[j]? = some q → ∃ fd, FunD K q.d.name q.d.qual q.d.params q.d.body q.d.scope [] [] (He.fAd K q.d.at_) fd := fun j q hq => by
    obtain ⟨fd, F⟩ := c.def_ j (d := q.d) (by rw [List.getElem?_map, hq]; rfl)
    have z := List.all_eq_true.mp ok3 q (List.mem_of_getElem? hq)
    unfold noDfl at z
    rw [Bool.and_eq_true, List.isEmpty_iff, List.isEmpty_iff] at z
    unfold He.DefD.dvs He.DefD.kws at F
    rw [z.1, z.2] at F
    exact ⟨fd, F⟩
  classical
  let fA : Nat → Addr := fun j => match rs[j]? with
    | some q => He.fAd K q.d.at_
    | none => 0
  let fd : Nat → FuncData := fun j => if z : ∃ q, rs[j]? = some q then (hfun j z.choose z.choose_spec).choose else (hfun i r hr).choose
  have hF : ∀ j q, rs[j]? = some q → FunD K q.d.name q.d.qual q.d.params q.d.body q.d.scope [] [] (fA j) (fd j) := fun j q hq => by
    have z : ∃ q, rs[j]? = some q := ⟨q, hq⟩
    have e1 : fA j = He.fAd K q.d.at_ := by show (match rs[j]? with | some q => He.fAd K q.d.at_ | none => 0) = _; rw [hq]
    have e2 : fd j = (hfun j z.choose z.choose_spec).choose := dif_pos z
    have e3 : z.choose = q := Option.some.inj (z.choose_spec.symm.trans hq)
    have s := (hfun j z.choose z.choose_spec).choose_spec
    rw [← e2] at s
    rw [e3] at s
    rw [e1]
    exact s
  have hB : ∀ j q, rs[j]? = some q → Binds K (fd j) q.ps [] := fun j q hq => (hF j q hq).bindsN (bnd q (List.mem_of_getElem? hq))
  have hG : ∀ y g, G.lookup y = some g → GlOk ⟨K, fun _ => 0⟩ rs mg fA y g := fun y g hy => by
    have z := List.all_eq_true.mp ok2 _ (lookup_mem hy)
    unfold gFact at z
    simp only at z
    split at z
    · rename_i j np io
      rw [Bool.and_eq_true] at z
      obtain ⟨z1, z2⟩ := z
      split at z1
      · rename_i q hq
        simp only [Bool.and_eq_true, decide_eq_true_eq] at z1
        obtain ⟨f, hf, hx⟩ := List.any_eq_true.mp z2
        split at hx
        · rw [beq_iff_eq] at hx
          subst hx
          refine ⟨q, hq, z1.1.2, z1.2, ?_⟩
          have e1 : fA j = He.fAd K q.d.at_ := by show (match rs[j]? with | some q => He.fAd K q.d.at_ | none => 0) = _; rw [hq]
          rw [e1, z1.1.1]
          exact He.glo_ok X NS (facts_mem c hf)
        · cases hx
      · cases z1
    · obtain ⟨f, hf, hx⟩ := List.any_eq_true.mp z
      split at hx
      · rw [Bool.and_eq_true, beq_iff_eq, beq_iff_eq] at hx
        obtain ⟨rfl, rfl⟩ := hx
        obtain ⟨t, ht⟩ := He.int_ok X NS (facts_mem c hf)
        exact ⟨_, .int _, ht, ⟨t, rfl⟩, fun H Av => by rw [Rep]⟩
      · cases hx
    · cases z
    · obtain ⟨f, hf, hx⟩ := List.any_eq_true.mp z
      split at hx
      · rw [beq_iff_eq] at hx
        subst hx
        exact He.free_ok X NS (facts_mem c hf)
      · cases hx
  have e0 : fA i = f := by
    have e1 : fA i = He.fAd K r.d.at_ := by show (match rs[i]? with | some q => He.fAd K q.d.at_ | none => 0) = _; rw [hr]
    rw [e1, hat]
    have := He.glo_ok X NS (facts_mem c hg)
    rw [hfa] at this
    cases this
    rfl
  refine ⟨fd i, fun s v => ?_, spF ⟨K, fun _ => 0⟩ (fnS W (dfs rs) n i) r.df.np r.df.io, fun H a ns hl hO hS => ?_, fun base _ _ => ?_⟩
  · have b := FunD.bindsA (ps := r.ps) (hF i r hr) (bnd r (List.mem_of_getElem? hr)) s [v] (by rw [hps]; rfl)
    rw [hps] at b
    exact b
  · refine ⟨by rw [hnp]; rfl, fun _ => False, [.scr ns], .bl true, false, none, ⟨fun _ z => z.elim, rfl, (fun a ⟨q, e, _⟩ => by rw [hio] at e; cases e), fun j t ht => ?_⟩, law ns hl, fun v H' p => ?_⟩
    · cases j with
      | succ j => simp at ht
      | zero =>
        simp only [List.getElem?_cons_zero, Option.some.injEq] at ht
        subst ht
        refine ⟨.ref a, rfl, ?_⟩
        rw [hio, if_neg (fun z => nomatch z), Rep]
        refine ⟨a, rfl, ?_⟩
        rcases hS with (hS | ⟨o, hS⟩) | hS
        · rcases hO a with z | ⟨o, xs, z⟩
          · rw [z] at hS; cases hS
          · rw [z] at hS; cases hS
        · exact .inl ⟨o, hS⟩
        · exact .inr (.inr hS)
    · have q := p.res
      rw [if_neg Bool.false_ne_true, Rep] at q
      exact q
  · have F := all_ok (P := P) (w := w) (base := base) (W := W) (c := ⟨K, fun _ => 0⟩) (mg := mg) rfl hG hF hB (fun r hr => List.all_eq_true.mp ok1 r hr) n i r hr
    rw [e0, hps] at F
    exact F
end DD
/-! DHand: steps of the evaluator; the laws' own hand and draws. -/
namespace DD
open PySem
section
variable {Φ Ψ : Nat → Fn} {W : Nat}
theorem loopC_step {f : En → R (OV × En)} {c : En → R (Bool × En)} {g : P} {own : List Nat} {x : T} {xs acc : List T} {env e1 e2 e3 : En} {t : T} {fr : Bool} (h1 : asgP g x (wipeE env own) = .ok e1) (h2 : c e1 = .ok (true, e2)) (h3 : f e2 = .ok (.v t fr, e3)) (h4 : acc.length < line) :
    loopC f c g own (x :: xs) acc env = loopC f c g own xs (acc ++ [t]) e3 := by
  simp only [loopC, h1, R.bind, h2, h3, if_true, h4]
theorem ev_comp {own : List Nat} {g : P} {k : ItK} {es : List E} {cond : Option E} {elt : E} {env e1 eZ : En} {os : List OV} {ts xs ys : List T} (h1 : evs Φ Ψ es env = .ok (os, e1)) (h2 : plain os = some ts) (h3 : k.walk ts = some xs)
    (h4 : loopC (fun e => ev Φ Ψ elt e) (fun e => evc Φ Ψ cond e) g own xs [] e1 = .ok (ys, eZ)) : ev Φ Ψ (.comp own g k es cond elt) env = .ok (.v (.lst ys) true, backE e1 eZ own) := by
  rw [ev, h1]
  simp only [R.bind, h2, R.opt, h3, h4]
theorem ex_set {i : Nat} {e : E} {env e1 e2 : En} {t : T} {fr : Bool} (h1 : ev Φ Ψ e env = .ok (.v t fr, e1)) (h2 : setS e1 i t fr = .ok e2) : exec Φ Ψ W (.set i e) env = .ok (.nx, e2) := by
  rw [exec, h1]
  simp only [R.bind, h2]
theorem exs_cons {s : S} {ss : List S} {env e1 : En} (h : exec Φ Ψ W s env = .ok (.nx, e1)) : execs Φ Ψ W (s :: ss) env = execs Φ Ψ W ss e1 := by
  rw [execs, h]; rfl
theorem exs_ret {s : S} {ss : List S} {env e1 : En} {t : T} {fr : Bool} (h : exec Φ Ψ W s env = .ok (.rt t fr, e1)) : execs Φ Ψ W (s :: ss) env = .ok (.rt t fr, e1) := by
  rw [execs, h]; rfl
theorem fn_ret {D : Nat → Option Df} {n i : Nat} {d : Df} {ts : List T} {t : T} {fr : Bool} {env : En} {out : Option T} (hD : D i = some d) (hl : ts.length = d.np) (h : execs (fnS W D n) (fun _ _ => .bad) W d.body (startE d.io ts d.slots) = .ok (.rt t fr, env)) (ho : outOf d.io env = some out) : fnS W D (n + 1) i ts = .ok (t, fr, out) := by
  simp only [fnS, hD, runDf, hl, beq_self_eq_true, if_true, h, R.bind, R.opt, ho]
theorem ex_if {c : E} {a b : List S} {env e1 : En} {d fr : Bool} (h : ev Φ Ψ c env = .ok (.v (.bl d) fr, e1)) : exec Φ Ψ W (.ite c a b) env = if d = true then execs Φ Ψ W a e1 else execs Φ Ψ W b e1 := by
  rw [exec, h]; rfl
theorem ex_ret {e : E} {env e1 : En} {t : T} {fr : Bool} (h : ev Φ Ψ e env = .ok (.v t fr, e1)) : exec Φ Ψ W (.ret e) env = .ok (.rt t fr, e1) := by
  rw [exec, h]; rfl
end
theorem sEq_int (a b : Int) : sEq (.int a) (.int b) = some (.bl (decide (a = b))) := by
  unfold sEq
  have e : T.eqv (.int a) (.int b) = decide (a = b) := by
    unfold T.eqv
    simp only [T.toD]
    simp only [PyData.eqv]
    by_cases h : a = b
    · subst h; simp
    · simp [h]
  rw [e]; rfl
/-- a hand as the laws hold it -/
def hdT (cs : List Int) (a b c d : Int) : T := .lst [.lst (cs.map .int), .int a, .int b, .int c, .int d]
def Hd (t : T) : Prop := ∃ (cs : List Int) (a b c d : Int), t = hdT cs a b c d ∧ 0 ≤ a ∧ 0 ≤ b ∧ 0 ≤ c ∧ 0 ≤ d ∧ ∀ x ∈ cs, 0 ≤ x
def absI (i : Int) : Int := if i < 0 then -i else i
def dHand (rt : E) : Df := ⟨1, none, 3, [
    .set 1 (.comp [2] (.s 2) .val [.prim .slU [.peek 0, .cst (.int 63)]] none (.prim .abs [.prim .int [.peek 2]])),
    .ret rt]⟩
theorem loopC_abs (Φ Ψ : Nat → Fn) (e0 e1 : Option Sl) : ∀ (l : List Int) (acc : List T) (z : Option Sl), acc.length + l.length ≤ line → ∃ z', loopC (fun e => ev Φ Ψ (.prim .abs [.prim .int [.peek 2]]) e) (fun e => evc Φ Ψ none e) (.s 2) [2] (l.map .int) acc [e0, e1, z] = .ok (acc ++ (l.map absI).map .int, [e0, e1, z'])
  | [], acc, z, h => ⟨z, by simp [loopC]⟩
  | i :: l, acc, z, h => by
    simp only [List.length_cons] at h
    obtain ⟨z', hz⟩ := loopC_abs Φ Ψ e0 e1 l (acc ++ [.int (absI i)]) (some ⟨.int i, .sh⟩) (by simp; omega)
    refine ⟨z', ?_⟩
    have hl : acc.length < line := by omega
    rw [List.map_cons, loopC_step (e1 := [e0, e1, some ⟨.int i, .sh⟩]) (e2 := [e0, e1, some ⟨.int i, .sh⟩]) (e3 := [e0, e1, some ⟨.int i, .sh⟩]) (t := .int (absI i)) (fr := false) rfl (by rw [evc]) rfl hl, hz]
    simp
theorem cut_map (ns : List Int) (u : Option Int) : ∃ l : List Int, cutT (ns.map T.int) none u = l.map T.int ∧ l.length ≤ ns.length := by
  refine ⟨(ns.drop (clipO ns.length 0 none)).take (clipO ns.length ns.length u - clipO ns.length 0 none), ?_, ?_⟩
  · unfold cutT
    rw [List.map_take, List.map_drop, List.length_map]
  · rw [List.length_take, List.length_drop]; omega
theorem hand_ok {W : Nat} {D : Nat → Option Df} {n i : Nat} {rt : E} {k : Int → Int} (hD : D i = some (dHand rt))
    (hrt : ∀ (Φ Ψ : Nat → Fn) (s z : Option Sl) (l : List Int), ev Φ Ψ rt [s, some ⟨.lst (l.map .int), .own⟩, z] = .ok (.v (hdT l 0 0 (k ((l.map T.int).length : Int)) 0) true, [s, some ⟨.lst (l.map .int), .sh⟩, z])) (hk : ∀ x, 0 ≤ x → 0 ≤ k x) (ns : List Int) (hn : ns.length ≤ 63) : ∃ t, fnS W D (n + 1) i [.scr ns] = .ok (t, true, none) ∧ Hd t := by
  obtain ⟨l, e, hl⟩ := cut_map ns (some 63)
  obtain ⟨z', hz⟩ := loopC_abs (fnS W D n) (fun _ _ => .bad) (some ⟨.scr ns, .sh⟩) none l [] none (by simp [line]; omega)
  rw [List.nil_append] at hz
  have s1 : evs (fnS W D n) (fun _ _ => .bad) [.prim .slU [.peek 0, .cst (.int 63)]] [some ⟨.scr ns, .sh⟩, none, none] = .ok ([.v (.lst (l.map .int)) true], [some ⟨.scr ns, .sh⟩, none, none]) := by
    rw [← e]; rfl
  refine ⟨_, fn_ret hD rfl ((exs_cons (ex_set (ev_comp s1 rfl rfl hz) rfl)).trans (exs_ret (ex_ret (hrt _ _ _ _ _)))) rfl, l.map absI, 0, 0, _, 0, rfl, by omega, by omega, hk _ (by omega), by omega, ?_⟩
  intro x hx
  obtain ⟨y, _, rfl⟩ := List.mem_map.mp hx
  unfold absI
  split <;> omega
end DD
/-! DDraw: the laws' draws. -/
namespace DD
open PySem
section
variable {Φ Ψ : Nat → Fn} {W : Nat}
theorem mul_r {i k : Int} (h : small64 k = true) : sMul (.int i) (.int k) = some (.int (i * k)) := by
  show (if mulOk i k = true then _ else _) = _
  unfold mulOk
  rw [h, Bool.or_true]; rfl
theorem mul_l {i k : Int} (h : small64 i = true) : sMul (.int i) (.int k) = some (.int (i * k)) := by
  show (if mulOk i k = true then _ else _) = _
  unfold mulOk
  rw [h, Bool.true_or]; rfl
theorem mod_ok {i j : Int} (h : 0 < j) : sMod (.int i) (.int j) = some (.int (i % j)) := by
  show (if 0 < j then _ else _) = _
  rw [if_pos h]
theorem fdiv_ok {i j : Int} (h : 0 < j) (h2 : j < 1073741824) : sFdiv (.int i) (.int j) = some (.int (i / j)) := by
  show (if 0 < j ∧ j < 1073741824 then _ else _) = _
  rw [if_pos ⟨h, h2⟩]
theorem ev_p1 {p : Prim} {a : E} {env e1 : En} {o : OV} {x t : T} (h1 : ev Φ Ψ a env = .ok (o, e1)) (h2 : o.res e1 = some x) (h3 : p.sem [x] = some t) : ev Φ Ψ (.prim p [a]) env = .ok (.v t (p.makes && isCell t), e1) := by
  simp only [ev, evs, h1, R.bind, vals, h2, R.opt, h3]
theorem ev_p2 {p : Prim} {a b : E} {env e1 e2 : En} {o u : OV} {x y t : T} (h1 : ev Φ Ψ a env = .ok (o, e1)) (h2 : ev Φ Ψ b e1 = .ok (u, e2)) (h3 : o.res e2 = some x) (h4 : u.res e2 = some y) (h5 : p.sem [x, y] = some t) : ev Φ Ψ (.prim p [a, b]) env = .ok (.v t (p.makes && isCell t), e2) := by
  simp only [ev, evs, h1, h2, R.bind, vals, h3, h4, R.opt, h5]
end
def hI (k : Int) : E := .prim .ix [.peek 0, .cst (.int k)]
def cD : E := .and (.prim .eq [hI 2, .cst (.int 0)]) (.prim .lt [hI 1, .prim .len [hI 0]])
def bD (nx : E) : List S := [.set 2 (.prim .ix [hI 0, hI 1]), .setIx 0 (.cst (.int 1)) (.prim .add [hI 1, .cst (.int 1)]), .setIx 0 (.cst (.int 3)) nx, .ite (.prim .ge [.peek 2, .prim .pow [.cst (.int 10), .cst (.int 18)]]) [.setIx 0 (.cst (.int 2)) (.var 2)] []]
def s1D : List S := [.set 3 (.prim .mod [.prim .int [hI 2], .peek 1]), .setIx 0 (.cst (.int 2)) (.prim .fdiv [hI 2, .peek 1]), .ret (.mv 3)]
def dDraw (m1 m2 m3 m4 m5 : Int) (nx : E) : Df := ⟨2, (some 0), 5, [
    .ite cD (bD nx) [],
    .ite (.prim .gt [hI 2, .cst (.int 0)]) s1D [],
    .setIx 0 (.cst (.int 4)) (.prim .add [hI 4, .cst (.int 1)]),
    .set 4 (.prim .mod [.prim .int [.prim .mul [.prim .int [.prim .add [hI 3, .prim .mul [.cst (.int m1), hI 4]]], .cst (.int 48271)]], .cst (.int 2147483647)]),
    .set 4 (.prim .mod [.prim .int [.prim .mul [.peek 4, .prim .add [.prim .fdiv [.peek 4, .cst (.int m2)], .cst (.int 69621)]]], .cst (.int 2147483647)]),
    .set 4 (.prim .mod [.prim .int [.prim .mul [.peek 4, .prim .add [.prim .fdiv [.peek 4, .cst (.int m3)], .cst (.int m4)]]], .cst (.int m5)]),
    .ret (.prim .mod [.prim .int [.prim .fdiv [.peek 4, .cst (.int 16)]], .peek 1])]⟩
/-- the state of a draw -/
def dE (t : T) (m : Int) (x y z : Option Sl) : En := [some ⟨t, .io⟩, some ⟨.int m, .sh⟩, x, y, z]
theorem ix_map {cs : List Int} {a : Int} (h0 : 0 ≤ a) (h : a < (cs.map T.int).length) : ∃ x, ixAt (cs.map T.int) a = some (.int x) ∧ x ∈ cs := by
  have hl : a.toNat < cs.length := by simp at h; omega
  refine ⟨cs[a.toNat], ?_, List.getElem_mem _⟩
  unfold ixAt
  rw [if_pos h0, List.getElem?_map, List.getElem?_eq_getElem hl]
  rfl
theorem small_of {k : Int} (h1 : -(2 ^ 64) < k) (h2 : k < 2 ^ 64) : small64 k = true := by
  unfold small64
  rw [decide_eq_true h1, decide_eq_true h2]; rfl
section
variable {Φ Ψ : Nat → Fn} {W : Nat}
theorem ev_int {e : E} {env e1 : En} {i : Int} {fr : Bool} (h : ev Φ Ψ e env = .ok (.v (.int i) fr, e1)) : ev Φ Ψ (.prim .int [e]) env = .ok (.v (.int i) false, e1) := ev_p1 h rfl rfl
theorem mulmod {E0 : En} {e1 e2 : E} {i k q : Int} {o1 o2 : OV} (h1 : ev Φ Ψ e1 E0 = .ok (o1, E0)) (h2 : ev Φ Ψ e2 E0 = .ok (o2, E0)) (r1 : o1.res E0 = some (.int i)) (r2 : o2.res E0 = some (.int k)) (hs : sMul (.int i) (.int k) = some (.int (i * k))) (hq : 0 < q) :
    ev Φ Ψ (.prim .mod [.prim .int [.prim .mul [e1, e2]], .cst (.int q)]) E0 = .ok (.v (.int (i * k % q)) false, E0) :=
  ev_p2 (ev_int (ev_p2 (p := .mul) h1 h2 r1 r2 hs)) (u := .v (.int q) false) (by rw [ev]) rfl rfl (mod_ok hq)
/-- the first statement of a draw -/
theorem draw0 {nx : E} {f : Int → Int → Int} (hnx : ∀ (cs : List Int) (a b c d m x : Int) (y z : Option Sl), ev Φ Ψ nx (dE (hdT cs a b c d) m (some ⟨.int x, .sh⟩) y z) = .ok (.v (.int (f c x)) false, dE (hdT cs a b c d) m (some ⟨.int x, .sh⟩) y z)) (hf : ∀ c x, 0 ≤ f c x)
    {cs : List Int} {a b c d m : Int} (ha : 0 ≤ a) (hb : 0 ≤ b) (hc : 0 ≤ c) (hcs : ∀ x ∈ cs, 0 ≤ x) : ∃ a' b' c' x, exec Φ Ψ W (.ite cD (bD nx) []) (dE (hdT cs a b c d) m none none none) = .ok (.nx, dE (hdT cs a' b' c' d) m x none none) ∧ 0 ≤ a' ∧ 0 ≤ b' ∧ 0 ≤ c' := by
  by_cases hb0 : b = 0
  · subst hb0
    have c1 : ev Φ Ψ cD (dE (hdT cs a 0 c d) m none none none) = .ok (.v (.bl (decide (a < ((cs.map T.int).length : Int)))) false, dE (hdT cs a 0 c d) m none none none) := rfl
    by_cases hl : a < ((cs.map T.int).length : Int)
    · obtain ⟨x, hx, hxm⟩ := ix_map ha hl
      rw [decide_eq_true hl] at c1
      have e1 : ev Φ Ψ (.prim .ix [hI 0, hI 1]) (dE (hdT cs a 0 c d) m none none none) = .ok (.v (.int x) false, dE (hdT cs a 0 c d) m none none none) :=
        ev_p2 (x := .lst (cs.map T.int)) (y := .int a) (t := .int x) rfl rfl rfl rfl hx
      have e2 : exec Φ Ψ W (.setIx 0 (.cst (.int 1)) (.prim .add [hI 1, .cst (.int 1)])) (dE (hdT cs a 0 c d) m (some ⟨.int x, .sh⟩) none none) = .ok (.nx, dE (hdT cs (a + 1) 0 c d) m (some ⟨.int x, .sh⟩) none none) := rfl
      have e3 : exec Φ Ψ W (.setIx 0 (.cst (.int 3)) nx) (dE (hdT cs (a + 1) 0 c d) m (some ⟨.int x, .sh⟩) none none) = .ok (.nx, dE (hdT cs (a + 1) 0 (f c x) d) m (some ⟨.int x, .sh⟩) none none) := by
        rw [exec, hnx]; rfl
      have c2 : ev Φ Ψ (.prim .ge [.peek 2, .prim .pow [.cst (.int 10), .cst (.int 18)]]) (dE (hdT cs (a + 1) 0 (f c x) d) m (some ⟨.int x, .sh⟩) none none) = .ok (.v (.bl (decide ((10 : Int) ^ 18 ≤ x))) false, dE (hdT cs (a + 1) 0 (f c x) d) m (some ⟨.int x, .sh⟩) none none) := rfl
      by_cases hx2 : (10 : Int) ^ 18 ≤ x
      · rw [decide_eq_true hx2] at c2
        refine ⟨a + 1, x, f c x, some ⟨.int x, .sh⟩, ?_, by omega, hcs x hxm, hf c x⟩
        refine (ex_if c1).trans ?_
        rw [if_pos rfl]
        refine (exs_cons (ex_set e1 rfl)).trans ((exs_cons e2).trans ((exs_cons e3).trans ?_))
        refine (exs_cons ((ex_if c2).trans ?_)).trans rfl
        rw [if_pos rfl]
        rfl
      · rw [decide_eq_false hx2] at c2
        refine ⟨a + 1, 0, f c x, some ⟨.int x, .sh⟩, ?_, by omega, by omega, hf c x⟩
        refine (ex_if c1).trans ?_
        rw [if_pos rfl]
        refine (exs_cons (ex_set e1 rfl)).trans ((exs_cons e2).trans ((exs_cons e3).trans ?_))
        exact (exs_cons ((ex_if c2).trans rfl)).trans rfl
    · refine ⟨a, 0, c, none, ?_, ha, by omega, hc⟩
      rw [decide_eq_false hl] at c1
      exact (ex_if c1).trans rfl
  · refine ⟨a, b, c, none, ?_, ha, hb, hc⟩
    have c0 : ev Φ Ψ (.prim .eq [hI 2, .cst (.int 0)]) (dE (hdT cs a b c d) m none none none) = .ok (.v (.bl (decide (b = 0))) false, dE (hdT cs a b c d) m none none none) :=
      ev_p2 (x := .int b) (y := .int 0) (t := .bl (decide (b = 0))) rfl (u := .v (.int 0) false) (by rw [ev]) rfl rfl (sEq_int b 0)
    rw [decide_eq_false hb0] at c0
    have c1 : ev Φ Ψ cD (dE (hdT cs a b c d) m none none none) = .ok (.v (.bl false) false, dE (hdT cs a b c d) m none none none) := by
      rw [cD, ev, c0]; rfl
    exact (ex_if c1).trans rfl
end
theorem draw_ok {W : Nat} {D : Nat → Option Df} {n i : Nat} {m1 m2 m3 m4 m5 : Int} {nx : E} {f : Int → Int → Int} (hD : D i = some (dDraw m1 m2 m3 m4 m5 nx)) (hm1 : small64 m1 = true) (h01 : 0 ≤ m1) (hm2 : 0 < m2 ∧ m2 < 1073741824) (hm3 : 0 < m3 ∧ m3 < 1073741824) (hm4 : 0 ≤ m4) (hm5 : 0 < m5)
    (hnx : ∀ (Φ Ψ : Nat → Fn) (cs : List Int) (a b c d m x : Int) (y z : Option Sl), ev Φ Ψ nx (dE (hdT cs a b c d) m (some ⟨.int x, .sh⟩) y z) = .ok (.v (.int (f c x)) false, dE (hdT cs a b c d) m (some ⟨.int x, .sh⟩) y z)) (hf : ∀ c x, 0 ≤ f c x)
    {t : T} (h : Hd t) {m : Int} (hm : 0 < m) (hmb : m < 1073741824) : ∃ d t', fnS W D (n + 1) i [t, .int m] = .ok (.int d, false, some t') ∧ 0 ≤ d ∧ d < m ∧ Hd t' := by
  obtain ⟨cs, a, b, c, d, rfl, ha, hb, hc, hd, hcs⟩ := h
  obtain ⟨a, b, c, x, s0, ha, hb, hc⟩ := draw0 (Φ := fnS W D n) (Ψ := fun _ _ => .bad) (W := W) (hnx _ _) hf (m := m) (d := d) ha hb hc hcs
  have c1 : ev (fnS W D n) (fun _ _ => .bad) (.prim .gt [hI 2, .cst (.int 0)]) (dE (hdT cs a b c d) m x none none) = .ok (.v (.bl (decide (0 < b))) false, dE (hdT cs a b c d) m x none none) := rfl
  by_cases hb1 : 0 < b
  · rw [decide_eq_true hb1] at c1
    refine ⟨b % m, hdT cs a (b / m) c d, ?_, Int.emod_nonneg _ (by omega), Int.emod_lt_of_pos _ hm, cs, a, b / m, c, d, rfl, ha, Int.ediv_nonneg hb (by omega), hc, hd, hcs⟩
    refine fn_ret hD rfl (env := dE (hdT cs a (b / m) c d) m x none none) ((exs_cons s0).trans (exs_ret ((ex_if c1).trans ?_))) rfl
    rw [if_pos rfl]
    have e1 : ev (fnS W D n) (fun _ _ => .bad) (.prim .mod [.prim .int [hI 2], .peek 1]) (dE (hdT cs a b c d) m x none none) = .ok (.v (.int (b % m)) false, dE (hdT cs a b c d) m x none none) :=
      ev_p2 (x := .int b) (y := .int m) (t := .int (b % m)) rfl rfl rfl rfl (mod_ok hm)
    have e2 : ev (fnS W D n) (fun _ _ => .bad) (.prim .fdiv [hI 2, .peek 1]) (dE (hdT cs a b c d) m x (some ⟨.int (b % m), .sh⟩) none) = .ok (.v (.int (b / m)) false, dE (hdT cs a b c d) m x (some ⟨.int (b % m), .sh⟩) none) :=
      ev_p2 (x := .int b) (y := .int m) (t := .int (b / m)) rfl rfl rfl rfl (fdiv_ok hm hmb)
    have e3 : exec (fnS W D n) (fun _ _ => .bad) W (.setIx 0 (.cst (.int 2)) (.prim .fdiv [hI 2, .peek 1])) (dE (hdT cs a b c d) m x (some ⟨.int (b % m), .sh⟩) none) = .ok (.nx, dE (hdT cs a (b / m) c d) m x (some ⟨.int (b % m), .sh⟩) none) := by
      rw [exec, e2]; rfl
    exact (exs_cons (ex_set e1 rfl)).trans ((exs_cons e3).trans (exs_ret rfl))
  · rw [decide_eq_false hb1] at c1
    have hb0 : b = 0 := by omega
    subst hb0
    -- the number
    let E0 := dE (hdT cs a 0 c (d + 1)) m x none none
    have s2 : exec (fnS W D n) (fun _ _ => .bad) W (.setIx 0 (.cst (.int 4)) (.prim .add [hI 4, .cst (.int 1)])) (dE (hdT cs a 0 c d) m x none none) = .ok (.nx, dE (hdT cs a 0 c (d + 1)) m x none none) := rfl
    have e3 : ev (fnS W D n) (fun _ _ => .bad) (.prim .mod [.prim .int [.prim .mul [.prim .int [.prim .add [hI 3, .prim .mul [.cst (.int m1), hI 4]]], .cst (.int 48271)]], .cst (.int 2147483647)]) E0 = .ok (.v (.int ((c + m1 * (d + 1)) * 48271 % 2147483647)) false, E0) := by
      refine mulmod (ev_int (ev_p2 (p := .add) (x := .int c) (y := .int (m1 * (d + 1))) (t := .int (c + m1 * (d + 1))) rfl (ev_p2 (p := .mul) (x := .int m1) (y := .int (d + 1)) (t := .int (m1 * (d + 1))) (o := .v (.int m1) false) (by rw [ev]) rfl rfl rfl (mul_l hm1)) rfl rfl rfl)) (o2 := .v (.int 48271) false) (by rw [ev]) rfl rfl (mul_r (small_of (by decide) (by decide))) (by decide)
    obtain ⟨y1, hy1⟩ : ∃ y, y = (c + m1 * (d + 1)) * 48271 % 2147483647 := ⟨_, rfl⟩
    rw [← hy1] at e3
    have y1a : 0 ≤ y1 := by rw [hy1]; exact Int.emod_nonneg _ (by decide)
    have y1b : y1 < 2147483647 := by rw [hy1]; exact Int.emod_lt_of_pos _ (by decide)
    let E1 := dE (hdT cs a 0 c (d + 1)) m x none (some ⟨.int y1, .sh⟩)
    have e4 : ev (fnS W D n) (fun _ _ => .bad) (.prim .mod [.prim .int [.prim .mul [.peek 4, .prim .add [.prim .fdiv [.peek 4, .cst (.int m2)], .cst (.int 69621)]]], .cst (.int 2147483647)]) E1 = .ok (.v (.int (y1 * (y1 / m2 + 69621) % 2147483647)) false, E1) := by
      refine mulmod (o1 := .s 4) rfl (ev_p2 (p := .add) (x := .int (y1 / m2)) (y := .int 69621) (t := .int (y1 / m2 + 69621)) (ev_p2 (p := .fdiv) (x := .int y1) (y := .int m2) (t := .int (y1 / m2)) (o := .s 4) rfl (u := .v (.int m2) false) (by rw [ev]) rfl rfl (fdiv_ok hm2.1 hm2.2)) (u := .v (.int 69621) false) (by rw [ev]) rfl rfl rfl) rfl rfl (mul_l (small_of (by omega) (by omega))) (by decide)
    obtain ⟨y2, hy2⟩ : ∃ y, y = y1 * (y1 / m2 + 69621) % 2147483647 := ⟨_, rfl⟩
    rw [← hy2] at e4
    have y2a : 0 ≤ y2 := by rw [hy2]; exact Int.emod_nonneg _ (by decide)
    have y2b : y2 < 2147483647 := by rw [hy2]; exact Int.emod_lt_of_pos _ (by decide)
    let E2 := dE (hdT cs a 0 c (d + 1)) m x none (some ⟨.int y2, .sh⟩)
    have e5 : ev (fnS W D n) (fun _ _ => .bad) (.prim .mod [.prim .int [.prim .mul [.peek 4, .prim .add [.prim .fdiv [.peek 4, .cst (.int m3)], .cst (.int m4)]]], .cst (.int m5)]) E2 = .ok (.v (.int (y2 * (y2 / m3 + m4) % m5)) false, E2) := by
      refine mulmod (o1 := .s 4) rfl (ev_p2 (p := .add) (x := .int (y2 / m3)) (y := .int m4) (t := .int (y2 / m3 + m4)) (ev_p2 (p := .fdiv) (x := .int y2) (y := .int m3) (t := .int (y2 / m3)) (o := .s 4) rfl (u := .v (.int m3) false) (by rw [ev]) rfl rfl (fdiv_ok hm3.1 hm3.2)) (u := .v (.int m4) false) (by rw [ev]) rfl rfl rfl) rfl rfl (mul_l (small_of (by omega) (by omega))) hm5
    obtain ⟨y3, hy3⟩ : ∃ y, y = y2 * (y2 / m3 + m4) % m5 := ⟨_, rfl⟩
    rw [← hy3] at e5
    let E3 := dE (hdT cs a 0 c (d + 1)) m x none (some ⟨.int y3, .sh⟩)
    have e6 : ev (fnS W D n) (fun _ _ => .bad) (.prim .mod [.prim .int [.prim .fdiv [.peek 4, .cst (.int 16)]], .peek 1]) E3 = .ok (.v (.int (y3 / 16 % m)) false, E3) :=
      ev_p2 (x := .int (y3 / 16)) (y := .int m) (t := .int (y3 / 16 % m)) (ev_int (ev_p2 (p := .fdiv) (x := .int y3) (y := .int 16) (t := .int (y3 / 16)) (o := .s 4) rfl (u := .v (.int 16) false) (by rw [ev]) rfl rfl (fdiv_ok (i := y3) (j := 16) (by decide) (by decide)))) rfl rfl rfl (mod_ok hm)
    refine ⟨y3 / 16 % m, hdT cs a 0 c (d + 1), ?_, Int.emod_nonneg _ (by omega), Int.emod_lt_of_pos _ hm, cs, a, 0, c, d + 1, rfl, ha, by omega, hc, by omega, hcs⟩
    refine fn_ret hD rfl (env := E3) ((exs_cons s0).trans ((exs_cons ((ex_if c1).trans rfl)).trans ((exs_cons s2).trans ((exs_cons (ex_set e3 rfl)).trans ((exs_cons (ex_set e4 rfl)).trans ((exs_cons (ex_set e5 rfl)).trans (exs_ret (ex_ret e6)))))))) rfl
end DD
/-! DLaw: calls, picks, the loop of a law's cases. -/
namespace DD
open PySem
section
variable {Φ Ψ : Nat → Fn} {W : Nat}
theorem ev_call {f : Nat} {es : List E} {env e1 e2 : En} {os : List OV} {ts : List T} {t : T} {fr : Bool} {out : Option T} (h1 : evs Φ Ψ es env = .ok (os, e1)) (h2 : vals e1 os = some ts) (h3 : argsOk es os = true) (h4 : Φ f ts = .ok (t, fr, out)) (h5 : putIo (ioO os) out e1 = .ok e2) :
    ev Φ Ψ (.call f es) env = .ok (.v t fr, e2) := by
  rw [ev, h1]
  simp only [R.bind, R.opt, h2, h3, if_true, h4, h5]
theorem evs_cons {e : E} {es : List E} {env e1 e2 : En} {o : OV} {os : List OV} (h1 : ev Φ Ψ e env = .ok (o, e1)) (h2 : evs Φ Ψ es e1 = .ok (os, e2)) : evs Φ Ψ (e :: es) env = .ok (o :: os, e2) := by
  simp only [evs, h1, R.bind, h2]
end
def dSome (f : Nat) : Df := ⟨2, (some 0), 2, [.ret (.prim .ix [.peek 1, .call f [.io 0, .prim .len [.peek 1]]])]⟩
/-- a draw below m keeps the hand -/
def DrawOk (Φ : Nat → Fn) (f : Nat) : Prop := ∀ t, Hd t → ∀ m : Int, 0 < m → m < 1073741824 → ∃ d t', Φ f [t, .int m] = .ok (.int d, false, some t') ∧ 0 ≤ d ∧ d < m ∧ Hd t'
theorem some_ok {W : Nat} {D : Nat → Option Df} {n i f : Nat} (hD : D i = some (dSome f)) (hf : DrawOk (fnS W D n) f) {t : T} (h : Hd t) {L : List T} (h0 : L ≠ []) (hl : L.length < 1073741824) : ∃ x t', fnS W D (n + 1) i [t, .lst L] = .ok (x, false, some t') ∧ x ∈ L ∧ Hd t' := by
  have hp : 0 < L.length := List.length_pos_iff.mpr h0
  obtain ⟨d, t', h1, h2, h3, h4⟩ := hf t h (L.length : Int) (by omega) (by omega)
  have hx : ixAt L d = some (L[d.toNat]'(by omega)) := by
    unfold ixAt
    rw [if_pos h2, List.getElem?_eq_getElem]
  refine ⟨_, t', fn_ret hD rfl (env := [some ⟨t', .io⟩, some ⟨.lst L, .sh⟩]) (exs_ret (ex_ret (ev_p2 (p := .ix) (a := .peek 1) (o := .s 1) (x := .lst L) (y := .int d) rfl (ev_call (os := [.s 0, .v (.int (L.length : Int)) false]) (ts := [t, .int (L.length : Int)]) rfl rfl rfl h1 rfl) rfl rfl hx))) rfl, List.getElem_mem _, h4⟩
/-- cases that all hold, one behind another -/
theorem loop_cases {Φ Ψ : Nat → Fn} {f : Nat} {P : T → Prop} (hf : ∀ t, P t → ∃ t', Φ f [t] = .ok (.bl true, false, some t') ∧ P t') (e0 e2 : Option Sl) : ∀ (xs acc : List T) (t : T) (z : Option Sl), P t → acc.length + xs.length ≤ line →
    ∃ t' z', loopC (fun e => ev Φ Ψ (.call f [.io 1]) e) (fun e => evc Φ Ψ none e) (.s 3) [3] xs acc [e0, some ⟨t, .own⟩, e2, z] = .ok (acc ++ List.replicate xs.length (.bl true), [e0, some ⟨t', .own⟩, e2, z'])
  | [], acc, t, z, hp, hl => ⟨t, z, by simp [loopC]⟩
  | x :: xs, acc, t, z, hp, hl => by
    simp only [List.length_cons] at hl
    obtain ⟨t1, h1, h2⟩ := hf t hp
    obtain ⟨t', z', hz⟩ := loop_cases hf e0 e2 xs (acc ++ [.bl true]) t1 (some ⟨x, .sh⟩) h2 (by simp; omega)
    refine ⟨t', z', ?_⟩
    rw [loopC_step (e1 := [e0, some ⟨t, .own⟩, e2, some ⟨x, .sh⟩]) (e2 := [e0, some ⟨t, .own⟩, e2, some ⟨x, .sh⟩]) (e3 := [e0, some ⟨t1, .own⟩, e2, some ⟨x, .sh⟩]) (t := .bl true) (fr := false) rfl (by rw [evc]) (ev_call (os := [.s 1]) (ts := [t]) rfl rfl rfl h1 rfl) (by omega), hz]
    simp [List.replicate_succ]
end DD
namespace DL
open PySem PySem.Spec PyProof.Rows L2 DD
def top (i : Nat) : Stmt := PySem.Challenge.pw_doubledrawn_k18_whole_strips_hooks_and_w.main.body.getD i (.Pass ⟨0, 0, 0, 0⟩)
def d_is_integer : He.DefD := ⟨("is_integer", none), "is_integer", "is_integer", defArgs (top 6), defBody (top 6), defScope (top 6), [], []⟩
def d_is_within : He.DefD := ⟨("is_within", none), "is_within", "is_within", defArgs (top 7), defBody (top 7), defScope (top 7), [], []⟩
def d_is_type : He.DefD := ⟨("is_type", none), "is_type", "is_type", defArgs (top 8), defBody (top 8), defScope (top 8), [], []⟩
def d_check_type : He.DefD := ⟨("check_type", none), "check_type", "check_type", defArgs (top 9), defBody (top 9), defScope (top 9), [], []⟩
def d_factorial : He.DefD := ⟨("factorial", none), "factorial", "factorial", defArgs (top 10), defBody (top 10), defScope (top 10), [], []⟩
def d_marks_of : He.DefD := ⟨("marks_of", none), "marks_of", "marks_of", defArgs (top 12), defBody (top 12), defScope (top 12), [], []⟩
def d_shape_by : He.DefD := ⟨("shape_by", none), "shape_by", "shape_by", defArgs (top 13), defBody (top 13), defScope (top 13), [], []⟩
def d_raw_strips : He.DefD := ⟨("raw_strips", none), "raw_strips", "raw_strips", defArgs (top 14), defBody (top 14), defScope (top 14), [], []⟩
def d_strips : He.DefD := ⟨("strips", none), "strips", "strips", defArgs (top 15), defBody (top 15), defScope (top 15), [], []⟩
def d_raw_turned : He.DefD := ⟨("raw_turned", none), "raw_turned", "raw_turned", defArgs (top 16), defBody (top 16), defScope (top 16), [], []⟩
def d_turned_shape : He.DefD := ⟨("turned_shape", none), "turned_shape", "turned_shape", defArgs (top 17), defBody (top 17), defScope (top 17), [], []⟩
def d_raw_hooks : He.DefD := ⟨("raw_hooks", none), "raw_hooks", "raw_hooks", defArgs (top 18), defBody (top 18), defScope (top 18), [], []⟩
def d_hooks : He.DefD := ⟨("hooks", none), "hooks", "hooks", defArgs (top 19), defBody (top 19), defScope (top 19), [], []⟩
def d_raw_width : He.DefD := ⟨("raw_width", none), "raw_width", "raw_width", defArgs (top 20), defBody (top 20), defScope (top 20), [], []⟩
def d_width_of : He.DefD := ⟨("width_of", none), "width_of", "width_of", defArgs (top 21), defBody (top 21), defScope (top 21), [], []⟩
def d_contents : He.DefD := ⟨("contents", none), "contents", "contents", defArgs (top 22), defBody (top 22), defScope (top 22), [], []⟩
def d__law_hand : He.DefD := ⟨("_law_hand", none), "_law_hand", "_law_hand", defArgs (top 24), defBody (top 24), defScope (top 24), [], []⟩
def d__law_draw : He.DefD := ⟨("_law_draw", none), "_law_draw", "_law_draw", defArgs (top 25), defBody (top 25), defScope (top 25), [], []⟩
def d__law_some : He.DefD := ⟨("_law_some", none), "_law_some", "_law_some", defArgs (top 26), defBody (top 26), defScope (top 26), [], []⟩
def d__law_is : He.DefD := ⟨("_law_is", none), "_law_is", "_law_is", defArgs (top 27), defBody (top 27), defScope (top 27), [], []⟩
def d__law_types : He.DefD := ⟨("_law_types", none), "_law_types", "_law_types", defArgs (top 28), defBody (top 28), defScope (top 28), [], []⟩
def d__law_strips : He.DefD := ⟨("_law_strips", none), "_law_strips", "_law_strips", defArgs (top 29), defBody (top 29), defScope (top 29), [], []⟩
def d__law_factorial : He.DefD := ⟨("_law_factorial", none), "_law_factorial", "_law_factorial", defArgs (top 30), defBody (top 30), defScope (top 30), [], []⟩
def d__law_turned : He.DefD := ⟨("_law_turned", none), "_law_turned", "_law_turned", defArgs (top 31), defBody (top 31), defScope (top 31), [], []⟩
def d__law_is_case_right : He.DefD := ⟨("_law_is_case_right", none), "_law_is_case_right", "_law_is_case_right", defArgs (top 32), defBody (top 32), defScope (top 32), [], []⟩
def d_law : He.DefD := ⟨("law", none), "law", "law", defArgs (top 33), defBody (top 33), defScope (top 33), [], []⟩
def fn : List He.DefD := [d_is_integer, d_is_within, d_is_type, d_check_type, d_factorial, d_marks_of, d_shape_by, d_raw_strips, d_strips, d_raw_turned, d_turned_shape, d_raw_hooks, d_hooks, d_raw_width, d_width_of, d_contents, d__law_hand, d__law_draw, d__law_some, d__law_is, d__law_types, d__law_strips, d__law_factorial, d__law_turned, d__law_is_case_right, d_law]
def fa : List He.Fa := [.glo "is_integer", .glo "is_within", .glo "is_type", .glo "check_type", .glo "factorial", .glo "marks_of", .glo "shape_by", .glo "raw_strips", .glo "strips", .glo "raw_turned", .glo "turned_shape", .glo "raw_hooks", .glo "hooks", .glo "raw_width", .glo "width_of", .glo "contents", .glo "_law_hand", .glo "_law_draw", .glo "_law_some", .glo "_law_is", .glo "_law_types", .glo "_law_strips", .glo "_law_factorial", .glo "_law_turned", .glo "_law_is_case_right", .glo "law", .int "MOST_TYPED" 12, .free "len", .free "sum", .free "abs", .free "int", .free "tuple", .free "list", .free "sorted", .free "all", .free "min", .free "range", .free "enumerate", .free "zip", .free "isinstance", .free "bool", .free "str"]
def df_is_integer : Df := ⟨1, none, 1, [
    .ret (.and (.prim .isInt [.peek 0]) (.not (.prim .isBool [.peek 0])))]⟩
def r_is_integer : Dr := ⟨d_is_integer, ["thing"], ["thing"], df_is_integer⟩
def df_is_within : Df := ⟨3, none, 3, [
    .ret (.and (.call 0 [.var 0]) (.chain .le .le (.peek 1) (.peek 0) (.peek 2)))]⟩
def r_is_within : Dr := ⟨d_is_within, ["thing", "low", "high"], ["thing", "low", "high"], df_is_within⟩
def df_is_type : Df := ⟨1, none, 3, [
    .ite (.or (.not (.prim .isTup [.peek 0])) (.not (.prim .all [.comp [1] (.s 1) .val [.var 0] none (.call 1 [.var 1, .cst (.int 1), .cst (.int 12)])]))) [.ret (.cst (.bl false))] [],
    .ite (.not (.chain .le .le (.cst (.int 1)) (.prim .sum [.peek 0]) (.cst (.int 12)))) [.ret (.cst (.bl false))] [],
    .ret (.prim .all [.comp [2] (.s 2) .range1 [.prim .sub [.prim .len [.peek 0], .cst (.int 1)]] none (.prim .ge [.prim .ix [.peek 0, .peek 2], .prim .ix [.peek 0, .prim .add [.peek 2, .cst (.int 1)]]])])]⟩
def r_is_type : Dr := ⟨d_is_type, ["thing", "one", "at"], ["thing"], df_is_type⟩
def df_check_type : Df := ⟨1, none, 1, [
    .ite (.not (.call 2 [.var 0])) [.raise] []]⟩
def r_check_type : Dr := ⟨d_check_type, ["thing"], ["thing"], df_check_type⟩
def df_factorial : Df := ⟨1, none, 3, [
    .set 1 (.cst (.int 1)),
    .forr (.s 2) .range2 [.cst (.int 2), .prim .add [.peek 0, .cst (.int 1)]] [.set 1 (.prim .mul [.peek 1, .peek 2])],
    .ret (.mv 1)]⟩
def r_factorial : Dr := ⟨d_factorial, ["number", "found", "one"], ["number"], df_factorial⟩
def df_marks_of : Df := ⟨1, none, 3, [
    .ret (.comp [1, 2] (.t [.s 1, .s 2]) .enum [.var 0] none (.prim .sub [.prim .sub [.prim .add [.peek 2, .prim .len [.peek 0]], .cst (.int 1)], .peek 1]))]⟩
def r_marks_of : Dr := ⟨d_marks_of, ["shape", "at", "size"], ["shape"], df_marks_of⟩
def df_shape_by : Df := ⟨1, none, 5, [
    .set 1 (.comp [2, 3] (.t [.s 2, .s 3]) .enum [.var 0] none (.prim .sub [.peek 3, .prim .sub [.prim .sub [.prim .len [.peek 0], .cst (.int 1)], .peek 2]])),
    .ret (.prim .tuple [.comp [4] (.s 4) .val [.var 1] (some (.prim .gt [.peek 4, .cst (.int 0)])) (.var 4)])]⟩
def r_shape_by : Dr := ⟨d_shape_by, ["marks", "found", "at", "mark", "size"], ["marks"], df_shape_by⟩
def df_raw_strips : Df := ⟨2, none, 8, [
    .par [.s 2, .s 3] [.call 5 [.var 0], .lst []],
    .forr (.s 4) .val [.var 2] [.ite (.and (.prim .ge [.peek 4, .peek 1]) (.prim .notin [.prim .sub [.peek 4, .peek 1], .peek 2])) [.set 5 (.prim .sortedRev [.comp [6] (.s 6) .val [.var 2] none (.ite (.prim .eq [.peek 6, .peek 4]) (.prim .sub [.peek 4, .peek 1]) (.var 6))]), .set 7 (.prim .len [.comp [6] (.s 6) .val [.var 2] (some (.chain .lt .lt (.prim .sub [.peek 4, .peek 1]) (.peek 6) (.peek 4))) (.var 6)]), .app 3 (.tup [.call 6 [.var 5], .var 7])] []],
    .ret (.prim .sorted [.peek 3])]⟩
def r_raw_strips : Dr := ⟨d_raw_strips, ["shape", "size", "marks", "found", "mark", "later", "one", "steps"], ["shape", "size"], df_raw_strips⟩
def df_strips : Df := ⟨2, none, 2, [
    .expr (.call 3 [.var 0]),
    .ite (.not (.call 1 [.var 1, .cst (.int 1), .cst (.int 12)])) [.raise] [],
    .ret (.prim .tuple [.call 7 [.var 0, .var 1]])]⟩
def r_strips : Dr := ⟨d_strips, ["shape", "size"], ["shape", "size"], df_strips⟩
def df_raw_turned : Df := ⟨1, none, 3, [
    .ret (.prim .tuple [.comp [2] (.s 2) .range1 [.prim .ix [.peek 0, .cst (.int 0)]] none (.prim .len [.comp [1] (.s 1) .val [.var 0] (some (.prim .gt [.peek 1, .peek 2])) (.var 1)])])]⟩
def r_raw_turned : Dr := ⟨d_raw_turned, ["shape", "size", "at"], ["shape"], df_raw_turned⟩
def df_turned_shape : Df := ⟨1, none, 1, [
    .expr (.call 3 [.var 0]),
    .ret (.call 9 [.var 0])]⟩
def r_turned_shape : Dr := ⟨d_turned_shape, ["shape"], ["shape"], df_turned_shape⟩
def df_raw_hooks : Df := ⟨1, none, 6, [
    .set 1 (.call 9 [.var 0]),
    .set 2 (.lst []),
    .forr (.t [.s 3, .s 4]) .enum [.var 0] [.app 2 (.prim .tuple [.comp [5] (.s 5) .range1 [.var 4] none (.prim .sub [.prim .sub [.prim .add [.prim .sub [.peek 4, .peek 5], .prim .ix [.peek 1, .peek 5]], .peek 3], .cst (.int 1)])])],
    .ret (.prim .tuple [.peek 2])]⟩
def r_raw_hooks : Dr := ⟨d_raw_hooks, ["shape", "columns", "found", "row", "size", "place"], ["shape"], df_raw_hooks⟩
def df_hooks : Df := ⟨1, none, 1, [
    .expr (.call 3 [.var 0]),
    .ret (.call 11 [.var 0])]⟩
def r_hooks : Dr := ⟨d_hooks, ["shape"], ["shape"], df_hooks⟩
def df_raw_width : Df := ⟨1, none, 4, [
    .set 1 (.cst (.int 1)),
    .forr (.s 2) .val [.call 11 [.var 0]] [.forr (.s 3) .val [.var 2] [.set 1 (.prim .mul [.peek 1, .peek 3])]],
    .ret (.prim .fdiv [.call 4 [.prim .sum [.peek 0]], .peek 1])]⟩
def r_raw_width : Dr := ⟨d_raw_width, ["shape", "product", "row", "number"], ["shape"], df_raw_width⟩
def df_width_of : Df := ⟨1, none, 1, [
    .expr (.call 3 [.var 0]),
    .ret (.call 13 [.var 0])]⟩
def r_width_of : Dr := ⟨d_width_of, ["shape"], ["shape"], df_width_of⟩
def df_contents : Df := ⟨1, none, 4, [
    .expr (.call 3 [.var 0]),
    .ret (.prim .sum [.comp2 [1, 2, 3] (.t [.s 1, .s 2]) .enum [.var 0] (.s 3) .range1 [.var 2] [3] none (.prim .sub [.peek 3, .peek 1])])]⟩
def r_contents : Dr := ⟨d_contents, ["shape", "row", "size", "place"], ["shape"], df_contents⟩
def df__law_hand : Df := ⟨1, none, 3, [
    .set 1 (.comp [2] (.s 2) .val [.prim .slU [.peek 0, .cst (.int 63)]] none (.prim .abs [.prim .int [.peek 2]])),
    .ret (.lst [.var 1, .cst (.int 0), .cst (.int 0), .prim .add [.cst (.int 83), .prim .mul [.cst (.int 7), .prim .len [.peek 1]]], .cst (.int 0)])]⟩
def r__law_hand : Dr := ⟨d__law_hand, ["script", "cells", "cell"], ["script"], df__law_hand⟩
def df__law_draw : Df := ⟨2, (some 0), 5, [
    .ite (.and (.prim .eq [.prim .ix [.peek 0, .cst (.int 2)], .cst (.int 0)]) (.prim .lt [.prim .ix [.peek 0, .cst (.int 1)], .prim .len [.prim .ix [.peek 0, .cst (.int 0)]]])) [.set 2 (.prim .ix [.prim .ix [.peek 0, .cst (.int 0)], .prim .ix [.peek 0, .cst (.int 1)]]), .setIx 0 (.cst (.int 1)) (.prim .add [.prim .ix [.peek 0, .cst (.int 1)], .cst (.int 1)]), .setIx 0 (.cst (.int 3)) (.prim .mod [.prim .int [.prim .add [.prim .add [.prim .mul [.prim .ix [.peek 0, .cst (.int 3)], .cst (.int 69621)], .peek 2], .cst (.int 29)]], .cst (.int 2147483629)]), .ite (.prim .ge [.peek 2, .prim .pow [.cst (.int 10), .cst (.int 18)]]) [.setIx 0 (.cst (.int 2)) (.var 2)] []] [],
    .ite (.prim .gt [.prim .ix [.peek 0, .cst (.int 2)], .cst (.int 0)]) [.set 3 (.prim .mod [.prim .int [.prim .ix [.peek 0, .cst (.int 2)]], .peek 1]), .setIx 0 (.cst (.int 2)) (.prim .fdiv [.prim .ix [.peek 0, .cst (.int 2)], .peek 1]), .ret (.mv 3)] [],
    .setIx 0 (.cst (.int 4)) (.prim .add [.prim .ix [.peek 0, .cst (.int 4)], .cst (.int 1)]),
    .set 4 (.prim .mod [.prim .int [.prim .mul [.prim .int [.prim .add [.prim .ix [.peek 0, .cst (.int 3)], .prim .mul [.cst (.int 7919), .prim .ix [.peek 0, .cst (.int 4)]]]], .cst (.int 48271)]], .cst (.int 2147483647)]),
    .set 4 (.prim .mod [.prim .int [.prim .mul [.peek 4, .prim .add [.prim .fdiv [.peek 4, .cst (.int 1009)], .cst (.int 69621)]]], .cst (.int 2147483647)]),
    .set 4 (.prim .mod [.prim .int [.prim .mul [.peek 4, .prim .add [.prim .fdiv [.peek 4, .cst (.int 2003)], .cst (.int 40692)]]], .cst (.int 2147483399)]),
    .ret (.prim .mod [.prim .int [.prim .fdiv [.peek 4, .cst (.int 16)]], .peek 1])]⟩
def r__law_draw : Dr := ⟨d__law_draw, ["hand", "many", "cell", "digit", "number"], ["hand", "many"], df__law_draw⟩
def df__law_some : Df := ⟨2, (some 0), 2, [
    .ret (.prim .ix [.peek 1, .call 17 [.io 0, .prim .len [.peek 1]]])]⟩
def r__law_some : Dr := ⟨d__law_some, ["hand", "things"], ["hand", "things"], df__law_some⟩
def df__law_is : Df := ⟨2, none, 4, [
    .ite (.prim .isSeq [.peek 1]) [.ite (.prim .ne [.prim .isTup [.peek 0], .prim .isTup [.peek 1]]) [.ret (.cst (.bl false))] [], .ite (.or (.prim .ne [.prim .isList [.peek 0], .prim .isList [.peek 1]]) (.prim .ne [.prim .len [.peek 0], .prim .len [.peek 1]])) [.ret (.cst (.bl false))] [], .ret (.prim .all [.comp [2, 3] (.t [.s 2, .s 3]) .zip [.var 0, .var 1] none (.call 19 [.var 2, .var 3])])] [],
    .ite (.or (.prim .isN [.peek 1, .cst .non]) (.prim .isN [.peek 0, .cst .non])) [.ret (.and (.prim .isN [.peek 1, .cst .non]) (.prim .isN [.peek 0, .cst .non]))] [],
    .ite (.prim .ne [.prim .isBool [.peek 0], .prim .isBool [.peek 1]]) [.ret (.cst (.bl false))] [],
    .ret (.and (.prim .eq [.prim .isStr [.peek 0], .prim .isStr [.peek 1]]) (.prim .eq [.peek 0, .peek 1]))]⟩
def r__law_is : Dr := ⟨d__law_is, ["got", "due", "one", "other"], ["got", "due"], df__law_is⟩
def df__law_types : Df := ⟨1, none, 8, [
    .set 1 (.lst [.tup []]),
    .forr (.s 2) .range1 [.var 0] [.set 3 (.lst []), .forr (.s 4) .val [.var 1] [.set 5 (.prim .sub [.peek 0, .prim .sum [.peek 4]]), .ite (.prim .eq [.peek 5, .cst (.int 0)]) [.app 3 (.var 4)] [.set 6 (.ite (.prim .gt [.prim .len [.peek 4], .cst (.int 0)]) (.prim .min2 [.peek 5, .prim .ix [.peek 4, .prim .neg [.cst (.int 1)]]]) (.var 5)), .ext 3 (.comp [7] (.s 7) .range2 [.cst (.int 1), .prim .add [.peek 6, .cst (.int 1)]] none (.prim .add [.peek 4, .tup [.var 7]]))]], .set 1 (.mv 3)],
    .ret (.prim .slRev [.prim .sorted [.peek 1]])]⟩
def r__law_types : Dr := ⟨d__law_types, ["many", "found", "turn", "longer", "row", "rest", "most", "size"], ["many"], df__law_types⟩
def df__law_strips : Df := ⟨2, none, 14, [
    .set 2 (.prim .len [.peek 0]),
    .par [.s 3, .s 4] [.comp [5] (.s 5) .range1 [.var 2] none (.prim .sub [.prim .sub [.prim .add [.prim .ix [.peek 0, .peek 5], .peek 2], .cst (.int 1)], .peek 5]), .lst []],
    .forr (.t [.s 5, .s 6]) .enum [.var 3] [.set 7 (.prim .sub [.peek 6, .peek 1]), .ite (.and (.prim .ge [.peek 7, .cst (.int 0)]) (.prim .notin [.peek 7, .peek 3])) [.set 8 (.prim .slRev [.prim .sorted [.prim .add [.prim .add [.prim .slU [.peek 3, .peek 5], .lst [.var 7]], .prim .slL [.peek 3, .prim .add [.peek 5, .cst (.int 1)]]]]]), .set 9 (.prim .tuple [.comp [10] (.s 10) .range1 [.var 2] none (.prim .add [.prim .add [.prim .sub [.prim .ix [.peek 8, .peek 10], .peek 2], .cst (.int 1)], .peek 10])]), .set 11 (.prim .len [.comp [12] (.s 12) .val [.var 3] (some (.and (.prim .lt [.peek 7, .peek 12]) (.prim .lt [.peek 12, .peek 6]))) (.var 12)]), .app 4 (.tup [.prim .tuple [.comp [13] (.s 13) .val [.var 9] (some (.prim .gt [.peek 13, .cst (.int 0)])) (.var 13)], .var 11])] []],
    .ret (.prim .sorted [.peek 4])]⟩
def r__law_strips : Dr := ⟨d__law_strips, ["shape", "size", "many", "beads", "found", "at", "bead", "goal", "rest", "left", "place", "steps", "one", "row"], ["shape", "size"], df__law_strips⟩
def df__law_factorial : Df := ⟨1, none, 3, [
    .set 1 (.cst (.int 1)),
    .forr (.s 2) .range2 [.cst (.int 2), .prim .add [.peek 0, .cst (.int 1)]] [.set 1 (.prim .mul [.peek 1, .peek 2])],
    .ret (.mv 1)]⟩
def r__law_factorial : Dr := ⟨d__law_factorial, ["number", "found", "one"], ["number"], df__law_factorial⟩
def df__law_turned : Df := ⟨1, none, 3, [
    .ret (.prim .tuple [.comp [2] (.s 2) .range1 [.prim .ix [.peek 0, .cst (.int 0)]] none (.prim .len [.comp [1] (.s 1) .val [.var 0] (some (.prim .gt [.peek 1, .peek 2])) (.var 1)])])]⟩
def r__law_turned : Dr := ⟨d__law_turned, ["shape", "row", "column"], ["shape"], df__law_turned⟩
def df__law_is_case_right : Df := ⟨1, (some 0), 13, [
    .set 1 (.call 18 [.io 0, .call 20 [.prim .add [.cst (.int 1), .call 17 [.io 0, .cst (.int 8)]]]]),
    .forr (.s 2) .range2 [.cst (.int 1), .prim .add [.prim .sum [.peek 1], .cst (.int 2)]] [.ite (.not (.call 19 [.call 8 [.var 1, .var 2], .prim .tuple [.call 21 [.var 1, .var 2]]])) [.ret (.cst (.bl false))] []],
    .set 3 (.call 23 [.var 1]),
    .ite (.or (.not (.call 19 [.call 10 [.var 1], .var 3])) (.prim .ne [.call 10 [.var 3], .peek 1])) [.ret (.cst (.bl false))] [],
    .par [.s 4, .s 5, .s 6] [.lst [], .cst (.int 1), .cst (.int 0)],
    .forr (.t [.s 7, .s 8]) .enum [.var 1] [.set 9 (.comp [10] (.s 10) .range1 [.var 8] none (.prim .sub [.prim .sub [.prim .add [.prim .sub [.peek 8, .peek 10], .prim .ix [.peek 3, .peek 10]], .peek 7], .cst (.int 1)])), .app 4 (.prim .tuple [.peek 9]), .forr (.s 11) .val [.var 9] [.set 5 (.prim .mul [.peek 5, .peek 11])], .set 6 (.prim .add [.peek 6, .prim .sum [.comp [10] (.s 10) .range1 [.var 8] none (.prim .sub [.peek 10, .peek 7])]])],
    .set 12 (.lst [.call 12 [.var 1], .call 14 [.var 1], .call 15 [.var 1]]),
    .ret (.call 19 [.var 12, .lst [.prim .tuple [.peek 4], .prim .fdiv [.call 22 [.prim .sum [.peek 1]], .peek 5], .var 6]])]⟩
def r__law_is_case_right : Dr := ⟨d__law_is_case_right, ["hand", "shape", "size", "turned", "due", "product", "total", "at", "row", "lengths", "column", "length", "told"], ["hand"], df__law_is_case_right⟩
def df_law : Df := ⟨1, none, 4, [
    .set 1 (.call 16 [.var 0]),
    .set 2 (.lst [.call 8 [.tup [.cst (.int 2), .cst (.int 1)], .cst (.int 3)], .call 8 [.tup [.cst (.int 2), .cst (.int 2)], .cst (.int 2)], .call 12 [.tup [.cst (.int 2), .cst (.int 1)]], .call 14 [.tup [.cst (.int 2), .cst (.int 1)]], .call 15 [.tup [.cst (.int 3)]], .call 8 [.tup [.cst (.int 1)], .cst (.int 1)]]),
    .ite (.not (.call 19 [.var 2, .lst [.tup [.tup [.tup [], .cst (.int 1)]], .tup [.tup [.tup [.cst (.int 1), .cst (.int 1)], .cst (.int 1)], .tup [.tup [.cst (.int 2)], .cst (.int 0)]], .tup [.tup [.cst (.int 3), .cst (.int 1)], .tup [.cst (.int 1)]], .cst (.int 2), .cst (.int 3), .tup [.tup [.tup [], .cst (.int 0)]]]])) [.ret (.cst (.bl false))] [],
    .ret (.prim .all [.comp [3] (.s 3) .range1 [.cst (.int 10)] none (.call 24 [.io 1])])]⟩
def r_law : Dr := ⟨d_law, ["script", "hand", "told", "turn"], ["script"], df_law⟩
def rs : List Dr := [r_is_integer, r_is_within, r_is_type, r_check_type, r_factorial, r_marks_of, r_shape_by, r_raw_strips, r_strips, r_raw_turned, r_turned_shape, r_raw_hooks, r_hooks, r_raw_width, r_width_of, r_contents, r__law_hand, r__law_draw, r__law_some, r__law_is, r__law_types, r__law_strips, r__law_factorial, r__law_turned, r__law_is_case_right, r_law]
def gF (x : Str) (i n : Nat) (io : Option Nat) : Str × GE := (x, .fn i n io)
def gC (x : Str) (i : Int) : Str × GE := (x, .cst (.int i))
def gB (x : Str) : Str × GE := (x, .free)
def G : List (Str × GE) := [gF "is_integer" 0 1 none, gF "is_within" 1 3 none, gF "is_type" 2 1 none, gF "check_type" 3 1 none, gF "factorial" 4 1 none, gF "marks_of" 5 1 none, gF "shape_by" 6 1 none, gF "raw_strips" 7 2 none, gF "strips" 8 2 none, gF "raw_turned" 9 1 none, gF "turned_shape" 10 1 none, gF "raw_hooks" 11 1 none, gF "hooks" 12 1 none, gF "raw_width" 13 1 none, gF "width_of" 14 1 none, gF "contents" 15 1 none, gF "_law_hand" 16 1 none, gF "_law_draw" 17 2 (some 0), gF "_law_some" 18 2 (some 0), gF "_law_is" 19 2 none, gF "_law_types" 20 1 none, gF "_law_strips" 21 2 none, gF "_law_factorial" 22 1 none, gF "_law_turned" 23 1 none, gF "_law_is_case_right" 24 1 (some 0), gF "law" 25 1 none, gC "MOST_TYPED" 12, gB "len", gB "sum", gB "abs", gB "int", gB "tuple", gB "list", gB "sorted", gB "all", gB "min", gB "range", gB "enumerate", gB "zip", gB "isinstance", gB "bool", gB "str"]
theorem bnd : ∀ r ∈ rs, BndOk r := List.forall_mem_cons.mpr ⟨fun _ _ _ _ _ _ us hl => match us, hl with | [_], _ => rfl,
  List.forall_mem_cons.mpr ⟨fun _ _ _ _ _ _ us hl => match us, hl with | [_, _, _], _ => rfl,
  List.forall_mem_cons.mpr ⟨fun _ _ _ _ _ _ us hl => match us, hl with | [_], _ => rfl,
  List.forall_mem_cons.mpr ⟨fun _ _ _ _ _ _ us hl => match us, hl with | [_], _ => rfl,
  List.forall_mem_cons.mpr ⟨fun _ _ _ _ _ _ us hl => match us, hl with | [_], _ => rfl,
  List.forall_mem_cons.mpr ⟨fun _ _ _ _ _ _ us hl => match us, hl with | [_], _ => rfl,
  List.forall_mem_cons.mpr ⟨fun _ _ _ _ _ _ us hl => match us, hl with | [_], _ => rfl,
  List.forall_mem_cons.mpr ⟨fun _ _ _ _ _ _ us hl => match us, hl with | [_, _], _ => rfl,
  List.forall_mem_cons.mpr ⟨fun _ _ _ _ _ _ us hl => match us, hl with | [_, _], _ => rfl,
  List.forall_mem_cons.mpr ⟨fun _ _ _ _ _ _ us hl => match us, hl with | [_], _ => rfl,
  List.forall_mem_cons.mpr ⟨fun _ _ _ _ _ _ us hl => match us, hl with | [_], _ => rfl,
  List.forall_mem_cons.mpr ⟨fun _ _ _ _ _ _ us hl => match us, hl with | [_], _ => rfl,
  List.forall_mem_cons.mpr ⟨fun _ _ _ _ _ _ us hl => match us, hl with | [_], _ => rfl,
  List.forall_mem_cons.mpr ⟨fun _ _ _ _ _ _ us hl => match us, hl with | [_], _ => rfl,
  List.forall_mem_cons.mpr ⟨fun _ _ _ _ _ _ us hl => match us, hl with | [_], _ => rfl,
  List.forall_mem_cons.mpr ⟨fun _ _ _ _ _ _ us hl => match us, hl with | [_], _ => rfl,
  List.forall_mem_cons.mpr ⟨fun _ _ _ _ _ _ us hl => match us, hl with | [_], _ => rfl,
  List.forall_mem_cons.mpr ⟨fun _ _ _ _ _ _ us hl => match us, hl with | [_, _], _ => rfl,
  List.forall_mem_cons.mpr ⟨fun _ _ _ _ _ _ us hl => match us, hl with | [_, _], _ => rfl,
  List.forall_mem_cons.mpr ⟨fun _ _ _ _ _ _ us hl => match us, hl with | [_, _], _ => rfl,
  List.forall_mem_cons.mpr ⟨fun _ _ _ _ _ _ us hl => match us, hl with | [_], _ => rfl,
  List.forall_mem_cons.mpr ⟨fun _ _ _ _ _ _ us hl => match us, hl with | [_, _], _ => rfl,
  List.forall_mem_cons.mpr ⟨fun _ _ _ _ _ _ us hl => match us, hl with | [_], _ => rfl,
  List.forall_mem_cons.mpr ⟨fun _ _ _ _ _ _ us hl => match us, hl with | [_], _ => rfl,
  List.forall_mem_cons.mpr ⟨fun _ _ _ _ _ _ us hl => match us, hl with | [_], _ => rfl,
  List.forall_mem_cons.mpr ⟨fun _ _ _ _ _ _ us hl => match us, hl with | [_], _ => rfl,
  List.forall_mem_nil _⟩⟩⟩⟩⟩⟩⟩⟩⟩⟩⟩⟩⟩⟩⟩⟩⟩⟩⟩⟩⟩⟩⟩⟩⟩⟩
end DL
namespace DL
open PySem L2 DD
def nxE : E := .prim .mod [.prim .int [.prim .add [.prim .add [.prim .mul [hI 3, .cst (.int 69621)], .peek 2], .cst (.int 29)]], .cst (.int 2147483629)]
abbrev Dk : Nat → Option Df := dfs rs
abbrev Wk : Nat := 1000
theorem hd_hand : Dk 16 = some (dHand (.lst [.var 1, .cst (.int 0), .cst (.int 0), .prim .add [.cst (.int 83), .prim .mul [.cst (.int 7), .prim .len [.peek 1]]], .cst (.int 0)])) := rfl
theorem hd_draw : Dk 17 = some (dDraw 7919 1009 2003 40692 2147483399 nxE) := rfl
theorem hd_some : Dk 18 = some (dSome 17) := rfl
theorem nx_ok (Φ Ψ : Nat → Fn) (cs : List Int) (a b c d m x : Int) (y z : Option Sl) : ev Φ Ψ nxE (dE (hdT cs a b c d) m (some ⟨.int x, .sh⟩) y z) = .ok (.v (.int ((c * 69621 + x + 29) % 2147483629)) false, dE (hdT cs a b c d) m (some ⟨.int x, .sh⟩) y z) :=
  ev_p2 (ev_int (ev_p2 (p := .add) (x := .int (c * 69621 + x)) (y := .int 29) (t := .int (c * 69621 + x + 29)) (ev_p2 (p := .add) (x := .int (c * 69621)) (y := .int x) (t := .int (c * 69621 + x)) (ev_p2 (p := .mul) (x := .int c) (y := .int 69621) (t := .int (c * 69621)) rfl (u := .v (.int 69621) false) (by rw [ev]) rfl rfl (mul_r (small_of (by decide) (by decide)))) (u := .s 2) rfl rfl rfl rfl) (u := .v (.int 29) false) (by rw [ev]) rfl rfl rfl)) (u := .v (.int 2147483629) false) (by rw [ev]) rfl rfl (mod_ok (i := c * 69621 + x + 29) (j := 2147483629) (by decide))
theorem draws (n : Nat) : DrawOk (fnS Wk Dk (n + 1)) 17 := fun t h m h1 h2 =>
  draw_ok hd_draw (small_of (by decide) (by decide)) (by decide) ⟨by decide, by decide⟩ ⟨by decide, by decide⟩ (by decide) (by decide) nx_ok (fun _ _ => Int.emod_nonneg _ (by decide)) h h1 h2
/-! ### a case -/
def cE (t : T) (x : Option Sl) : En := [some ⟨t, .io⟩, x, none, none, none, none, none, none, none, none, none, none, none]
def rest : List S := df__law_is_case_right.body.drop 1
def run (t x : T) : Option T := match execs (fnS Wk Dk 98) (fun _ _ => .bad) Wk rest (cE t (some ⟨x, .sh⟩)) with
  | .ok (.rt (.bl true) false, e) => (outOf (some 0) e).join
  | _ => none
theorem run_ok {t x t' : T} (h : run t x = some t') : ∃ e, execs (fnS Wk Dk 98) (fun _ _ => .bad) Wk rest (cE t (some ⟨x, .sh⟩)) = .ok (.rt (.bl true) false, e) ∧ outOf (some 0) e = some (some t') := by
  unfold run at h
  split at h
  · rename_i e he
    refine ⟨e, he, ?_⟩
    cases q : outOf (some 0) e with
    | none => rw [q] at h; cases h
    | some o => rw [q] at h; cases o with
      | none => cases h
      | some y => cases h; rfl
  · cases h

def C1_0 : List T := [.tup [.int 1]]
def L1 : List T := C1_0
theorem ty1 : fnS Wk Dk 98 20 [.int 1] = .ok (.lst L1, true, none) := by kernel_rfl
def C2_0 : List T := [.tup [.int 2], .tup [.int 1, .int 1]]
def L2 : List T := C2_0
theorem ty2 : fnS Wk Dk 98 20 [.int 2] = .ok (.lst L2, true, none) := by kernel_rfl
def C3_0 : List T := [.tup [.int 3], .tup [.int 2, .int 1], .tup [.int 1, .int 1, .int 1]]
def L3 : List T := C3_0
theorem ty3 : fnS Wk Dk 98 20 [.int 3] = .ok (.lst L3, true, none) := by kernel_rfl
def C4_0 : List T := [.tup [.int 4], .tup [.int 3, .int 1], .tup [.int 2, .int 2], .tup [.int 2, .int 1, .int 1]]
def C4_1 : List T := [.tup [.int 1, .int 1, .int 1, .int 1]]
def L4 : List T := C4_0 ++ C4_1
theorem ty4 : fnS Wk Dk 98 20 [.int 4] = .ok (.lst L4, true, none) := by kernel_rfl
def C5_0 : List T := [.tup [.int 5], .tup [.int 4, .int 1], .tup [.int 3, .int 2], .tup [.int 3, .int 1, .int 1]]
def C5_1 : List T := [.tup [.int 2, .int 2, .int 1], .tup [.int 2, .int 1, .int 1, .int 1], .tup [.int 1, .int 1, .int 1, .int 1, .int 1]]
def L5 : List T := C5_0 ++ C5_1
theorem ty5 : fnS Wk Dk 98 20 [.int 5] = .ok (.lst L5, true, none) := by kernel_rfl
def C6_0 : List T := [.tup [.int 6], .tup [.int 5, .int 1], .tup [.int 4, .int 2], .tup [.int 4, .int 1, .int 1]]
def C6_1 : List T := [.tup [.int 3, .int 3], .tup [.int 3, .int 2, .int 1], .tup [.int 3, .int 1, .int 1, .int 1], .tup [.int 2, .int 2, .int 2]]
def C6_2 : List T := [.tup [.int 2, .int 2, .int 1, .int 1], .tup [.int 2, .int 1, .int 1, .int 1, .int 1], .tup [.int 1, .int 1, .int 1, .int 1, .int 1, .int 1]]
def L6 : List T := C6_0 ++ C6_1 ++ C6_2
theorem ty6 : fnS Wk Dk 98 20 [.int 6] = .ok (.lst L6, true, none) := by kernel_rfl
def C7_0 : List T := [.tup [.int 7], .tup [.int 6, .int 1], .tup [.int 5, .int 2], .tup [.int 5, .int 1, .int 1]]
def C7_1 : List T := [.tup [.int 4, .int 3], .tup [.int 4, .int 2, .int 1], .tup [.int 4, .int 1, .int 1, .int 1], .tup [.int 3, .int 3, .int 1]]
def C7_2 : List T := [.tup [.int 3, .int 2, .int 2], .tup [.int 3, .int 2, .int 1, .int 1], .tup [.int 3, .int 1, .int 1, .int 1, .int 1], .tup [.int 2, .int 2, .int 2, .int 1]]
def C7_3 : List T := [.tup [.int 2, .int 2, .int 1, .int 1, .int 1], .tup [.int 2, .int 1, .int 1, .int 1, .int 1, .int 1], .tup [.int 1, .int 1, .int 1, .int 1, .int 1, .int 1, .int 1]]
def L7 : List T := C7_0 ++ C7_1 ++ C7_2 ++ C7_3
theorem ty7 : fnS Wk Dk 98 20 [.int 7] = .ok (.lst L7, true, none) := by kernel_rfl
def C8_0 : List T := [.tup [.int 8], .tup [.int 7, .int 1], .tup [.int 6, .int 2], .tup [.int 6, .int 1, .int 1]]
def C8_1 : List T := [.tup [.int 5, .int 3], .tup [.int 5, .int 2, .int 1], .tup [.int 5, .int 1, .int 1, .int 1], .tup [.int 4, .int 4]]
def C8_2 : List T := [.tup [.int 4, .int 3, .int 1], .tup [.int 4, .int 2, .int 2], .tup [.int 4, .int 2, .int 1, .int 1], .tup [.int 4, .int 1, .int 1, .int 1, .int 1]]
def C8_3 : List T := [.tup [.int 3, .int 3, .int 2], .tup [.int 3, .int 3, .int 1, .int 1], .tup [.int 3, .int 2, .int 2, .int 1], .tup [.int 3, .int 2, .int 1, .int 1, .int 1]]
def C8_4 : List T := [.tup [.int 3, .int 1, .int 1, .int 1, .int 1, .int 1], .tup [.int 2, .int 2, .int 2, .int 2], .tup [.int 2, .int 2, .int 2, .int 1, .int 1], .tup [.int 2, .int 2, .int 1, .int 1, .int 1, .int 1]]
def C8_5 : List T := [.tup [.int 2, .int 1, .int 1, .int 1, .int 1, .int 1, .int 1], .tup [.int 1, .int 1, .int 1, .int 1, .int 1, .int 1, .int 1, .int 1]]
def L8 : List T := C8_0 ++ C8_1 ++ C8_2 ++ C8_3 ++ C8_4 ++ C8_5
theorem ty8 : fnS Wk Dk 98 20 [.int 8] = .ok (.lst L8, true, none) := by kernel_rfl
theorem run1_0 (t : T) : C1_0.map (run t) = C1_0.map fun _ => some t := by kernel_rfl
theorem run2_0 (t : T) : C2_0.map (run t) = C2_0.map fun _ => some t := by kernel_rfl
theorem run3_0 (t : T) : C3_0.map (run t) = C3_0.map fun _ => some t := by kernel_rfl
theorem run4_0 (t : T) : C4_0.map (run t) = C4_0.map fun _ => some t := by kernel_rfl
theorem run4_1 (t : T) : C4_1.map (run t) = C4_1.map fun _ => some t := by kernel_rfl
theorem run5_0 (t : T) : C5_0.map (run t) = C5_0.map fun _ => some t := by kernel_rfl
theorem run5_1 (t : T) : C5_1.map (run t) = C5_1.map fun _ => some t := by kernel_rfl
theorem run6_0 (t : T) : C6_0.map (run t) = C6_0.map fun _ => some t := by kernel_rfl
theorem run6_1 (t : T) : C6_1.map (run t) = C6_1.map fun _ => some t := by kernel_rfl
theorem run6_2 (t : T) : C6_2.map (run t) = C6_2.map fun _ => some t := by kernel_rfl
theorem run7_0 (t : T) : C7_0.map (run t) = C7_0.map fun _ => some t := by kernel_rfl
theorem run7_1 (t : T) : C7_1.map (run t) = C7_1.map fun _ => some t := by kernel_rfl
theorem run7_2 (t : T) : C7_2.map (run t) = C7_2.map fun _ => some t := by kernel_rfl
theorem run7_3 (t : T) : C7_3.map (run t) = C7_3.map fun _ => some t := by kernel_rfl
theorem run8_0 (t : T) : C8_0.map (run t) = C8_0.map fun _ => some t := by kernel_rfl
theorem run8_1 (t : T) : C8_1.map (run t) = C8_1.map fun _ => some t := by kernel_rfl
theorem run8_2 (t : T) : C8_2.map (run t) = C8_2.map fun _ => some t := by kernel_rfl
theorem run8_3 (t : T) : C8_3.map (run t) = C8_3.map fun _ => some t := by kernel_rfl
theorem run8_4 (t : T) : C8_4.map (run t) = C8_4.map fun _ => some t := by kernel_rfl
theorem run8_5 (t : T) : C8_5.map (run t) = C8_5.map fun _ => some t := by kernel_rfl
theorem map_app {A B : List T} {f : T → Option T} {t : T} (h1 : A.map f = A.map fun _ => some t) (h2 : B.map f = B.map fun _ => some t) : (A ++ B).map f = (A ++ B).map fun _ => some t := by rw [List.map_append, List.map_append, h1, h2]
theorem map_get {L : List T} {f : T → Option T} {t x : T} (h : L.map f = L.map fun _ => some t) (hx : x ∈ L) : f x = some t := by
  induction L with
  | nil => cases hx
  | cons y L ih =>
    simp only [List.map_cons, List.cons.injEq] at h
    rcases List.mem_cons.mp hx with e | e
    · rw [e]; exact h.1
    · exact ih h.2 e
theorem all_runs (d : Int) (h0 : 0 ≤ d) (h8 : d < 8) : ∃ L, fnS Wk Dk 98 20 [.int (1 + d)] = .ok (.lst L, true, none) ∧ L ≠ [] ∧ L.length < 1073741824 ∧ ∀ t x, x ∈ L → run t x = some t := by
  have h : d = 0 ∨ d = 1 ∨ d = 2 ∨ d = 3 ∨ d = 4 ∨ d = 5 ∨ d = 6 ∨ d = 7 := by omega
  rcases h with rfl | rfl | rfl | rfl | rfl | rfl | rfl | rfl
  · exact ⟨L1, ty1, (by simp [L1, C1_0]), (by decide +kernel), fun t x hx => map_get (run1_0 t) hx⟩
  · exact ⟨L2, ty2, (by simp [L2, C2_0]), (by decide +kernel), fun t x hx => map_get (run2_0 t) hx⟩
  · exact ⟨L3, ty3, (by simp [L3, C3_0]), (by decide +kernel), fun t x hx => map_get (run3_0 t) hx⟩
  · exact ⟨L4, ty4, (by simp [L4, C4_0]), (by decide +kernel), fun t x hx => map_get (map_app (run4_0 t) (run4_1 t)) hx⟩
  · exact ⟨L5, ty5, (by simp [L5, C5_0]), (by decide +kernel), fun t x hx => map_get (map_app (run5_0 t) (run5_1 t)) hx⟩
  · exact ⟨L6, ty6, (by simp [L6, C6_0]), (by decide +kernel), fun t x hx => map_get (map_app (map_app (run6_0 t) (run6_1 t)) (run6_2 t)) hx⟩
  · exact ⟨L7, ty7, (by simp [L7, C7_0]), (by decide +kernel), fun t x hx => map_get (map_app (map_app (map_app (run7_0 t) (run7_1 t)) (run7_2 t)) (run7_3 t)) hx⟩
  · exact ⟨L8, ty8, (by simp [L8, C8_0]), (by decide +kernel), fun t x hx => map_get (map_app (map_app (map_app (map_app (map_app (run8_0 t) (run8_1 t)) (run8_2 t)) (run8_3 t)) (run8_4 t)) (run8_5 t)) hx⟩
theorem evs_nil {Φ Ψ : Nat → Fn} (E : En) : evs Φ Ψ [] E = .ok ([], E) := by simp only [evs]
theorem case_ok (t : T) (h : Hd t) : ∃ t', fnS Wk Dk 99 24 [t] = .ok (.bl true, false, some t') ∧ Hd t' := by
  obtain ⟨d, t1, h1, h2, h3, h4⟩ := draws 97 t h 8 (by decide) (by decide)
  obtain ⟨L, l1, l2, l3, l4⟩ := all_runs d h2 h3
  obtain ⟨x, t2, s1, s2, s3⟩ := some_ok (n := 97) hd_some (draws 96) h4 l2 l3
  obtain ⟨e, r1, r2⟩ := run_ok (l4 t2 x s2)
  refine ⟨t2, fn_ret rfl rfl (d := df__law_is_case_right) (env := e) ((exs_cons (e1 := cE t2 (some ⟨x, .sh⟩)) (ex_set (e1 := cE t2 none) (t := x) (fr := false) ?_ rfl)).trans r1) r2, s3⟩
  have e1 : ev (fnS Wk Dk 98) (fun _ _ => .bad) (.call 17 [.io 0, .cst (.int 8)]) (cE t none) = .ok (.v (.int d) false, cE t1 none) := ev_call (os := [.s 0, .v (.int 8) false]) (ts := [t, .int 8]) rfl rfl rfl h1 rfl
  have e2 : ev (fnS Wk Dk 98) (fun _ _ => .bad) (.prim .add [.cst (.int 1), .call 17 [.io 0, .cst (.int 8)]]) (cE t none) = .ok (.v (.int (1 + d)) false, cE t1 none) := ev_p2 (p := .add) (o := .v (.int 1) false) (x := .int 1) (y := .int d) (t := .int (1 + d)) (by rw [ev]) e1 rfl rfl rfl
  have e3 : ev (fnS Wk Dk 98) (fun _ _ => .bad) (.call 20 [.prim .add [.cst (.int 1), .call 17 [.io 0, .cst (.int 8)]]]) (cE t none) = .ok (.v (.lst L) true, cE t1 none) := ev_call (os := [.v (.int (1 + d)) false]) (ts := [.int (1 + d)]) (evs_cons e2 (evs_nil _)) rfl rfl l1 rfl
  exact ev_call (os := [.s 0, .v (.lst L) true]) (ts := [t1, .lst L]) (evs_cons (o := .s 0) (e1 := cE t none) rfl (evs_cons e3 (evs_nil _))) rfl rfl s1 rfl
/-! ### the law -/
def tolds : T := .lst [.tup [.tup [.tup [], .int 1]], .tup [.tup [.tup [.int 1, .int 1], .int 1], .tup [.tup [.int 2], .int 0]], .tup [.tup [.int 3, .int 1], .tup [.int 1]], .int 2, .int 3, .tup [.tup [.tup [], .int 0]]]
def lE (ns : List Int) (t : T) (x : Option Sl) : En := [some ⟨.scr ns, .sh⟩, some ⟨t, .own⟩, x, none]
theorem mid (ns : List Int) (t : T) : execs (fnS Wk Dk 99) (fun _ _ => .bad) Wk ((df_law.body.drop 1).take 2) (lE ns t none) = .ok (.nx, lE ns t (some ⟨tolds, .sh⟩)) := by kernel_rfl
theorem exs_app {Φ Ψ : Nat → Fn} {W : Nat} : ∀ (a b : List S) {e e1 : En}, DD.execs Φ Ψ W a e = .ok (.nx, e1) → DD.execs Φ Ψ W (a ++ b) e = DD.execs Φ Ψ W b e1
  | [], b, e, e1, h => by
    simp only [DD.execs] at h
    cases h
    rfl
  | s :: a, b, e, e1, h => by
    rw [List.cons_append, DD.execs]
    rw [DD.execs] at h
    cases q : DD.exec Φ Ψ W s e with
    | ok p =>
      obtain ⟨fl, e2⟩ := p
      rw [q] at h
      cases fl with
      | nx => exact exs_app a b h
      | bk => cases h
      | ct => cases h
      | rt _ _ => cases h
    | exc _ _ _ => rw [q] at h; cases h
    | bad => rw [q] at h; cases h
theorem law_ok (ns : List Int) (hn : ns.length ≤ 63) : fnS Wk Dk 100 25 [.scr ns] = .ok (.bl true, false, none) := by
  obtain ⟨t, h1, h2⟩ := hand_ok (n := 98) (W := Wk) hd_hand (k := fun x => 83 + 7 * x) (fun _ _ _ _ _ => rfl) (fun x hx => by omega) ns hn
  obtain ⟨t', z', hz⟩ := loop_cases (Φ := fnS Wk Dk 99) (Ψ := fun _ _ => .bad) (f := 24) (P := Hd) case_ok (some ⟨.scr ns, .sh⟩) (some ⟨tolds, .sh⟩) (rangeT 0 10) [] t none h2 (by decide)
  have s0 : exec (fnS Wk Dk 99) (fun _ _ => .bad) Wk (.set 1 (.call 16 [.var 0])) [some ⟨.scr ns, .sh⟩, none, none, none] = .ok (.nx, lE ns t none) :=
    ex_set (ev_call (os := [.v (.scr ns) false]) (ts := [.scr ns]) rfl rfl rfl h1 rfl) rfl
  have s3 : exec (fnS Wk Dk 99) (fun _ _ => .bad) Wk (.ret (.prim .all [.comp [3] (.s 3) .range1 [.cst (.int 10)] none (.call 24 [.io 1])])) (lE ns t (some ⟨tolds, .sh⟩)) = .ok (.rt (.bl true) false, backE (lE ns t (some ⟨tolds, .sh⟩)) [some ⟨.scr ns, .sh⟩, some ⟨t', .own⟩, some ⟨tolds, .sh⟩, z'] [3]) :=
    ex_ret (ev_p1 (p := .all) (ev_comp (os := [.v (.int 10) false]) (ts := [.int 10]) (by simp only [evs, ev, R.bind]) rfl rfl hz) rfl rfl)
  exact fn_ret rfl rfl (d := df_law) ((exs_cons s0).trans ((exs_app ((df_law.body.drop 1).take 2) (df_law.body.drop 3) (mid ns t)).trans (exs_ret s3))) rfl
end DL
namespace DL
open PySem PySem.Spec PyProof.Rows L2 DD
theorem ok : allOk rs G fa = true := by decide +kernel
def nm0 : List PySem.Str := [PySem.Str.ofString "__name__", PySem.Str.ofString "DrawnError", PySem.Str.ofString "NoNumber", PySem.Str.ofString "NoType", PySem.Str.ofString "MOST_TYPED", PySem.Str.ofString "is_integer", PySem.Str.ofString "is_within", PySem.Str.ofString "is_type", PySem.Str.ofString "check_type", PySem.Str.ofString "factorial", PySem.Str.ofString "marks_of", PySem.Str.ofString "shape_by", PySem.Str.ofString "raw_strips", PySem.Str.ofString "strips", PySem.Str.ofString "raw_turned", PySem.Str.ofString "turned_shape", PySem.Str.ofString "raw_hooks", PySem.Str.ofString "hooks", PySem.Str.ofString "raw_width", PySem.Str.ofString "width_of"]
def nm1 : List PySem.Str := [PySem.Str.ofString "contents", PySem.Str.ofString "_law_hand", PySem.Str.ofString "_law_draw", PySem.Str.ofString "_law_some", PySem.Str.ofString "_law_is", PySem.Str.ofString "_law_types", PySem.Str.ofString "_law_strips", PySem.Str.ofString "_law_factorial", PySem.Str.ofString "_law_turned", PySem.Str.ofString "_law_is_case_right"]
def loose : List PySem.Str := nm0 ++ nm1
abbrev Rr : PySem.W.OpenRow := PySem.W.OpenLaw.row PySem.Challenge.rw_doubledrawn_k18_whole_strips_hooks_and_w
abbrev hk : PySem.W.Hook := He.hookD 4 fa fn
def ob (s : PySem.W.SharedT) : He.AlD := He.obsDG 4 fa fn (HandSHeadRun.getT s)
theorem ob_eq (s : PySem.W.SharedT) : ob s = hk.obs s.abs := He.obsDG_eq (HandSHeadRun.getT_eq s)
theorem headRun (w : World) : HandSHeadRun.RunEq Rr (PySem.W.view Rr.prog [33]) hk ob 3000 loose w := by
  intro os
  kernel_rfl
end DL
open PySem PySem.W PySem.Calls PyProof.Rows
theorem PySem.Challenge.cw_doubledrawn_k18_whole_strips_hooks_and_w_holds : PySem.Challenge.rw_doubledrawn_k18_whole_strips_hooks_and_w.Holds := by
  w_on; o_law
  refine HandSHeadRun.head_any (r := DL.Rr) (q := view DL.Rr.prog [33]) (H := DL.hk) (ob := DL.ob) (M := 3000) (loose := DL.loose) (d := HandSHeadRun.topDef DL.Rr.prog 33) (kwd := []) DL.ob_eq (by kernel_rfl) (fun s => by kernel_rfl)
    DL.headRun (by kernel_rfl) (by kernel_rfl) (by kernel_rfl) (by rfl) (by first | assumption | decide +kernel) (by decide +kernel) ⟨rfl, rfl, rfl, rfl, rfl, by decide +kernel⟩ ?hw ?hc
  case hw => w_witness2
  case hc =>
    refine L2.walk_ofE (l := PySem.Challenge.rw_doubledrawn_k18_whole_strips_hooks_and_w) (n := 63) (k := 100) (x := "script") (CX := L2.CX0) rfl (by decide) (by kernel_rfl) ⟨rfl, by decide, by decide⟩ ?F (fun _ _ _ _ z => z)
    intro w mg fA hh Y GG hm0
    obtain ⟨K, KX, c⟩ := Y
    have hm1 : mg ("law" : PySem.Str) = some (.ref fA) := by
      have e : (HandSHeadRun.topDef DL.Rr.prog 33).name = ("law" : PySem.Str) := by kernel_rfl
      rw [← e]
      exact hm0
    obtain ⟨fd, q1, sp, q2, q3⟩ := DD.fin (P := (PySem.Challenge.rw_doubledrawn_k18_whole_strips_hooks_and_w).prog) (w := w) DL.ok DL.bnd KX GG (show He.SaysD DL.fa (DL.rs.map (·.d)) K from c) (i := 25) (r := DL.r_law) (x := "law") rfl rfl (by simp [DL.fa]) rfl rfl rfl hm1 DL.Wk 100 DL.law_ok
    exact ⟨K, fd, sp, KX, q1, q2, q3⟩
