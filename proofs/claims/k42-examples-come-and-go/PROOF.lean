import PyProof.Rows.All
import HandS.ForMost
import HandS.ForExc
import HandS.Codes
import PyProof.ReprReads
import PyProof.ReprLen
import KE.KDictDisplayH
import HandS.More
import HandS.TupAny
import HandS.Style
import HandS.Deep
import HandS.Flow
import HandS.Walk
import HandS.IsInst
import HandS.Ends
import HandS.EndBits
import HandS.EndTab
import HandS.HeadEnd
import HandS.Defaults
import HandS.ExcOwn
import HandS.TupMul
import KE.DataCmp
import KE.SortData
import HandS.Conv
import HandS.Dict
import PyProof.EqKinds
import HandS.DeepEq
import PyProof.MeetsIn
import KE.KDictLaws
import HandS.Rev
import KE.DataMinMax
import PyProof.ReprRoads
import PyProof.Rows.RegFStrParts
import HandS.RaiseMore
import PyProof.ListStr
import HandS.Strs
import HandS.Text
import HandS.CallSlots
import HandS.DictSub
import HandS.NoneIn
import HandS.Small
import HandS.Iter
import HandS.Zip
import KE.GoesZip
import KE.GoesMore
import KE.GoesEnum
import HandS.Comp
import HandS.ExcIs
import HandS.ExcValue
import HandS.TryOnly
import PyProof.ExcBaseAll.ValueError
import KE.KAssignIn
import HandS.Head0
import HandS.Head1
import HandS.Head2
import HandS.HeadHook1
import HandS.HeadHook2
import KE.KStateDown
import HandS.WordsExc
import PyProof.Rows.ReprShort
import PySem.Challenge.RW_findmill_k42_examples_come_and_go
set_option Elab.async false
set_option linter.all false
set_option maxRecDepth 100000
set_option maxHeartbeats 8000000
namespace MP
open PySem PySem.Spec PyProof.Rows L2

abbrev SX (l : List Nat) : PySem.Str := ⟨l.toArray⟩
def strOkL (x : List Nat) : Bool := x.all fun c => decide (c < 1114112)
/-- data -/
inductive D where
  | non | bl (b : Bool) | int (i : Int) | str (x : List Nat) | tup (xs : List D) | lst (xs : List D)
  | dic (ks vs : List D) | obj (c : Nat) (vs : List D) | exn (c : Nat) (ps : List D)
  /-- the script -/
  | scr (xs : List Int)
  /-- what zip, enumerate, items tell: taken apart at once -/
  | pr (xs : List D)
  /-- a dict of the module's own top, its keys texts -/
  | cdic (ks vs : List D)
  /-- a dict whose keys are tuples, never changed -/
  | tdic (ks vs : List D)
  deriving Inhabited
/-- the classes of refusals, by number; 9 is the built-in one that they all stand under -/
def cnE : List Str := ["FindError", "NoValue", "NoTask", "NoBook", "NoRule", "NoExample", "NoRow", "TooMany", "NoTerm"]
/-- a slot: unset, data that nobody changes, or a thing that this slot alone holds -/
inductive Sl where
  | un | dat (d : D) | lst (xs : List D) | dic (ks vs : List D) | ins (c : Nat) (fs : List Sl)
  deriving Inhabited
abbrev Env := List Sl

mutual
def Sl.cap : Sl → D
  | .un => .non
  | .dat d => d
  | .lst xs => .lst xs
  | .dic ks vs => .dic ks vs
  | .ins c fs => .obj c (Sl.caps fs)
def Sl.caps : List Sl → List D
  | [] => []
  | s :: ss => s.cap :: Sl.caps ss
end
theorem Sl.caps_map : ∀ ss : List Sl, Sl.caps ss = ss.map Sl.cap
  | [] => rfl
  | s :: ss => by rw [Sl.caps, Sl.caps_map ss, List.map_cons]
/-- the classes that are made: their names, their fields in the order in which they come to be -/
def clN : List (Str × List Str) := [("Task", ["inputs", "words", "numbers", "kind", "examples"]), ("Reader", ["rest_of", "at", "known", "count"]), ("Writer", ["aim", "rows", "known", "fresh"]), ("Checker", ["entries", "aim", "size", "known"]), ("Finder", ["entries", "here", "width", "past"]), ("Desk", ["aim", "size"])]
def fdN (c : Nat) : List Str := (clN.getD c ("", [])).2
def Sl.isDat : Sl → Bool
  | .dat _ => true
  | _ => false

/-- what an evaluation comes to -/
inductive R (α : Type) where
  | ok (a : α) (ρ : Env) | exc (c : Nat) (ps : List D) (ρ : Env) | stuck
def R.bind {α β : Type} (r : R α) (f : α → Env → R β) : R β := match r with
  | .ok a ρ => f a ρ
  | .exc c ps ρ => .exc c ps ρ
  | .stuck => .stuck
def R.ofO {α : Type} (o : Option α) (ρ : Env) : R α := match o with
  | some a => .ok a ρ
  | none => .stuck
/-- what a call comes to: the value, the arguments' things behind it -/
inductive CR where
  | ok (v : Sl) (fin : List Sl) | exc (c : Nat) (ps : List D) (fin : List Sl) | stuck

/-- a place, or a thing of one's own -/
inductive Bv where
  | pl (i : Nat) | tmp (s : Sl)

/-! ### the compact text -/
inductive Ty where
  | int | bool | str | list | tuple | dict | own (c : Nat) | owns (cs : List Nat)
  deriving DecidableEq, Repr
inductive Bi where
  | len | sum | max1 | min1 | max2 | min2 | abs | any | all | list | tuple | dict | str | int | sorted | divmod | repr | set | sortI | tupRev | dictT
  deriving DecidableEq, Repr
inductive Mt where
  | append | extend | clear | pop0 | pop1 | remove | reverse | update | setdefault
  | get1 | get2 | index | tindex | count | join | split | startswith | endswith | partition | replace | items | values
  deriving DecidableEq, Repr
mutual
inductive E where
  | var (i : Nat) | mv (i : Nat) | con (d : D) | glob (k : Nat)
  | bin (op : Operator) (a b : E) | neg (a : E) | notE (a : E) | and (a b : E) | or (a b : E) | ite (c a b : E)
  | cmp (op : CmpOp) (a b : E) | cmp2 (o1 o2 : CmpOp) (a b c : E)
  | tup (es : EL) | lst (es : EL) | dic (ps : PL)
  | call (f : Nat) (es : EL) | mk (c f : Nat) (es : EL)
  | bi (f : Bi) (es : EL) | mt (m : Mt) (o : E) (es : EL) | ms (c f : Nat) (o : E) (es : EL)
  | fld (o : E) (c k : Nat) | ix (a i : E) | sl (a lo hi : E) | slA (a lo : E) | slB (a hi : E) | rev (a : E)
  | isi (a : E) (t : Ty)
  | comp (own : List Nat) (elt : E) (t : T) (it : It) | compIf (own : List Nat) (elt : E) (t : T) (it : It) (c : E)
inductive EL where
  | nil | cons (e : E) (es : EL)
inductive PL where
  | nil | cons (k v : E) (ps : PL)
inductive T where
  | var (i : Nat) | tup (ts : TL) | fld (o : E) (c k : Nat) | ix (o i : E)
inductive TL where
  | nil | cons (t : T) (ts : TL)
inductive It where
  | e (a : E) | rng1 (a : E) | rng2 (a b : E) | rng3 (a b c : E) | zip (a b : E) | enum (a : E) | items (a : E) | values (a : E)
end
def TL.len : TL → Nat
  | .nil => 0
  | .cons _ ts => ts.len + 1
mutual
inductive S where
  | ret (e : E) | retN | expr (e : E) | asg (t : T) (e : E) | par (i j : Nat) (a b : E) | aug (t : T) (op : Operator) (e : E)
  | ifs (c : E) (a b : SL) | forS (t : T) (it : It) (b : SL) | forP (t : T) (j : Nat) (b : SL) | whileS (c : E) (b : SL) | pass | brk | cnt
  | raise (c : Nat) (es : EL) | tryS (b : SL) (c : Nat) (i : Option Nat) (h : SL)
inductive SL where
  | nil | cons (s : S) (ss : SL)
end

/-! ### values: equality, truth, operations -/
mutual
def D.eq : D → D → Bool
  | .non, .non => true
  | .bl a, .bl b => a == b
  | .bl a, .int j => (if a then 1 else 0) == j
  | .int i, .bl b => i == (if b then 1 else 0)
  | .int i, .int j => i == j
  | .str x, .str y => x == y
  | .lst xs, .lst ys => D.eqs xs ys
  | .tup xs, .tup ys => D.eqs xs ys
  | _, _ => false
def D.eqs : List D → List D → Bool
  | [], [] => true
  | x :: xs, y :: ys => D.eq x y && D.eqs xs ys
  | _, _ => false
end
mutual
def D.dep : D → Nat
  | .tup xs => D.deps xs + 1
  | .lst xs => D.deps xs + 1
  | _ => 0
def D.deps : List D → Nat
  | [] => 0
  | x :: xs => max (D.dep x) (D.deps xs)
end
/-! made of None, truths, numbers, texts, lists, tuples -/
mutual
def D.plain : D → Bool
  | .tup xs => D.plains xs
  | .lst xs => D.plains xs
  | .dic _ _ => false
  | .obj _ _ => false
  | .exn _ _ => false
  | .scr _ => false
  | .pr _ => false
  | .cdic _ _ => false
  | .tdic _ _ => false
  | _ => true
def D.plains : List D → Bool
  | [] => true
  | x :: xs => D.plain x && D.plains xs
end
/-! tuples as keys -/
mutual
def D.nk : D → NestedKey
  | .bl b => .num (if b then 1 else 0)
  | .int i => .num i
  | .str x => .text (SX x)
  | .tup xs => .tup (D.nks xs)
  | _ => .none
def D.nks : List D → List NestedKey
  | [] => []
  | x :: xs => D.nk x :: D.nks xs
end
mutual
def D.nkOk : D → Bool
  | .non => true
  | .bl _ => true
  | .int _ => true
  | .str _ => true
  | .tup xs => D.nkOks xs
  | _ => false
def D.nkOks : List D → Bool
  | [] => true
  | x :: xs => D.nkOk x && D.nkOks xs
end
def isTK : D → Bool
  | .tup xs => D.nkOks xs && decide (D.deps xs ≤ 7)
  | _ => false
/-- pairs of a tuple and a value -/
def pairsT : List D → Option (List D × List D)
  | [] => some ([], [])
  | .tup [k, v] :: r => if isTK k then (pairsT r).map fun p => (k :: p.1, v :: p.2) else none
  | _ :: _ => none
def eqOk (d e : D) : Bool := d.plain && e.plain && (decide (d.dep ≤ 60) || decide (e.dep ≤ 60))

def D.truth : D → Option Bool
  | .non => some false
  | .bl b => some b
  | .int i => some (i != 0)
  | .str x => some (!x.isEmpty)
  | .tup xs => some (!xs.isEmpty)
  | .lst xs => some (!xs.isEmpty)
  | .scr xs => some (!xs.isEmpty)
  | _ => none

def small (i : Int) : Bool := decide (-18446744073709551616 < i) && decide (i < 18446744073709551616)
def fitsL (n : Nat) : Bool := decide (n ≤ 16777216)

def binD : Operator → D → D → Option Sl
  | .Add, .int i, .int j => some (.dat (.int (i + j)))
  | .Add, .str x, .str y => if fitsL (x.length + y.length) then some (.dat (.str (x ++ y))) else none
  | .Add, .lst x, .lst y => if fitsL (x.length + y.length) then some (.lst (x ++ y)) else none
  | .Add, .tup x, .tup y => if fitsL (x.length + y.length) then some (.dat (.tup (x ++ y))) else none
  | .Sub, .int i, .int j => some (.dat (.int (i - j)))
  | .Mult, .int i, .int j => if small i || small j then some (.dat (.int (i * j))) else none
  | .Mult, .tup u, .int k => if !u.isEmpty && (decide (2 ≤ k) && (decide (k ≤ 1000) && decide (u.length ≤ 1000))) then some (.dat (.tup (List.replicate k.toNat u).flatten)) else if decide (k = 1) then some (.dat (.tup u)) else none
  | .Mult, .str x, .int k => if !x.isEmpty && (decide (2 ≤ k) && (decide (k ≤ 10000) && decide (x.length ≤ 100))) then some (.dat (.str (List.replicate k.toNat x).flatten)) else none
  | .FloorDiv, .int i, .int j => if decide (0 < j) && decide (j < 1073741824) then some (.dat (.int (i / j))) else if decide (j < 0) && decide (-1073741824 < j) then some (.dat (.int (i.fdiv j))) else none
  | .Mod, .int i, .int j => if decide (0 < j) then some (.dat (.int (i % j))) else if decide (j < 0) then some (.dat (.int (i.fmod j))) else none
  | .Pow, .int i, .int j => if decide (0 ≤ j) && decide (j ≤ 1000000) && decide (i.natAbs < 18446744073709551616) then some (.dat (.int (i ^ j.toNat))) else none
  | .LShift, .int i, .int j => if decide (0 ≤ j) && decide (j ≤ 1000000) && decide (i.natAbs < 18446744073709551616) then some (.dat (.int (i * 2 ^ j.toNat))) else none
  | _, _, _ => none

def ltL : List Nat → List Nat → Bool
  | [], [] => false
  | [], _ :: _ => true
  | _ :: _, [] => false
  | x :: xs, y :: ys => if x = y then ltL xs ys else decide (x < y)

def isNon : D → Bool
  | .non => true
  | _ => false
/-- x in a list or tuple -/
def inD (x : D) (ys : List D) : Bool := ys.any fun y => D.eq y x

def isSub (y x : List Nat) : Bool := match y with
  | [c] => x.any (· == c)
  | _ => false

mutual
/-- can be put in order, place by place -/
def D.alike : D → D → Bool
  | .non, .non => true
  | .bl _, .bl _ => true
  | .int _, .int _ => true
  | .str _, .str _ => true
  | .lst xs, .lst ys => D.alikes xs ys
  | .tup xs, .tup ys => D.alikes xs ys
  | _, _ => false
def D.alikes : List D → List D → Bool
  | x :: xs, y :: ys => D.alike x y && D.alikes xs ys
  | [], _ => true
  | _ :: _, [] => true
end
mutual
def D.lt : D → D → Bool
  | .bl a, .bl b => !a && b
  | .int i, .int j => decide (i < j)
  | .str x, .str y => ltL x y
  | .lst xs, .lst ys => D.lts xs ys
  | .tup xs, .tup ys => D.lts xs ys
  | _, _ => false
def D.lts : List D → List D → Bool
  | [], [] => false
  | [], _ :: _ => true
  | _ :: _, [] => false
  | x :: xs, y :: ys => if D.eq x y then D.lts xs ys else D.lt x y
end
def ordOk (d e : D) : Bool := eqOk d e && (D.alike d e && !isNon d)
def cmpD2 : CmpOp → D → D → Option Bool
  | .Lt, x, y => if ordOk x y then some (D.lt x y) else none
  | .LtE, x, y => if ordOk x y then some (!D.lt y x) else none
  | .Gt, x, y => if ordOk x y then some (D.lt y x) else none
  | .GtE, x, y => if ordOk x y then some (!D.lt x y) else none
  | _, _, _ => none
def dGet : List D → List D → D → Option D
  | k :: ks, v :: vs, x => if D.eq k x then some v else dGet ks vs x
  | _, _, _ => none
/-! equal things that hold dicts -/
def all2B (f : D → D → Bool) : List D → List D → Bool
  | [], [] => true
  | x :: xs, y :: ys => f x y && all2B f xs ys
  | _, _ => false
def dicB (f : D → D → Bool) (ms ws : List D) : List D → List D → Bool
  | [], [] => true
  | k :: ks, v :: vs => (match dGet ms ws k with
    | some u => f v u
    | none => false) && dicB f ms ws ks vs
  | _, _ => false
def eqS (f : D → D → Bool) : D → D → Bool
  | .lst xs, .lst ys => all2B f xs ys
  | .dic ks vs, .dic ms ws => decide (ks.length = ms.length) && dicB f ms ws ks vs
  | _, _ => false
def eqL (d e : D) : Bool := d.plain && (e.plain && (decide (d.dep ≤ 50) && D.eq d e))
def eqK : Nat → D → D → Bool
  | 0, d, e => eqL d e
  | n + 1, d, e => eqL d e || eqS (eqK n) d e
/-- a dict's key: a text, a number -/
def isKey : D → Bool
  | .str _ => true
  | .int _ => true
  | _ => false
def isLst : D → Bool
  | .lst _ => true
  | _ => false
def isDic : D → Bool
  | .dic _ _ => true
  | _ => false
def allStr : List D → Bool
  | [] => true
  | .str _ :: r => allStr r
  | _ :: _ => false
def cmpD : CmpOp → D → D → Option Bool
  | .NotEq, .scr xs, .lst [] => some (!xs.isEmpty)
  | .Eq, x, y => if eqOk x y then some (D.eq x y) else if eqS (eqK 3) x y then some true else none
  | .NotEq, x, y => if eqOk x y then some (!D.eq x y) else if isLst x && eqS (eqK 3) x y then some false else none
  | .Lt, .int i, .int j => some (decide (i < j))
  | .LtE, .int i, .int j => some (decide (i ≤ j))
  | .Gt, .int i, .int j => some (decide (j < i))
  | .GtE, .int i, .int j => some (decide (j ≤ i))
  | .Is, x, .non => some (isNon x)
  | .IsNot, x, .non => some (!isNon x)
  | .Is, .bl a, .bl b => some (a == b)
  | .IsNot, .bl a, .bl b => some (a != b)
  | .In, x, .lst ys => if eqOk x (.lst ys) then some (inD x ys) else none
  | .NotIn, x, .lst ys => if eqOk x (.lst ys) then some (!inD x ys) else none
  | .In, x, .tup ys => if eqOk x (.tup ys) then some (inD x ys) else if isDic x && allStr ys then some false else none
  | .NotIn, x, .tup ys => if eqOk x (.tup ys) then some (!inD x ys) else if isDic x && allStr ys then some true else none
  | .In, x, .dic ks vs => if isKey x then some (dGet ks vs x).isSome else none
  | .NotIn, x, .dic ks vs => if isKey x then some (!(dGet ks vs x).isSome) else none
  | .In, .str x, .cdic ks vs => some (dGet ks vs (.str x)).isSome
  | .NotIn, .str x, .cdic ks vs => some (!(dGet ks vs (.str x)).isSome)
  | .In, k, .tdic ks vs => if isTK k then some (dGet ks vs k).isSome else none
  | .NotIn, k, .tdic ks vs => if isTK k then some (!(dGet ks vs k).isSome) else none
  | .In, .str [c], .str x => some (x.any (· == c))
  | .NotIn, .str [c], .str x => some (!x.any (· == c))
  | op, x, y => cmpD2 op x y

def dPut : List D → List D → D → D → List D × List D
  | k :: ks, v :: vs, x, y => if D.eq k x then (k :: ks, y :: vs) else let r := dPut ks vs x y; (k :: r.1, v :: r.2)
  | ks, vs, x, y => (ks ++ [x], vs ++ [y])
def dMerge : List D → List D → List D → List D → List D × List D
  | ks, vs, k :: r, v :: s => let p := dPut ks vs k v; dMerge p.1 p.2 r s
  | ks, vs, _, _ => (ks, vs)

def ixD : D → D → Option D
  | .tup xs, .int i => atI xs i
  | .lst xs, .int i => atI xs i
  | .scr xs, .int i => (atI xs i).map .int
  | .str x, .int i => (atI x i).map fun c => .str [c]
  | .dic ks vs, k => if isKey k then dGet ks vs k else none
  | .cdic ks vs, .str x => dGet ks vs (.str x)
  | .tdic ks vs, k => if isTK k then dGet ks vs k else none
  | _, _ => none
def cutL {α : Type} (xs : List α) (lo hi : Option Int) : List α := (xs.drop (HT.sIx xs.length 0 lo)).take (HT.sIx xs.length xs.length hi - HT.sIx xs.length 0 lo)
def slD : D → Option Int → Option Int → Option Sl
  | .tup xs, lo, hi => some (.dat (.tup (cutL xs lo hi)))
  | .lst xs, lo, hi => some (.lst (cutL xs lo hi))
  | .scr xs, lo, hi => some (.lst ((cutL xs lo hi).map .int))
  | .str x, lo, hi => some (.dat (.str (cutL x lo hi)))
  | _, _, _ => none
def revD : D → Option Sl
  | .lst xs => some (.lst xs.reverse)
  | .str x => some (.dat (.str x.reverse))
  | .tup xs => some (.dat (.tup xs.reverse))
  | _ => none
def isiD : D → Ty → Option Bool
  | .non, .own _ => none
  | .non, .owns _ => none
  | .bl _, t => (match t with | .int => some true | .bool => some true | .own _ => none | .owns _ => none | _ => some false)
  | .int _, t => (match t with | .int => some true | .own _ => none | .owns _ => none | _ => some false)
  | .str _, t => (match t with | .str => some true | .own _ => none | .owns _ => none | _ => some false)
  | .lst _, t => (match t with | .list => some true | .own _ => none | .owns _ => none | _ => some false)
  | .tup _, t => (match t with | .tuple => some true | .own _ => none | .owns _ => none | _ => some false)
  | .dic _ _, t => (match t with | .dict => some true | .own _ => none | .owns _ => none | _ => some false)
  | .non, _ => some false
  | .obj _ _, .str => some false
  | .exn c _, .own k => if decide (c ≤ 7) && decide (k ≤ 9) then some (k == 0 || (k == c || k == 9)) else none
  | .exn c _, .owns ks => if decide (c ≤ 7) && ks.all (fun k => decide (k ≤ 8)) then some (ks.any fun k => k == 0 || k == c) else none
  | _, _ => none

def asInts : List D → Option (List Int)
  | [] => some []
  | .int i :: r => (asInts r).map (i :: ·)
  | _ :: _ => none
def asStrs : List D → Option (List (List Nat))
  | [] => some []
  | .str i :: r => (asStrs r).map (i :: ·)
  | _ :: _ => none
def asBls : List D → Option (List Bool)
  | [] => some []
  | .bl i :: r => (asBls r).map (i :: ·)
  | _ :: _ => none
/-- the greatest | least of numbers -/
def maxL : List Int → Option Int
  | [] => none
  | x :: xs => some (xs.foldl max x)
def minL : List Int → Option Int
  | [] => none
  | x :: xs => some (xs.foldl min x)
def insS (x : List Nat) : List (List Nat) → List (List Nat)
  | [] => [x]
  | y :: r => if ltL y x then y :: insS x r else x :: y :: r
def sortS : List (List Nat) → List (List Nat)
  | [] => []
  | x :: r => insS x (sortS r)
def seqOf : D → Option (List D)
  | .lst xs => some xs
  | .scr xs => some (xs.map .int)
  | .tup xs => some xs
  | .pr xs => some xs
  | _ => none
/-- pairs of a key and a value -/
def pairsD : List D → Option (List D × List D)
  | [] => some ([], [])
  | .tup [k, v] :: r => if isKey k then (pairsD r).map fun p => (k :: p.1, v :: p.2) else none
  | _ :: _ => none
def insI (x : Int) : List Int → List Int
  | [] => [x]
  | y :: r => if y < x then y :: insI x r else x :: y :: r
def sortI : List Int → List Int
  | [] => []
  | x :: r => insI x (sortI r)
def b2i (b : Bool) : Int := if b then 1 else 0
/-- numbers as texts -/
def decL (i : Int) : List Nat := (toString i).toList.map Char.toNat
mutual
def D.py : D → PyData
  | .bl b => .bool b
  | .int i => .int i
  | .str x => .str (SX x)
  | .tup xs => .tuple (D.pys xs)
  | .lst xs => .list (D.pys xs)
  | _ => .none
def D.pys : List D → List PyData
  | [] => []
  | x :: xs => D.py x :: D.pys xs
end
/-- can be shown as a text: by the library's measure -/
def repOk (d : D) : Bool := d.plain && (decide (d.dep ≤ 50) && (decide (d.py.depth ≤ 64) && (decide (d.py.weight ≤ 2 ^ 20) && (d.py.showable && d.py.intsShort 13))))
def repL (d : D) : List Nat := d.py.shown.cps.toList
/-- a number's text -/
def numT (i : Int) : List Nat := if i < 0 then 45 :: TL.numL i.natAbs else TL.numL i.natAbs
def digB (l : List Nat) : Bool := !l.isEmpty && (decide (l.length ≤ 600) && l.all fun c => decide (48 ≤ c) && decide (c ≤ 57))
/-- the number that a text of figures, and at most one minus ahead, tells -/
def intS (x : List Nat) : Option Int :=
  if digB x then some ((NumText.digitsVal x : Nat) : Int) else if x.head? == some 45 && digB x.tail then some (-((NumText.digitsVal x.tail : Nat) : Int)) else none
def biD2 : Bi → List D → Option Sl
  | .dictT, [.lst ps] => (pairsT ps).bind fun p => if decide (p.1.length ≤ 1000) then some (.dat (.tdic (dMerge [] [] p.1 p.2).1 (dMerge [] [] p.1 p.2).2)) else none
  | .divmod, [.int i, .int j] => if decide (j ≠ 0) && decide (j.natAbs < 1073741824) then some (.dat (.tup [.int (i.fdiv j), .int (i.fmod j)])) else none
  | .sum, [.tup xs] => (asInts xs).map fun l => .dat (.int l.sum)
  | .max1, [.tup xs] => (asInts xs).bind fun l => (maxL l).map fun i => .dat (.int i)
  | .min1, [.tup xs] => (asInts xs).bind fun l => (minL l).map fun i => .dat (.int i)
  | .int, [.int i] => some (.dat (.int i))
  | .int, [.bl b] => some (.dat (.int (b2i b)))
  | .int, [.str x] => (intS x).map fun i => .dat (.int i)
  | .str, [.int i] => if decide (i.natAbs < 1000000000) then some (.dat (.str (numT i))) else none
  | .str, [.str x] => some (.dat (.str x))
  | .sortI, [.lst xs] => (asInts xs).bind fun l => if decide (l.length < 64) then some (.lst ((sortI l).map .int)) else none
  | .sortI, [.tup xs] => (asInts xs).bind fun l => if decide (l.length < 64) then some (.lst ((sortI l).map .int)) else none
  | .tupRev, [.tup xs] => some (.dat (.tup xs.reverse))
  | .repr, [.lst xs] => if repOk (.lst xs) then some (.dat (.str (repL (.lst xs)))) else none
  | .repr, [.tup xs] => if repOk (.tup xs) then some (.dat (.str (repL (.tup xs)))) else none
  | .repr, [.non] => some (.dat (.str [78, 111, 110, 101]))
  | .dict, [.dic ks vs] => some (.dic ks vs)
  | .dict, [.lst ps] => (pairsD ps).bind fun p => if decide (p.1.length ≤ 1000) then some (.dic (dMerge [] [] p.1 p.2).1 (dMerge [] [] p.1 p.2).2) else none
  | .dict, [.tup ps] => (pairsD ps).bind fun p => if decide (p.1.length ≤ 1000) then some (.dic (dMerge [] [] p.1 p.2).1 (dMerge [] [] p.1 p.2).2) else none
  | _, _ => none
def biD : Bi → List D → Option Sl
  | .len, [.lst xs] => some (.dat (.int xs.length))
  | .len, [.scr xs] => some (.dat (.int xs.length))
  | .len, [.tup xs] => some (.dat (.int xs.length))
  | .len, [.str xs] => some (.dat (.int xs.length))
  | .len, [.dic ks _] => some (.dat (.int ks.length))
  | .sum, [.lst xs] => (asInts xs).map fun l => .dat (.int l.sum)
  | .sum, [.scr l] => some (.dat (.int l.sum))
  | .max1, [.lst xs] => (asInts xs).bind fun l => (maxL l).map fun i => .dat (.int i)
  | .min1, [.lst xs] => (asInts xs).bind fun l => (minL l).map fun i => .dat (.int i)
  | .max2, [.int i, .int j] => some (.dat (.int (if j > i then j else i)))
  | .min2, [.int i, .int j] => some (.dat (.int (if j < i then j else i)))
  | .abs, [.int i] => some (.dat (.int (if i < 0 then -i else i)))
  | .any, [.lst xs] => (asBls xs).map fun l => .dat (.bl (l.any id))
  | .all, [.lst xs] => (asBls xs).map fun l => .dat (.bl (l.all id))
  | .list, [.lst xs] => some (.lst xs)
  | .list, [.tup xs] => some (.lst xs)
  | .list, [.dic ks _] => some (.lst ks)
  | .list, [.str x] => some (.lst (x.map fun c => .str [c]))
  | .list, [.cdic ks _] => some (.lst ks)
  | .tuple, [.lst xs] => some (.dat (.tup xs))
  | .tuple, [.tup xs] => some (.dat (.tup xs))
  | .sorted, [.lst xs] => (match asStrs xs with
    | some l => if decide (l.length < 64) then some (.lst ((sortS l).map .str)) else none
    | none => biD2 .sortI [.lst xs])
  | .sorted, [.tup xs] => (match asStrs xs with
    | some l => if decide (l.length < 64) then some (.lst ((sortS l).map .str)) else none
    | none => biD2 .sortI [.tup xs])
  | f, ds => biD2 f ds

/-- the first place of an equal one -/
def idxD (x : D) : List D → Option Nat
  | [] => none
  | y :: ys => if D.eq y x then some 0 else (idxD x ys).map (· + 1)
def idxS (x : List Nat) : List (List Nat) → Option Nat
  | [] => none
  | y :: ys => if y = x then some 0 else (idxS x ys).map (· + 1)
/-- the parts between a text's seps -/
def splitS (x y : List Nat) : List (List Nat) := (Txt.split (SX x) (SX y)).map fun s => s.cps.toList
/-- methods that change nothing -/
def mtO : Mt → D → List D → Option Sl
  | .join, .str sep, [.lst xs] => (asStrs xs).bind fun l => if fitsL ((l.map (·.length)).sum + l.length * sep.length) then some (.dat (.str (TL.joinL sep l))) else none
  | .join, .str sep, [.tup xs] => (asStrs xs).bind fun l => if fitsL ((l.map (·.length)).sum + l.length * sep.length) then some (.dat (.str (TL.joinL sep l))) else none
  | .get2, .dic ks vs, [k, d] => if isKey k then some (.dat ((dGet ks vs k).getD d)) else none
  | .get2, .tdic ks vs, [k, d] => if isTK k then some (.dat ((dGet ks vs k).getD d)) else none
  | .get1, .dic ks vs, [k] => if isKey k then some (.dat ((dGet ks vs k).getD .non)) else none
  | .split, .str x, [.str y] => if !y.isEmpty && (decide (x.length ≤ 1000000) && (splitS x y).all fun p => strOkL p && decide (p.length ≤ 16777216)) then some (.lst ((splitS x y).map .str)) else none
  | .startswith, .str x, [.str y] => some (.dat (.bl (Txt.startswith (SX x) (SX y))))
  | .endswith, .str x, [.str y] => some (.dat (.bl (Txt.endswith (SX x) (SX y))))
  | .index, .lst xs, [y] => if (D.plains xs && y.plain) && (decide (D.deps xs ≤ 60) && decide (y.dep ≤ 60)) then (idxD y xs).map fun i => .dat (.int (i : Nat)) else none
  | .tindex, .tup xs, [.str y] => (asStrs xs).bind fun l => (idxS y l).map fun i => .dat (.int (i : Nat))
  | .count, .lst xs, [.bl b] => (asBls xs).map fun l => .dat (.int ((l.count b : Nat) : Int))
  | _, _, _ => none
/-- methods that change a list: the answer, the list behind it -/
def mtL : Mt → List D → List D → Option (D × List D)
  | .append, xs, [x] => if fitsL (xs.length + 1) then some (.non, xs ++ [x]) else none
  | .extend, xs, [.lst ys] => if fitsL (xs.length + ys.length) then some (.non, xs ++ ys) else none
  | .clear, _, [] => some (.non, [])
  | .pop1, xs, [.int i] => if decide (0 ≤ i) && fitsL i.toNat then (xs[i.toNat]?).map fun y => (y, xs.eraseIdx i.toNat) else none
  | .pop0, xs, [] => (xs[xs.length - 1]?).map fun y => (y, xs.dropLast)
  | _, _, _ => none
/-- .. a dict -/
def mtK : Mt → List D → List D → List D → Option (D × List D × List D)
  | .update, ks, vs, [.dic ms ws] => if fitsL (ks.length + ms.length) then some (.non, dMerge ks vs ms ws) else none
  | _, _, _, _ => none
/-- a method of a built-in: the answer, and what becomes of the thing -/
def mtD (m : Mt) (s : Sl) (ds : List D) : Option (Sl × Option Sl) := match mtO m s.cap ds with
  | some v => some (v, none)
  | none => match s with
    | .lst xs => (mtL m xs ds).map fun p => (.dat p.1, some (.lst p.2))
    | .dic ks vs => (mtK m ks vs ds).map fun p => (.dat p.1, some (.dic p.2.1 p.2.2))
    | _ => none
theorem mtD_non {m : Mt} {s : Sl} {ds : List D} {v : Sl} (h : mtD m s ds = some (v, none)) : mtO m s.cap ds = some v := by
  unfold mtD at h
  split at h
  · rename_i e; simp only [Option.some.injEq, Prod.mk.injEq, and_true] at h; rw [← h]; exact e
  · split at h
    · cases q : mtL m _ ds <;> rw [q] at h <;> simp at h
    · cases q : mtK m _ _ ds <;> rw [q] at h <;> simp at h
    · cases h
theorem mtD_some {m : Mt} {s s' : Sl} {ds : List D} {v : Sl} (h : mtD m s ds = some (v, some s')) :
    (∃ xs d ys, s = .lst xs ∧ mtL m xs ds = some (d, ys) ∧ v = .dat d ∧ s' = .lst ys) ∨ ∃ ks vs d p, s = .dic ks vs ∧ mtK m ks vs ds = some (d, p) ∧ v = .dat d ∧ s' = .dic p.1 p.2 := by
  unfold mtD at h
  split at h
  · simp at h
  · split at h
    · rename_i xs _
      cases q : mtL m xs ds with
      | none => rw [q] at h; simp at h
      | some p =>
        rw [q] at h
        simp only [Option.map_some, Option.some.injEq, Prod.mk.injEq] at h
        exact .inl ⟨xs, p.1, p.2, rfl, q, h.1.symm, h.2.symm⟩
    · rename_i ks vs _
      cases q : mtK m ks vs ds with
      | none => rw [q] at h; simp at h
      | some p =>
        rw [q] at h
        simp only [Option.map_some, Option.some.injEq, Prod.mk.injEq] at h
        exact .inr ⟨ks, vs, p.1, p.2, rfl, q, h.1.symm, h.2.symm⟩
    · cases h

inductive Rt where
  | lst | dic | str | tup
def mtTy : Mt → Rt
  | .append => .lst
  | .extend => .lst
  | .clear => .lst
  | .pop0 => .lst
  | .pop1 => .lst
  | .remove => .lst
  | .reverse => .lst
  | .index => .lst
  | .tindex => .tup
  | .count => .lst
  | .update => .dic
  | .setdefault => .dic
  | .get1 => .dic
  | .get2 => .dic
  | .items => .dic
  | .values => .dic
  | _ => .str
def rtOk : Rt → D → Bool
  | .lst, .lst _ => true
  | .dic, .dic _ _ => true
  | .dic, .tdic _ _ => true
  | .str, .str _ => true
  | .tup, .tup _ => true
  | _, _ => false

/-! ### the evaluator -/
structure Ctx where
  call : Nat → List Sl → CR
  glob : Nat → Option D
  own : List Bool
  wf : Nat

/-- a name that is held: not set again -/
def ownOn (own : List Bool) (j : Nat) : List Bool := (own ++ List.replicate (j + 1 - own.length) false).set j true
def Ctx.hold (C : Ctx) (j : Nat) : Ctx := { C with own := ownOn C.own j }

def getS (ρ : Env) (i : Nat) : Option Sl := match ρ[i]? with
  | some .un => none
  | o => o
def Bv.view (b : Bv) (ρ : Env) : Option D := match b with
  | .pl i => (getS ρ i).map Sl.cap
  | .tmp s => some s.cap
/-- the things themselves; a place is left empty -/
def takes : List Bv → Env → Option (List Sl × Env)
  | [], ρ => some ([], ρ)
  | .pl i :: r, ρ => (getS ρ i).bind fun s => (takes r (ρ.set i .un)).map fun p => (s :: p.1, p.2)
  | .tmp s :: r, ρ => (takes r ρ).map fun p => (s :: p.1, p.2)
/-- behind a call: back to their places -/
def putBack : List Bv → List Sl → Env → Env
  | .pl i :: r, f :: fs, ρ => putBack r fs (ρ.set i f)
  | .tmp _ :: r, _ :: fs, ρ => putBack r fs ρ
  | _, _, ρ => ρ
def views : List Bv → Env → Option (List D)
  | [], _ => some []
  | b :: r, ρ => (b.view ρ).bind fun d => (views r ρ).map (d :: ·)

/-- an operand: a name is looked at where it stands -/
def bvOf (a : E) (r : Env → R Sl) (ρ : Env) : R Bv := match a with
  | .var i => (match getS ρ i with
    | some _ => .ok (.pl i) ρ
    | none => .stuck)
  | _ => (r ρ).bind fun s ρ => .ok (.tmp s) ρ
/-- an argument: mv hands a place on -/
def bvArg (a : E) (r : Env → R Sl) (ρ : Env) : R Bv := match a with
  | .mv i => (match getS ρ i with
    | some _ => .ok (.pl i) ρ
    | none => .stuck)
  | _ => (r ρ).bind fun s ρ => .ok (.tmp s) ρ
/-- the thing at an operand -/
def Bv.slot (b : Bv) (ρ : Env) : Option Sl := match b with
  | .pl i => getS ρ i
  | .tmp s => some s
/-- an instance's attribute: data -/
def fldS (c k : Nat) : Sl → Option D
  | .ins c' fs => if c' = c then (match fs[k]? with
    | some (.dat d) => some d
    | _ => none) else none
  | .dat (.obj c' vs) => if c' = c then vs[k]? else none
  | _ => none
/-- is it an instance of this class? -/
def objB (c : Nat) : Sl → Bool
  | .ins c' _ => decide (c' = c)
  | .dat (.obj c' _) => decide (c' = c)
  | _ => false
def view1 {α : Type} (x : Bv) (ρ : Env) (f : D → R α) : R α := match x.view ρ with
  | some d => f d
  | none => .stuck
def setSlot (own : List Bool) (i : Nat) (s : Sl) (ρ : Env) : Option Env := match ρ[i]? with
  | some _ => if own.getD i false then none else some (ρ.set i s)
  | none => none
def wipeE : List Nat → Env → Env
  | [], ρ => ρ
  | i :: r, ρ => (wipeE r ρ).set i .un
def compL (f : D → Env → R (Option D)) : List D → Env → R (List D)
  | [], ρ => .ok [] ρ
  | x :: xs, ρ => match f x ρ with
    | .ok o ρ1 => (match compL f xs ρ1 with
      | .ok r ρ2 => .ok (o.toList ++ r) ρ2
      | _ => .stuck)
    | _ => .stuck
def rngL (lo : Int) (n : Nat) : List D := (List.range n).map fun i => .int (lo + (i : Nat))
def zipL : List D → List D → List D
  | x :: xs, y :: ys => .pr [x, y] :: zipL xs ys
  | _, _ => []
def enumL (k : Nat) : List D → List D
  | [] => []
  | x :: xs => .pr [.int k, x] :: enumL (k + 1) xs
def rngOk (a b : Int) : Bool := decide (-4611686018427387904 ≤ a) && decide (a < 4611686018427387904) && decide (-4611686018427387904 ≤ b) && decide (b < 4611686018427387904)
def lstOf : D → Option (List D)
  | .lst xs => some xs
  | .scr xs => some (xs.map .int)
  | _ => none
/-- a list's, the script's, a tuple's things -/
@[simp] def rowL : D → Option (List D)
  | .lst xs => some xs
  | .scr xs => some (xs.map .int)
  | .tup xs => some xs
  | _ => none
def seqP (d e : D) : Option (List D × List D) := (rowL d).bind fun xs => (rowL e).map fun ys => (xs, ys)
def itemsOf : D → Option (List D)
  | .lst xs => some xs
  | .scr xs => some (xs.map .int)
  | .tup xs => some xs
  | .str x => some (x.map fun c => .str [c])
  | _ => none
def R.test {α : Type} (d : D) (f : Bool → R α) : R α := match d.truth with
  | some b => f b
  | none => .stuck

def R.opt {α β : Type} (o : Option α) (f : α → R β) : R β := match o with
  | some a => f a
  | none => .stuck
mutual
/-- a comprehension's target -/
def bindT (vs : List Nat) : T → D → Env → Option Env
  | .var i, d, ρ => if vs.contains i && decide (i < ρ.length) then some (ρ.set i (.dat d)) else none
  | .tup ts, d, ρ => (match seqOf d with
    | some xs => if xs.length = ts.len then bindTs vs ts xs ρ else none
    | none => none)
  | _, _, _ => none
def bindTs (vs : List Nat) : TL → List D → Env → Option Env
  | .nil, [], ρ => some ρ
  | .cons t ts, x :: xs, ρ => (bindT vs t x ρ).bind fun ρ => bindTs vs ts xs ρ
  | _, _, _ => none
end
/-- an operand's truth -/
def testB (r : R Bv) : R Bool := r.bind fun x ρ => view1 x ρ fun d => R.test d fun b => .ok b ρ
def tst (r : R Sl) : R Bool := r.bind fun s ρ => R.test s.cap fun b => .ok b ρ

mutual
def evE (C : Ctx) : E → Env → R Sl
  | .var i, ρ => (match getS ρ i with
    | some s => .ok (.dat s.cap) (ρ.set i (.dat s.cap))
    | none => .stuck)
  | .mv i, ρ => (match getS ρ i with
    | some s => .ok s (ρ.set i .un)
    | none => .stuck)
  | .con d, ρ => .ok (.dat d) ρ
  | .glob k, ρ => (match C.glob k with
    | some d => .ok (.dat d) ρ
    | none => .stuck)
  | .bin op a b, ρ => (bvOf a (evE C a) ρ).bind fun x ρ => (bvOf b (evE C b) ρ).bind fun y ρ => view1 x ρ fun d => view1 y ρ fun e => R.ofO (binD op d e) ρ
  | .neg a, ρ => (evE C a ρ).bind fun s ρ => (match s.cap with
    | .int i => .ok (.dat (.int (-i))) ρ
    | _ => .stuck)
  | .notE a, ρ => (testB (bvOf a (evE C a) ρ)).bind fun b ρ => .ok (.dat (.bl (!b))) ρ
  | .and a b, ρ => (evE C a ρ).bind fun s ρ => R.test s.cap fun t => if t then evE C b ρ else .ok s ρ
  | .or a b, ρ => (evE C a ρ).bind fun s ρ => R.test s.cap fun t => if t then .ok s ρ else evE C b ρ
  | .ite c a b, ρ => (testB (bvOf c (evE C c) ρ)).bind fun t ρ => if t then evE C a ρ else evE C b ρ
  | .cmp op a b, ρ => (bvOf a (evE C a) ρ).bind fun x ρ => (bvOf b (evE C b) ρ).bind fun y ρ => view1 x ρ fun d => view1 y ρ fun e => R.ofO ((cmpD op d e).map fun b => .dat (.bl b)) ρ
  | .cmp2 o1 o2 a b c, ρ => (bvOf a (evE C a) ρ).bind fun x ρ => (bvOf b (evE C b) ρ).bind fun y ρ => view1 x ρ fun d => view1 y ρ fun e => (match cmpD o1 d e with
    | some true => (bvOf c (evE C c) ρ).bind fun z ρ => view1 y ρ fun e => view1 z ρ fun f => R.ofO ((cmpD o2 e f).map fun b => .dat (.bl b)) ρ
    | some false => .ok (.dat (.bl false)) ρ
    | none => .stuck)
  | .tup es, ρ => (evArgs C es ρ).bind fun bs ρ => (match takes bs ρ with
    | some (ss, ρ) => .ok (.dat (.tup (ss.map Sl.cap))) ρ
    | none => .stuck)
  | .lst es, ρ => (evArgs C es ρ).bind fun bs ρ => (match takes bs ρ with
    | some (ss, ρ) => .ok (.lst (ss.map Sl.cap)) ρ
    | none => .stuck)
  | .dic ps, ρ => (evPairs C ps ρ).bind fun p ρ => if p.1.all isKey then let r := dMerge [] [] p.1 p.2; .ok (.dic r.1 r.2) ρ else if p.1.all isTK then let r := dMerge [] [] p.1 p.2; .ok (.dat (.tdic r.1 r.2)) ρ else .stuck
  | .call f es, ρ => (evArgs C es ρ).bind fun bs ρ => (match takes bs ρ with
    | some (ss, ρ) => (match C.call f ss with
      | .ok v fin => .ok v (putBack bs fin ρ)
      | .exc c ps fin => .exc c ps (putBack bs fin ρ)
      | .stuck => .stuck)
    | none => .stuck)
  | .bi f es, ρ => (evOps C es ρ).bind fun bs ρ => (match views bs ρ with
    | some ds => R.ofO (biD f ds) ρ
    | none => .stuck)
  | .mt m o es, ρ => (bvOf o (evE C o) ρ).bind fun x ρ => view1 x ρ fun d0 => if rtOk (mtTy m) d0 then (evArgs C es ρ).bind fun bs ρ => (match takes bs ρ with
    | some (ss, ρ) => (match x with
      | .pl i => (match getS ρ i with
        | some s => (match mtD m s (ss.map Sl.cap) with
          | some (v, none) => .ok v ρ
          | some (v, some s') => .ok v (ρ.set i s')
          | none => .stuck)
        | none => .stuck)
      | .tmp s => (match mtD m s (ss.map Sl.cap) with
        | some (v, _) => .ok v ρ
        | none => .stuck))
    | none => .stuck) else .stuck
  | .mk c f es, ρ => (evArgs C es ρ).bind fun bs ρ => (match takes bs ρ with
    | some (ss, ρ) => (match C.call f (.ins c [] :: ss) with
      | .ok (.dat .non) (.ins c' fs :: fin) => .ok (.ins c' fs) (putBack bs fin ρ)
      | .exc k ps (_ :: fin) => .exc k ps (putBack bs fin ρ)
      | _ => .stuck)
    | none => .stuck)
  | .ms c f o es, ρ => (bvArg o (evE C o) ρ).bind fun x ρ => (match x.slot ρ with
    | some s0 => if objB c s0 then (evArgs C es ρ).bind fun bs ρ => (match takes (x :: bs) ρ with
      | some (ss, ρ) => (match C.call f ss with
        | .ok v fin => .ok v (putBack (x :: bs) fin ρ)
        | .exc k ps fin => .exc k ps (putBack (x :: bs) fin ρ)
        | .stuck => .stuck)
      | none => .stuck) else .stuck
    | none => .stuck)
  | .fld o c k, ρ => (bvOf o (evE C o) ρ).bind fun x ρ => (match (x.slot ρ).bind (fldS c k) with
    | some d => .ok (.dat d) ρ
    | none => .stuck)
  | .ix a i, ρ => (bvOf a (evE C a) ρ).bind fun x ρ => (bvOf i (evE C i) ρ).bind fun y ρ => view1 x ρ fun d => view1 y ρ fun e => R.ofO ((ixD d e).map Sl.dat) ρ
  | .sl a lo hi, ρ => (bvOf a (evE C a) ρ).bind fun x ρ => (bvOf lo (evE C lo) ρ).bind fun y ρ => view1 y ρ fun e => (match e with
    | .int i => (bvOf hi (evE C hi) ρ).bind fun z ρ => view1 x ρ fun d => view1 z ρ fun f => (match f with
      | .int j => R.ofO (slD d (some i) (some j)) ρ
      | _ => .stuck)
    | _ => .stuck)
  | .slA a lo, ρ => (bvOf a (evE C a) ρ).bind fun x ρ => (bvOf lo (evE C lo) ρ).bind fun y ρ => view1 x ρ fun d => view1 y ρ fun e => (match e with
    | .int i => R.ofO (slD d (some i) none) ρ
    | _ => .stuck)
  | .slB a hi, ρ => (bvOf a (evE C a) ρ).bind fun x ρ => (bvOf hi (evE C hi) ρ).bind fun y ρ => view1 x ρ fun d => view1 y ρ fun e => (match e with
    | .int i => R.ofO (slD d none (some i)) ρ
    | _ => .stuck)
  | .rev a, ρ => (bvOf a (evE C a) ρ).bind fun x ρ => view1 x ρ fun d => R.ofO (revD d) ρ
  | .isi a t, ρ => (bvOf a (evE C a) ρ).bind fun x ρ => view1 x ρ fun d => R.ofO ((isiD d t).map fun b => .dat (.bl b)) ρ
  | .comp own elt t it, ρ => (evIt C it ρ).bind fun xs ρ0 => (compL (fun x ρ => R.opt (bindT own t x ρ) fun ρ => (evE C elt ρ).bind fun s ρ => .ok (some s.cap) (wipeE own ρ)) xs (wipeE own ρ0)).bind fun r ρ => if fitsL r.length then .ok (.lst r) ρ else .stuck
  | .compIf own elt t it c, ρ => (evIt C it ρ).bind fun xs ρ0 => (compL (fun x ρ => R.opt (bindT own t x ρ) fun ρ => (testB (bvOf c (evE C c) ρ)).bind fun b ρ =>
        if b then (evE C elt ρ).bind fun s ρ => .ok (some s.cap) (wipeE own ρ) else .ok none (wipeE own ρ)) xs (wipeE own ρ0)).bind fun r ρ => if fitsL r.length then .ok (.lst r) ρ else .stuck
/-- arguments, displays: what is handed on -/
def evArgs (C : Ctx) : EL → Env → R (List Bv)
  | .nil, ρ => .ok [] ρ
  | .cons e es, ρ => (bvArg e (evE C e) ρ).bind fun b ρ => (evArgs C es ρ).bind fun bs ρ => .ok (b :: bs) ρ
/-- operands of a built-in: what is looked at -/
def evOps (C : Ctx) : EL → Env → R (List Bv)
  | .nil, ρ => .ok [] ρ
  | .cons e es, ρ => (bvOf e (evE C e) ρ).bind fun b ρ => (evOps C es ρ).bind fun bs ρ => .ok (b :: bs) ρ
def evPairs (C : Ctx) : PL → Env → R (List D × List D)
  | .cons k v ps, ρ => (evE C k ρ).bind fun a ρ => (evE C v ρ).bind fun b ρ => (evPairs C ps ρ).bind fun p ρ => .ok (a.cap :: p.1, b.cap :: p.2) ρ
  | .nil, ρ => .ok ([], []) ρ
def evT (C : Ctx) : T → Sl → Env → R Unit
  | .var i, s, ρ => (match setSlot C.own i s ρ with
    | some ρ => .ok () ρ
    | none => .stuck)
  | .tup ts, s, ρ => (match seqOf s.cap with
    | some xs => if xs.length = ts.len then evTs C ts xs ρ else .stuck
    | none => .stuck)
  | .ix o i, s, ρ => (match o with
    | .var j => if (getS ρ j).isSome then (bvOf i (evE C i) ρ).bind fun y ρ => view1 y ρ fun k => (match getS ρ j with
      | some (.dic ks vs) => if isKey k && fitsL (ks.length + 1) then let p := dPut ks vs k s.cap; .ok () (ρ.set j (.dic p.1 p.2)) else .stuck
      | some (.lst xs) => (match k with
        | .int n => (match ixN xs.length n with
          | some m => .ok () (ρ.set j (.lst (xs.set m s.cap)))
          | none => .stuck)
        | _ => .stuck)
      | _ => .stuck) else .stuck
    | _ => .stuck)
  | .fld o c k, s, ρ => (match o with
    | .var j => (match getS ρ j with
      | some (.ins c' fs) => if c' = c then (if k < fs.length then .ok () (ρ.set j (.ins c (fs.set k (.dat s.cap)))) else if k = fs.length then .ok () (ρ.set j (.ins c (fs ++ [.dat s.cap]))) else .stuck) else .stuck
      | _ => .stuck)
    | _ => .stuck)
def evTs (C : Ctx) : TL → List D → Env → R Unit
  | .nil, [], ρ => .ok () ρ
  | .cons t ts, x :: xs, ρ => (evT C t (.dat x) ρ).bind fun _ ρ => evTs C ts xs ρ
  | _, _, _ => .stuck
def evIt (C : Ctx) : It → Env → R (List D)
  | .e a, ρ => (evE C a ρ).bind fun s ρ => R.ofO (itemsOf s.cap) ρ
  | .rng1 a, ρ => (evE C a ρ).bind fun s ρ => (match s.cap with
    | .int n => if rngOk 0 n then .ok (rngL 0 n.toNat) ρ else .stuck
    | _ => .stuck)
  | .rng2 a b, ρ => (evE C a ρ).bind fun s ρ => (evE C b ρ).bind fun u ρ => (match s.cap, u.cap with
    | .int m, .int n => if rngOk m n then .ok (rngL m (n - m).toNat) ρ else .stuck
    | _, _ => .stuck)
  | .zip a b, ρ => (evE C a ρ).bind fun s ρ => (evE C b ρ).bind fun u ρ => (match seqP s.cap u.cap with
    | some p => .ok (zipL p.1 p.2) ρ
    | none => .stuck)
  | .enum a, ρ => (evE C a ρ).bind fun s ρ => (match rowL s.cap with
    | some xs => .ok (enumL 0 xs) ρ
    | none => .stuck)
  | _, _ => .stuck
end

inductive Fl where
  | nx | ret (s : Sl) | brk | cnt
def forL (f : D → Env → R Fl) : List D → Env → R Fl
  | [], ρ => .ok .nx ρ
  | x :: xs, ρ => (f x ρ).bind fun fl ρ => match fl with
    | .nx => forL f xs ρ
    | .cnt => forL f xs ρ
    | .brk => .ok .nx ρ
    | .ret s => .ok (.ret s) ρ
def whileL (c : Env → R Bool) (b : Env → R Fl) : Nat → Env → R Fl
  | 0, _ => .stuck
  | n + 1, ρ => (c ρ).bind fun t ρ => if t then (b ρ).bind fun fl ρ => (match fl with
    | .nx => whileL c b n ρ
    | .cnt => whileL c b n ρ
    | .brk => .ok .nx ρ
    | .ret s => .ok (.ret s) ρ) else .ok .nx ρ
def testE (C : Ctx) (c : E) (ρ : Env) : R Bool := testB (bvOf c (evE C c) ρ)
/-- x op= e, by values: a list that is one's own grows -/
def augI : Operator → Int → Int → Option Int
  | .Add, i, j => some (i + j)
  | .Sub, i, j => some (i - j)
  | _, _, _ => none
def augD : Operator → Sl → D → Option Sl
  | .Add, .lst xs, .lst ys => if fitsL (xs.length + ys.length) then some (.lst (xs ++ ys)) else none
  | op, .dat (.int i), .int j => (augI op i j).map fun k => .dat (.int k)
  | _, _, _ => none

/-- the two suites of an except clause that are taken: y = e, y = None -/
def hands : Option Nat → SL → Option (Nat × Bool)
  | some i, .cons (.asg (.var j) (.var k)) .nil => if i = k ∧ i ≠ j then some (j, true) else none
  | none, .cons (.asg (.var j) (.con .non)) .nil => some (j, false)
  | _, _ => none
def catchS (own : List Bool) (c : Nat) (i : Option Nat) (h : SL) (k : Nat) (ps : List D) (ρ : Env) : R Fl := match ps with
  | [] => if decide (c = 0) && decide (k ≤ 7) then (match i, hands i h with
    | some i, some (j, _) => if own.getD i false then .stuck else (match setSlot own j (.dat (.exn k [])) ρ with
      | some ρ => .ok .nx (ρ.set i .un)
      | none => .stuck)
    | none, some (j, _) => (match setSlot own j (.dat .non) ρ with
      | some ρ => .ok .nx ρ
      | none => .stuck)
    | _, none => .stuck) else .stuck
  | _ => .stuck
def raiseOk (c : Nat) : EL → Bool
  | .cons (.con (.str _)) .nil => decide (c ≤ 7)
  | _ => false

mutual
def evS (C : Ctx) : S → Env → R Fl
  | .ret e, ρ => (evE C e ρ).bind fun s ρ => .ok (.ret s) ρ
  | .retN, ρ => .ok (.ret (.dat .non)) ρ
  | .expr e, ρ => (evE C e ρ).bind fun _ ρ => .ok .nx ρ
  | .asg t e, ρ => (evE C e ρ).bind fun s ρ => (evT C t s ρ).bind fun _ ρ => .ok .nx ρ
  | .par i j a b, ρ => (evArgs C (.cons a (.cons b .nil)) ρ).bind fun bs ρ => (match bs with
    | [.tmp (.dat d), .tmp u] => (match setSlot C.own i (.dat d) ρ with
      | some ρ => (match setSlot C.own j u ρ with
        | some ρ => .ok .nx ρ
        | none => .stuck)
      | none => .stuck)
    | _ => .stuck)
  | .aug t op e, ρ => (match t with
    | .var i => if (getS ρ i).isSome then (bvOf e (evE C e) ρ).bind fun y ρ => view1 y ρ fun d => (match getS ρ i with
      | some s => (match augD op s d with
        | some s' => if C.own.getD i false && s.isDat then .stuck else .ok .nx (ρ.set i s')
        | none => .stuck)
      | none => .stuck) else .stuck
    | .ix (.var j) i => if (getS ρ j).isSome then (bvOf i (evE C i) ρ).bind fun z ρ => view1 z ρ fun k => (match getS ρ j, k with
      | some (.lst xs), .int n => if 0 ≤ n then (match xs[n.toNat]? with
        | some (.int a) => (bvOf e (evE C e) ρ).bind fun y ρ => view1 y ρ fun d => (match d, getS ρ j with
          | .int b, some (.lst ys) => if n.toNat < ys.length then (match augI op a b with
            | some c => .ok .nx (ρ.set j (.lst (ys.set n.toNat (.int c))))
            | none => .stuck) else .stuck
          | _, _ => .stuck)
        | _ => .stuck) else .stuck
      | _, _ => .stuck) else .stuck
    | .fld (.var j) c k => (match getS ρ j with
      | some (.ins c' fs) => if c' = c then (match fs[k]? with
        | some (.dat (.int a)) => (bvOf e (evE C e) ρ).bind fun y ρ => view1 y ρ fun d => (match d, getS ρ j with
          | .int b, some (.ins c'' gs) => if c'' = c ∧ k < gs.length then (match augI op a b with
            | some i => .ok .nx (ρ.set j (.ins c (gs.set k (.dat (.int i)))))
            | none => .stuck) else .stuck
          | _, _ => .stuck)
        | _ => .stuck) else .stuck
      | _ => .stuck)
    | _ => .stuck)
  | .ifs c a b, ρ => (testE C c ρ).bind fun t ρ => if t then evSs C a ρ else evSs C b ρ
  | .forS t it b, ρ => (evIt C it ρ).bind fun xs ρ => forL (fun x ρ => (evT C t (.dat x) ρ).bind fun _ ρ => evSs C b ρ) xs ρ
  | .forP t j b, ρ => (match getS ρ j with
    | some (.lst xs) => (forL (fun x ρ => (evT (C.hold j) t (.dat x) ρ).bind fun _ ρ => evSs (C.hold j) b ρ) xs (ρ.set j .un)).bind fun fl ρ => (match ρ[j]? with
      | some .un => .ok fl (ρ.set j (.lst xs))
      | _ => .stuck)
    | _ => .stuck)
  | .whileS c b, ρ => whileL (testE C c) (evSs C b) C.wf ρ
  | .pass, ρ => .ok .nx ρ
  | .brk, ρ => .ok .brk ρ
  | .cnt, ρ => .ok .cnt ρ
  | .tryS b c i h, ρ => (match evSs C b ρ with
    | .exc k ps ρ => catchS C.own c i h k ps ρ
    | r => r)
  | .raise c es, ρ => if raiseOk c es then .exc c [] ρ else .stuck
def evSs (C : Ctx) : SL → Env → R Fl
  | .nil, ρ => .ok .nx ρ
  | .cons s ss, ρ => (evS C s ρ).bind fun f ρ => match f with
    | .nx => evSs C ss ρ
    | f => .ok f ρ
end

/-! ### defs and calls -/
structure Fn where
  np : Nat
  ns : Nat
  body : SL
  dfl : List D := []
structure Tab where
  fn : List Fn
  gl : List (Str × D)
  /-- are refusals made, caught, looked at? -/
  xc : List Nat := []
  /-- methods: the def's number, the class's, the name -/
  mts : List (Nat × Nat × Str) := []
  /-- classes that are made -/
  cls : List Nat := []
/-- data as it was, one's own things as they are -/
def finOf : List Sl → Env → List Sl
  | s :: ss, f :: fs => (if s.isDat then s else f) :: finOf ss fs
  | _, _ => []
def runFn (call : Nat → List Sl → CR) (glob : Nat → Option D) (wf : Nat) (F : Fn) (args : List Sl) : CR :=
  if args.length = F.np then
    match evSs ⟨call, glob, args.map fun s => !s.isDat, wf⟩ F.body (args ++ List.replicate (F.ns - F.np) .un) with
    | .ok .nx ρ => .ok (.dat .non) (finOf args ρ)
    | .ok (.ret s) ρ => .ok s (finOf args ρ)
    | .ok _ _ => .stuck
    | .exc c ps ρ => .exc c ps (finOf args ρ)
    | .stuck => .stuck
  else .stuck
def Tab.glob (t : Tab) (k : Nat) : Option D := (t.gl[k]?).map (·.2)
def callN (t : Tab) (wf : Nat) : Nat → Nat → List Sl → CR
  | 0, _, _ => .stuck
  | n + 1, f, args => match t.fn[f]? with
    | some F => runFn (callN t wf n) t.glob wf F args
    | none => .stuck
end MP

namespace MP
open PySem PySem.Spec PyProof.Rows L2
/-- the world that is walked in -/
class HasW where
  w : World
variable [HasW]

theorem sqL_mono0 {K : PySem.W.Frag} {F F' : Hp} {a : Addr} {xs : List V} (e : Same F F') (h : SqL K F a xs) : SqL K F' a xs := by
  rcases h with (h | ⟨o, h⟩) | h
  · exact .inl (.inl (e _ _ h))
  · exact .inl (.inr ⟨o, e _ _ h⟩)
  · exact .inr h
/-- a text's key -/
def kD : Key → D
  | .inl i => .int i
  | .inr x => .str x.cps.toList

def keyOk : Key → Bool
  | .inl _ => true
  | .inr x => strOkL x.cps.toList && decide (x.cps.toList.length ≤ 16777216)

/-- a tuple that has no attributes of its own -/
def SqX (K : PySem.W.Frag) (F : Hp) (a : Addr) (xs : List V) : Prop :=
  (∃ o, F a = some (.frz o (.tup xs)) ∧ o.dict = none) ∨
    ∃ (o : Obj) (its : Array Value) (n : Nat), K.lookup a = some o ∧ o.cls = .type "tuple" ∧ o.data = .seq its n ∧ its.size ≤ sizeLine ∧ Vals xs its.toList ∧ o.dict = none
theorem sqX_t {K : PySem.W.Frag} {F : Hp} {a : Addr} {xs : List V} (h : SqX K F a xs) : SqT K F a xs := by
  rcases h with ⟨o, h, _⟩ | ⟨o, its, n, h1, h2, h3, h4, h5, _⟩
  · exact .inl (.inr ⟨o, h⟩)
  · exact .inr ⟨o, its, n, h1, h2, h3, h4, h5⟩
theorem sqX_mono {K : PySem.W.Frag} {F F' : Hp} {a : Addr} {xs : List V} (e : Same F F') (h : SqX K F a xs) : SqX K F' a xs := by
  rcases h with ⟨o, h, n⟩ | h
  · exact .inl ⟨o, e _ _ h, n⟩
  · exact .inr h
/-- the keys of a written dict's entries are these texts, their values these -/
inductive CEs : List DictEntry → List (List Nat) → List V → Prop
  | nil : CEs [] [] []
  | cons {e : DictEntry} {es : List DictEntry} {x : List Nat} {xs : List (List Nat)} {v : V} {vs : List V} {t : Tok} : e.key = .str (SX x) t → strOkL x = true → x.length ≤ 16777216 → RelV v e.val → CEs es xs vs → CEs (e :: es) (x :: xs) (v :: vs)
/-- a dict as it stands -/
def rawO (a : Addr) (o : Obj) : HO := .ext fun h => h.get? a = some o
/-- an exception of the class C that nobody raises again -/
def exO (C a : Addr) : HO := .ext fun h => ∃ (oe : Obj) (vs : Array Value), h.get? a = some oe ∧ oe.cls = .ref C ∧ oe.dict = none ∧ oe.data = .fields vs
/-- the class of a number -/
def clsA (K : PySem.W.Frag) (c : Nat) : Option Addr := match cnE[c]? with
  | some x => (match PySem.W.nsIn K mainGlobals x with
    | some (some (.ref C)) => some C
    | _ => none)
  | none => none
/-- the class that makes things, by its number -/
def clsI (K : PySem.W.Frag) (c : Nat) : Option Addr := match clN[c]? with
  | some p => (match PySem.W.nsIn K mainGlobals p.1 with
    | some (some (.ref C)) => some C
    | _ => none)
  | none => none
def entT (x : NestedKey × Addr × Value) : DictEntry := ⟨x.1.hash HasW.w, .ref x.2.1, x.2.2⟩
section
variable (K : PySem.W.Frag)
mutual
/-- a value stands for data: what it reads is told by F -/
inductive Rp (F : Hp) : V → D → Prop
  | non : Rp F .non .non
  | bl (b : Bool) : Rp F (.bl b) (.bl b)
  | int (i : Int) : Rp F (.int i) (.int i)
  | str (x : List Nat) : strOkL x = true → x.length ≤ 16777216 → Rp F (.str (SX x)) (.str x)
  | tup {a : Addr} {vs : List V} {ds : List D} : SqX K F a vs → Rps F vs ds → Rp F (.ref a) (.tup ds)
  | pr {a : Addr} {vs : List V} {ds : List D} : SqT K F a vs → Rps F vs ds → Rp F (.ref a) (.pr ds)
  | lst {a : Addr} {vs : List V} {ds : List D} : Rd F a (.lst vs) → Rps F vs ds → Rp F (.ref a) (.lst ds)
  | dic {a : Addr} {kvs : List (Key × V)} {ds : List D} : F a = some (.dK kvs) → (kvs.map (·.1)).Nodup → (∀ k ∈ kvs.map (·.1), keyOk k = true) → Rps F (kvs.map (·.2)) ds → Rp F (.ref a) (.dic (kvs.map fun p => kD p.1) ds)
  | scr {a : Addr} {xs : List Int} : SqL K F a (xs.map V.int) → Rp F (.ref a) (.scr xs)
  | cdic {a : Addr} {es : Array DictEntry} {n : Nat} {ks : List (List Nat)} {vs : List V} {ds : List D} : KDict K HasW.w a es n → CEs es.toList ks vs → ks.Nodup → ks.length ≤ 1000 → Rps F vs ds → Rp F (.ref a) (.cdic (ks.map .str) ds)
  | tdic {a : Addr} {o : Obj} {es : Array DictEntry} {ep : Nat} {xs : List (NestedKey × Addr × Value)} {ks ds : List D} : F a = some (rawO a o) → o.ExactDict → o.data = .dict es ep → es.toList = xs.map entT → (xs.map (·.1)).Nodup → (a == sysModules) = false → Rpt F xs ks ds → Rp F (.ref a) (.tdic ks ds)
  | exn {a C : Addr} {c : Nat} : clsA K c = some C → F a = some (exO C a) → Rp F (.ref a) (.exn c [])
  | obj {a C dx : Addr} {c : Nat} {fs : List (Str × V)} {ds : List D} : clsI K c = some C → F a = some (.ins C dx fs) → fs.map (·.1) = (fdN c).take fs.length → Rps F (fs.map (·.2)) ds → Rp F (.ref a) (.obj c ds)
inductive Rps (F : Hp) : List V → List D → Prop
  | nil : Rps F [] []
  | cons {v : V} {vs : List V} {d : D} {ds : List D} : Rp F v d → Rps F vs ds → Rps F (v :: vs) (d :: ds)
/-- the entries of a dict with tuples as keys -/
inductive Rpt (F : Hp) : List (NestedKey × Addr × Value) → List D → List D → Prop
  | nil : Rpt F [] [] []
  | cons {b : Addr} {u : Value} {v : V} {k d : D} {xs : List (NestedKey × Addr × Value)} {ks ds : List D} : isTK k = true → Rp F (.ref b) k → RelV v u → Rp F v d → Rpt F xs ks ds → Rpt F ((k.nk, b, u) :: xs) (k :: ks) (d :: ds)
end
end

section
variable {K : PySem.W.Frag} {F F' H H' : Hp}
theorem sqT_mono {a : Addr} {xs : List V} (e : Same F F') (h : SqT K F a xs) : SqT K F' a xs := by
  rcases h with (h | ⟨o, h⟩) | h
  · exact .inl (.inl (e _ _ h))
  · exact .inl (.inr ⟨o, e _ _ h⟩)
  · exact .inr h
theorem rd_mono {a : Addr} {u : HO} (e : Same F F') (h : Rd F a u) : Rd F' a u := by
  rcases h with h | ⟨o, h⟩
  · exact .inl (e _ _ h)
  · exact .inr ⟨o, e _ _ h⟩
mutual
theorem Rp.mono (e : Same F F') : ∀ {v : V} {d : D}, Rp K F v d → Rp K F' v d
  | _, _, .non => .non
  | _, _, .bl b => .bl b
  | _, _, .int i => .int i
  | _, _, .str x h l => .str x h l
  | _, _, .tup s r => .tup (sqX_mono e s) (Rps.mono e r)
  | _, _, .pr s r => .pr (sqT_mono e s) (Rps.mono e r)
  | _, _, .lst s r => .lst (rd_mono e s) (Rps.mono e r)
  | _, _, .dic s n k r => .dic (e _ _ s) n k (Rps.mono e r)
  | _, _, .scr s => .scr (sqL_mono0 e s)
  | _, _, .cdic k c g l r => .cdic k c g l (Rps.mono e r)
  | _, _, .tdic h c d l n m r => .tdic (e _ _ h) c d l n m (Rpt.mono e r)
  | _, _, .exn h c => .exn h (e _ _ c)
  | _, _, .obj h c n r => .obj h (e _ _ c) n (Rps.mono e r)
theorem Rps.mono (e : Same F F') : ∀ {vs : List V} {ds : List D}, Rps K F vs ds → Rps K F' vs ds
  | _, _, .nil => .nil
  | _, _, .cons r t => .cons (Rp.mono e r) (Rps.mono e t)
theorem Rpt.mono (e : Same F F') : ∀ {xs : List (NestedKey × Addr × Value)} {ks ds : List D}, Rpt K F xs ks ds → Rpt K F' xs ks ds
  | _, _, _, .nil => .nil
  | _, _, _, .cons t k u r s => .cons t (Rp.mono e k) u (Rp.mono e r) (Rpt.mono e s)
end
theorem Rps.length : ∀ {vs : List V} {ds : List D}, Rps K F vs ds → vs.length = ds.length
  | _, _, .nil => rfl
  | _, _, .cons _ t => by simp [Rps.length t]
theorem Rps.append : ∀ {vs us : List V} {ds es : List D}, Rps K F vs ds → Rps K F us es → Rps K F (vs ++ us) (ds ++ es)
  | _, _, _, _, .nil, s => s
  | _, _, _, _, .cons r t, s => .cons r (Rps.append t s)
theorem Rps.get : ∀ {vs : List V} {ds : List D} {i : Nat} {d : D}, Rps K F vs ds → ds[i]? = some d → ∃ v, vs[i]? = some v ∧ Rp K F v d
  | _, _, 0, _, .cons r _, e => by simp at e; subst e; exact ⟨_, rfl, r⟩
  | _, _, i + 1, _, .cons _ t, e => by
    obtain ⟨v, h1, h2⟩ := Rps.get (i := i) t (by simpa using e)
    exact ⟨v, by simpa using h1, h2⟩
  | _, _, _, _, .nil, e => by simp at e
theorem Rps.getV : ∀ {vs : List V} {ds : List D} {i : Nat} {v : V}, Rps K F vs ds → vs[i]? = some v → ∃ d, ds[i]? = some d ∧ Rp K F v d
  | _, _, 0, _, .cons r _, e => by simp at e; subst e; exact ⟨_, rfl, r⟩
  | _, _, i + 1, _, .cons _ t, e => by
    obtain ⟨v, h1, h2⟩ := Rps.getV (i := i) t (by simpa using e)
    exact ⟨v, by simpa using h1, h2⟩
  | _, _, _, _, .nil, e => by simp at e
theorem Rps.set : ∀ {vs : List V} {ds : List D} (i : Nat) {v : V} {d : D}, Rps K F vs ds → Rp K F v d → Rps K F (vs.set i v) (ds.set i d)
  | _, _, _, _, _, .nil, _ => .nil
  | _, _, 0, _, _, .cons _ t, r => .cons r t
  | _, _, i + 1, _, _, .cons q t, r => .cons q (Rps.set i t r)
theorem Rps.take : ∀ {vs : List V} {ds : List D} (n : Nat), Rps K F vs ds → Rps K F (vs.take n) (ds.take n)
  | _, _, 0, _ => .nil
  | _, _, _ + 1, .nil => .nil
  | _, _, n + 1, .cons r t => .cons r (Rps.take n t)
theorem Rps.drop : ∀ {vs : List V} {ds : List D} (n : Nat), Rps K F vs ds → Rps K F (vs.drop n) (ds.drop n)
  | _, _, 0, t => t
  | _, _, _ + 1, .nil => .nil
  | _, _, n + 1, .cons _ t => Rps.drop n t
theorem Rps.reverse {vs : List V} {ds : List D} (h : Rps K F vs ds) : Rps K F vs.reverse ds.reverse := by
  induction vs generalizing ds with
  | nil => cases h; exact .nil
  | cons v vs ih =>
    cases h with
    | cons r t =>
      rw [List.reverse_cons, List.reverse_cons]
      exact Rps.append (ih t) (.cons r .nil)
theorem Rps.cut {vs : List V} {ds : List D} (lo hi : Option Int) (h : Rps K F vs ds) : Rps K F (cutV vs lo hi) (cutL ds lo hi) := by
  unfold cutV cutL
  rw [h.length]
  exact (h.drop _).take _
theorem Rps.asInts : ∀ {vs : List V} {ds : List D} {l : List Int}, Rps K F vs ds → MP.asInts ds = some l → vs = l.map V.int
  | _, _, _, .nil, e => by simp [MP.asInts] at e; subst e; rfl
  | _, _, l, .cons (d := d) (ds := ds) r t, e => by
    cases r <;> simp only [MP.asInts, reduceCtorEq] at e
    cases q : MP.asInts ds with
    | none => rw [q] at e; simp at e
    | some l' =>
      rw [q] at e
      simp at e
      subst e
      rw [Rps.asInts t q]
      rfl
theorem Rps.asBls : ∀ {vs : List V} {ds : List D} {l : List Bool}, Rps K F vs ds → MP.asBls ds = some l → vs = l.map V.bl
  | _, _, _, .nil, e => by simp [MP.asBls] at e; subst e; rfl
  | _, _, l, .cons (d := d) (ds := ds) r t, e => by
    cases r <;> simp only [MP.asBls, reduceCtorEq] at e
    cases q : MP.asBls ds with
    | none => rw [q] at e; simp at e
    | some l' =>
      rw [q] at e
      simp at e
      subst e
      rw [Rps.asBls t q]
      rfl
theorem Rps.asStrs : ∀ {vs : List V} {ds : List D} {l : List (List Nat)}, Rps K F vs ds → MP.asStrs ds = some l → vs = l.map (fun x => V.str (SX x)) ∧ ∀ x ∈ l, strOkL x = true ∧ x.length ≤ 16777216
  | _, _, _, .nil, e => by simp [MP.asStrs] at e; subst e; exact ⟨rfl, by simp⟩
  | _, _, l, .cons (d := d) (ds := ds) r t, e => by
    cases r <;> simp only [MP.asStrs, reduceCtorEq] at e
    cases q : MP.asStrs ds with
    | none => rw [q] at e; simp at e
    | some l' =>
      rw [q] at e
      simp at e
      subst e
      obtain ⟨h1, h2⟩ := Rps.asStrs t q
      refine ⟨by rw [h1]; rfl, fun x hx => ?_⟩
      rcases List.mem_cons.mp hx with rfl | hx
      · exact ⟨by assumption, by assumption⟩
      · exact h2 x hx
end

/-! ### slots -/
section
variable (K : PySem.W.Frag) (F H : Hp)
mutual
/-- a thing at a value: the addresses that it alone holds -/
inductive RpS : V → Sl → List Addr → Prop
  | dat {v : V} {d : D} : Rp K F v d → RpS v (.dat d) []
  | lst {a : Addr} {vs : List V} {ds : List D} : H a = some (.lst vs) → F a = none → Rps K F vs ds → RpS (.ref a) (.lst ds) [a]
  | dic {a : Addr} {kvs : List (Key × V)} {ds : List D} : H a = some (.dK kvs) → F a = none → (kvs.map (·.1)).Nodup → (∀ k ∈ kvs.map (·.1), keyOk k = true) → Rps K F (kvs.map (·.2)) ds → RpS (.ref a) (.dic (kvs.map fun p => kD p.1) ds) [a]
  | ins {a C dx : Addr} {c : Nat} {fs : List (Str × V)} {ss : List Sl} {as : List Addr} : clsI K c = some C → H a = some (.ins C dx fs) → F a = none → H dx = some (.own a) → F dx = none → fs.map (·.1) = (fdN c).take fs.length → RpSs (fs.map (·.2)) ss as → RpS (.ref a) (.ins c ss) (a :: dx :: as)
inductive RpSs : List V → List Sl → List Addr → Prop
  | nil : RpSs [] [] []
  | cons {v : V} {s : Sl} {a as : List Addr} {vs : List V} {ss : List Sl} : RpS v s a → RpSs vs ss as → RpSs (v :: vs) (s :: ss) (a ++ as)
end
inductive EnvR : L2.St → Env → List Addr → Prop
  | nil : EnvR [] [] []
  | un {o : Option V} {σ : L2.St} {ρ : Env} {as : List Addr} : EnvR σ ρ as → EnvR (o :: σ) (.un :: ρ) as
  | cons {v : V} {s : Sl} {a as : List Addr} {σ : L2.St} {ρ : Env} : RpS K F H v s a → EnvR σ ρ as → EnvR (some v :: σ) (s :: ρ) (a ++ as)
end
/-- from one state of the heap to a later one: only what stands in as is changed -/
structure Stp (F H : Hp) (as : List Addr) (F' H' : Hp) (as' : List Addr) : Prop where
  ff : Same F F'
  keep : ∀ b o, H b = some o → b ∉ as → H' b = some o
  own : ∀ b ∈ as', b ∈ as ∨ H b = none
  frz : ∀ b o, F' b = some o → F b = some o ∨ b ∈ as ∨ H b = none

section
variable {K : PySem.W.Frag} {F F' F'' H H' H'' : Hp} {as as' as'' ts : List Addr}
theorem Stp.refl : Stp F H as F H as := ⟨fun _ _ h => h, fun _ _ h _ => h, fun _ h => .inl h, fun _ _ h => .inl h⟩
theorem Stp.trans (a : Stp F H as F' H' as') (b : Stp F' H' as' F'' H'' as'') : Stp F H as F'' H'' as'' where
  ff := a.ff.trans b.ff
  keep := fun c o h n => b.keep c o (a.keep c o h n) fun z => by
    rcases a.own c z with z | z
    · exact n z
    · rw [z] at h; cases h
  own := fun c h => by
    rcases b.own c h with z | z
    · exact a.own c z
    · by_cases hc : c ∈ as
      · exact .inl hc
      · right
        cases q : H c with
        | none => rfl
        | some o => rw [a.keep c o q hc] at z; cases z
  frz := fun c o h => by
    rcases b.frz c o h with z | z | z
    · exact a.frz c o z
    · exact .inr (a.own c z)
    · by_cases hc : c ∈ as
      · exact .inr (.inl hc)
      · right; right
        cases q : H c with
        | none => rfl
        | some o => rw [a.keep c o q hc] at z; cases z
theorem Stp.sub (a : Stp F H as F' H' as') (h : ∀ b ∈ as'', b ∈ as') : Stp F H as F' H' as'' := ⟨a.ff, a.keep, fun b hb => a.own b (h b hb), a.frz⟩
theorem Stp.pre (a : Stp F H as F' H' as') (h : ∀ b, b ∈ as → b ∈ as'') : Stp F H as'' F' H' as' :=
  ⟨a.ff, fun b o e n => a.keep b o e fun z => n (h b z), fun b hb => (a.own b hb).imp_left (h b), fun b o e => (a.frz b o e).imp_right (Or.imp_left (h b))⟩
/-- with other things beside -/
theorem Stp.frame (a : Stp F H as F' H' as') : Stp F H (ts ++ as) F' H' (ts ++ as') :=
  ⟨a.ff, fun b o e n => a.keep b o e fun z => n (List.mem_append_right _ z), fun b hb => (List.mem_append.mp hb).elim (fun z => .inl (List.mem_append_left _ z)) fun z => (a.own b z).imp_left (List.mem_append_right _),
    fun b o e => (a.frz b o e).imp_right (Or.imp_left (List.mem_append_right _))⟩
mutual
theorem RpS.there : ∀ {v : V} {s : Sl} {a : List Addr}, RpS K F H v s a → ∀ b ∈ a, (∃ o, H b = some o) ∧ F b = none
  | _, _, _, .dat _ => fun b hb => (by cases hb)
  | _, _, _, .lst e n _ => fun b hb => (by simp at hb; subst hb; exact ⟨⟨_, e⟩, n⟩)
  | _, _, _, .dic e n _ _ _ => fun b hb => (by simp at hb; subst hb; exact ⟨⟨_, e⟩, n⟩)
  | _, _, _, .ins _ e n e2 n2 _ r => fun b hb => by
    rcases List.mem_cons.mp hb with rfl | hb
    · exact ⟨⟨_, e⟩, n⟩
    · rcases List.mem_cons.mp hb with rfl | hb
      · exact ⟨⟨_, e2⟩, n2⟩
      · exact RpSs.there r b hb
theorem RpSs.there : ∀ {vs : List V} {ss : List Sl} {a : List Addr}, RpSs K F H vs ss a → ∀ b ∈ a, (∃ o, H b = some o) ∧ F b = none
  | _, _, _, .nil => fun b hb => (by cases hb)
  | _, _, _, .cons r t => fun b hb => by
    rcases List.mem_append.mp hb with z | z
    · exact RpS.there r b z
    · exact RpSs.there t b z
end
theorem EnvR.there {σ : L2.St} {ρ : Env} {a : List Addr} (r : EnvR K F H σ ρ a) : ∀ b ∈ a, (∃ o, H b = some o) ∧ F b = none := by
  induction r with
  | nil => intro b hb; cases hb
  | un _ ih => exact ih
  | cons r _ ih =>
    intro b hb
    rcases List.mem_append.mp hb with z | z
    · exact r.there b z
    · exact ih b z
theorem Stp.fnone (a : Stp F H as F' H' as') {b : Addr} (h1 : F b = none) (h2 : ∃ o, H b = some o) (h3 : b ∉ as) : F' b = none := by
  cases q : F' b with
  | none => rfl
  | some o =>
    rcases a.frz b o q with z | z | z
    · rw [h1] at z; cases z
    · exact absurd z h3
    · obtain ⟨o', e⟩ := h2; rw [e] at z; cases z
mutual
theorem RpS.step : ∀ {v : V} {s : Sl} {a : List Addr}, RpS K F H v s a → Stp F H as F' H' as' → (∀ b ∈ a, b ∉ as) → RpS K F' H' v s a
  | _, _, _, .dat r => fun t n => .dat (r.mono t.ff)
  | _, _, _, .lst e f r => fun t n => .lst (t.keep _ _ e (n _ (by simp))) (t.fnone f ⟨_, e⟩ (n _ (by simp))) (r.mono t.ff)
  | _, _, _, .dic e f g k r => fun t n => .dic (t.keep _ _ e (n _ (by simp))) (t.fnone f ⟨_, e⟩ (n _ (by simp))) g k (r.mono t.ff)
  | _, _, _, .ins c e f e2 f2 m r => fun t n => .ins c (t.keep _ _ e (n _ (by simp))) (t.fnone f ⟨_, e⟩ (n _ (by simp))) (t.keep _ _ e2 (n _ (by simp))) (t.fnone f2 ⟨_, e2⟩ (n _ (by simp))) m (RpSs.step r t fun b hb => n b (List.mem_cons_of_mem _ (List.mem_cons_of_mem _ hb)))
theorem RpSs.step : ∀ {vs : List V} {ss : List Sl} {a : List Addr}, RpSs K F H vs ss a → Stp F H as F' H' as' → (∀ b ∈ a, b ∉ as) → RpSs K F' H' vs ss a
  | _, _, _, .nil => fun _ _ => .nil
  | _, _, _, .cons r q => fun t n => .cons (RpS.step r t fun b hb => n b (List.mem_append_left _ hb)) (RpSs.step q t fun b hb => n b (List.mem_append_right _ hb))
end
theorem EnvR.step {σ : L2.St} {ρ : Env} {a : List Addr} (r : EnvR K F H σ ρ a) (t : Stp F H as F' H' as') (n : ∀ b ∈ a, b ∉ as) : EnvR K F' H' σ ρ a := by
  induction r with
  | nil => exact .nil
  | un _ ih => exact .un (ih n)
  | cons r _ ih => exact .cons (r.step t fun b hb => n b (List.mem_append_left _ hb)) (ih fun b hb => n b (List.mem_append_right _ hb))
/-- names apart from what a step makes -/
theorem Stp.apart (t : Stp F H as F' H' as') {a : List Addr} (h : ∀ b ∈ a, ∃ o, H b = some o) (n : ∀ b ∈ a, b ∉ as) : ∀ b ∈ a, b ∉ as' := fun b hb z => by
  rcases t.own b z with q | q
  · exact n b hb q
  · obtain ⟨o, e⟩ := h b hb; rw [e] at q; cases q
theorem nodup_app {α : Type} {l m : List α} : (l ++ m).Nodup ↔ l.Nodup ∧ m.Nodup ∧ ∀ b ∈ l, b ∉ m := by
  rw [List.nodup_append]
  constructor
  · rintro ⟨a, b, c⟩; exact ⟨a, b, fun x hx hy => c x hx x hy rfl⟩
  · rintro ⟨a, b, c⟩; exact ⟨a, b, fun x hx y hy e => c x hx (e ▸ hy)⟩
theorem EnvR.length {σ : L2.St} {ρ : Env} {a : List Addr} (r : EnvR K F H σ ρ a) : σ.length = ρ.length := by
  induction r with
  | nil => rfl
  | un _ ih => simp [ih]
  | cons _ _ ih => simp [ih]
theorem getS_some {ρ : Env} {i : Nat} {s : Sl} (h : getS ρ i = some s) : ρ[i]? = some s ∧ s ≠ .un := by
  unfold getS at h
  split at h
  · cases h
  · rename_i o hn
    refine ⟨h, fun z => ?_⟩
    subst z
    exact hn h
/-- one slot looked at -/
theorem EnvR.get {σ : L2.St} {ρ : Env} {a : List Addr} (r : EnvR K F H σ ρ a) : ∀ {i : Nat} {s : Sl}, ρ[i]? = some s → s ≠ .un → ∃ v b, σ[i]? = some (some v) ∧ RpS K F H v s b ∧ ∀ x ∈ b, x ∈ a := by
  induction r with
  | nil => intro i s h; simp at h
  | un _ ih =>
    intro i s h n
    cases i with
    | zero => simp at h; exact absurd h.symm n
    | succ i => obtain ⟨v, b, e, q, m⟩ := ih (i := i) (by simpa using h) n; exact ⟨v, b, by simpa using e, q, m⟩
  | cons r _ ih =>
    intro i s h n
    cases i with
    | zero => simp at h; subst h; exact ⟨_, _, rfl, r, fun x hx => List.mem_append_left _ hx⟩
    | succ i => obtain ⟨v, b, e, q, m⟩ := ih (i := i) (by simpa using h) n; exact ⟨v, b, by simpa using e, q, fun x hx => List.mem_append_right _ (m x hx)⟩
/-- a slot is emptied -/
theorem EnvR.out {σ : L2.St} {ρ : Env} {a : List Addr} (r : EnvR K F H σ ρ a) : ∀ {i : Nat} {s : Sl}, ρ[i]? = some s → s ≠ .un → ∃ v b a', σ[i]? = some (some v) ∧ RpS K F H v s b ∧ EnvR K F H σ (ρ.set i .un) a' ∧ a.Perm (b ++ a') := by
  induction r with
  | nil => intro i s h; simp at h
  | un _ ih =>
    intro i s h n
    cases i with
    | zero => simp at h; exact absurd h.symm n
    | succ i => obtain ⟨v, b, a', e, q, m, p⟩ := ih (i := i) (by simpa using h) n; exact ⟨v, b, a', by simpa using e, q, .un m, p⟩
  | @cons v0 s0 a0 as0 σ0 ρ0 r rr ih =>
    intro i s h n
    cases i with
    | zero => simp at h; subst h; exact ⟨_, _, _, rfl, r, .un rr, .refl _⟩
    | succ i =>
      obtain ⟨v, b, a', e, q, m, p⟩ := ih (i := i) (by simpa using h) n
      refine ⟨v, b, a0 ++ a', by simpa using e, q, .cons r m, ?_⟩
      refine ((List.Perm.append_left a0 p).trans ?_)
      rw [← List.append_assoc, ← List.append_assoc]
      exact List.Perm.append_right a' List.perm_append_comm
/-- an empty slot is filled by what stands at its value -/
theorem EnvR.fill {σ : L2.St} {ρ : Env} {a : List Addr} (r : EnvR K F H σ ρ a) : ∀ {i : Nat} {v : V} {s : Sl} {b : List Addr}, ρ[i]? = some .un → σ[i]? = some (some v) → RpS K F H v s b → ∃ a', EnvR K F H σ (ρ.set i s) a' ∧ a'.Perm (b ++ a) := by
  induction r with
  | nil => intro i v s b h; simp at h
  | @un o σ0 ρ0 as0 rr ih =>
    intro i v s b h e q
    cases i with
    | zero => simp at e; subst e; exact ⟨b ++ as0, .cons q rr, .refl _⟩
    | succ i =>
      obtain ⟨a', m, p⟩ := ih (i := i) (by simpa using h) (by simpa using e) q
      exact ⟨a', .un m, p⟩
  | @cons v0 s0 a0 as0 σ0 ρ0 r rr ih =>
    intro i v s b h e q
    cases i with
    | zero => simp at h; subst h; cases r
    | succ i =>
      obtain ⟨a', m, p⟩ := ih (i := i) (by simpa using h) (by simpa using e) q
      refine ⟨a0 ++ a', .cons r m, (List.Perm.append_left a0 p).trans ?_⟩
      rw [← List.append_assoc, ← List.append_assoc]
      exact List.Perm.append_right as0 List.perm_append_comm
/-- a slot's name is given another value -/
theorem EnvR.store {σ : L2.St} {ρ : Env} {a : List Addr} (r : EnvR K F H σ ρ a) : ∀ {i : Nat} {v : V} {s : Sl} {b : List Addr}, i < ρ.length → RpS K F H v s b → ∃ a' c a0, EnvR K F H (σ.set i (some v)) (ρ.set i s) a' ∧ a.Perm (c ++ a0) ∧ a'.Perm (b ++ a0) := by
  induction r with
  | nil => intro i v s b h; simp at h
  | @un o σ0 ρ0 as0 rr ih =>
    intro i v s b h q
    cases i with
    | zero => exact ⟨b ++ as0, [], as0, .cons q rr, .refl _, .refl _⟩
    | succ i =>
      obtain ⟨a', c, a0, m, p1, p2⟩ := ih (i := i) (by simpa using h) q
      exact ⟨a', c, a0, .un m, p1, p2⟩
  | @cons v0 s0 a0 as0 σ0 ρ0 r rr ih =>
    intro i v s b h q
    cases i with
    | zero => exact ⟨b ++ as0, a0, as0, .cons q rr, .refl _, .refl _⟩
    | succ i =>
      obtain ⟨a', c, a1, m, p1, p2⟩ := ih (i := i) (by simpa using h) q
      refine ⟨a0 ++ a', c, a0 ++ a1, .cons r m, ?_, ?_⟩
      · refine (List.Perm.append_left a0 p1).trans ?_
        rw [← List.append_assoc, ← List.append_assoc]
        exact List.Perm.append_right a1 List.perm_append_comm
      · refine (List.Perm.append_left a0 p2).trans ?_
        rw [← List.append_assoc, ← List.append_assoc]
        exact List.Perm.append_right a1 List.perm_append_comm
/-- all of some addresses told as data from now on -/
def frzH (F H : Hp) (a : List Addr) : Hp := fun b => if b ∈ a then H b else F b
theorem frzH_ff {a : List Addr} (h : Same F H) : Same F (frzH F H a) := fun b o e => by
  unfold frzH; split
  · exact h b o e
  · exact e
theorem frzH_sub {a : List Addr} (h : Same F H) : Same (frzH F H a) H := fun b o e => by
  unfold frzH at e; split at e
  · exact e
  · exact h b o e
theorem frzH_stp {a : List Addr} (h : Same F H) (ha : ∀ b ∈ a, b ∈ as) (has : ∀ b ∈ as', b ∈ as) : Stp F H as (frzH F H a) H as' :=
  ⟨frzH_ff h, fun _ _ e _ => e, fun b hb => .inl (has b hb), fun b o e => by
    unfold frzH at e; split at e
    · rename_i z; exact .inr (.inl (ha b z))
    · exact .inl e⟩
theorem frzH_more {a c : List Addr} (h : Same F H) (m : ∀ b ∈ a, b ∈ c) : Same (frzH F H a) (frzH F H c) := fun b o e => by
  unfold frzH at e ⊢
  split at e
  · rename_i z; rw [if_pos (m b z)]; exact e
  · split
    · exact h b o e
    · exact e
mutual
theorem RpS.capture (h : Same F H) : ∀ {v : V} {s : Sl} {a : List Addr}, RpS K F H v s a → Rp K (frzH F H a) v s.cap
  | _, _, _, .dat r => r.mono (frzH_ff h)
  | _, _, _, .lst (a := a) e n r => by
    refine .lst (.inl ?_) (r.mono (frzH_ff h))
    unfold frzH; simp [e]
  | _, _, _, .dic e n g k r => by
    refine .dic ?_ g k (r.mono (frzH_ff h))
    unfold frzH; simp [e]
  | _, _, _, .ins (a := a) (dx := dx) (as := as) c e n e2 n2 m r => by
    rw [Sl.cap, Sl.caps_map]
    refine .obj (dx := dx) c ?_ m (RpSs.capture h r (a :: dx :: as) fun b hb => List.mem_cons_of_mem _ (List.mem_cons_of_mem _ hb))
    unfold frzH; simp [e]
theorem RpSs.capture (h : Same F H) : ∀ {vs : List V} {ss : List Sl} {a : List Addr}, RpSs K F H vs ss a → ∀ c, (∀ b ∈ a, b ∈ c) → Rps K (frzH F H c) vs (ss.map Sl.cap)
  | _, _, _, .nil => fun _ _ => .nil
  | _, _, _, .cons r q => fun c hc => .cons ((RpS.capture h r).mono (frzH_more h fun b hb => hc b (List.mem_append_left _ hb))) (RpSs.capture h q c fun b hb => hc b (List.mem_append_right _ hb))
end
theorem RpSs.ind {P : ∀ (vs : List V) (ss : List Sl) (a : List Addr), RpSs K F H vs ss a → Prop} (nil : P [] [] [] .nil) (cons : ∀ {v : V} {s : Sl} {a as : List Addr} {vs : List V} {ss : List Sl} (r : RpS K F H v s a) (t : RpSs K F H vs ss as), P vs ss as t → P (v :: vs) (s :: ss) (a ++ as) (.cons r t)) : ∀ {vs : List V} {ss : List Sl} {a : List Addr} (h : RpSs K F H vs ss a), P vs ss a h
  | _, _, _, .nil => nil
  | _, _, _, .cons r t => cons r t (RpSs.ind nil cons t)
/-- what a thing tells, looked at -/
theorem RpS.look {v : V} {s : Sl} {a : List Addr} (h : Same F H) (r : RpS K F H v s a) : Rp K H v s.cap := (r.capture h).mono (frzH_sub h)
end
end MP

namespace MP
open PySem PySem.Spec PyProof.Rows L2
variable [HasW]

/-! ### the weakest reading -/
def WE (X : Cx) (x : Expr) : TE := fun σ H Q => ∀ pins s, Inv X pins σ H s → wpAny (model X.prog X.w) X.A (eval x X.env) (EP X pins σ Q) X.xe s
theorem pe_w {X : Cx} {x : Expr} : PE X x (WE X x) := ⟨fun pins s σ H Q I h => h pins s I⟩
theorem we_of {X : Cx} {x : Expr} {t : TE} (p : PE X x t) {σ : L2.St} {H : Hp} {Q : VK} (h : t σ H Q) : WE X x σ H Q := fun pins s I => p.run pins s σ H Q I h
def WT (X : Cx) (x : Expr) : TT := fun σ H Q => ∀ pins s, Inv X pins σ H s → wpAny (model X.prog X.w) X.A (isTrue x X.env (eval x X.env)) (TP X pins σ Q) X.xe s
theorem pt_w {X : Cx} {x : Expr} : PT X x (WT X x) := ⟨fun pins s σ H Q I h => h pins s I⟩
theorem wt_of {X : Cx} {x : Expr} {t : TT} (p : PT X x t) {σ : L2.St} {H : Hp} {Q : Bool → Hp → Prop} (h : t σ H Q) : WT X x σ H Q := fun pins s I => p.run pins s σ H Q I h
def WA (X : Cx) (xs : List Expr) : TA := fun σ H Q => ∀ pos pins s, Inv X pins σ H s → wpAny (model X.prog X.w) X.A (spliced (backTo pos (starEach xs X.env))) (AP X pins σ Q) X.xe s
theorem pa_w {X : Cx} {xs : List Expr} : PA X xs (WA X xs) := ⟨fun pos pins s σ H Q I h => h pos pins s I⟩
theorem wa_of {X : Cx} {xs : List Expr} {t : TA} (p : PA X xs t) {σ : L2.St} {H : Hp} {Q : List V → Hp → Prop} (h : t σ H Q) : WA X xs σ H Q := fun pos pins s I => p.run pos pins s σ H Q I h
theorem WE.mono {X : Cx} {x : Expr} {σ : L2.St} {H : Hp} {Q Q' : VK} (h : WE X x σ H Q) (m : ∀ v H', Q v H' → Q' v H') : WE X x σ H Q' := fun pins s I =>
  wpAny_mono (h pins s I) (fun _ _ ⟨v, H', I', r, q⟩ => ⟨v, H', I', r, m v H' q⟩) fun _ _ z => z

/-! ### results -/
def R.wp {α : Type} (r : R α) (ok : α → Env → Prop) (ex : Nat → List D → Env → Prop) : Prop := match r with
  | .ok a ρ => ok a ρ
  | .exc c ps ρ => ex c ps ρ
  | .stuck => False
theorem wp_bind {α β : Type} {r : R α} {f : α → Env → R β} {ok : β → Env → Prop} {ex : Nat → List D → Env → Prop} : (r.bind f).wp ok ex ↔ r.wp (fun a ρ => (f a ρ).wp ok ex) ex := by cases r <;> exact Iff.rfl
theorem wp_mono {α : Type} {r : R α} {ok ok' : α → Env → Prop} {ex ex' : Nat → List D → Env → Prop} (h : r.wp ok ex) (h1 : ∀ a ρ, ok a ρ → ok' a ρ) (h2 : ∀ c ps ρ, ex c ps ρ → ex' c ps ρ) : r.wp ok' ex' := by
  cases r
  · exact h1 _ _ h
  · exact h2 _ _ _ h
  · exact h
theorem wp_ofO {α : Type} {o : Option α} {ρ : Env} {ok : α → Env → Prop} {ex : Nat → List D → Env → Prop} (h : (R.ofO o ρ).wp ok ex) : ∃ a, o = some a ∧ ok a ρ := by
  cases o with
  | none => exact h.elim
  | some a => exact ⟨a, rfl, h⟩

/-! ### what stands after a step -/
/-- a new thing -/
structure New (K : PySem.W.Frag) (F H : Hp) (z : V) (s : Sl) (F' H' : Hp) (a : List Addr) : Prop where
  rep : RpS K F' H' z s a
  stp : Stp F H [] F' H' a
  nd : a.Nodup
  sub : Same F' H'
/-- an exception: its class, its own dict -/
def Exc (mg : Str → Option Value) (cn : List Str) (c : Nat) (ps : List D) (H : Hp) (cls : Value) (d : Option Addr) : Prop :=
  ∃ x C, cn[c]? = some x ∧ mg x = some (.ref C) ∧ cls = .ref C ∧ ((ps = [] ∧ d = none) ∨ ∃ i dd, ps = [.int i] ∧ d = some dd ∧ H dd = some (.xd [(("at" : Str), .int i)]))
/-- the wish behind an exception -/
def ExP (X : Cx) (cn : List Str) (W : WX) (F H : Hp) (as : List Addr) (σ : L2.St) : Nat → List D → Env → Prop := fun c ps ρ' =>
  ∀ cls d F' H' as', Stp F H as F' H' as' → EnvR X.K F' H' σ ρ' as' → as'.Nodup → Same F' H' → Exc X.mg cn c ps H' cls d → W cls d σ H'
/-- the wish behind a value -/
def OkP (X : Cx) (F H : Hp) (as : List Addr) (σ : L2.St) (Q : VK) : Sl → Env → Prop := fun s ρ' =>
  ∀ v F' H' a as', Stp F H as F' H' (a ++ as') → EnvR X.K F' H' σ ρ' as' → RpS X.K F' H' v s a → (a ++ as').Nodup → Same F' H' → Q v H'
def SndE (X : Cx) (cn : List Str) (W : WX) (x : Expr) (r : Env → R Sl) : Prop :=
  ∀ (ρ : Env) (F H : Hp) (as : List Addr) (σ : L2.St) (Q : VK), EnvR X.K F H σ ρ as → as.Nodup → Same F H →
    (r ρ).wp (OkP X F H as σ Q) (ExP X cn W F H as σ) → WE X x σ H Q
/-- an operand as it was met -/
inductive RBv (K : PySem.W.Frag) (F H : Hp) (σ : L2.St) : V → Bv → List Addr → Prop
  | pl {i : Nat} {v : V} : σ[i]? = some (some v) → RBv K F H σ v (.pl i) []
  | tmp {v : V} {s : Sl} {a : List Addr} : RpS K F H v s a → RBv K F H σ v (.tmp s) a
def OkB (X : Cx) (F H : Hp) (as : List Addr) (σ : L2.St) (Q : V → Hp → Prop) : Bv → Env → Prop := fun b ρ' =>
  ∀ v F' H' a as', Stp F H as F' H' (a ++ as') → EnvR X.K F' H' σ ρ' as' → RBv X.K F' H' σ v b a → (a ++ as').Nodup → Same F' H' → Q v H'
def SndB (X : Cx) (cn : List Str) (W : WX) (x : Expr) (r : Env → R Bv) : Prop :=
  ∀ (ρ : Env) (F H : Hp) (as : List Addr) (σ : L2.St) (Q : VK), EnvR X.K F H σ ρ as → as.Nodup → Same F H →
    (r ρ).wp (OkB X F H as σ Q) (ExP X cn W F H as σ) → WE X x σ H Q

section
variable {K : PySem.W.Frag} {F F' F1 H H' H1 : Hp} {as as' as1 a a1 : List Addr} {σ : L2.St} {ρ : Env} {v : V} {b : Bv} {d : D} {s : Sl}
theorem RBv.step (r : RBv K F H σ v b a) (t : Stp F H as F' H' as') (n : ∀ x ∈ a, x ∉ as) : RBv K F' H' σ v b a := by
  cases r with
  | pl e => exact .pl e
  | tmp r => exact .tmp (r.step t n)
theorem RBv.there (r : RBv K F H σ v b a) : ∀ x ∈ a, (∃ o, H x = some o) ∧ F x = none := by
  cases r with
  | pl e => intro x hx; cases hx
  | tmp r => exact r.there
/-- an operand looked at: the thing at its value -/
theorem RBv.view (r : RBv K F H σ v b a) (e : EnvR K F H σ ρ as) (h : b.view ρ = some d) : ∃ s c, RpS K F H v s c ∧ s.cap = d ∧ ∀ x ∈ c, x ∈ a ∨ x ∈ as := by
  cases r with
  | @pl i v hi =>
    simp only [Bv.view] at h
    cases q : getS ρ i with
    | none => rw [q] at h; simp at h
    | some s =>
      rw [q] at h
      simp at h
      obtain ⟨q1, q2⟩ := getS_some q
      obtain ⟨v', c, e1, r, m⟩ := e.get q1 q2
      rw [hi] at e1; cases e1
      exact ⟨s, c, r, h, fun x hx => .inr (m x hx)⟩
  | @tmp v s a r =>
    simp only [Bv.view, Option.some.injEq] at h
    exact ⟨s, a, r, h, fun x hx => .inl hx⟩
/-! new things -/
theorem same_upd {p : Addr} {o : HO} (h : H p = none) : Same H (upd H p o) := fun b x e => by
  rw [upd_ne (ne_of_none e h)]
  exact e
theorem New.dat (h : Same F H) (r : Rp K F v d) : New K F H v (.dat d) F H [] := ⟨.dat r, .refl, .nil, h⟩
theorem fnone_of {p : Addr} (h : Same F H) (n : H p = none) : F p = none := by
  cases q : F p with
  | none => rfl
  | some o => rw [h _ _ q] at n; cases n
theorem New.lst {p : Addr} {vs : List V} {ds : List D} (h : Same F H) (n : H p = none) (r : Rps K F vs ds) : New K F H (.ref p) (.lst ds) F (upd H p (.lst vs)) [p] where
  rep := .lst upd_same (fnone_of h n) r
  stp := ⟨fun _ _ e => e, fun b o e _ => same_upd n b o e, fun b hb => by simp at hb; subst hb; exact .inr n, fun _ _ e => .inl e⟩
  nd := by simp
  sub := fun b o e => same_upd n b o (h b o e)
theorem New.dic {p : Addr} {kvs : List (Key × V)} {ds : List D} (h : Same F H) (n : H p = none) (g : (kvs.map (·.1)).Nodup) (k : ∀ k ∈ kvs.map (·.1), keyOk k = true) (r : Rps K F (kvs.map (·.2)) ds) :
    New K F H (.ref p) (.dic (kvs.map fun p => kD p.1) ds) F (upd H p (.dK kvs)) [p] where
  rep := .dic upd_same (fnone_of h n) g k r
  stp := ⟨fun _ _ e => e, fun b o e _ => same_upd n b o e, fun b hb => by simp at hb; subst hb; exact .inr n, fun _ _ e => .inl e⟩
  nd := by simp
  sub := fun b o e => same_upd n b o (h b o e)
theorem New.pr {p : Addr} {vs : List V} {ds : List D} (h : Same F H) (n : H p = none) (r : Rps K F vs ds) : New K F H (.ref p) (.dat (.pr ds)) (upd F p (.tup vs)) (upd H p (.tup vs)) [] where
  rep := (.dat (.pr (.inl (.inl upd_same)) (r.mono (same_upd (fnone_of h n)))))
  stp := ⟨same_upd (fnone_of h n), fun b o e _ => same_upd n b o e, fun b hb => (by cases hb), fun b o e => by
    by_cases z : b = p
    · subst z; exact .inr (.inr n)
    · rw [upd_ne z] at e; exact .inl e⟩
  nd := .nil
  sub := fun b o e => by
    by_cases z : b = p
    · subst z; rw [upd_same] at e ⊢; exact e
    · rw [upd_ne z] at e ⊢; exact h b o e
theorem New.tup {p : Addr} {vs : List V} {ds : List D} {o : Obj} (ho : o.dict = none) (h : Same F H) (n : H p = none) (r : Rps K F vs ds) : New K F H (.ref p) (.dat (.tup ds)) (upd F p (.frz o (.tup vs))) (upd H p (.frz o (.tup vs))) [] where
  rep := .dat (.tup (.inl ⟨o, upd_same, ho⟩) (r.mono (same_upd (fnone_of h n))))
  stp := ⟨same_upd (fnone_of h n), fun b o e _ => same_upd n b o e, fun b hb => (by cases hb), fun b o e => by
    by_cases z : b = p
    · subst z; exact .inr (.inr n)
    · rw [upd_ne z] at e; exact .inl e⟩
  nd := .nil
  sub := fun b o e => by
    by_cases z : b = p
    · subst z; rw [upd_same] at e ⊢; exact e
    · rw [upd_ne z] at e ⊢; exact h b o e
/-- from the state reached to the end: a new thing, what was met dropped -/
theorem OkP.new {X : Cx} {Q : VK} (h : OkP X F H as σ Q s ρ) (t : Stp F H as F1 H1 as1) (e : EnvR X.K F1 H1 σ ρ a1) (m : ∀ x ∈ a1, x ∈ as1) (nd : a1.Nodup) (n : New X.K F1 H1 v s F' H' a) : Q v H' := by
  have t2 : Stp F1 H1 as1 F' H' (a1 ++ a) := ⟨n.stp.ff, fun b o x _ => n.stp.keep b o x (by simp), fun b hb => (List.mem_append.mp hb).elim (fun z => .inl (m b z)) fun z => (n.stp.own b z).elim (fun q => by cases q) .inr, fun b o x => (n.stp.frz b o x).elim .inl fun z => z.elim (fun q => by cases q) fun q => .inr (.inr q)⟩
  refine h v F' H' a a1 ((t.trans t2).sub fun b hb => ?_) (e.step n.stp fun b _ z => by cases z) n.rep ?_ n.sub
  · rcases List.mem_append.mp hb with z | z
    · exact List.mem_append_right _ z
    · exact List.mem_append_left _ z
  · rw [nodup_app]
    refine ⟨n.nd, nd, fun b hb hz => ?_⟩
    rcases n.stp.own b hb with q | q
    · cases q
    · obtain ⟨⟨o, x⟩, _⟩ := e.there b hz
      rw [x] at q; cases q
end

/-! ### what stands around -/
structure Gd (X : Cx) (N : List Str) (sc : Scope) (cn : List Str) (W : WX) (n : Nat) : Prop where
  hN : X.N = N
  hw : X.w = HasW.w
  nd : N.Nodup
  calm : X.calm = true
  look : ∀ x k, sc.names.lookup x = some k → k ≠ .free → X.env.scope.names.lookup x = some k
  free : ∀ x, sc.names.lookup x = some .free → X.env.scope.names.lookup x = some .free ∨ X.env.scope.names.lookup x = some .cell
  fn : ∀ x, sc.names.lookup x = some .cell → X.fn x = true
  room : Room n X.A
  gu : X.A.guards = some []
  tk : Takes X W
  po : PassesOwn (model X.prog X.w) X.A X.env X.xe
def nmOk (x : Str) : Bool := !(x == ("__debug__" : Str)) && (!(x == ("__classdict__" : Str)) && !(x == ("__name__" : Str)))
def visC (sc : Scope) (x : Str) : Bool := match sc.names.lookup x with
  | some .local => true
  | some .cell => true
  | some .free => true
  | _ => false
def locC (sc : Scope) (x : Str) : Bool := match sc.names.lookup x with
  | some .local => true
  | some .cell => true
  | _ => false
def glC (sc : Scope) (x : Str) : Bool := match sc.names.lookup x with
  | some .globalImplicit => true
  | _ => false
section
variable {X : Cx} {N : List Str} {sc : Scope} {cn : List Str} {W : WX} {n : Nat} (G : Gd X N sc cn W n)
include G
theorem Gd.vis {x : Str} (h : visC sc x = true) : Vis X.env.scope x := by
  unfold visC at h
  split at h
  · rename_i e; exact .inl (G.look _ _ e (by decide))
  · rename_i e; exact .inr (.inl (G.look _ _ e (by decide)))
  · rename_i e
    rcases G.free _ e with z | z
    · exact .inr (.inr z)
    · exact .inr (.inl z)
  · cases h
theorem Gd.loc {x : Str} (h : locC sc x = true) : Loc X.env.scope x ∧ (X.fn x = true ∨ X.env.scope.names.lookup x = some .local) := by
  unfold locC at h
  split at h
  · rename_i e; exact ⟨.inl (G.look _ _ e (by decide)), .inr (G.look _ _ e (by decide))⟩
  · rename_i e; exact ⟨.inr (G.look _ _ e (by decide)), .inl (G.fn _ e)⟩
  · cases h
theorem Gd.gl {x : Str} (h : glC sc x = true) : Gl X x := by
  unfold glC at h
  split at h
  · rename_i e; exact G.look _ _ e (by decide)
  · cases h
end
theorem nmOk_d {x : Str} (h : nmOk x = true) : (x == ("__debug__" : Str)) = false ∧ (x == ("__classdict__" : Str)) = false ∧ x ≠ "__name__" := by
  unfold nmOk at h
  simp only [Bool.and_eq_true, Bool.not_eq_true'] at h
  exact ⟨h.1, h.2.1, fun e => by have := h.2.2; simp [e] at this⟩

/-! ### names, constants -/
section
variable {X : Cx} {N : List Str} {sc : Scope} {cn : List Str} {W : WX} {n : Nat} {C : Ctx} {pos : Pos}
/-- a name that stands in slot i -/
def VarOk (N : List Str) (sc : Scope) (i : Nat) (x : Str) : Prop := N[i]? = some x ∧ visC sc x = true ∧ nmOk x = true
theorem we_var (G : Gd X N sc cn W n) {i : Nat} {x : Str} (h : VarOk N sc i x) {σ : L2.St} {H : Hp} {Q : VK} {v : V} (e : σ[i]? = some (some v)) (q : Q v H) : WE X (.Name x pos) σ H Q :=
  we_of (pe_var (by rw [G.hN]; exact h.1) (G.vis h.2.1) (nmOk_d h.2.2).1 (nmOk_d h.2.2).2.1) ⟨v, e, q⟩
theorem snd_var (G : Gd X N sc cn W n) {i : Nat} {x : Str} (h : VarOk N sc i x) : SndE X cn W (.Name x pos) (evE C (.var i)) := by
  intro ρ F H as σ Q e nd sub w
  simp only [evE] at w
  cases q : getS ρ i with
  | none => rw [q] at w; exact w.elim
  | some s =>
    rw [q] at w
    obtain ⟨q1, q2⟩ := getS_some q
    obtain ⟨v, b, a', e1, r, m, p⟩ := e.out q1 q2
    refine we_var G h e1 ?_
    have hs : Stp F H as (frzH F H b) H a' := frzH_stp sub (fun x hx => p.mem_iff.mpr (List.mem_append_left _ hx)) fun x hx => p.mem_iff.mpr (List.mem_append_right _ hx)
    have nd' := p.nodup_iff.mp nd
    rw [nodup_app] at nd'
    have m' : EnvR X.K (frzH F H b) H σ (ρ.set i .un) a' := m.step (frzH_stp (as := b) (as' := b) sub (fun _ z => z) fun _ z => z) fun x hx z => nd'.2.2 x z hx
    have hi : i < ρ.length := (List.getElem?_eq_some_iff.mp q1).1
    obtain ⟨a2, m2, p2⟩ := m'.fill (i := i) (v := v) (s := .dat s.cap) (b := []) (by rw [List.getElem?_set_self hi]) e1 (.dat (r.capture sub))
    rw [List.set_set] at m2
    refine w v (frzH F H b) H [] a2 (hs.sub fun x hx => by simpa using p2.mem_iff.mp hx) m2 (.dat (r.capture sub)) ?_ (frzH_sub sub)
    simpa using p2.nodup_iff.mpr (by simpa using nd'.2.1)
theorem snd_mv (G : Gd X N sc cn W n) {i : Nat} {x : Str} (h : VarOk N sc i x) : SndE X cn W (.Name x pos) (evE C (.mv i)) := by
  intro ρ F H as σ Q e nd sub w
  simp only [evE] at w
  cases q : getS ρ i with
  | none => rw [q] at w; exact w.elim
  | some s =>
    rw [q] at w
    obtain ⟨q1, q2⟩ := getS_some q
    obtain ⟨v, b, a', e1, r, m, p⟩ := e.out q1 q2
    refine we_var G h e1 ?_
    exact w v F H b a' (Stp.refl.sub fun x hx => p.mem_iff.mpr hx) m r (p.nodup_iff.mp nd) sub
theorem snd_dat {x : Expr} {v : V} {d : D} (p : ∀ σ H Q, Q v H → WE X x σ H Q) (r : ∀ F, Rp X.K F v d) : SndE X cn W x (fun ρ => .ok (.dat d) ρ) := by
  intro ρ F H as σ Q e nd sub w
  exact p _ _ _ (w v F H [] as Stp.refl e (.dat (r F)) nd sub)
theorem snd_int {i : Int} {j : Nat} : SndE X cn W (.Constant (.int i) j pos) (evE C (.con (.int i))) := snd_dat (fun _ _ _ q => we_of pe_int q) fun _ => .int i
theorem snd_bl {b : Bool} {j : Nat} : SndE X cn W (.Constant (.bool b) j pos) (evE C (.con (.bl b))) := snd_dat (fun _ _ _ q => we_of pe_bl q) fun _ => .bl b
theorem snd_non {j : Nat} : SndE X cn W (.Constant .none j pos) (evE C (.con .non)) := snd_dat (fun _ _ _ q => we_of pe_non q) fun _ => .non
theorem snd_str {x : List Nat} {j : Nat} (h : strOkL x = true) (l : x.length ≤ 16777216) : SndE X cn W (.Constant (.str (SX x)) j pos) (evE C (.con (.str x))) := snd_dat (fun _ _ _ q => we_of pe_str q) fun _ => .str x h l
theorem snd_bv_var (G : Gd X N sc cn W n) {i : Nat} {x : Str} (h : VarOk N sc i x) {r : Env → R Sl} : SndB X cn W (.Name x pos) (bvOf (.var i) r) := by
  intro ρ F H as σ Q e nd sub w
  simp only [bvOf] at w
  cases q : getS ρ i with
  | none => rw [q] at w; exact w.elim
  | some s =>
    rw [q] at w
    obtain ⟨q1, q2⟩ := getS_some q
    obtain ⟨v, b, e1, r, m⟩ := e.get q1 q2
    exact we_var G h e1 (w v F H [] as Stp.refl e (.pl e1) nd sub)
theorem snd_arg_mv (G : Gd X N sc cn W n) {i : Nat} {x : Str} (h : VarOk N sc i x) {r : Env → R Sl} : SndB X cn W (.Name x pos) (bvArg (.mv i) r) := by
  intro ρ F H as σ Q e nd sub w
  simp only [bvArg] at w
  cases q : getS ρ i with
  | none => rw [q] at w; exact w.elim
  | some s =>
    rw [q] at w
    obtain ⟨q1, q2⟩ := getS_some q
    obtain ⟨v, b, e1, r, m⟩ := e.get q1 q2
    exact we_var G h e1 (w v F H [] as Stp.refl e (.pl e1) nd sub)
theorem snd_tmp {x : Expr} {r : Env → R Sl} (h : SndE X cn W x r) : SndB X cn W x (fun ρ => (r ρ).bind fun s ρ => .ok (.tmp s) ρ) := by
  intro ρ F H as σ Q e nd sub w
  refine h ρ F H as σ Q e nd sub (wp_mono (wp_bind.mp w) (fun s ρ' w v F' H' a as' t e' r n sb => ?_) fun _ _ _ z => z)
  exact w v F' H' a as' t e' (.tmp r) n sb
end
end MP

/-! defs and calls where no guard stands below: as FnOk, with the guards kept -/
namespace MP
open PySem PySem.Spec PyProof.Rows L2
/-- what a def promises, called where no guard stands below -/
structure FnG (P : Program) (w : World) (K : PySem.W.Frag) (mg : Str → Option Value) (base : Heap) (CX : CXT) (k : Nat) (f : Addr) (fd : FuncData) (ps : List Str) (sp : Sp) : Prop where
  many : ∀ (l : List V) (G : Hp) (Q : VK) (E : XK), sp l G Q E → l.length = ps.length
  does : ∀ (B : Around) (out : List PySem.Env) (t : Shared) (G : Hp) (args : Args) (us : List Value) (l : List V) (Q : VK) (E : XK), Room k B → B.guards = some [] → Env0 P w K mg base B out t G → BindsTo t fd args (ps.zip us) → Vals l us → sp l G Q E →
    codeAny (model P w) B (.call (.ref f) args) (L2.CR CX out P w G t Q E) t
theorem FnG.mono {P : Program} {w : World} {K : PySem.W.Frag} {mg : Str → Option Value} {base : Heap} {CX : CXT} {j k : Nat} {f : Addr} {fd : FuncData} {ps : List Str} {sp : Sp} (F : FnG P w K mg base CX j f fd ps sp) (le : j ≤ k) : FnG P w K mg base CX k f fd ps sp :=
  ⟨F.many, fun B out t G args us l Q E room => F.does B out t G args us l Q E (room.mono le)⟩
section
variable {X : Cx} {CX : CXT} {k : Nat} {f : Addr} {fd : FuncData} {ps : List Str} {sp : Sp} {E : L2.St → XK} {x : Str} {p pos : Pos} {e : Expr} {es : List Expr} {t : TA}
theorem run_fnG {pins : List (Addr × Obj)} {σ : L2.St} {H : Hp} {s : Shared} {Q : VK} {us : List Value} {l : List V} (F : FnG X.prog X.w X.K X.mg X.base CX k f fd ps sp) (room : Room k X.A) (gu : X.A.guards = some []) (bi : Binds X.K fd ps []) (out : PassesAt CX X σ (E σ))
    (I : Inv X pins σ H s) (rl : Vals l us) (does : sp l H Q (E σ)) : wpAny (model X.prog X.w) X.A (call (.ref f) us) (EP X pins σ Q) X.xe s := by
  have as_many : us.length = ps.length := rl.length.symm.trans (F.many _ _ _ _ does)
  have bound := bi s us I.kIn (by rw [List.append_nil]; exact as_many)
  rw [List.append_nil] at bound
  refine wpAny_call (codeAny_mono (F.does X.A X.stack s H ⟨us, []⟩ us l Q (E σ) room gu I.env0 bound rl does) fun res s' got => ?_)
  match res, got with
  | .error e, got => exact out pins H s e s' I got
  | .ok (.ret u), got => exact I.after got
  | .ok .next, got => exact (show False from got).elim
  | .ok .brk, got => exact (show False from got).elim
  | .ok .cont, got => exact (show False from got).elim
theorem pe_callG (F : FnG X.prog X.w X.K X.mg X.base CX k f fd ps sp) (room : Room k X.A) (gu : X.A.guards = some []) (gx : Gl X x) (mx : X.mg x = some (.ref f)) (kp : PySem.W.keepIn X.K (.ref f) = true) (bi : Binds X.K fd ps []) (out : ∀ σ, PassesAt CX X σ (E σ))
    (args : PA X (e :: es) t) (nd : (x == ("__debug__" : Str)) = false) (st : starEach (e :: es) X.env = (false, eval e X.env) :: starEach es X.env) (ns : (backTo pos (starEach es X.env)).any (·.1) = false) :
    PE X (.Call (.Name x p) (e :: es) [] pos) (tCallS sp E t) := by
  constructor
  intro pins s σ H Q I todo
  refine wpAny_Call_Name_kw (ld_glob I gx mx ?_ nd)
  refine PySem.W.callWith_K (h₀ := X.base) I.ok.mod.kin kp (thn (args.run pos pins s σ H _ I todo) fun us s1 got => ?_) st ns
  obtain ⟨l, H1, I1, rl, q⟩ := got
  exact ⟨I1.kIn, run_fnG F room gu bi (out σ) I1 rl q⟩
theorem pe_callG0 (F : FnG X.prog X.w X.K X.mg X.base CX k f fd ps sp) (room : Room k X.A) (gu : X.A.guards = some []) (gx : Gl X x) (mx : X.mg x = some (.ref f)) (kp : PySem.W.keepIn X.K (.ref f) = true) (bi : Binds X.K fd ps []) (out : ∀ σ, PassesAt CX X σ (E σ))
    (nd : (x == ("__debug__" : Str)) = false) : PE X (.Call (.Name x p) [] [] pos) (tCallS sp E tNil) := by
  constructor
  intro pins s σ H Q I todo
  refine wpAny_Call_Name_kw (ld_glob I gx mx ?_ nd)
  exact PySem.W.callWith_K0 I.kIn kp (run_fnG (us := []) F room gu bi (out σ) I .nil todo)
end
/-- the rule of a def -/
theorem fn_ofG {CX : CXT} {P : Program} {w : World} {K : PySem.W.Frag} {mg : Str → Option Value} {base : Heap} {k : Nat} {f : Addr} {name qual : Str} {params : Arguments} {body : List Stmt} {scope : Scope} {N ps : List Str} {dvs : List V} {kws : List (Str × V)} {fd : FuncData} {sp : Sp}
    (D : L2.FunD K name qual params body scope dvs kws f fd) (S : FnScope N ps scope) (many : ∀ (l : List V) (G : Hp) (Q : VK) (E : XK), sp l G Q E → l.length = ps.length)
    (walk : ∀ (cdv : Value) (B : Around) (out : List PySem.Env) (t : Shared) (G : Hp) (l : List V) (Q : VK) (E : XK), Room k (B.deeper (envOfC qual scope t.heap.objs.size f cdv)) → B.guards = some [] → sp l G Q E →
      ∃ T, PSs (cxOf CX P w K mg base N qual scope f cdv B out t G E) body T ∧ T { nx := fun _ H' => Q .non H', rt := Q } (start N l) G) : FnG P w K mg base CX (k + 1) f fd ps sp := by
  obtain ⟨oc, od, dV, kV, doc, pm, an, cdv, ct, osl, rfl, at_f, code, _, _⟩ := D.ex
  refine ⟨many, fun B out t G args us l Q E room gu env bound rl does => ?_⟩
  have as_many := many _ _ _ _ does
  have kin : K.In t.heap := env.mod.kin.keeps fun b o h => (env.bs b o h).1
  have nolim : t.heap.NoLimit := env.mod.nolimit.keeps fun b o h => (env.bs b o h).1
  have kinds : ∀ y ∈ ps.zip us, scope.names.lookup y.1 = some .local ∨ (scope.names.lookup y.1 = some .cell ∧ ((cellsFrom (t.heap.objs.size + 1) scope.names []).lookup y.1).isSome = true) := by
    rintro ⟨n, v⟩ hy
    have hn := (List.of_mem_zip hy).1
    rcases S.par n hn with q | q
    · exact Or.inl q
    · exact Or.inr ⟨q, PySem.W.cellsFrom_some _ _ _ (.inl q)⟩
  refine codeAny_call_function room.depth (kin _ _ at_f) rfl S.co S.gen rfl (PySem.W.codeRec_of kin code) (bound _ _ _ _ ?_)
  refine wpAny_newFunctionEnv_cells S.kind kinds fun en he t1 made => ?_
  subst he
  refine ⟨nolim.keeps made.toInCall.keep, codeAny_func ?_⟩
  obtain ⟨T, walked, todo⟩ := walk cdv B out t G l Q E (room.deeper _) gu does
  have I0 : Inv (cxOf CX P w K mg base N qual scope f cdv B out t G E) [] (start N l) G t1 := inv_start S room.hd env as_many rl made
  refine wpAny_mono (walked.run [] t1 (start N l) G _ I0 todo) (fun fl t2 got => ?_) fun e t2 got => got
  have done : ∀ {σ' : L2.St} {H' : Hp} {v : V} {u : Value}, Inv (cxOf CX P w K mg base N qual scope f cdv B out t G E) [] σ' H' t2 → RelV v u → Q v H' → L2.CE out P w G t Q u t2 :=
    fun {σ' H' v u} J rv q => ⟨v, H', J.os, J.bare, J.base, J.hok, rv, q⟩
  match fl, got with
  | .ret u, ⟨v, σ', H', J, rv, q⟩ => exact done J rv q
  | .next, ⟨σ', H', J, q⟩ => exact done (v := V.non) (u := Value.none) J rfl q
  | .brk, ⟨_, _, _, q⟩ => exact (show False from q).elim
  | .cont, ⟨_, _, _, q⟩ => exact (show False from q).elim
/-- the caller's call of the law's def -/
theorem law_callG {P : Program} {w : World} {K : PySem.W.Frag} {mg mb : Str → Option Value} {CX : CXT} {k : Nat} {fa a : Addr} {fd : FuncData} {x : Str} {sp : Sp} {t : Shared} {vs : List Value} {ns : List Int}
    (kin : K.In t.heap) (nsG : t.heap.Ns mainGlobals mg) (nsB : t.heap.Ns builtinsNs mb) (boot : ∀ x : Str, x ≠ "__name__" → mb x = bootBuiltins x) (nolim : t.heap.NoLimit) (gens : t.gens = #[])
    (at_a : t.heap.get? a = some { cls := .type "list", data := .seq vs.toArray }) (nums : IntsAre vs ns) (size : ns.length ≤ sizeLine) (room : Room k callerA)
    (F : ∀ base : Heap, K.In base → base.Ns mainGlobals mg → FnG P w K mg base CX k fa fd [x] sp) (bi : ∀ (s : Shared) (u : Value), BindsTo s fd ⟨[u], []⟩ [(x, u)])
    (does : ∀ H : Hp, Only H → SqL K H a (ns.map V.int) → sp [.ref a] H (fun v _ => v = .bl true) fun _ _ _ => False)
    (noX : ∀ H e s', CX [] H t (fun _ _ _ => False) e s' → False) :
    codeAny (model P w) callerA (.call (.ref fa) ⟨[.ref a], []⟩) (fun r s' => r = .ok (.ret (.bool true)) ∧ OldK t.heap s'.heap ∧ s'.os = t.os ∧ AllBare s'.gens) t := by
  have read := vals_ints nums
  have many := nums.length
  have core : ∀ H : Hp, Only H → SqL K H a (ns.map V.int) → HOk P w H t.heap → (∀ b, H b ≠ none → b = a) → (H a ≠ none → K.lookup a = none) →
      codeAny (model P w) callerA (.call (.ref fa) ⟨[.ref a], []⟩) (fun r s' => r = .ok (.ret (.bool true)) ∧ OldK t.heap s'.heap ∧ s'.os = t.os ∧ AllBare s'.gens) t := by
    intro H only sq hok alone hidden
    have free : ∀ {b : Addr}, b ≠ a → H b = none := fun {b} ne => by
      cases q : H b with
      | none => rfl
      | some u => exact absurd (alone b (by rw [q]; exact Option.some_ne_none u)) ne
    have not_a : ∀ {b : Addr} {o : Obj} {es : Array DictEntry} {ep : Nat}, t.heap.get? b = some o → o.data = .dict es ep → b ≠ a := by
      rintro b o es ep e d rfl
      rw [at_a] at e
      injection e with e
      rw [← e] at d
      exact nomatch d
    have ns' : ∀ {b : Addr} {m : Str → Option Value}, t.heap.Ns b m → (hidT t.heap H).Ns b m := by
      rintro b m ⟨o, es, ep, e, d, r⟩
      exact ⟨o, es, ep, hidT_get e (free (not_a e d)), d, r⟩
    have kin' : K.In (hidT t.heap H) := by
      intro b o e
      refine hidT_get (kin b o e) ?_
      by_cases same : b = a
      · cases q : H b with
        | none => rfl
        | some u =>
          rw [same] at q e
          rw [hidden (by rw [q]; exact Option.some_ne_none u)] at e
          cases e
      · exact free same
    have mod : L2.Mod K mg (hidT t.heap H) := ⟨kin', ns' nsG, ⟨mb, ns' nsB, boot⟩, by obtain ⟨mc, m1, m2⟩ := nolim; exact ⟨mc, ns' m1, m2⟩⟩
    have env : Env0 P w K mg (hidT t.heap H) callerA [] t H := ⟨rfl, mod, fun b o e => of_hidT e, Nat.le_of_eq (hidT_size _ _), trivial, fun b hb => (List.not_mem_nil hb).elim, hok, .of_eq gens⟩
    refine codeAny_mono ((F _ kin' (ns' nsG)).does callerA [] t H ⟨[.ref a], []⟩ [.ref a] [.ref a] _ _ room rfl env (bi t (.ref a)) (.cons rfl .nil) (does H only sq)) fun r s' got => ?_
    match r, got with
    | .error e, got => exact (noX H e s' got).elim
    | .ok .next, got => exact (show False from got).elim
    | .ok .brk, got => exact (show False from got).elim
    | .ok .cont, got => exact (show False from got).elim
    | .ok (.ret u), ⟨v, H', os, bare, un, hok2, rel, q⟩ =>
      obtain rfl : v = V.bl true := q
      obtain rfl : u = Value.bool true := rel
      refine ⟨rfl, OldK.of_keep fun b o e => ?_, os, bare⟩
      rcases only b with z | ⟨ob, xs, z⟩
      · exact un.keep b o e z (fun m => (List.not_mem_nil m).elim) (by simp)
      · obtain ⟨f1, _⟩ := hok b _ z
        obtain ⟨f2, _⟩ := hok2 b _ (un.frzs b ob _ z)
        rw [e] at f1
        cases f1
        exact f2
  by_cases own : ∃ o, K.lookup a = some o
  · obtain ⟨o, own⟩ := own
    have e := kin a o own
    rw [at_a] at e
    cases e
    refine core (fun _ => none) (fun _ => Or.inl rfl) (Or.inr ⟨_, vs.toArray, _, own, rfl, rfl, rfl, ?_, ?_⟩) (fun b u z => nomatch (show (none : Option HO) = some u from z)) (fun b z => (z rfl).elim) fun z => (z rfl).elim
    · rw [List.size_toArray, many]; exact size
    · simpa using read
  · have own' : K.lookup a = none := by
      cases q : K.lookup a with
      | none => rfl
      | some o => exact absurd ⟨o, q⟩ own
    let G : Hp := fun b => if b = a then some (.frz { cls := .type "list", data := .seq vs.toArray } (.lst (ns.map V.int))) else none
    have Ga : G a = some (.frz { cls := .type "list", data := .seq vs.toArray } (.lst (ns.map V.int))) := if_pos rfl
    have Gb : ∀ b, b ≠ a → G b = none := fun b ne => if_neg ne
    refine core G (fun b => ?_) (Or.inl (Or.inr ⟨_, Ga⟩)) (fun b u z => ?_) (fun b z => ?_) fun _ => own'
    · by_cases same : b = a
      · rw [same]; exact Or.inr ⟨_, _, Ga⟩
      · exact Or.inl (Gb b same)
    · by_cases same : b = a
      · rw [same] at z ⊢
        rw [Ga] at z
        cases z
        exact ⟨at_a, by rw [List.length_map]; exact size, vs, _, read, at_a⟩
      · rw [Gb b same] at z
        cases z
    · by_cases same : b = a
      · exact same
      · exact (z (Gb b same)).elim
/-- the end of a law's proof, the guards kept -/
theorem walk_ofG {l : PySem.W.OpenLaw} {n k : Nat} {q : Program} {loose : List Str} {XP : (Str → Option Value) → Heap → Prop} {YP : World → Heap → Prop} {d : DefRec} {CX : CXT} {x : Str}
    (most : l.most = some n) (size : n ≤ sizeLine) (nodf : d.params.defaults = []) (room : Room k callerA)
    (F : ∀ (w : World) (mg : Str → Option Value) (fa : Addr) (h : Heap), YP w h → h.Ns mainGlobals mg → mg d.name = some (.ref fa) →
      ∃ (K : PySem.W.Frag) (fd : FuncData) (sp : Sp), K.In h ∧ (∀ (s : Shared) (u : Value), BindsTo s fd ⟨[u], []⟩ [(x, u)]) ∧
        (∀ (H : Hp) (a : Addr) (ns : List Int), ns.length ≤ n → Only H → SqL K H a (ns.map V.int) → sp [.ref a] H (fun v _ => v = .bl true) fun _ _ _ => False) ∧
        ∀ base : Heap, K.In base → base.Ns mainGlobals mg → FnG l.prog w K mg base CX k fa fd [x] sp)
    (noX : ∀ (H : Hp) (s : Shared) (e : Value) (s' : Shared), CX [] H s (fun _ _ _ => False) e s' → False) :
    PySem.W.WalkO q loose XP YP l.row.toRowW d [] (fun f vs => PySem.call f vs) := by
  refine Att.attach_call most nodf fun w t0 t mg mb fa o pm cd doc a vs ns G Y ho hd hcd hmg hobj nums many gens => ?_
  obtain ⟨K, fd, sp, kin, bi, does, fn⟩ := F w mg fa _ Y G.T.g hmg
  exact law_callG kin G.T.g G.T.b G.T.builtins G.T.nolimit gens hobj nums (Nat.le_trans many size) room fn bi (fun H only sq => does H a ns many only sq) fun H e s' => noX H t e s'
end MP

namespace MP
open PySem PySem.Spec PyProof.Rows L2
variable [HasW]
/-! tuples made anew: the object itself is known -/
abbrev tO (its : List Value) : Obj := { cls := .type "tuple", data := .seq its.toArray }
section
variable {X : Cx} {pins : List (Addr × Obj)} {σ : L2.St} {H : Hp} {s : Shared} {es : List Expr} {t : TA} {pos : Pos}
/-- what a new tuple is asked for -/
abbrev NewT (H : Hp) (Q : VK) (vs : List V) : Prop := ∀ p o, o.dict = none → H p = none → Q (.ref p) (upd H p (.frz o (.tup vs)))
theorem lay_t (I : Inv X pins σ H s) {vs : List V} {its : List Value} (rv : Vals vs its) (hl : vs.length ≤ sizeLine) (Q : VK) (q : NewT H Q vs) : EP X pins σ Q (.ref s.heap.objs.size) { s with heap := s.heap.push (tO its) } := by
  have hn := I.hok.fresh (Nat.le_refl s.heap.objs.size)
  refine ⟨.ref s.heap.objs.size, upd H s.heap.objs.size (.frz (tO its) (.tup vs)), I.laid (t' := s.toks) (fun _ _ e => Heap.get?_push_of_some _ e) (Nat.le_refl _) ?_, rfl, q _ _ rfl hn⟩
  exact ⟨Heap.get?_push_size _ rfl, hl, its, rv, ⟨_, Heap.get?_push_size _ rfl, rfl, _, rfl⟩⟩
def tTupX (t : TA) : TE := fun σ H Q => t σ H fun vs H1 => vs.length ≤ sizeLine ∧ NewT H1 Q vs
theorem pe_tupX {k} (h : PA X es t) : PE X (.Tuple es k pos) (tTupX t) := by
  constructor
  intro pins s σ H Q I hq
  refine wpAny_Tuple_spliced (thn (h.run pos pins s σ H _ I hq) fun us s1 ⟨vs, H1, I1, r, z, q⟩ => ⟨by rw [← r.length]; exact z, ?_⟩)
  exact lay_t I1 r z Q q
theorem call_tupX {xs : List V} {us : List Value} {Q : VK} (I : Inv X pins σ H s) (r : Vals xs us) {p : Addr} {ys : List V} (e : xs = [.ref p]) (hq : SqL X.K H p ys) (q : NewT H Q ys) : wpAny (model X.prog X.w) X.A (call (.type "tuple") us) (EP X pins σ Q) X.xe s := by
  subst e
  obtain ⟨u, rfl, rx⟩ := vals1 r
  cases rx
  obtain ⟨its, rv, pl, hz⟩ := I.list hq
  have hl := rv.length
  refine call_tuple_list pl.isList (fun h' k => ?_) (by rw [List.size_toArray]; omega)
  exact lay_t (s := { s with heap := h' }) (I.kept (t' := s.toks) k) rv hz Q q
def rCatX (K : PySem.W.Frag) : R2 := fun x y H Q => ∃ a b xs ys, x = .ref a ∧ y = .ref b ∧ SqT K H a xs ∧ SqT K H b ys ∧ xs.length + ys.length ≤ sizeLine ∧
  (xs = [] → Q (.ref b) H) ∧ (xs ≠ [] → ys = [] → Q (.ref a) H) ∧ (xs ≠ [] → ys ≠ [] → NewT H Q (xs ++ ys))
theorem op_catX : OpR X (binaryOp .Add) (rCatX X.K) := by
  intro pins s σ H x y v u Q I rx ry h
  obtain ⟨a, b, xs, ys, rfl, rfl, ha, hb, hz, q0, q1, q2⟩ := h
  by_cases hx : xs = []
  · exact op_catA pins s σ H _ _ v u Q I rx ry ⟨a, b, xs, ys, rfl, rfl, ha, hb, hz, q0, fun n => absurd hx n, fun n => absurd hx n⟩
  · cases rx; cases ry
    obtain ⟨its, r1, p1, _⟩ := I.tuple ha
    obtain ⟨its2, r2, p2, _⟩ := I.tuple hb
    refine HT.cat_tup p1 p2 (fun z => hx (r1.nil_iff.mp z)) (fun z => ⟨.ref a, H, I, rfl, q1 hx (r2.nil_iff.mp z)⟩) (fun z => ?_) (by rw [← r1.length, ← r2.length]; exact hz)
    exact lay_t I (r1.append r2) (by rw [List.length_append]; exact hz) Q (q2 hx fun w => z (r2.nil_iff.mpr w))
def rSlX (K : PySem.W.Frag) : V → Option Int → Option Int → Hp → VK → Prop := fun x lo hi H Q => ∃ a xs, x = .ref a ∧ SqT K H a xs ∧
  (HT.sIx xs.length 0 lo = 0 ∧ HT.sIx xs.length xs.length hi = xs.length → Q (.ref a) H) ∧ (¬ (HT.sIx xs.length 0 lo = 0 ∧ HT.sIx xs.length xs.length hi = xs.length) → NewT H Q (cutV xs lo hi))
theorem sl_tupX : SlR X (rSlX X.K) := by
  intro pins s σ H x v vl vu lo hi sl Q I rx hs pl pu h
  obtain ⟨a, xs, rfl, hx, q1, q2⟩ := h
  by_cases hw : HT.sIx xs.length 0 lo = 0 ∧ HT.sIx xs.length xs.length hi = xs.length
  · exact sl_tupA pins s σ H _ v vl vu lo hi sl Q I rx hs pl pu ⟨a, xs, rfl, hx, q1, fun n => absurd hw n⟩
  · cases rx
    obtain ⟨its, r, ht, hz⟩ := I.tuple hx
    have e : its.toArray.size = xs.length := by rw [List.size_toArray]; exact r.length.symm
    refine ⟨"tuple", _, PyProof.Rows.slot_tuple_getitem.lookup, ht.typeIs, ?_⟩
    refine HT.getItem_tuple_cut ht hs pl pu (by rw [e]; exact hw) ?_ (by rw [e]; exact hz)
    rw [e]
    exact lay_t I ((r.drop (HT.sIx xs.length 0 lo)).take (HT.sIx xs.length xs.length hi - HT.sIx xs.length 0 lo)) (Nat.le_trans (cutV_length xs lo hi) hz) Q (q2 hw)
theorem tuple_mul1 (l : Addr) (items : Array Value) (n : Nat) (dd : Option Addr) (sl : Array (Option Value)) (x : Int) (u : Tok) (c0 : (decide (x < -(2 ^ 63)) || decide (x ≥ 2 ^ 63)) = false) (c1 : (items.isEmpty || x == 1) = true) :
    Meets (Builtin.«tuple.__mul__» ⟨[.ref l, .int x u], []⟩) (fun _ R s => s.heap.get? l = some { cls := .type "tuple", dict := dd, data := .seq items n, slots := sl } ∧ R (.ok (.ret (.ref l))) s) :=
  .of_wp fun prog w A R s h => by
    obtain ⟨hp, g, d, tk, os⟩ := s
    obtain ⟨hl, h⟩ := h
    have f1 := AutoSeq1.idx_int
    wp_walk using wpAny_loadPart' hl
    repeat (first
      | (refine wpAny_ite_false (decide_eq_false (by rw [c0]; exact Bool.false_ne_true)) ?_; wp_walk using wpAny_loadPart' hl)
      | (refine wpAny_ite_true (decide_eq_true (by rw [c1])) ?_; wp_walk using wpAny_loadPart' hl))
    exact ⟨_, rfl, h⟩
/-- t * 1 is t -/
theorem op_rep1 {pins : List (Addr × Obj)} {s : Shared} {σ : L2.St} {H : Hp} {Q : VK} {l : Addr} {xs : List V} {v u : Value} (I : Inv X pins σ H s) (rx : RelV (.ref l) v) (ry : RelV (.int 1) u) (hT : SqT X.K H l xs) (q : Q (.ref l) H) : wpAny (model X.prog X.w) X.A (binaryOp .Mult v u) (EP X pins σ Q) X.xe s := by
  cases rx
  obtain ⟨t, rfl⟩ := ry
  obtain ⟨its, r, ⟨⟨cls, dd, data, sl⟩, ho, hc, n, hd⟩, _⟩ := I.tuple hT
  simp only at hc hd; subst hc hd
  refine wpAny_binaryOp_repeat_ref (T := "tuple") (U := "int") (by decide) ⟨_, ho, rfl⟩ (fun z => typeIs_int z 1 t) noFill_tuple_mul PySem.F.fills_int_mul PySem.F.slot_int_rmul repeat_tuple PySem.F.slot_int_index.lookup (call_meets PySem.F.slot_int_rmul (typeIs_int s 1 t) PySem.F.entry_int_rmul (PySem.F.args_int_rmul_2 _ _) (int_rmul_tuple 1 t l its.toArray n dd sl) ⟨ho, rfl, ⟨_, ho, rfl⟩, call_meets PySem.F.slot_tuple_mul ⟨_, ho, rfl⟩ PySem.F.entry_tuple_mul (PySem.F.args_tuple_mul_2 _ _) (tuple_mul1 l its.toArray n dd sl 1 t (by decide) (by simp)) ⟨ho, ?_⟩⟩)
  exact ⟨.ref l, H, I, rfl, q⟩
def rRepX (K : PySem.W.Frag) : R2 := fun x y H Q => ∃ l k xs, x = .ref l ∧ y = .int k ∧ SqT K H l xs ∧ xs ≠ [] ∧ 2 ≤ k ∧ k ≤ 1000 ∧ xs.length ≤ 1000 ∧ NewT H Q (List.replicate k.toNat xs).flatten
theorem op_repX : OpR X (binaryOp .Mult) (rRepX X.K) := by
  intro pins s σ H x y v u Q I rx ry h
  obtain ⟨l, k, xs, rfl, rfl, hT, ne, g1, g2, hz, q⟩ := h
  cases rx
  obtain ⟨t, rfl⟩ := ry
  obtain ⟨its, r, ⟨⟨cls, dd, data, sl⟩, ho, hc, n, hd⟩, _⟩ := I.tuple hT
  simp only at hc hd; subst hc hd
  have el : its.length = xs.length := r.length.symm
  have he : its.toArray.isEmpty = false := by
    cases its with
    | nil => exact absurd (List.eq_nil_of_length_eq_zero el.symm) ne
    | cons _ _ => rfl
  have sz : its.toArray.size = xs.length := by rw [List.size_toArray, el]
  have mx : ((its.toArray.size : Nat) : Int) * k ≤ 1000000 := by
    have := Int.mul_le_mul_of_nonneg_right (a := ((xs.length : Nat) : Int)) (b := 1000) (c := k) (by omega) (by omega)
    rw [sz]; omega
  have fl : ∀ {α : Type} (l : List α), l.length = xs.length → (List.replicate k.toNat l).flatten.length ≤ sizeLine := fun l e => by
    have := Nat.mul_le_mul (show k.toNat ≤ 1000 by omega) hz
    rw [PyProof.Rows.lm_len_rep_flat, e, sizeLine_eq]; omega
  have d0 : (decide (k < -(2 ^ 63)) || decide (k ≥ 2 ^ 63)) = false := by simp; omega
  have d1 : (its.toArray.isEmpty || k == 1) = false := by rw [he, Bool.false_or]; exact beq_eq_false_iff_ne.mpr (by omega)
  have d2 : (decide (k ≤ 0) || its.toArray.isEmpty) = false := by rw [he, Bool.or_false]; exact decide_eq_false (by omega)
  have d4 : Builtin.Tuple.tupleTooMany (((its.toArray.size : Nat) : Int) * k) = false := by unfold Builtin.Tuple.tupleTooMany; rw [sizeLine_eq]; exact decide_eq_false (by omega)
  refine wpAny_binaryOp_repeat_ref (T := "tuple") (U := "int") (by decide) ⟨_, ho, rfl⟩ (fun z => typeIs_int z k t) noFill_tuple_mul PySem.F.fills_int_mul PySem.F.slot_int_rmul repeat_tuple PySem.F.slot_int_index.lookup (call_meets PySem.F.slot_int_rmul (typeIs_int s k t) PySem.F.entry_int_rmul (PySem.F.args_int_rmul_2 _ _) (int_rmul_tuple k t l its.toArray n dd sl) ⟨ho, rfl, ⟨_, ho, rfl⟩, call_meets PySem.F.slot_tuple_mul ⟨_, ho, rfl⟩ PySem.F.entry_tuple_mul (PySem.F.args_tuple_mul_2 _ _) (tuple_mulW l its.toArray n dd sl k t d0 d1 d2 (by omega) d4 (by rw [size_rep, List.size_toArray]; exact fl its el)) ⟨ho, ?_⟩⟩)
  rw [size_rep]
  exact lay_t I (r.rep k.toNat) (fl xs rfl) Q q
end
end MP

namespace MP
open PySem PySem.Spec PyProof.Rows L2
variable [HasW]

/-! ### what is looked at, by its data -/
def Vw (K : PySem.W.Frag) (F H : Hp) (v : V) (d : D) : Prop := ∃ s c, RpS K F H v s c ∧ s.cap = d
section
variable {K : PySem.W.Frag} {F H : Hp} {v : V}
theorem Vw.of {d : D} (h : Rp K F v d) : Vw K F H v d := ⟨.dat d, [], .dat h, rfl⟩
theorem Vw.rp {d : D} (s : Same F H) (h : Vw K F H v d) : Rp K H v d := by
  obtain ⟨t, c, r, rfl⟩ := h; exact r.look s
theorem Vw.int {i : Int} (h : Vw K F H v (.int i)) : v = .int i := by
  obtain ⟨t, c, r, e⟩ := h
  cases r <;> simp only [Sl.cap, reduceCtorEq] at e
  subst e; rename_i r; cases r; rfl
theorem Vw.bl {i : Bool} (h : Vw K F H v (.bl i)) : v = .bl i := by
  obtain ⟨t, c, r, e⟩ := h
  cases r <;> simp only [Sl.cap, reduceCtorEq] at e
  subst e; rename_i r; cases r; rfl
theorem Vw.non (h : Vw K F H v .non) : v = .non := by
  obtain ⟨t, c, r, e⟩ := h
  cases r <;> simp only [Sl.cap, reduceCtorEq] at e
  subst e; rename_i r; cases r; rfl
theorem Vw.str {x : List Nat} (h : Vw K F H v (.str x)) : v = .str (SX x) ∧ strOkL x = true ∧ x.length ≤ 16777216 := by
  obtain ⟨t, c, r, e⟩ := h
  cases r <;> simp only [Sl.cap, reduceCtorEq] at e
  subst e; rename_i r; cases r; exact ⟨rfl, by assumption, by assumption⟩
theorem Vw.tupX {ds : List D} (h : Vw K F H v (.tup ds)) : ∃ a vs, v = .ref a ∧ SqX K F a vs ∧ Rps K F vs ds := by
  obtain ⟨t, c, r, e⟩ := h
  cases r <;> simp only [Sl.cap, reduceCtorEq] at e
  subst e; rename_i r; cases r; exact ⟨_, _, rfl, by assumption, by assumption⟩
theorem Vw.tup {ds : List D} (h : Vw K F H v (.tup ds)) : ∃ a vs, v = .ref a ∧ SqT K F a vs ∧ Rps K F vs ds := by
  obtain ⟨a, vs, e, h, r⟩ := h.tupX
  exact ⟨a, vs, e, sqX_t h, r⟩
theorem Vw.pr {ds : List D} (h : Vw K F H v (.pr ds)) : ∃ a vs, v = .ref a ∧ SqT K F a vs ∧ Rps K F vs ds := by
  obtain ⟨t, c, r, e⟩ := h
  cases r <;> simp only [Sl.cap, reduceCtorEq] at e
  subst e; rename_i r; cases r; exact ⟨_, _, rfl, by assumption, by assumption⟩
theorem Vw.lst {ds : List D} (s : Same F H) (h : Vw K F H v (.lst ds)) : ∃ a vs, v = .ref a ∧ Rd H a (.lst vs) ∧ Rps K F vs ds := by
  obtain ⟨t, c, r, e⟩ := h
  cases r with
  | dat r =>
    simp only [Sl.cap] at e
    subst e
    cases r; exact ⟨_, _, rfl, rd_mono s (by assumption), by assumption⟩
  | lst e1 f r =>
    simp only [Sl.cap] at e
    cases e
    exact ⟨_, _, rfl, .inl e1, r⟩
  | dic _ _ _ _ _ => simp only [Sl.cap, reduceCtorEq] at e
  | ins _ _ _ _ _ _ _ => simp only [Sl.cap, reduceCtorEq] at e
theorem Vw.dic {ks ds : List D} (s : Same F H) (h : Vw K F H v (.dic ks ds)) : ∃ a kvs, v = .ref a ∧ H a = some (.dK kvs) ∧ ks = kvs.map (fun p => kD p.1) ∧ (kvs.map (·.1)).Nodup ∧ (∀ k ∈ kvs.map (·.1), keyOk k = true) ∧ Rps K F (kvs.map (·.2)) ds := by
  obtain ⟨t, c, r, e⟩ := h
  cases r with
  | dat r =>
    simp only [Sl.cap] at e
    subst e
    cases r; exact ⟨_, _, rfl, s _ _ (by assumption), rfl, by assumption, by assumption, by assumption⟩
  | lst _ _ _ => simp only [Sl.cap, reduceCtorEq] at e
  | dic e1 f g k r =>
    simp only [Sl.cap] at e
    cases e
    exact ⟨_, _, rfl, e1, rfl, g, k, r⟩
  | ins _ _ _ _ _ _ _ => simp only [Sl.cap, reduceCtorEq] at e
theorem Vw.scr {xs : List Int} (s : Same F H) (h : Vw K F H v (.scr xs)) : ∃ a, v = .ref a ∧ SqL K H a (xs.map V.int) := by
  obtain ⟨t, c, r, e⟩ := h
  cases r with
  | dat r =>
    simp only [Sl.cap] at e
    subst e
    cases r; exact ⟨_, rfl, sqL_mono0 s (by assumption)⟩
  | lst _ _ _ => simp only [Sl.cap, reduceCtorEq] at e
  | dic _ _ _ _ _ => simp only [Sl.cap, reduceCtorEq] at e
  | ins _ _ _ _ _ _ _ => simp only [Sl.cap, reduceCtorEq] at e
theorem Rp.tupI {ds : List D} (h : Rp K F v (.tup ds)) : ∃ a vs, v = .ref a ∧ SqT K F a vs ∧ Rps K F vs ds := by cases h; exact ⟨_, _, rfl, sqX_t (by assumption), by assumption⟩
theorem Rp.lstI {ds : List D} (h : Rp K F v (.lst ds)) : ∃ a vs, v = .ref a ∧ Rd F a (.lst vs) ∧ Rps K F vs ds := by cases h; exact ⟨_, _, rfl, by assumption, by assumption⟩
end
theorem line_eq : (sizeLine : Nat) = 16777216 := sizeLine_eq
theorem fitsL_iff {n : Nat} : fitsL n = true ↔ n ≤ 16777216 := decide_eq_true_iff

theorem Rps.rep {K : PySem.W.Frag} {F : Hp} {vs : List V} {ds : List D} (r : Rps K F vs ds) : ∀ n : Nat, Rps K F (List.replicate n vs).flatten (List.replicate n ds).flatten
  | 0 => .nil
  | n + 1 => by
    rw [List.replicate_succ, List.replicate_succ, List.flatten_cons, List.flatten_cons]
    exact r.append (Rps.rep r n)
/-! ### operators -/
/-- what an operator makes of data -/
def rBin (K : PySem.W.Frag) (op : Operator) : R2 := fun x y H Q => ∃ F d e s, Same F H ∧ Vw K F H x d ∧ Vw K F H y e ∧ binD op d e = some s ∧ ∀ z F' H' a, New K F H z s F' H' a → Q z H'
section
variable {X : Cx} {pins : List (Addr × Obj)} {σ : L2.St} {H : Hp} {st : Shared}
theorem lstR (I : Inv X pins σ H st) {p : Addr} {xs : List V} (h : Rd H p (.lst xs)) :
    ∃ (its : List Value) (n : Nat), Vals xs its ∧ st.heap.get? p = some { cls := .type "list", data := .seq its.toArray n } ∧ xs.length ≤ sizeLine := by
  obtain ⟨z, its, n, r, e⟩ := h.ok I.hok
  exact ⟨its, n, r, e, z⟩
theorem strOk_app {x y : List Nat} (h1 : strOkL x = true) (h2 : strOkL y = true) : strOkL (x ++ y) = true := by
  unfold strOkL at *; rw [List.all_append, h1, h2]; rfl
theorem SX_app (x y : List Nat) : SX x ++ SX y = SX (x ++ y) := SX.S_cat x y
theorem SX_len (x : List Nat) : (SX x).length = x.length := SX.S_len x
theorem fold_cps (x : List Nat) : ∀ (m : Nat) (acc : Array Nat), (List.replicate m x.toArray).foldl (· ++ ·) acc = acc ++ (List.replicate m x).flatten.toArray
  | 0, acc => by simp
  | m + 1, acc => by rw [List.replicate_succ, List.foldl_cons, fold_cps x m, List.replicate_succ, List.flatten_cons]; simp
theorem strOk_rep {x : List Nat} (h : strOkL x = true) (m : Nat) : strOkL (List.replicate m x).flatten = true := by
  unfold strOkL at *
  rw [List.all_eq_true] at *
  intro c hc
  obtain ⟨l, hl, hc⟩ := List.mem_flatten.mp hc
  rw [(List.mem_replicate.mp hl).2] at hc
  exact h c hc
/-- a text some times -/
theorem op_repS {pins : List (Addr × Obj)} {s : Shared} {σ : L2.St} {H : Hp} {Q : VK} {x : List Nat} {k : Int} {v u : Value} (I : Inv X pins σ H s) (rx : RelV (.str (SX x)) v) (ry : RelV (.int k) u) (ne : x ≠ []) (h1 : 2 ≤ k) (h2 : k ≤ 10000) (h3 : x.length ≤ 100)
    (q : (List.replicate k.toNat x).flatten.length ≤ 16777216 → Q (.str (SX (List.replicate k.toNat x).flatten)) H) : wpAny (model X.prog X.w) X.A (binaryOp .Mult v u) (EP X pins σ Q) X.xe s := by
  obtain ⟨t, rfl⟩ := rx
  obtain ⟨t', rfl⟩ := ry
  have hl : (SX x).length = x.length := SX_len x
  have hp : 0 < x.length := List.length_pos_iff.mpr ne
  have len : (List.replicate k.toNat x).flatten.length = k.toNat * x.length := by simp [List.length_flatten]
  have le : k.toNat * x.length ≤ 10000 * 100 := Nat.mul_le_mul (by omega) h3
  have c1 : ¬ k < 1 := by omega
  have c2 : (k == 1 || (SX x).length == 0) = false := by
    rw [hl, Bool.or_eq_false_iff]
    exact ⟨by simp; omega, by simp; omega⟩
  refine PySem.P.mul_str (by simp; omega) (fun _ _ => ?_) (fun _ _ => ?_) ?_
  · rw [hl]
    have : (100 : Int) ≤ (2 ^ 63 - 1) / k := by
      rw [Int.le_ediv_iff_mul_le (by omega)]
      omega
    omega
  · show decide ((SX x).length * k.toNat > sizeLine) = false
    rw [hl, line_eq]
    exact decide_eq_false (by rw [Nat.mul_comm]; omega)
  · rw [if_neg c1, if_neg (by rw [c2]; exact Bool.false_ne_true)]
    rw [show (SX x).cps = x.toArray from rfl, fold_cps x, Array.empty_append]
    exact ⟨by show (SX _).length ≤ _; rw [SX_len, line_eq, len]; omega, ⟨.str _, H, I.tok _, ⟨_, rfl⟩, q (by omega)⟩⟩
theorem op_bin (op : Operator) : OpR X (binaryOp op) (rBin X.K op) := by
  intro pins s σ H x y v u Q I rx ry h
  obtain ⟨F, d, e, r, sb, vx, vy, hb, q⟩ := h
  have scal : ∀ {z : V} {k : D}, (∀ F, Rp X.K F z k) → New X.K F H z (.dat k) F H [] := fun h => New.dat sb (h F)
  unfold binD at hb
  split at hb
  · cases vx.int; cases vy.int; cases hb
    exact op_add pins s σ H _ _ v u Q I rx ry ⟨_, _, rfl, rfl, q _ _ _ _ (scal fun F => .int _)⟩
  · obtain ⟨rfl, o1, l1⟩ := vx.str
    obtain ⟨rfl, o2, l2⟩ := vy.str
    split at hb
    · rename_i hf
      cases hb
      rw [fitsL_iff] at hf
      refine op_add_str pins s σ H _ _ v u Q I rx ry ⟨_, _, rfl, rfl, by rw [SX_len, SX_len, line_eq]; exact hf, ?_⟩
      rw [SX_app]
      exact q _ _ _ _ (scal fun F => .str _ (strOk_app o1 o2) (by rw [List.length_append]; exact hf))
    · cases hb
  · obtain ⟨a, vs, rfl, h1, r1⟩ := vx.lst sb
    obtain ⟨b, ws, rfl, h2, r2⟩ := vy.lst sb
    split at hb
    · rename_i hf
      cases hb
      rw [fitsL_iff, ← r1.length, ← r2.length] at hf
      cases rx; cases ry
      obtain ⟨its, n, rv, e1, l1⟩ := lstR I h1
      obtain ⟨its2, n2, rv2, e2, l2⟩ := lstR I h2
      have hl := rv.length
      have hl2 := rv2.length
      refine PySem.P.add_list e1 e2 ?_ (by rw [List.size_toArray, List.size_toArray, line_eq]; omega)
      have ea : its.toArray ++ its2.toArray = (its ++ its2).toArray := by simp
      rw [ea]
      exact ⟨.ref _, _, I.lnew (t' := s.toks) (rv.append rv2) (by rw [List.length_append, line_eq]; omega), rfl, q _ _ _ _ (New.lst sb I.fresh (r1.append r2))⟩
    · cases hb
  · obtain ⟨a, vs, rfl, x1, r1⟩ := vx.tupX
    obtain ⟨b, ws, rfl, x2, r2⟩ := vy.tupX
    have h1 := sqX_t x1
    have h2 := sqX_t x2
    split at hb
    · rename_i hf
      cases hb
      rw [fitsL_iff, ← r1.length, ← r2.length] at hf
      refine op_catX pins s σ H _ _ v u Q I rx ry ⟨a, b, vs, ws, rfl, rfl, sqT_mono sb h1, sqT_mono sb h2, by rw [line_eq]; exact hf, fun z => ?_, fun z z2 => ?_, fun _ _ p o ho hp => ?_⟩
      · subst z; cases r1
        exact q _ _ _ _ (New.dat sb (.tup x2 r2))
      · subst z2; cases r2
        rw [List.append_nil] at q
        exact q _ _ _ _ (New.dat sb (.tup x1 r1))
      · exact q _ _ _ _ (New.tup ho sb hp (r1.append r2))
    · cases hb
  · cases vx.int; cases vy.int; cases hb
    exact op_sub pins s σ H _ _ v u Q I rx ry ⟨_, _, rfl, rfl, q _ _ _ _ (scal fun F => .int _)⟩
  · cases vx.int; cases vy.int
    split at hb
    · rename_i hf
      cases hb
      refine op_mul pins s σ H _ _ v u Q I rx ry ⟨_, _, rfl, rfl, ?_, q _ _ _ _ (scal fun F => .int _)⟩
      simp only [small, Bool.or_eq_true, Bool.and_eq_true, decide_eq_true_eq] at hf
      exact hf
    · cases hb
  · rename_i ds k
    obtain ⟨a, vs, rfl, h1x, r1⟩ := vx.tupX
    have h1 := sqX_t h1x
    cases vy.int
    split at hb
    · rename_i hf
      cases hb
      simp only [Bool.and_eq_true, Bool.not_eq_true', decide_eq_true_eq] at hf
      obtain ⟨g1, g2, g3, g4⟩ := hf
      refine op_repX pins s σ H _ _ v u Q I rx ry ⟨a, k, vs, rfl, rfl, sqT_mono sb h1, ?_, g2, g3, by rw [r1.length]; exact g4, fun p o ho hp => q _ _ _ _ (New.tup ho sb hp (r1.rep _))⟩
      rintro rfl
      cases r1
      simp at g1
    · split at hb
      · rename_i h1'
        simp only [decide_eq_true_eq] at h1'
        subst h1'
        cases hb
        exact op_rep1 I rx ry (sqT_mono sb h1) (q _ _ _ _ (New.dat sb (.tup h1x r1)))
      · cases hb
  · rename_i x k
    obtain ⟨rfl, o1, l1⟩ := vx.str
    cases vy.int
    split at hb
    · rename_i hf
      cases hb
      simp only [Bool.and_eq_true, Bool.not_eq_true', decide_eq_true_eq] at hf
      obtain ⟨g1, g2, g3, g4⟩ := hf
      exact op_repS I rx ry (by rintro rfl; simp at g1) g2 g3 g4 fun hl => q _ _ _ _ (scal fun F => .str _ (strOk_rep o1 _) hl)
    · cases hb
  · cases vx.int; cases vy.int
    split at hb
    · rename_i hf
      cases hb
      simp only [Bool.and_eq_true, decide_eq_true_eq] at hf
      exact op_fdiv pins s σ H _ _ v u Q I rx ry ⟨_, _, rfl, rfl, hf, q _ _ _ _ (scal fun F => .int _)⟩
    · split at hb
      · rename_i hf
        cases hb
        simp only [Bool.and_eq_true, decide_eq_true_eq] at hf
        exact op_fdivN pins s σ H _ _ v u Q I rx ry ⟨_, _, rfl, rfl, ⟨by omega, by omega⟩, q _ _ _ _ (scal fun F => .int _)⟩
      · cases hb
  · cases vx.int; cases vy.int
    split at hb
    · rename_i hf
      cases hb
      simp only [decide_eq_true_eq] at hf
      exact op_mod pins s σ H _ _ v u Q I rx ry ⟨_, _, rfl, rfl, hf, q _ _ _ _ (scal fun F => .int _)⟩
    · split at hb
      · rename_i hf
        cases hb
        simp only [decide_eq_true_eq] at hf
        exact op_modN pins s σ H _ _ v u Q I rx ry ⟨_, _, rfl, rfl, by omega, q _ _ _ _ (scal fun F => .int _)⟩
      · cases hb
  · cases vx.int; cases vy.int
    split at hb
    · rename_i hf
      cases hb
      simp only [Bool.and_eq_true, decide_eq_true_eq] at hf
      exact op_pow pins s σ H _ _ v u Q I rx ry ⟨_, _, rfl, rfl, ⟨hf.1.1, hf.1.2, hf.2⟩, q _ _ _ _ (scal fun F => .int _)⟩
    · cases hb
  · cases vx.int; cases vy.int
    split at hb
    · rename_i hf
      cases hb
      simp only [Bool.and_eq_true, decide_eq_true_eq] at hf
      exact op_shl pins s σ H _ _ v u Q I rx ry ⟨_, _, rfl, rfl, ⟨hf.1.1, hf.1.2, hf.2⟩, q _ _ _ _ (scal fun F => .int _)⟩
    · cases hb
  · cases hb

end

/-! ### equality, by the library's data -/
mutual
theorem py_eq : ∀ d e : D, d.plain = true → e.plain = true → PyData.eqv d.py e.py = D.eq d e
  | .non, e, _, h => by cases e <;> simp_all [D.py, D.plain, PyData.eqv, D.eq]
  | .bl b, e, _, h => by cases e <;> simp_all [D.py, D.plain, PyData.eqv, D.eq]
  | .int i, e, _, h => by cases e <;> simp_all [D.py, D.plain, PyData.eqv, D.eq]
  | .str x, e, _, h => by
    cases e <;> simp_all [D.py, D.plain, PyData.eqv, D.eq]
    exact SX.S_beq _ _
  | .tup xs, e, g, h => by
    cases e <;> simp_all [D.py, D.plain, PyData.eqv, D.eq]
    exact pys_eq xs _ g h
  | .lst xs, e, g, h => by
    cases e <;> simp_all [D.py, D.plain, PyData.eqv, D.eq]
    exact pys_eq xs _ g h
  | .dic _ _, _, g, _ => by simp [D.plain] at g
  | .obj _ _, _, g, _ => by simp [D.plain] at g
  | .exn _ _, _, g, _ => by simp [D.plain] at g
theorem pys_eq : ∀ ds es : List D, D.plains ds = true → D.plains es = true → PyData.eqvAll (D.pys ds) (D.pys es) = D.eqs ds es
  | [], [], _, _ => by simp [D.pys, PyData.eqvAll, D.eqs]
  | [], _ :: _, _, _ => by simp [D.pys, PyData.eqvAll, D.eqs]
  | _ :: _, [], _, _ => by simp [D.pys, PyData.eqvAll, D.eqs]
  | d :: ds, e :: es, g, h => by
    simp only [D.plains, Bool.and_eq_true] at g h
    simp only [D.pys, PyData.eqvAll, D.eqs]
    rw [py_eq d e g.1 h.1, pys_eq ds es g.2 h.2]
end
mutual
theorem py_dep : ∀ d : D, d.plain = true → d.py.depth = d.dep
  | .non, _ => by simp [D.py, PyData.depth, D.dep]
  | .bl b, _ => by simp [D.py, PyData.depth, D.dep]
  | .int i, _ => by simp [D.py, PyData.depth, D.dep]
  | .str x, _ => by simp [D.py, PyData.depth, D.dep]
  | .tup xs, g => by simp only [D.py, PyData.depth, D.dep]; rw [pys_dep xs (by simpa [D.plain] using g)]
  | .lst xs, g => by simp only [D.py, PyData.depth, D.dep]; rw [pys_dep xs (by simpa [D.plain] using g)]
  | .dic _ _, g => by simp [D.plain] at g
  | .obj _ _, g => by simp [D.plain] at g
  | .exn _ _, g => by simp [D.plain] at g
  | .scr _, g => by simp [D.plain] at g
  | .pr _, g => by simp [D.plain] at g
theorem pys_dep : ∀ ds : List D, D.plains ds = true → PyData.depthAll (D.pys ds) = D.deps ds
  | [], _ => by simp [D.pys, PyData.depthAll, D.deps]
  | d :: ds, g => by
    simp only [D.plains, Bool.and_eq_true] at g
    simp only [D.pys, PyData.depthAll, D.deps]
    rw [py_dep d g.1, pys_dep ds g.2]
end
theorem strOk_py {x : List Nat} (h : strOkL x = true) : PyData.strOk (SX x) = true := by
  unfold PyData.strOk
  unfold strOkL at h
  rw [← Array.all_toList]
  exact h
section
variable {K : PySem.W.Frag} {F H : Hp}
mutual
theorem Rp.dp : ∀ {v : V} {d : D}, Rp K H v d → d.plain = true → Dp K H v d.py
  | _, _, .non, _ => by simp only [D.py]; exact .non
  | _, _, .bl b, _ => by simp only [D.py]; exact .bl b
  | _, _, .int i, _ => by simp only [D.py]; exact .int i
  | _, _, .str x h l, _ => by simp only [D.py]; exact .str _
  | _, _, .tup s r, g => by simp only [D.py]; exact .tup (sqX_t s) (Rps.dp r (by simpa [D.plain] using g))
  | _, _, .pr _ _, g => by simp [D.plain] at g
  | _, _, .lst s r, g => by simp only [D.py]; exact .lst (.inl s) (Rps.dp r (by simpa [D.plain] using g))
  | _, _, .dic _ _ _ _, g => by simp [D.plain] at g
  | _, _, .scr _, g => by simp [D.plain] at g
  | _, _, .cdic _ _ _ _ _, g => by simp [D.plain] at g
  | _, _, .tdic _ _ _ _ _ _ _, g => by simp [D.plain] at g
  | _, _, .obj _ _ _ _, g => by simp [D.plain] at g
theorem Rps.dp : ∀ {vs : List V} {ds : List D}, Rps K H vs ds → D.plains ds = true → DpAll K H vs (D.pys ds)
  | _, _, .nil, _ => by simp only [D.pys]; exact .nil
  | _, _, .cons r t, g => by
    simp only [D.plains, Bool.and_eq_true] at g
    simp only [D.pys]
    exact .cons (Rp.dp r g.1) (Rps.dp t g.2)
end
mutual
theorem Rp.lay : ∀ {v : V} {d : D}, Rp K H v d → d.plain = true → d.py.canLay0 = true
  | _, _, .non, _ => by simp [D.py, PyData.canLay0]
  | _, _, .bl b, _ => by simp [D.py, PyData.canLay0]
  | _, _, .int i, _ => by simp [D.py, PyData.canLay0]
  | _, _, .str x h l, _ => by simp only [D.py, PyData.canLay0]; exact strOk_py h
  | _, _, .tup s r, g => by simp only [D.py, PyData.canLay0]; exact Rps.lay r (by simpa [D.plain] using g)
  | _, _, .pr _ _, g => by simp [D.plain] at g
  | _, _, .lst s r, g => by simp only [D.py, PyData.canLay0]; exact Rps.lay r (by simpa [D.plain] using g)
  | _, _, .dic _ _ _ _, g => by simp [D.plain] at g
  | _, _, .scr _, g => by simp [D.plain] at g
  | _, _, .cdic _ _ _ _ _, g => by simp [D.plain] at g
  | _, _, .tdic _ _ _ _ _ _ _, g => by simp [D.plain] at g
  | _, _, .obj _ _ _ _, g => by simp [D.plain] at g
theorem Rps.lay : ∀ {vs : List V} {ds : List D}, Rps K H vs ds → D.plains ds = true → PyData.canLayAll0 (D.pys ds) = true
  | _, _, .nil, _ => by simp [D.pys, PyData.canLayAll0]
  | _, _, .cons r t, g => by
    simp only [D.plains, Bool.and_eq_true] at g
    simp only [D.pys, PyData.canLayAll0, Bool.and_eq_true]
    exact ⟨Rp.lay r g.1, Rps.lay t g.2⟩
end
theorem Rp.reads {X : Cx} {pins : List (Addr × Obj)} {σ : L2.St} {st : Shared} {v : V} {u : Value} {d : D} (I : Inv X pins σ H st) (r : Rp X.K H v d) (ru : RelV v u) (p : d.plain = true) : ∃ as, Reads st.heap u d.py as := Dp.reads I d.py v u (r.dp p) ru
end
theorem eqOk_iff {d e : D} (h : eqOk d e = true) : d.plain = true ∧ e.plain = true ∧ min d.py.depth e.py.depth ≤ 60 := by
  simp only [eqOk, Bool.and_eq_true, Bool.or_eq_true, decide_eq_true_eq] at h
  refine ⟨h.1.1, h.1.2, ?_⟩
  rw [py_dep d h.1.1, py_dep e h.1.2]
  omega
theorem pys_any {ys : List D} {x : D} (h : D.plains ys = true) (hx : x.plain = true) : ((D.pys ys).any fun y => PyData.eqv y x.py) = inD x ys := by
  induction ys with
  | nil => rfl
  | cons y r ih =>
    simp only [D.plains, Bool.and_eq_true] at h
    have i2 := ih h.2
    simp only [inD] at i2
    simp only [D.pys, List.any_cons, inD]
    rw [py_eq y x h.1 hx, i2]
theorem any_one (c : Nat) (x : List Nat) : (x.any fun z => z == c) = decide (c ∈ x) := by
  rw [Bool.eq_iff_iff]
  simp only [List.any_eq_true, beq_iff_eq, decide_eq_true_eq]
  constructor
  · rintro ⟨y, hy, rfl⟩; exact hy
  · intro h; exact ⟨c, h, rfl⟩
/-! order, by the library's data -/
mutual
theorem py_alike : ∀ d e : D, d.plain = true → e.plain = true → PySem.W.alike d.py e.py = D.alike d e
  | .non, e, _, h => by cases e <;> simp_all [D.py, D.plain, PySem.W.alike, D.alike]
  | .bl b, e, _, h => by cases e <;> simp_all [D.py, D.plain, PySem.W.alike, D.alike]
  | .int i, e, _, h => by cases e <;> simp_all [D.py, D.plain, PySem.W.alike, D.alike]
  | .str x, e, _, h => by cases e <;> simp_all [D.py, D.plain, PySem.W.alike, D.alike]
  | .tup xs, e, g, h => by
    cases e <;> simp_all [D.py, D.plain, PySem.W.alike, D.alike]
    exact pys_alike xs _ g h
  | .lst xs, e, g, h => by
    cases e <;> simp_all [D.py, D.plain, PySem.W.alike, D.alike]
    exact pys_alike xs _ g h
  | .dic _ _, _, g, _ => by simp [D.plain] at g
  | .obj _ _, _, g, _ => by simp [D.plain] at g
  | .exn _ _, _, g, _ => by simp [D.plain] at g
  | .scr _, _, g, _ => by simp [D.plain] at g
  | .pr _, _, g, _ => by simp [D.plain] at g
theorem pys_alike : ∀ ds es : List D, D.plains ds = true → D.plains es = true → PySem.W.alikeAll (D.pys ds) (D.pys es) = D.alikes ds es
  | [], [], _, _ => by simp [D.pys, PySem.W.alikeAll, D.alikes]
  | [], _ :: _, _, _ => by simp [D.pys, PySem.W.alikeAll, D.alikes]
  | _ :: _, [], _, _ => by simp [D.pys, PySem.W.alikeAll, D.alikes]
  | d :: ds, e :: es, g, h => by
    simp only [D.plains, Bool.and_eq_true] at g h
    simp only [D.pys, PySem.W.alikeAll, D.alikes]
    rw [py_alike d e g.1 h.1, pys_alike ds es g.2 h.2]
end
theorem ltL_lt0 : ∀ x y : List Nat, ltL x y = decide (x < y)
  | [], [] => by simp [ltL]
  | [], _ :: _ => by simp [ltL]
  | _ :: _, [] => by simp [ltL]
  | a :: x, b :: y => by
    rw [ltL, ltL_lt0 x y]
    by_cases h : a = b
    · subst h; simp [List.cons_lt_cons_iff]
    · simp only [h, if_false, List.cons_lt_cons_iff]
      simp
mutual
theorem py_lt : ∀ d e : D, d.plain = true → e.plain = true → D.alike d e = true → PySem.W.dataLt d.py e.py = D.lt d e
  | .non, e, _, h, k => by
    cases e <;> simp_all [D.alike]
    simp [D.py, D.lt, PySem.W.dataLt, PySem.W.keyToks, PyProof.Rows.lexLt]
  | .bl b, e, _, h, k => by
    cases e <;> simp_all [D.alike]
    rename_i c
    simp only [D.py, D.lt, PySem.W.dataLt_bool]
    cases b <;> cases c <;> decide
  | .int i, e, _, h, k => by
    cases e <;> simp_all [D.alike]
    simp only [D.py, D.lt, PySem.W.dataLt_int]
  | .str x, e, _, h, k => by
    cases e <;> simp_all [D.alike]
    rename_i y
    simp only [D.py, D.lt, PySem.W.dataLt_str, ltL_lt0]
  | .tup xs, e, g, h, k => by
    cases e <;> simp_all [D.alike]
    simp only [D.py, D.lt, PySem.W.dataLt_tuple]
    exact pys_lt xs _ (by simpa [D.plain] using g) (by simpa [D.plain] using h) k
  | .lst xs, e, g, h, k => by
    cases e <;> simp_all [D.alike]
    simp only [D.py, D.lt, PySem.W.dataLt_list]
    exact pys_lt xs _ (by simpa [D.plain] using g) (by simpa [D.plain] using h) k
  | .dic _ _, _, g, _, _ => by simp [D.plain] at g
  | .obj _ _, _, g, _, _ => by simp [D.plain] at g
  | .exn _ _, _, g, _, _ => by simp [D.plain] at g
  | .scr _, _, g, _, _ => by simp [D.plain] at g
  | .pr _, _, g, _, _ => by simp [D.plain] at g
theorem pys_lt : ∀ ds es : List D, D.plains ds = true → D.plains es = true → D.alikes ds es = true → PyProof.Rows.lexLt PyProof.Rows.itemOrd (PySem.W.keyToksAll (D.pys ds)) (PySem.W.keyToksAll (D.pys es)) = D.lts ds es
  | [], [], _, _, _ => PyProof.Rows.lex_irrefl _
  | [], e :: es, _, _, _ => by
    simp only [D.pys, D.lts, PySem.W.keyToksAll]
    rw [PyProof.Rows.lex_diff (O := PyProof.Rows.itemOrd) (by simp)]
    rfl
  | d :: ds, [], _, _, _ => by
    simp only [D.pys, D.lts, PySem.W.keyToksAll]
    rw [PyProof.Rows.lex_diff (O := PyProof.Rows.itemOrd) (by simp)]
    rfl
  | d :: ds, e :: es, g, h, k => by
    simp only [D.plains, D.alikes, Bool.and_eq_true] at g h k
    simp only [D.pys, D.lts]
    rw [PySem.W.dataLt_cons (by rw [py_alike d e g.1 h.1]; exact k.1), py_eq d e g.1 h.1, pys_lt ds es g.2 h.2 k.2, py_lt d e g.1 h.1 k.1]
end
theorem py_none {d : D} (h : d.plain = true) (n : isNon d = false) : d.py ≠ .none := by cases d <;> simp_all [D.py, D.plain, isNon]
mutual
theorem alike_sym : ∀ d e : D, D.alike d e = D.alike e d
  | .tup xs, e => by
    cases e <;> simp only [D.alike]
    exact alikes_sym xs _
  | .lst xs, e => by
    cases e <;> simp only [D.alike]
    exact alikes_sym xs _
  | .non, e => by cases e <;> simp only [D.alike]
  | .bl _, e => by cases e <;> simp only [D.alike]
  | .int _, e => by cases e <;> simp only [D.alike]
  | .str _, e => by cases e <;> simp only [D.alike]
  | .dic _ _, e => by cases e <;> simp only [D.alike]
  | .obj _ _, e => by cases e <;> simp only [D.alike]
  | .exn _ _, e => by cases e <;> simp only [D.alike]
  | .scr _, e => by cases e <;> simp only [D.alike]
  | .pr _, e => by cases e <;> simp only [D.alike]
  | .cdic _ _, e => by cases e <;> simp only [D.alike]
  | .tdic _ _, e => by cases e <;> simp only [D.alike]
theorem alikes_sym : ∀ ds es : List D, D.alikes ds es = D.alikes es ds
  | [], [] => rfl
  | [], _ :: _ => by simp only [D.alikes]
  | _ :: _, [] => by simp only [D.alikes]
  | d :: ds, e :: es => by simp only [D.alikes, alike_sym d e, alikes_sym ds es]
end
section
variable {X : Cx}
theorem op_cmpD2 (hu : X.A.units + 64 < cLine) (op : CmpOp) {pins : List (Addr × Obj)} {s : Shared} {σ : L2.St} {H F : Hp} {x y : V} {v u : Value} {Q : VK} {d e : D} {b : Bool} (I : Inv X pins σ H s) (rx : RelV x v) (ry : RelV y u) (sb : Same F H) (vx : Vw X.K F H x d) (vy : Vw X.K F H y e)
    (hb : cmpD2 op d e = some b) (q : Q (.bl b) H) : wpAny (model X.prog X.w) X.A (compareOp op v u) (EP X pins σ Q) X.xe s := by
  have key : ordOk d e = true → ∃ as bs, Reads s.heap v d.py as ∧ Reads s.heap u e.py bs ∧ PySem.W.alike d.py e.py = true ∧ d.py ≠ .none ∧ X.A.units + min d.py.depth e.py.depth < cLine ∧ PySem.W.dataLt d.py e.py = D.lt d e ∧ PySem.W.dataLt e.py d.py = D.lt e d := by
    intro h
    simp only [ordOk, Bool.and_eq_true, Bool.not_eq_true'] at h
    obtain ⟨h1, h2, h3⟩ := h
    obtain ⟨p1, p2, dm⟩ := eqOk_iff h1
    obtain ⟨as, a1⟩ := (vx.rp sb).reads I rx p1
    obtain ⟨bs, a2⟩ := (vy.rp sb).reads I ry p2
    exact ⟨as, bs, a1, a2, by rw [py_alike _ _ p1 p2]; exact h2, py_none p1 h3, by omega, py_lt _ _ p1 p2 h2, py_lt _ _ p2 p1 (by rw [alike_sym]; exact h2)⟩
  cases op with
  | Lt =>
    simp only [cmpD2] at hb
    split at hb
    · rename_i h; cases hb
      obtain ⟨as, bs, a1, a2, al, nn, hd, l1, l2⟩ := key h
      exact PySem.W.lt_data a1 a2 al nn hd ⟨.bl _, H, I, by rw [l1]; rfl, q⟩
    · cases hb
  | LtE =>
    simp only [cmpD2] at hb
    split at hb
    · rename_i h; cases hb
      obtain ⟨as, bs, a1, a2, al, nn, hd, l1, l2⟩ := key h
      exact PySem.W.le_data a1 a2 al nn hd ⟨.bl _, H, I, by rw [l2]; rfl, q⟩
    · cases hb
  | Gt =>
    simp only [cmpD2] at hb
    split at hb
    · rename_i h; cases hb
      obtain ⟨as, bs, a1, a2, al, nn, hd, l1, l2⟩ := key h
      exact PySem.W.gt_data a1 a2 al nn hd ⟨.bl _, H, I, by rw [l2]; rfl, q⟩
    · cases hb
  | GtE =>
    simp only [cmpD2] at hb
    split at hb
    · rename_i h; cases hb
      obtain ⟨as, bs, a1, a2, al, nn, hd, l1, l2⟩ := key h
      exact PySem.W.ge_data a1 a2 al nn hd ⟨.bl _, H, I, by rw [l1]; rfl, q⟩
    · cases hb
  | _ => simp only [cmpD2, reduceCtorEq] at hb
theorem dp_ints {K : PySem.W.Frag} {H : Hp} : ∀ xs : List Int, DpAll K H (xs.map V.int) (xs.map PyData.int)
  | [] => .nil
  | _ :: xs => .cons (.int _) (dp_ints xs)
theorem lay_ints : ∀ xs : List Int, PyData.canLayAll0 (xs.map PyData.int) = true
  | [] => by simp [PyData.canLayAll0]
  | _ :: xs => by simp [PyData.canLayAll0, PyData.canLay0, lay_ints xs]
end
end MP

/-! dicts of the module's own top, with texts as keys -/
namespace MP
open PySem PySem.Spec PyProof.Rows L2
variable [HasW]
theorem SX_beq (x y : List Nat) : (SX x == SX y) = (x == y) := by
  by_cases h : x = y
  · subst h; simp
  · have : SX x ≠ SX y := fun e => h (by
      have := congrArg (fun s : PySem.Str => s.cps.toList) e
      simpa [SX] using this)
    rw [beq_false_of_ne h, beq_false_of_ne this]
theorem ces_len {es : List DictEntry} {ks : List (List Nat)} {vs : List V} (h : CEs es ks vs) : es.length = ks.length := by
  induction h with
  | nil => rfl
  | cons _ _ _ _ _ ih => simp [ih]
theorem ces_find {K : PySem.W.Frag} {F : Hp} (x : List Nat) {es : List DictEntry} {ks : List (List Nat)} {vs : List V} (h : CEs es ks vs) : ∀ {ds : List D}, Rps K F vs ds →
    (match dGet (ks.map .str) ds (.str x) with
    | some d => ∃ e v, es.find? (fun e => e.key.isStr (SX x)) = some e ∧ RelV v e.val ∧ Rp K F v d
    | none => es.find? (fun e => e.key.isStr (SX x)) = none ∧ (es.any fun e => e.refKey) = false) := by
  induction h with
  | nil => intro ds r; cases r; exact ⟨rfl, rfl⟩
  | @cons e es y ks v vs t hk _ _ hv hr ih =>
    intro ds r
    cases r with
    | cons r1 r2 =>
      rename_i d ds
      have i2 := ih r2
      have e1 : e.key.isStr (SX x) = (y == x) := by rw [hk]; exact SX_beq y x
      by_cases hyx : y = x
      · have e2 : (y == x) = true := by simpa using hyx
        have e4 : dGet ((y :: ks).map D.str) (d :: ds) (.str x) = some d := by simp only [List.map_cons, dGet, D.eq, e2, if_true]
        rw [e4]
        exact ⟨e, v, by rw [List.find?_cons, e1, e2], hv, r1⟩
      · have e2 : (y == x) = false := beq_false_of_ne hyx
        have e4 : dGet ((y :: ks).map D.str) (d :: ds) (.str x) = dGet (ks.map D.str) ds (.str x) := by simp only [List.map_cons, dGet, D.eq, e2, Bool.false_eq_true, if_false]
        rw [e4]
        simp only [List.find?_cons, e1, e2, List.any_cons]
        have e3 : e.refKey = false := by unfold DictEntry.refKey; rw [hk]
        rw [e3]
        exact i2
theorem nsIn_ces {K : PySem.W.Frag} {F : Hp} {w : World} {a : Addr} {es : Array DictEntry} {n : Nat} (k : KDict K w a es n) (x : List Nat) {ks : List (List Nat)} {vs : List V} {ds : List D} (h : CEs es.toList ks vs) (r : Rps K F vs ds) :
    (match dGet (ks.map .str) ds (.str x) with
    | some d => ∃ u v, PySem.W.nsIn K a (SX x) = some (some u) ∧ RelV v u ∧ Rp K F v d
    | none => PySem.W.nsIn K a (SX x) = some none) := by
  have := ces_find x h r
  cases q : dGet (ks.map D.str) ds (.str x) with
  | none =>
    rw [q] at this
    obtain ⟨h1, h2⟩ := this
    simp only [PySem.W.nsIn, k.at_, h1, h2, Bool.false_eq_true, if_false]
  | some d =>
    rw [q] at this
    obtain ⟨e, v, h1, h2, h3⟩ := this
    exact ⟨e.val, v, by simp only [PySem.W.nsIn, k.at_, h1], h2, h3⟩
theorem isKey_k {K : PySem.W.Frag} {F H : Hp} {y : V} {e : D} (v : Vw K F H y e) (h : isKey e = true) : ∃ k : Key, y = kV k ∧ e = kD k ∧ keyOk k = true := by
  cases e with
  | int i => exact ⟨.inl i, v.int, rfl, rfl⟩
  | str x => obtain ⟨rfl, o, l⟩ := v.str; exact ⟨.inr (SX x), rfl, rfl, by show (strOkL x && decide (x.length ≤ 16777216)) = true; rw [o, decide_eq_true l]; rfl⟩
  | _ => simp [isKey] at h
/-- as it stands -/
theorem Vw.cdic {K : PySem.W.Frag} {F H : Hp} {v : V} {ks ds : List D} (h : Vw K F H v (.cdic ks ds)) : ∃ a es n xs vs, v = .ref a ∧ ks = xs.map .str ∧ KDict K HasW.w a es n ∧ CEs es.toList xs vs ∧ Rps K F vs ds ∧ xs.Nodup ∧ xs.length ≤ 1000 := by
  obtain ⟨s, c, r, e⟩ := h
  cases r with
  | dat r => simp only [Sl.cap] at e; subst e; cases r; exact ⟨_, _, _, _, _, rfl, rfl, by assumption, by assumption, by assumption, by assumption, by assumption⟩
  | lst => simp [Sl.cap] at e
  | dic => simp [Sl.cap] at e
  | ins => simp [Sl.cap] at e
theorem Rps.ofStrs0 {K : PySem.W.Frag} {F : Hp} : ∀ {l : List (List Nat)}, (∀ x ∈ l, strOkL x = true ∧ x.length ≤ 16777216) → Rps K F (l.map fun x => V.str (SX x)) (l.map D.str)
  | [], _ => .nil
  | x :: l, h => .cons (.str x (h x List.mem_cons_self).1 (h x List.mem_cons_self).2) (Rps.ofStrs0 fun y hy => h y (List.mem_cons_of_mem _ hy))
section
variable {X : Cx} {pins : List (Addr × Obj)} {σ : L2.St} {H : Hp} {s : Shared}
theorem op_in_cd (hw : X.w = HasW.w) (I : Inv X pins σ H s) {F : Hp} {x : List Nat} {y : V} {ks ds : List D} {v u : Value} {Q : VK} (vy : Vw X.K F H y (.cdic ks ds)) (rx : RelV (.str (SX x)) v) (ry : RelV y u) (q : Q (.bl (dGet ks ds (.str x)).isSome) H) :
    wpAny (model X.prog X.w) X.A (compareOp .In v u) (EP X pins σ Q) X.xe s := by
  obtain ⟨a, es, n, xs, vs, rfl, rfl, k, c, r, _, _⟩ := vy.cdic
  rw [← hw] at k
  refine op_in_kd k pins s σ H _ _ v u Q I rx ry ?_
  have := nsIn_ces k x c r
  cases e : dGet (xs.map D.str) ds (.str x) with
  | none => rw [e] at this q; exact ⟨_, none, rfl, rfl, this, q⟩
  | some d => rw [e] at this q; obtain ⟨u0, v0, h1, h2, h3⟩ := this; exact ⟨_, some u0, rfl, rfl, h1, q⟩
theorem op_notIn_cd (hw : X.w = HasW.w) (I : Inv X pins σ H s) {F : Hp} {x : List Nat} {y : V} {ks ds : List D} {v u : Value} {Q : VK} (vy : Vw X.K F H y (.cdic ks ds)) (rx : RelV (.str (SX x)) v) (ry : RelV y u) (q : Q (.bl (!(dGet ks ds (.str x)).isSome)) H) :
    wpAny (model X.prog X.w) X.A (compareOp .NotIn v u) (EP X pins σ Q) X.xe s := by
  obtain ⟨a, es, n, xs, vs, rfl, rfl, k, c, r, _, _⟩ := vy.cdic
  rw [← hw] at k
  refine op_notIn_kd k pins s σ H _ _ v u Q I rx ry ?_
  have := nsIn_ces k x c r
  cases e : dGet (xs.map D.str) ds (.str x) with
  | none => rw [e] at this q; exact ⟨_, none, rfl, rfl, this, q⟩
  | some d => rw [e] at this q; obtain ⟨u0, v0, h1, h2, h3⟩ := this; exact ⟨_, some u0, rfl, rfl, h1, q⟩
/-- the keys as a list -/
theorem ces_pairs {P : Program} {w : World} : ∀ {es : List DictEntry} {ks : List (List Nat)} {vs : List V}, CEs es ks vs → ∃ kvs : List (PySem.Str × Value), kvs.map (·.1) = ks.map SX ∧ Pairs (strKind P w) es kvs
  | _, _, _, .nil => ⟨[], rfl, .nil⟩
  | _, _, _, .cons (e := e) (x := x) (t := t) hk _ _ hv hr => by
    obtain ⟨kvs, h1, h2⟩ := ces_pairs (P := P) (w := w) hr
    exact ⟨(SX x, e.val) :: kvs, by simp [h1], .cons (by show (strKind P w).is (SX x) e.key = true; rw [hk]; exact strKind_is P w _ t) rfl h2⟩
theorem ces_ok : ∀ {es : List DictEntry} {ks : List (List Nat)} {vs : List V}, CEs es ks vs → ∀ x ∈ ks, strOkL x = true ∧ x.length ≤ 16777216
  | _, _, _, .nil, x, hx => by cases hx
  | _, _, _, .cons _ o l _ hr, x, hx => by
    rcases List.mem_cons.mp hx with rfl | hx
    · exact ⟨o, l⟩
    · exact ces_ok hr x hx
theorem nodup_SX : ∀ {ks : List (List Nat)}, ks.Nodup → (ks.map SX).Nodup
  | [], _ => .nil
  | x :: ks, h => by
    rw [List.nodup_cons] at h
    rw [List.map_cons, List.nodup_cons]
    refine ⟨fun hm => h.1 ?_, nodup_SX h.2⟩
    obtain ⟨y, hy, e⟩ := List.mem_map.mp hm
    have := congrArg (fun s : PySem.Str => s.cps.toList) e
    have e2 : y = x := by simpa [SX] using this
    rw [← e2]; exact hy
theorem list_cd (hc : X.calm = true) (hw : X.w = HasW.w) (I : Inv X pins σ H s) {F : Hp} {y : V} {ks ds : List D} {u : Value} {Q : VK} (sb : Same F H) (vy : Vw X.K F H y (.cdic ks ds)) (ry : RelV y u) (q : ∀ (p : Addr) (zs : List V), H p = none → Rps X.K F zs ks → Q (.ref p) (upd H p (.lst zs))) :
    wpAny (model X.prog X.w) X.A (call (.type "list") [u]) (EP X pins σ Q) X.xe s := by
  obtain ⟨a, es, n, xs, vs, rfl, rfl, k, c, r, nd, l⟩ := vy.cdic
  rw [← hw] at k
  cases ry
  obtain ⟨kvs, h1, h2⟩ := ces_pairs (P := X.prog) (w := X.w) c
  have hl : kvs.length = xs.length := by have := congrArg List.length h1; simpa using this
  have m := PySem.W.mapOf_K (prog := X.prog) I.kIn k.at_ k.lit
  have hat : Heap.DictAt (strKind X.prog X.w) s.heap a kvs n := by
    refine ⟨_, es, I.kIn _ _ k.at_, ⟨rfl, rfl, rfl⟩, rfl, fun e he => ?_, h2, by rw [h1]; exact nodup_SX nd⟩
    obtain ⟨x, t, e1, e2⟩ := PySem.W.KeysLit.all k.lit e (Array.mem_toList_iff.mpr he)
    exact ⟨x, by rw [e1]; exact strKind_is X.prog X.w x t, e2⟩
  refine PySem.W.kdl_call (PySem.W.kdl_dict k.low) (I.ok.hd hc) hat (by rw [hl, sizeLine_eq]; omega) fun h' tk acc c' hk hD hacc => ?_
  have hv : Vals (xs.map fun x => V.str (SX x)) acc.toList := by
    have key : ∀ (ks : List (List Nat)) (kvs : List (PySem.Str × Value)) (us : List Value), kvs.map (·.1) = ks.map SX → us.length = kvs.length → (∀ (j : Nat) (v : Value), us[j]? = some v → ∃ k x, kvs[j]? = some (k, x) ∧ (strKind X.prog X.w).is k v = true) → Vals (ks.map fun x => V.str (SX x)) us := by
      intro ks
      induction ks with
      | nil =>
        intro kvs us e1 e2 e3
        cases kvs with
        | nil => cases us with
          | nil => exact .nil
          | cons _ _ => simp at e2
        | cons _ _ => simp at e1
      | cons x ks ih =>
        intro kvs us e1 e2 e3
        cases kvs with
        | nil => simp at e1
        | cons kv kvs =>
          cases us with
          | nil => simp at e2
          | cons u us =>
            simp only [List.map_cons, List.cons.injEq] at e1
            obtain ⟨k, z, h1, h2⟩ := e3 0 u rfl
            simp only [List.getElem?_cons_zero, Option.some.injEq] at h1
            refine .cons ?_ (ih kvs us e1.2 (by simpa using e2) fun j v hj => e3 (j + 1) v (by simpa using hj))
            have ek : k = SX x := by rw [← e1.1, h1]
            subst ek
            have h3 : Value.isStrOf (SX x) u = true := h2
            cases u <;> simp [Value.isStrOf] at h3
            rename_i y t
            exact ⟨t, by rw [h3]⟩
    exact key xs kvs acc.toList h1 (by rw [Array.length_toList]; exact hacc.1) fun j v e => hacc.2 j v (by rw [← Array.getElem?_toList]; exact e)
  refine ⟨.ref s.heap.objs.size, upd H s.heap.objs.size (.lst (xs.map fun x => V.str (SX x))), Inv.laid I hk (Nat.le_refl _) ?_, rfl, q _ _ (HOk.fresh I.hok (Nat.le_refl _)) (Rps.ofStrs0 (ces_ok c))⟩
  exact ⟨by rw [List.length_map, sizeLine_eq]; omega, acc.toList, c', hv, by rw [Array.toArray_toList]; exact hD⟩
end
end MP

/-! dicts whose keys are tuples, made at once and never changed -/
namespace MP
open PySem PySem.Spec PyProof.Rows L2
variable [HasW]
mutual
theorem nk_eq : ∀ (d e : D), d.nkOk = true → e.nkOk = true → D.eq d e = NestedKey.beq d.nk e.nk
  | .non, e, _, h => by cases e <;> first | rfl | (simp [D.nkOk] at h)
  | .bl a, e, _, h => by cases e <;> first | (cases a <;> rename_i b <;> cases b <;> rfl) | (cases a <;> simp [D.eq, D.nk, NestedKey.beq]; done) | rfl | (simp [D.nkOk] at h; done) | (rw [Bool.eq_iff_iff]; simp [D.eq, D.nk, NestedKey.beq]; done)
  | .int i, e, _, h => by cases e <;> first | rfl | (simp [D.nkOk] at h; done) | (rw [Bool.eq_iff_iff]; simp [D.eq, D.nk, NestedKey.beq]; done)
  | .str x, e, _, h => by
    cases e with
    | str y =>
      show (x == y) = decide (SX x = SX y)
      rw [← SX_beq]
      by_cases h : SX x = SX y
      · simp [h]
      · rw [beq_false_of_ne h, decide_eq_false h]
    | _ => first | rfl | (simp [D.nkOk] at h; done)
  | .tup xs, e, hd, h => by
    cases e with
    | tup ys =>
      show D.eqs xs ys = NestedKey.beqAll (D.nks xs) (D.nks ys)
      exact nks_eq xs ys (by simpa [D.nkOk] using hd) (by simpa [D.nkOk] using h)
    | _ => first | rfl | (simp [D.nkOk] at h; done)
  | .lst _, _, h, _ => by simp [D.nkOk] at h
  | .dic _ _, _, h, _ => by simp [D.nkOk] at h
  | .obj _ _, _, h, _ => by simp [D.nkOk] at h
  | .exn _ _, _, h, _ => by simp [D.nkOk] at h
  | .scr _, _, h, _ => by simp [D.nkOk] at h
  | .pr _, _, h, _ => by simp [D.nkOk] at h
  | .cdic _ _, _, h, _ => by simp [D.nkOk] at h
  | .tdic _ _, _, h, _ => by simp [D.nkOk] at h
theorem nks_eq : ∀ (xs ys : List D), D.nkOks xs = true → D.nkOks ys = true → D.eqs xs ys = NestedKey.beqAll (D.nks xs) (D.nks ys)
  | [], [], _, _ => rfl
  | [], _ :: _, _, _ => rfl
  | _ :: _, [], _, _ => rfl
  | x :: xs, y :: ys, h1, h2 => by
    simp only [D.nkOks, Bool.and_eq_true] at h1 h2
    show (D.eq x y && D.eqs xs ys) = (NestedKey.beq x.nk y.nk && NestedKey.beqAll (D.nks xs) (D.nks ys))
    rw [nk_eq x y h1.1 h2.1, nks_eq xs ys h1.2 h2.2]
end
theorem nk_dec {d e : D} (h1 : d.nkOk = true) (h2 : e.nkOk = true) : D.eq d e = decide (d.nk = e.nk) := by rw [nk_eq d e h1 h2, NestedKey.decide_eq]
mutual
theorem nk_dep : ∀ (d : D), d.nkOk = true → d.nk.depth = d.dep
  | .non, _ => rfl
  | .bl _, _ => rfl
  | .int _, _ => rfl
  | .str _, _ => rfl
  | .tup xs, h => by
    show NestedKey.depthAll (D.nks xs) + 1 = D.deps xs + 1
    rw [nks_dep xs (by simpa [D.nkOk] using h)]
  | .lst _, h => by simp [D.nkOk] at h
  | .dic _ _, h => by simp [D.nkOk] at h
  | .obj _ _, h => by simp [D.nkOk] at h
  | .exn _ _, h => by simp [D.nkOk] at h
  | .scr _, h => by simp [D.nkOk] at h
  | .pr _, h => by simp [D.nkOk] at h
  | .cdic _ _, h => by simp [D.nkOk] at h
  | .tdic _ _, h => by simp [D.nkOk] at h
theorem nks_dep : ∀ (xs : List D), D.nkOks xs = true → NestedKey.depthAll (D.nks xs) = D.deps xs
  | [], _ => rfl
  | x :: xs, h => by
    simp only [D.nkOks, Bool.and_eq_true] at h
    show max x.nk.depth (NestedKey.depthAll (D.nks xs)) = max x.dep (D.deps xs)
    rw [nk_dep x h.1, nks_dep xs h.2]
end
theorem isTK_tup {d : D} (h : isTK d = true) : (∃ xs, d = .tup xs) ∧ d.nkOk = true ∧ d.nk.depth ≤ 8 := by
  cases d with
  | tup xs =>
    simp only [isTK, Bool.and_eq_true, decide_eq_true_eq] at h
    have ok : (D.tup xs).nkOk = true := h.1
    refine ⟨⟨xs, rfl⟩, ok, ?_⟩
    rw [nk_dep _ ok]
    show D.deps xs + 1 ≤ 8
    omega
  | _ => simp [isTK] at h
section
variable {X : Cx} {pins : List (Addr × Obj)} {σ : L2.St} {F H : Hp} {s : Shared}
mutual
/-- what stands for such data is such a key -/
theorem nk_is (I : Inv X pins σ H s) (sb : Same F H) : ∀ {d : D} {v : V} {u : Value}, Rp X.K F v d → d.nkOk = true → RelV v u → NestedIs s.heap d.nk u
  | .non, v, u, r, _, q => by cases r; cases (show u = Value.none from q); exact .none
  | .bl b, v, u, r, _, q => by cases r; cases (show u = Value.bool b from q); exact .bool rfl
  | .int i, v, u, r, _, q => by cases r; obtain ⟨t, rfl⟩ := q; exact .int _ _
  | .str x, v, u, r, _, q => by cases r; obtain ⟨t, rfl⟩ := q; exact .text _ _
  | .tup xs, v, u, r, h, q => by
    cases r with
    | @tup a vs ds h1 rs =>
      cases (show u = Value.ref a from q)
      obtain ⟨its, rv, ⟨o, ho, hc, n, hd⟩, _⟩ := I.tuple (sqT_mono sb (sqX_t h1))
      exact .tup ho hc hd (by simpa using nks_is I sb rs (by simpa [D.nkOk] using h) rv)
  | .lst _, _, _, _, h, _ => by simp [D.nkOk] at h
  | .dic _ _, _, _, _, h, _ => by simp [D.nkOk] at h
  | .obj _ _, _, _, _, h, _ => by simp [D.nkOk] at h
  | .exn _ _, _, _, _, h, _ => by simp [D.nkOk] at h
  | .scr _, _, _, _, h, _ => by simp [D.nkOk] at h
  | .pr _, _, _, _, h, _ => by simp [D.nkOk] at h
  | .cdic _ _, _, _, _, h, _ => by simp [D.nkOk] at h
  | .tdic _ _, _, _, _, h, _ => by simp [D.nkOk] at h
theorem nks_is (I : Inv X pins σ H s) (sb : Same F H) : ∀ {ds : List D} {vs : List V} {us : List Value}, Rps X.K F vs ds → D.nkOks ds = true → Vals vs us → NestedAll s.heap (D.nks ds) us
  | [], _, _, r, _, q => by cases r; cases q; exact .nil
  | d :: ds, _, _, r, h, q => by
    cases r with
    | cons r rs =>
      cases q with
      | cons q qs =>
        simp only [D.nkOks, Bool.and_eq_true] at h
        exact .cons (nk_is I sb r h.1 q) (nks_is I sb rs h.2 qs)
end
theorem tk_is (I : Inv X pins σ H s) (sb : Same F H) {d : D} {b : Addr} (r : Rp X.K F (.ref b) d) (h : isTK d = true) : (nestedKind X.prog X.w).is s.heap d.nk b :=
  ⟨nk_is I sb r (isTK_tup h).2.1 rfl, (isTK_tup h).2.2⟩
theorem rpt_is (I : Inv X pins σ H s) (sb : Same F H) : ∀ {xs : List (NestedKey × Addr × Value)} {ks ds : List D}, Rpt X.K F xs ks ds → ∀ x ∈ xs, (nestedKind X.prog X.w).is s.heap x.1 x.2.1
  | _, _, _, .nil, x, hx => by cases hx
  | _, _, _, .cons t k u r q, x, hx => by
    rcases List.mem_cons.mp hx with rfl | hx
    · exact tk_is I sb k t
    · exact rpt_is I sb q x hx
end
section
variable {K : PySem.W.Frag} {F : Hp}
theorem rpt_len : ∀ {xs : List (NestedKey × Addr × Value)} {ks ds : List D}, Rpt K F xs ks ds → xs.length = ks.length ∧ xs.length = ds.length
  | _, _, _, .nil => ⟨rfl, rfl⟩
  | _, _, _, .cons _ _ _ _ q => by have := rpt_len q; simp [this.1, ← this.2]
theorem rpt_get {x : D} (hx : isTK x = true) : ∀ {xs : List (NestedKey × Addr × Value)} {ks ds : List D}, Rpt K F xs ks ds →
    match dGet ks ds x with
    | some d => ∃ b u v, atKey xs x.nk = some (b, u) ∧ RelV v u ∧ Rp K F v d
    | none => atKey xs x.nk = none
  | _, _, _, .nil => rfl
  | _, _, _, .cons (b := b) (u := u) (v := v) (k := k) (d := d) (xs := xs) (ks := ks) (ds := ds) t hk hu hr q => by
    have ih := rpt_get hx q
    have e := nk_dec (isTK_tup t).2.1 (isTK_tup hx).2.1
    by_cases c : k.nk = x.nk
    · rw [decide_eq_true c] at e
      simp only [dGet, e, if_true]
      exact ⟨b, u, v, by simp [atKey, c], hu, hr⟩
    · rw [decide_eq_false c] at e
      simp only [dGet, e, Bool.false_eq_true, if_false]
      have e2 : atKey ((k.nk, b, u) :: xs) x.nk = atKey xs x.nk := by simp [atKey, c]
      rw [e2]
      exact ih
theorem rpt_app : ∀ {xs ys : List (NestedKey × Addr × Value)} {ks ds ms es : List D}, Rpt K F xs ks ds → Rpt K F ys ms es → Rpt K F (xs ++ ys) (ks ++ ms) (ds ++ es)
  | _, _, _, _, _, _, .nil, s => s
  | _, _, _, _, _, _, .cons t k u r q, s => .cons t k u r (rpt_app q s)
theorem putAt_id {k : NestedKey} {u : Value} : ∀ {xs : List (NestedKey × Addr × Value)}, k ∉ xs.map (·.1) → xs.map (putAt k u) = xs
  | [], _ => rfl
  | x :: xs, h => by
    rw [List.map_cons, List.mem_cons, not_or] at h
    rw [List.map_cons, putAt_id h.2, putAt, if_neg (fun e => h.1 e.symm)]
theorem atKey_none {k : NestedKey} {xs : List (NestedKey × Addr × Value)} (h : k ∉ xs.map (·.1)) : atKey xs k = none := by
  unfold atKey
  rw [Option.map_eq_none_iff, List.find?_eq_none]
  intro x hx e
  exact h (List.mem_map.mpr ⟨x, hx, by simpa using e⟩)
theorem storedH_mem {k z : NestedKey} {b : Addr} {u : Value} {xs : List (NestedKey × Addr × Value)} : z ∈ (storedH xs k b u).map (·.1) ↔ z = k ∨ z ∈ xs.map (·.1) := by
  have key : ∀ l : List (NestedKey × Addr × Value), (l.map (putAt k u)).map (·.1) = l.map (·.1) := fun l => by
    rw [List.map_map]
    refine List.map_congr_left fun x _ => ?_
    show (putAt k u x).1 = x.1
    unfold putAt; split <;> rfl
  unfold storedH
  split
  · rename_i h
    rw [key]
    constructor
    · exact .inr
    · rintro (rfl | h2)
      · by_cases hm : z ∈ xs.map (·.1)
        · exact hm
        · rw [atKey_none hm] at h; cases h
      · exact h2
  · simp [or_comm]
theorem storedH_nd {k : NestedKey} {b : Addr} {u : Value} {xs : List (NestedKey × Addr × Value)} (nd : (xs.map (·.1)).Nodup) : ((storedH xs k b u).map (·.1)).Nodup := by
  have key : ∀ l : List (NestedKey × Addr × Value), (l.map (putAt k u)).map (·.1) = l.map (·.1) := fun l => by
    rw [List.map_map]
    refine List.map_congr_left fun x _ => ?_
    show (putAt k u x).1 = x.1
    unfold putAt; split <;> rfl
  unfold storedH
  split
  · rw [key]; exact nd
  · rename_i h
    rw [List.map_append, nodup_app]
    refine ⟨nd, by simp, fun z hz hz2 => ?_⟩
    simp at hz2
    subst hz2
    obtain ⟨x, hx, e⟩ := List.mem_map.mp hz
    apply h
    unfold atKey
    rw [Option.isSome_map, List.find?_isSome]
    exact ⟨x, hx, by simpa using e⟩
theorem rpt_put {b : Addr} {u : Value} {v : V} {x d : D} (hx : isTK x = true) (hk : Rp K F (.ref b) x) (hu : RelV v u) (hr : Rp K F v d) : ∀ {xs : List (NestedKey × Addr × Value)} {ks ds : List D}, Rpt K F xs ks ds → (xs.map (·.1)).Nodup →
    Rpt K F (storedH xs x.nk b u) (dPut ks ds x d).1 (dPut ks ds x d).2
  | _, _, _, .nil, _ => by
    show Rpt K F (storedH [] x.nk b u) [x] [d]
    exact .cons hx hk hu hr .nil
  | _, _, _, .cons (b := b0) (u := u0) (v := v0) (k := k) (d := d0) (xs := xs) (ks := ks) (ds := ds) t hk0 hu0 hr0 q, nd => by
    rw [List.map_cons, List.nodup_cons] at nd
    have e := nk_dec (isTK_tup t).2.1 (isTK_tup hx).2.1
    by_cases c : k.nk = x.nk
    · rw [decide_eq_true c] at e
      simp only [dPut, e, if_true]
      have e2 : storedH ((k.nk, b0, u0) :: xs) x.nk b u = (k.nk, b0, u) :: xs := by
        rw [storedH_old (p := (b0, u0)) (by simp [atKey, c])]
        rw [List.map_cons, putAt_id (by rw [← c]; exact nd.1), putAt, if_pos c]
      rw [e2]
      exact .cons t hk0 hu hr q
    · rw [decide_eq_false c] at e
      simp only [dPut, e, Bool.false_eq_true, if_false]
      have e2 : storedH ((k.nk, b0, u0) :: xs) x.nk b u = (k.nk, b0, u0) :: storedH xs x.nk b u := by
        unfold storedH
        have e3 : atKey ((k.nk, b0, u0) :: xs) x.nk = atKey xs x.nk := by simp [atKey, c]
        rw [e3]
        split
        · rw [List.map_cons, putAt, if_neg c]
        · rfl
      rw [e2]
      exact .cons t hk0 hu0 hr0 (rpt_put hx hk hu hr q nd.2)
theorem rpt_merge : ∀ {ys xs : List (NestedKey × Addr × Value)} {ks ds ms es : List D}, Rpt K F xs ks ds → (xs.map (·.1)).Nodup → Rpt K F ys ms es →
    Rpt K F (storedAllH xs ys) (dMerge ks ds ms es).1 (dMerge ks ds ms es).2 ∧ ((storedAllH xs ys).map (·.1)).Nodup
  | _, _, _, _, _, _, r, nd, .nil => by simp only [dMerge]; exact ⟨r, nd⟩
  | _, xs, _, _, _, _, r, nd, .cons (b := b) (u := u0) (k := k0) (xs := ys) t k u q z => by
    simp only [dMerge]
    have h := rpt_merge (xs := storedH xs k0.nk b u0) (rpt_put t k u q r nd) (storedH_nd nd) z
    exact h
end
section
variable {X : Cx} {pins : List (Addr × Obj)} {σ : L2.St} {F H : Hp} {s : Shared}
theorem Vw.tdic {K : PySem.W.Frag} {v : V} {ks ds : List D} (h : Vw K F H v (.tdic ks ds)) : ∃ a o es ep xs, v = .ref a ∧ F a = some (rawO a o) ∧ o.ExactDict ∧ o.data = .dict es ep ∧ es.toList = xs.map entT ∧ (xs.map (·.1)).Nodup ∧ (a == sysModules) = false ∧ Rpt K F xs ks ds := by
  obtain ⟨s, c, r, e⟩ := h
  cases r with
  | dat r => simp only [Sl.cap] at e; subst e; cases r; exact ⟨_, _, _, _, _, rfl, by assumption, by assumption, by assumption, by assumption, by assumption, by assumption, by assumption⟩
  | lst => simp [Sl.cap] at e
  | dic => simp [Sl.cap] at e
  | ins => simp [Sl.cap] at e
/-- the dict in the heap -/
theorem td_at (hw : X.w = HasW.w) (I : Inv X pins σ H s) (sb : Same F H) {a : Addr} {o : Obj} {es : Array DictEntry} {ep : Nat} {xs : List (NestedKey × Addr × Value)} {ks ds : List D} (h : F a = some (rawO a o)) (hc : o.ExactDict) (hd : o.data = .dict es ep) (he : es.toList = xs.map entT) (nd : (xs.map (·.1)).Nodup) (r : Rpt X.K F xs ks ds) :
    s.heap.DictOfH (nestedKind X.prog X.w) a xs := by
  have x : ObjOk X.prog X.w H s.heap a (rawO a o) := I.hok a _ (sb _ _ h)
  obtain ⟨ho, _⟩ := x
  refine ⟨o, es, ep, ho, hc, hd, ?_, rpt_is I sb r, nd⟩
  rw [he]
  refine List.map_congr_left fun y _ => ?_
  show (⟨y.1.hash HasW.w, .ref y.2.1, y.2.2⟩ : DictEntry) = ⟨y.1.hash X.w, .ref y.2.1, y.2.2⟩
  rw [hw]
theorem raw_ok {P : Program} {w : World} {H' : Hp} {h' : Heap} {a : Addr} {o : Obj} (e : h'.get? a = some o) : ObjOk P w H' h' a (rawO a o) := ⟨e, ⟨o, e⟩, fun _ _ q st => st o q⟩
/-- a look into it -/
theorem td_get (hw : X.w = HasW.w) (hu : X.A.units + 10 < cLine) (I : Inv X pins σ H s) (sb : Same F H) {y k : V} {ks ds : List D} {e d : D} {v u : Value} {Q : Value → Shared → Prop} (vx : Vw X.K F H y (.tdic ks ds)) (vk : Vw X.K F H k e) (ht : isTK e = true) (hg : dGet ks ds e = some d) (ry : RelV y v) (rk : RelV k u)
    (q : ∀ z w' s', Inv X pins σ H s' → RelV z w' → Rp X.K F z d → Q w' s') : s.TypeIs v "dict" ∧ wpAny (model X.prog X.w) X.A (getItem v u) Q X.xe s := by
  obtain ⟨a, o, es, ep, xs, rfl, h1, h2, h3, h4, h5, h6, h7⟩ := vx.tdic
  cases ry
  obtain ⟨⟨ts, rfl⟩, _⟩ := isTK_tup ht
  obtain ⟨b, vs, rfl, b1, b2⟩ := vk.tupX
  cases (show u = Value.ref b from rk)
  have hm := td_at hw I sb h1 h2 h3 h4 h5 h7
  have := rpt_get ht h7
  rw [hg] at this
  obtain ⟨b', u', z, g1, g2, g3⟩ := this
  have hv : valueAt (pairsH xs) (D.tup ts).nk = some u' := by rw [valueAt_pairsH, g1]; rfl
  refine ⟨hm.typeIs, getItem_keyed (knd := nestedKind X.prog X.w) (show X.A.units + 1 + 8 < cLine by omega) (tk_is I sb (.tup b1 b2) ht) ⟨xs, hm, rfl⟩ hv ?_⟩
  exact q z u' _ (I.kept (t' := _) fun _ _ e => e) g2 g3
theorem td_getOr (hw : X.w = HasW.w) (hu : X.A.units + 10 < cLine) (I : Inv X pins σ H s) (sb : Same F H) {y k f : V} {ks ds : List D} {e d : D} {v u r : Value} {Q : Value → Shared → Prop} (vx : Vw X.K F H y (.tdic ks ds)) (vk : Vw X.K F H k e) (rd : Rp X.K F f d) (ht : isTK e = true) (ry : RelV y v) (rk : RelV k u) (rf : RelV f r)
    (q : ∀ z w' s', Inv X pins σ H s' → RelV z w' → Rp X.K F z ((dGet ks ds e).getD d) → Q w' s') : wpAny (model X.prog X.w) X.A (call (.builtin "dict.get") [v, u, r]) Q X.xe s := by
  obtain ⟨a, o, es, ep, xs, rfl, h1, h2, h3, h4, h5, h6, h7⟩ := vx.tdic
  cases ry
  obtain ⟨⟨ts, rfl⟩, _⟩ := isTK_tup ht
  obtain ⟨b, vs, rfl, b1, b2⟩ := vk.tupX
  cases (show u = Value.ref b from rk)
  have hm := td_at hw I sb h1 h2 h3 h4 h5 h7
  have := rpt_get ht h7
  refine getOr_keyed (knd := nestedKind X.prog X.w) (show X.A.units + 1 + 8 < cLine by omega) (tk_is I sb (.tup b1 b2) ht) h6 ⟨xs, hm, rfl⟩ ?_
  rw [valueAt_pairsH]
  cases g : dGet ks ds (.tup ts) with
  | none =>
    rw [g] at this q
    rw [this]
    exact q f r _ (I.kept (t' := _) fun _ _ e => e) rf rd
  | some d' =>
    rw [g] at this q
    obtain ⟨b', u', z, g1, g2, g3⟩ := this
    rw [g1]
    exact q z u' _ (I.kept (t' := _) fun _ _ e => e) g2 g3
theorem op_in_td (hw : X.w = HasW.w) (hu : X.A.units + 10 < cLine) (I : Inv X pins σ H s) (sb : Same F H) {y k : V} {ks ds : List D} {e : D} {v u : Value} {Q : VK} (vx : Vw X.K F H y (.tdic ks ds)) (vk : Vw X.K F H k e) (ht : isTK e = true) (rk : RelV k u) (ry : RelV y v) (q : Q (.bl (dGet ks ds e).isSome) H) :
    wpAny (model X.prog X.w) X.A (compareOp .In u v) (EP X pins σ Q) X.xe s := by
  obtain ⟨a, o, es, ep, xs, rfl, h1, h2, h3, h4, h5, h6, h7⟩ := vx.tdic
  cases ry
  obtain ⟨⟨ts, rfl⟩, _⟩ := isTK_tup ht
  obtain ⟨b, vs, rfl, b1, b2⟩ := vk.tupX
  cases (show u = Value.ref b from rk)
  have hm := td_at hw I sb h1 h2 h3 h4 h5 h7
  have := rpt_get ht h7
  refine in_keyed (knd := nestedKind X.prog X.w) (show X.A.units + 1 + 8 < cLine by omega) (tk_is I sb (.tup b1 b2) ht) h6 ⟨xs, hm, rfl⟩ ?_
  rw [valueAt_pairsH]
  cases g : dGet ks ds (.tup ts) with
  | none =>
    rw [g] at this q
    rw [this]
    exact ⟨.bl _, H, I.kept (t' := _) fun _ _ e => e, rfl, q⟩
  | some d' =>
    rw [g] at this q
    obtain ⟨b', u', z, g1, g2, g3⟩ := this
    rw [g1]
    exact ⟨.bl _, H, I.kept (t' := _) fun _ _ e => e, rfl, q⟩
theorem op_notIn_td (hw : X.w = HasW.w) (hu : X.A.units + 10 < cLine) (I : Inv X pins σ H s) (sb : Same F H) {y k : V} {ks ds : List D} {e : D} {v u : Value} {Q : VK} (vx : Vw X.K F H y (.tdic ks ds)) (vk : Vw X.K F H k e) (ht : isTK e = true) (rk : RelV k u) (ry : RelV y v) (q : Q (.bl (!(dGet ks ds e).isSome)) H) :
    wpAny (model X.prog X.w) X.A (compareOp .NotIn u v) (EP X pins σ Q) X.xe s := by
  obtain ⟨a, o, es, ep, xs, rfl, h1, h2, h3, h4, h5, h6, h7⟩ := vx.tdic
  cases ry
  obtain ⟨⟨ts, rfl⟩, _⟩ := isTK_tup ht
  obtain ⟨b, vs, rfl, b1, b2⟩ := vk.tupX
  cases (show u = Value.ref b from rk)
  have hm := td_at hw I sb h1 h2 h3 h4 h5 h7
  have := rpt_get ht h7
  refine notIn_keyed (knd := nestedKind X.prog X.w) (show X.A.units + 1 + 8 < cLine by omega) (tk_is I sb (.tup b1 b2) ht) h6 ⟨xs, hm, rfl⟩ ?_
  rw [valueAt_pairsH]
  cases g : dGet ks ds (.tup ts) with
  | none =>
    rw [g] at this q
    rw [this]
    exact ⟨.bl _, H, I.kept (t' := _) fun _ _ e => e, rfl, q⟩
  | some d' =>
    rw [g] at this q
    obtain ⟨b', u', z, g1, g2, g3⟩ := this
    rw [g1]
    exact ⟨.bl _, H, I.kept (t' := _) fun _ _ e => e, rfl, q⟩
theorem New.tdic {K : PySem.W.Frag} {p : Addr} {o : Obj} {es : Array DictEntry} {ep : Nat} {xs : List (NestedKey × Addr × Value)} {ks ds : List D} (h : Same F H) (n : H p = none) (h2 : o.ExactDict) (h3 : o.data = .dict es ep) (h4 : es.toList = xs.map entT) (h5 : (xs.map (·.1)).Nodup) (h6 : (p == sysModules) = false) (r : Rpt K F xs ks ds) :
    New K F H (.ref p) (.dat (.tdic ks ds)) (upd F p (rawO p o)) (upd H p (rawO p o)) [] where
  rep := .dat (.tdic upd_same h2 h3 h4 h5 h6 (r.mono (same_upd (fnone_of h n))))
  stp := ⟨same_upd (fnone_of h n), fun b o e _ => same_upd n b o e, fun b hb => (by cases hb), fun b o e => by
    by_cases z : b = p
    · subst z; exact .inr (.inr n)
    · rw [upd_ne z] at e; exact .inl e⟩
  nd := .nil
  sub := fun b o e => by
    by_cases z : b = p
    · subst z; rw [upd_same] at e ⊢; exact e
    · rw [upd_ne z] at e ⊢; exact h b o e
/-- a dict with such entries, seen as it stands -/
theorem dictH_raw (hw : X.w = HasW.w) {h : Heap} {a : Addr} {xs : List (NestedKey × Addr × Value)} (hm : h.DictOfH (nestedKind X.prog X.w) a xs) : ∃ o es ep, h.get? a = some o ∧ o.ExactDict ∧ o.data = .dict es ep ∧ es.toList = xs.map entT ∧ (xs.map (·.1)).Nodup := by
  obtain ⟨o, es, ep, ho, hc, hd, he, _, nd⟩ := hm
  refine ⟨o, es, ep, ho, hc, hd, ?_, nd⟩
  rw [he]
  refine List.map_congr_left fun y _ => ?_
  show (⟨y.1.hash X.w, .ref y.2.1, y.2.2⟩ : DictEntry) = ⟨y.1.hash HasW.w, .ref y.2.1, y.2.2⟩
  rw [hw]
/-- pairs, as they stand -/
theorem pairsT_ok (I : Inv X pins σ H s) (sb : Same F H) : ∀ {ps : List D} {vs : List V} {its : List Value} {p : List D × List D}, Rps X.K F vs ps → Vals vs its → pairsT ps = some p →
    ∃ (Ts : List Addr) (xs : List (NestedKey × Addr × Value)), its = Ts.map Value.ref ∧ Ts.length = xs.length ∧ (∀ (j : Nat) (T : Addr) (x : NestedKey × Addr × Value), Ts[j]? = some T → xs[j]? = some x → PairAt s.heap T (.ref x.2.1) x.2.2) ∧ Rpt X.K F xs p.1 p.2
  | [], _, _, _, r, q, h => by
    cases r; cases q
    simp only [pairsT, Option.some.injEq] at h; subst h
    exact ⟨[], [], rfl, rfl, fun j T x h => by simp at h, .nil⟩
  | .tup [k, v] :: ps, _, _, p, r, q, h => by
    simp only [pairsT] at h
    split at h
    · rename_i hk
      cases e : pairsT ps with
      | none => rw [e] at h; simp at h
      | some p' =>
        rw [e] at h
        simp only [Option.map_some, Option.some.injEq] at h
        subst h
        cases r with
        | cons r rs =>
          cases q with
          | @cons _ u0 _ _ q qs =>
            obtain ⟨Ts, xs, h1, h2, h3, h4⟩ := pairsT_ok I sb rs qs e
            cases r with
            | @tup a vs ds t1 t2 =>
              cases t2 with
              | @cons kv _ _ _ rk t2 =>
                cases t2 with
                | @cons vv _ _ _ rv t2 =>
                  cases t2
                  obtain ⟨⟨ts, rfl⟩, _⟩ := isTK_tup hk
                  cases rk with
                  | @tup b bs _ b1 b2 =>
                    cases (show u0 = Value.ref a from q)
                    obtain ⟨its, rvs, pt, _⟩ := I.tuple (sqT_mono sb (sqX_t t1))
                    cases rvs with
                    | @cons _ ku _ _ x1 rvs =>
                      cases rvs with
                      | @cons _ vu _ _ x2 rvs =>
                        cases rvs
                        cases (show ku = Value.ref b from x1)
                        refine ⟨a :: Ts, ((D.tup ts).nk, b, vu) :: xs, by simp [h1], by simp [h2], fun j T x e1 e2 => ?_, .cons hk (.tup b1 b2) x2 rv h4⟩
                        cases j with
                        | zero =>
                          simp only [List.getElem?_cons_zero, Option.some.injEq] at e1 e2
                          subst e1 e2
                          exact .inl pt
                        | succ j => exact h3 j T x (by simpa using e1) (by simpa using e2)
    · cases h
  | .tup [] :: _, _, _, _, _, _, h => by simp [pairsT] at h
  | .tup [_] :: _, _, _, _, _, _, h => by simp [pairsT] at h
  | .tup (_ :: _ :: _ :: _) :: _, _, _, _, _, _, h => by simp [pairsT] at h
  | .non :: _, _, _, _, _, _, h => by simp [pairsT] at h
  | .bl _ :: _, _, _, _, _, _, h => by simp [pairsT] at h
  | .int _ :: _, _, _, _, _, _, h => by simp [pairsT] at h
  | .str _ :: _, _, _, _, _, _, h => by simp [pairsT] at h
  | .lst _ :: _, _, _, _, _, _, h => by simp [pairsT] at h
  | .dic _ _ :: _, _, _, _, _, _, h => by simp [pairsT] at h
  | .obj _ _ :: _, _, _, _, _, _, h => by simp [pairsT] at h
  | .exn _ _ :: _, _, _, _, _, _, h => by simp [pairsT] at h
  | .scr _ :: _, _, _, _, _, _, h => by simp [pairsT] at h
  | .pr _ :: _, _, _, _, _, _, h => by simp [pairsT] at h
  | .cdic _ _ :: _, _, _, _, _, _, h => by simp [pairsT] at h
  | .tdic _ _ :: _, _, _, _, _, _, h => by simp [pairsT] at h
/-- dict(pairs) -/
theorem call_dictT (hc : X.calm = true) (hw : X.w = HasW.w) (hu : X.A.units + 12 < cLine) (I : Inv X pins σ H s) (sb : Same F H) {y : V} {ps : List D} {p : List D × List D} {u : Value} {Q : VK} (vy : Vw X.K F H y (.lst ps)) (ry : RelV y u) (hp : pairsT ps = some p) (hl : p.1.length ≤ 1000)
    (q : ∀ z F' H' a, New X.K F H z (.dat (.tdic (dMerge [] [] p.1 p.2).1 (dMerge [] [] p.1 p.2).2)) F' H' a → Q z H') : wpAny (model X.prog X.w) X.A (call (.type "dict") [u]) (EP X pins σ Q) X.xe s := by
  obtain ⟨a, vs, rfl, h1, rs⟩ := vy.lst sb
  cases ry
  obtain ⟨its, rv, pl, hz⟩ := I.list (.inl h1)
  obtain ⟨Ts, xs, e1, e2, e3, r⟩ := pairsT_ok I sb rs rv hp
  have hxl := (rpt_len r).1
  let Tf : Nat → Addr := fun j => Ts.getD j 0
  have hpl : PlainSeq "list" s.heap a its.toArray := by
    obtain ⟨o, m, h1, h2, h3, h4⟩ := pl
    exact ⟨o, m, h1, h2, h3, h4⟩
  have hpi : PairItems s.heap its.toArray Tf (xs.map fun x => (Value.ref x.2.1, x.2.2)) := by
    refine ⟨by rw [List.size_toArray, e1, List.length_map, List.length_map, e2], fun j k v hj => ?_⟩
    rw [List.getElem?_map] at hj
    cases g : xs[j]? with
    | none => rw [g] at hj; simp at hj
    | some x =>
      rw [g] at hj
      simp only [Option.map_some, Option.some.injEq, Prod.mk.injEq] at hj
      obtain ⟨rfl, rfl⟩ := hj
      have lt : j < Ts.length := by rw [e2]; exact (List.getElem?_eq_some_iff.mp g).1
      have gT : Ts[j]? = some (Tf j) := by
        rw [List.getElem?_eq_getElem lt]; simp [Tf, lt]
      refine ⟨?_, e3 j _ x gT g⟩
      rw [List.getElem?_toArray, e1, List.getElem?_map, gT]; rfl
  refine call_dict_pairsH (knd := nestedKind X.prog X.w) (ps := xs) (PairArg.list a its.toArray Tf (xs.map fun x => (Value.ref x.2.1, x.2.2))) (I.ok.hd hc) (show X.A.units + 1 + 1 + 8 < cLine by omega) ⟨hpl, hpi⟩ ⟨by rw [List.length_map], fun i key v hi => ?_⟩ ?_ (by rw [List.length_map, hxl, sizeLine_eq]; omega) fun h' tk hd' hk => ?_
  · have hi' : (xs.map fun x => (Value.ref x.2.1, x.2.2))[i]? = some (key, v) := hi
    rw [List.getElem?_map] at hi'
    cases g : xs[i]? with
    | none => rw [g] at hi'; simp at hi'
    | some x =>
      rw [g] at hi'
      simp only [Option.map_some, Option.some.injEq, Prod.mk.injEq] at hi'
      obtain ⟨rfl, rfl⟩ := hi'
      exact ⟨x.1, x.2.1, rfl, rfl⟩
  · intro h' hk x hx
    refine nestedKind_stays.stays (fun b o vs n e _ => hk b o (Nat.ne_of_lt (Heap.lt_size e)) (by simp) e) (rpt_is I sb r x hx)
  · obtain ⟨o, es, ep, ho, hx, hd, he, nd⟩ := dictH_raw hw hd'
    have hn := I.hok.fresh (Nat.le_refl s.heap.objs.size)
    have hm : (s.heap.objs.size == sysModules) = false := beq_eq_false_iff_ne.mpr (Nat.ne_of_gt I.big)
    have rm := (rpt_merge (.nil : Rpt X.K F [] [] []) (by simp) r).1
    exact ⟨.ref s.heap.objs.size, upd H s.heap.objs.size (rawO s.heap.objs.size o), I.laid (t' := tk) (fun b o e => hk b o (by simp) e) (Nat.le_refl _) (raw_ok ho), rfl, q _ _ _ _ (New.tdic sb hn hx hd he nd hm rm)⟩
end
end MP

/-! a dict among texts: it is none of them -/
namespace PySem.SeqAt
open AutoSeq1 (wpAny_loadPart')
open MeetsSeq
section
/-- a text is not like a dict: str's == declines -/
theorem mp_strDict (x : Str) (t : Tok) (p : Addr) (cl : Value) (es : Array DictEntry) (ep : Nat) (od : Option Addr) (os : Array (Option Value)) :
    Meets (Builtin.«str.__eq__» ⟨[.str x t, .ref p], []⟩) (fun _ R s => s.heap.get? p = some { cls := cl, dict := od, data := .dict es ep, slots := os } ∧ R (.ok (.ret .notImplemented)) s) := by
  refine .of_wp fun P W B K st both => ?_
  obtain ⟨h1, h2, h3, h4, h5⟩ := st
  obtain ⟨lp, done⟩ := both
  wp_walk using wpAny_loadPart' lp, wpAny_load lp
  exact ⟨_, rfl, done⟩
variable {prog : Program} {w : World} {A : Around} {s : Shared}
theorem mp_eqDict {p : Addr} {o : Obj} {es : Array DictEntry} {ep : Nat} (x : Str) (t : Tok) (ho : s.heap.get? p = some o) (hc : o.cls = .type "dict") (hd : o.data = .dict es ep) (hu : A.units < cLine) : EqAt A s (.str x t) (.ref p) false := fun P W E Q q => by
  have ty : s.TypeIs (.ref p) "dict" := ⟨o, ho, hc⟩
  have tx : s.TypeIs (.str x t) "str" := typeIs_str s x t
  obtain ⟨cl, od, dt, os⟩ := o
  simp only at hc hd
  subst hc hd
  unfold eqBool
  refine wpAny_holding (wpAny_ite_split (fun same => nomatch eq_of_beq same) fun _ => wpAny_bind ?_)
  refine rc_eq_decline_or (k := false) tx ty (by decide) F.sub_dict_str F.slot_str_eq F.slot_dict_eq_refl (fun Q' h => ?_) (fun Q' h => ?_) (fun Q' h => wpAny_of_eq (rfl : isSame (.str x t) (.ref p) = pure false) h) (.inr hu) (wpAny_truthy_bool q)
  · exact call_meets F.slot_str_eq tx F.entry_str_eq (F.args_str_eq_2 _ _) (mp_strDict x t p _ es ep od os) ⟨ho, h⟩
  · refine wpAny_call_entry F.slot_dict_eq_refl ty F.entry_dict_eq ?_ (F.args_dict_eq_2 _ _)
    show wpAny _ _ (Builtin.Dict.dictSlotArgs "__eq__" ⟨[.ref p, .str x t], []⟩ >>= _) _ _ s
    unfold Builtin.Dict.dictSlotArgs
    refine wpAny_bind (wpAny_bind (wpAny_notOrdered_dict ty (wpAny_pure ?_)))
    refine wpAny_bind (wpAny_isInstance (T := "str") tx F.sub_str_dict ?_)
    simp only [Bool.not_false, if_true]
    exact wpAny_bind (wpAny_rule (wpAny_bind (wpAny_pure (wpAny_pure ⟨_, rfl, h⟩))))
end
end PySem.SeqAt
namespace MP
open PySem PySem.Spec PyProof.Rows L2
variable [HasW]
theorem allStr_is {K : PySem.W.Frag} {F : Hp} : ∀ {ds : List D} {vs : List V} {us : List Value}, allStr ds = true → Rps K F vs ds → Vals vs us → ∀ u ∈ us, ∃ x t, u = .str x t
  | [], _, _, _, .nil, .nil => fun u hu => nomatch hu
  | d :: ds, _, _, h, .cons r rs, .cons e es => by
    cases d <;> simp only [allStr, Bool.false_eq_true] at h
    cases r
    obtain ⟨t, rfl⟩ := e
    intro u hu
    rcases List.mem_cons.mp hu with rfl | hu
    · exact ⟨_, _, rfl⟩
    · exact allStr_is h rs es u hu
section
variable {X : Cx} {pins : List (Addr × Obj)} {s : Shared} {σ : L2.St} {H : Hp}
theorem isDic_is {d : D} (h : isDic d = true) : ∃ ks vs, d = .dic ks vs := by
  cases d <;> simp only [isDic, Bool.false_eq_true] at h
  exact ⟨_, _, rfl⟩
theorem op_odd (hu : X.A.units + 10 < cLine) (I : Inv X pins σ H s) {F : Hp} {x y : V} {d : D} {ys : List D} {v u : Value} (sb : Same F H) (hd : isDic d = true) (hs : allStr ys = true) (vx : Vw X.K F H x d) (vy : Vw X.K F H y (.tup ys)) (rx : RelV x v) (ry : RelV y u) :
    (∀ Q : Value → Shared → Prop, Q (.bool false) s → wpAny (model X.prog X.w) X.A (compareOp .In v u) Q X.xe s) ∧ ∀ Q : Value → Shared → Prop, Q (.bool true) s → wpAny (model X.prog X.w) X.A (compareOp .NotIn v u) Q X.xe s := by
  obtain ⟨ks, vs, rfl⟩ := isDic_is hd
  obtain ⟨a, kvs, rfl, h1, rfl, _⟩ := vx.dic sb
  have r2 := vy.rp sb
  obtain ⟨b, ws, rfl, h2, r3⟩ := r2.tupI
  cases (show v = Value.ref a from rx)
  cases (show u = Value.ref b from ry)
  obtain ⟨ws', rel, tup, _⟩ := I.tuple h2
  obtain ⟨_, _, va, _, da⟩ := (show ObjOk X.prog X.w H s.heap a (.dK kvs) from I.hok a _ h1)
  have ty := da.typeIs
  obtain ⟨o, es, ep, g1, g2, g3, _⟩ := id da
  have hc : o.cls = .type "dict" := by
    obtain ⟨o', e', c'⟩ := ty
    rw [g1] at e'
    cases e'
    exact c'
  have all : ∀ z, z ∈ ws'.toArray → SeqAt.EqAt X.A.in1 s z (.ref a) ((fun _ => false) z) := fun z hz => by
    obtain ⟨x, t, rfl⟩ := allStr_is hs r3 rel z (by simpa using hz)
    exact SeqAt.mp_eqDict x t g1 hc g3 (by show X.A.units + 1 < cLine; omega)
  have none : ws'.toArray.any (fun _ => false) = false := by simp
  refine ⟨fun Q q => ?_, fun Q q => ?_⟩
  · exact SeqAt.in_tupleAt (fun _ => false) tup all (by rw [none]; exact q)
  · exact SeqAt.notIn_tupleAt (fun _ => false) tup all (by rw [none]; exact q)
end
end MP

/-! == and != of alike things that hold dicts -/
namespace PySem.SeqAt
open AutoSeq1 (wpAny_loadPart')
open MeetsSeq MeetsSeq2 MeetsSeq3 SeqRoads2
section
variable {prog : Program} {w : World}
/-- from place i on, all alike: nothing differs -/
theorem mp_neLoop (p q : Addr) (us ws : Array Value) (m m2 : Nat) (dp dq : Option Addr) (sp sq : Array (Option Value)) (sz : us.size = ws.size) (k : Nat) :
    ∀ i : Nat, us.size - i = k → MeetsIn prog w (Builtin.«list.__eq__.loop» ⟨[.ref p, .ref q, rawInt i, rawInt 3], []⟩)
      (fun A R s => s.heap.get? p = some { cls := .type "list", dict := dp, data := .seq us m, slots := sp } ∧ s.heap.get? q = some { cls := .type "list", dict := dq, data := .seq ws m2, slots := sq } ∧
        (∀ j (h1 : j < us.size) (h2 : j < ws.size), EqP prog w A.in1 s us[j] ws[j] true) ∧ R (.ok (.ret (.bool false))) s) := by
  induction k with
  | zero =>
    intro i hk A R s hh
    obtain ⟨hp, g, dd, tk, os⟩ := s
    obtain ⟨lp, lq, al, hR⟩ := hh
    have out1 : us[((i : Nat) : Int).toNat]? = none := by simp; omega
    have out2 : ws[((i : Nat) : Int).toNat]? = none := by simp; omega
    wp_walk using wpAny_loadPart' lp, wpAny_loadPart' lq
    rw [out1, out2]
    wp_walk using wpAny_loadPart' lp, wpAny_loadPart' lq
    show R (.ok (.ret (.bool (us.size != ws.size)))) _
    rw [sz, bne_self_eq_false]
    exact hR
  | succ k ih =>
    intro i hk A R s hh
    obtain ⟨hp, g, dd, tk, os⟩ := s
    obtain ⟨lp, lq, al, hR⟩ := hh
    have i1 : i < us.size := by omega
    have i2 : i < ws.size := by omega
    have at1 : us[((i : Nat) : Int).toNat]? = some us[i] := by simp [i1]
    have at2 : ws[((i : Nat) : Int).toNat]? = some ws[i] := by simp [i2]
    have nxt : ((i : Int) + 1) = ((i + 1 : Nat) : Int) := by push_cast; rfl
    wp_walk using wpAny_loadPart' lp, wpAny_loadPart' lq
    rw [at1, at2]
    refine wpAny_bind (al i i1 i2 _ _ ?_)
    wp_walk
    rw [nxt]
    refine ⟨plainId_quiet plain_eq_loop _, codeAny_builtin entry_eq_loop ?_⟩
    rw [Around.under_plainId plain_eq_loop _]
    exact ih (i + 1) (by omega) A R _ ⟨lp, lq, al, hR⟩
theorem mp_listNe (p q : Addr) (us ws : Array Value) (m m2 : Nat) (dp dq : Option Addr) (sp sq : Array (Option Value)) (sz : us.size = ws.size) :
    MeetsIn prog w (Builtin.«list.__ne__» ⟨[.ref p, .ref q], []⟩)
      (fun A R s => s.heap.get? p = some { cls := .type "list", dict := dp, data := .seq us m, slots := sp } ∧ s.heap.get? q = some { cls := .type "list", dict := dq, data := .seq ws m2, slots := sq } ∧
        (∀ j (h1 : j < us.size) (h2 : j < ws.size), EqP prog w A.in1 s us[j] ws[j] true) ∧ R (.ok (.ret (.bool false))) s) := by
  intro A R s hh
  obtain ⟨hp, g, dd, tk, os⟩ := s
  obtain ⟨lp, lq, al, hR⟩ := hh
  have sub := AutoSeq1.sub_list_list
  have same : ¬ (us.size != ws.size) = true := by simp [sz]
  wp_walk using wpAny_loadPart' lp, wpAny_loadPart' lq
  refine ⟨plainId_quiet plain_eq_loop _, codeAny_builtin entry_eq_loop ?_⟩
  rw [Around.under_plainId plain_eq_loop _]
  exact mp_neLoop p q us ws m m2 dp dq sp sq sz _ 0 rfl A R _ ⟨lp, lq, al, hR⟩
theorem mp_rcNe {A : Around} {s : Shared} {p q : Addr} {us ws : Array Value} (lp : s.heap.IsList p us) (lq : s.heap.IsList q ws) (sz : us.size = ws.size) (hu : A.units < cLine)
    (al : ∀ j (h1 : j < us.size) (h2 : j < ws.size), EqP prog w A.in1 s us[j] ws[j] true) (E Q : Value → Shared → Prop) (hQ : Q (.bool false) s) : wpAny (model prog w) A (richCompare .NotEq (.ref p) (.ref q)) Q E s := by
  obtain ⟨⟨c1, d1, b1, s1⟩, o1, k1, m, e1⟩ := id lp
  obtain ⟨⟨c2, d2, b2, s2⟩, o2, k2, m2, e2⟩ := id lq
  simp only at k1 e1 k2 e2
  subst k1 e1 k2 e2
  have t1 : s.TypeIs (.ref p) "list" := ⟨_, o1, rfl⟩
  have t2 : s.TypeIs (.ref q) "list" := ⟨_, o2, rfl⟩
  refine wpAny_richCompare_same_room (op := .NotEq) t1 t2 F.slot_list_ne (call_meetsIn F.slot_list_ne t1 F.entry_list_ne (F.args_list_ne_2 _ _) (mp_listNe p q us ws m m2 d1 d2 s1 s2 sz) ⟨o1, o2, al, ?_⟩) hu
  exact show Value.bool false ≠ Value.notImplemented ∧ Q (.bool false) s from ⟨(fun x => nomatch x), hQ⟩
end
end PySem.SeqAt
namespace MP
open PySem PySem.Spec PyProof.Rows L2
variable [HasW]
theorem kd_inj {a b : Key} (h : D.eq (kD a) (kD b) = true) : a = b := by
  cases a with
  | inl i =>
    cases b with
    | inl j => simp only [kD, D.eq, beq_iff_eq] at h; rw [h]
    | inr y => simp [kD, D.eq] at h
  | inr x =>
    cases b with
    | inl j => simp [kD, D.eq] at h
    | inr y => simp only [kD, D.eq, beq_iff_eq] at h; rw [show x = y from TL.ext_tl h]
theorem kd_self (a : Key) : D.eq (kD a) (kD a) = true := by
  cases a <;> simp [kD, D.eq]
theorem kd_dec (a b : Key) : D.eq (kD a) (kD b) = decide (a = b) := by
  by_cases h : a = b
  · subst h; rw [kd_self]; simp
  · rw [decide_eq_false h]
    cases q : D.eq (kD a) (kD b) with
    | false => rfl
    | true => exact absurd (kd_inj q) h
/-- a look into a dict -/
theorem dGet_val {K : PySem.W.Frag} {F : Hp} (k : Key) : ∀ {kvs : List (Key × V)} {ds : List D}, Rps K F (kvs.map (·.2)) ds →
    match dGet (kvs.map fun p => kD p.1) ds (kD k) with
    | some d => ∃ v, valV kvs k = some v ∧ Rp K F v d
    | none => valV kvs k = none
  | [], ds, r => by cases r; exact valV_nil
  | (k', v') :: r, ds, h => by
    cases h with
    | @cons v vs d ds hv ht =>
      have ih := dGet_val k ht
      simp only [List.map_cons, dGet]
      rw [kd_dec]
      by_cases e : k' = k
      · rw [decide_eq_true e]
        simp only [if_true]
        exact ⟨v', valV_pos e, hv⟩
      · rw [decide_eq_false e]
        simp only [Bool.false_eq_true, if_false]
        rw [valV_neg (p := (k', v')) e]
        exact ih
section
variable {X : Cx} {pins : List (Addr × Obj)} {σ : L2.St} {H : Hp} {s : Shared} {A : Around} {f : D → D → Bool}
/-- what f says is alike, == finds alike -/
def RunE (X : Cx) (A : Around) (s : Shared) (H : Hp) (f : D → D → Bool) : Prop := ∀ (d e : D) (x y : V) (v u : Value), f d e = true → Rp X.K H x d → Rp X.K H y e → RelV x v → RelV y u → SeqAt.EqP X.prog X.w A s v u true
theorem all2_run (ih : RunE X A s H f) : ∀ {ds es : List D} {xs ys : List V} {us ws : List Value}, all2B f ds es = true → Rps X.K H xs ds → Rps X.K H ys es → Vals xs us → Vals ys ws →
    us.length = ws.length ∧ ∀ j (h1 : j < us.length) (h2 : j < ws.length), SeqAt.EqP X.prog X.w A s us[j] ws[j] true
  | [], [], _, _, _, _, _, .nil, .nil, .nil, .nil => ⟨rfl, fun j h => absurd h (Nat.not_lt_zero j)⟩
  | d :: ds, e :: es, _, _, _, _, h, .cons r rs, .cons t ts, .cons a as, .cons b bs => by
    simp only [all2B, Bool.and_eq_true] at h
    obtain ⟨l, k⟩ := all2_run ih h.2 rs ts as bs
    refine ⟨by simp [l], fun j h1 h2 => ?_⟩
    cases j with
    | zero => exact ih _ _ _ _ _ _ h.1 r t a b
    | succ j => exact k j (Nat.lt_of_succ_lt_succ h1) (Nat.lt_of_succ_lt_succ h2)
  | [], _ :: _, _, _, _, _, h, _, _, _, _ => by simp [all2B] at h
  | _ :: _, [], _, _, _, _, h, _, _, _, _ => by simp [all2B] at h
theorem dic_run (ih : RunE X A s H f) {ls : List (Key × V)} {es : List D} {vb : List (Key × Value)} (re : Rps X.K H (ls.map (·.2)) es) (rb : KV ls vb) : ∀ {kvs : List (Key × V)} {ds : List D} {va : List (Key × Value)}, dicB f (ls.map fun p => kD p.1) es (kvs.map fun p => kD p.1) ds = true → Rps X.K H (kvs.map (·.2)) ds → KV kvs va →
    PySem.W.KeqHitsP X.prog X.w A s vb va true
  | [], _, _, _, .nil, .nil => .nil
  | (k, x) :: kvs, d :: ds, (k2, v) :: va, h, .cons r rs, .cons a as => by
    simp only [List.map_cons, dicB, Bool.and_eq_true] at h
    obtain ⟨h1, h2⟩ := h
    obtain ⟨ek, rv⟩ := a
    have ek' : k = k2 := ek
    subst ek'
    have g := dGet_val k re
    cases e : dGet (ls.map fun p => kD p.1) es (kD k) with
    | none => rw [e] at h1; cases h1
    | some u =>
      rw [e] at h1 g
      obtain ⟨y, hy, ry⟩ := g
      have rr : RelO (some y) (valueAt vb k) := by rw [← hy]; exact rb.val k
      obtain ⟨w, hw, rw'⟩ := rr.some_of
      show PySem.W.KeqHitsP X.prog X.w A s vb ((k, v) :: va) (true && true)
      exact .hit hw (ih _ _ _ _ _ _ h1 r ry rv rw') (dic_run ih re rb h2 rs as)
theorem eqS_run (I : Inv X pins σ H s) (hu : A.units < cLine) (ih : RunE X A.in1 s H f) {d e : D} {x y : V} {v u : Value} (h : eqS f d e = true) (r1 : Rp X.K H x d) (r2 : Rp X.K H y e) (rx : RelV x v) (ry : RelV y u) :
    ∃ a b, v = .ref a ∧ u = .ref b ∧ (∀ E Q : Value → Shared → Prop, Q (.bool true) s → wpAny (model X.prog X.w) A (richCompare .Eq (.ref a) (.ref b)) Q E s) ∧
      (isLst d = true → ∀ E Q : Value → Shared → Prop, Q (.bool false) s → wpAny (model X.prog X.w) A (richCompare .NotEq (.ref a) (.ref b)) Q E s) := by
  unfold eqS at h
  split at h
  · obtain ⟨a, xs, rfl, g1, s1⟩ := r1.lstI
    obtain ⟨b, ys, rfl, g2, s2⟩ := r2.lstI
    cases (show v = Value.ref a from rx)
    cases (show u = Value.ref b from ry)
    obtain ⟨us, w1, p1, _⟩ := I.list (.inl g1)
    obtain ⟨ws, w2, p2, _⟩ := I.list (.inl g2)
    obtain ⟨l, k⟩ := all2_run ih h s1 s2 w1 w2
    have sz : us.toArray.size = ws.toArray.size := by simpa using l
    have it : ∀ j (h1 : j < us.toArray.size) (h2 : j < ws.toArray.size), SeqAt.EqP X.prog X.w A.in1 s us.toArray[j] ws.toArray[j] true := fun j h1 h2 => by
      have := k j (by simpa using h1) (by simpa using h2)
      simpa using this
    refine ⟨a, b, rfl, rfl, fun E Q q => ?_, fun _ E Q q => ?_⟩
    · refine SeqAt.rcP_lists (e := fun _ => true) p1.isList p2.isList sz hu it E Q ?_
      rw [show ((List.range us.toArray.size).all fun _ => true) = true from List.all_eq_true.mpr fun _ _ => rfl]
      exact q
    · exact SeqAt.mp_rcNe p1.isList p2.isList sz hu it E Q q
  · rename_i ks vs ms ws
    simp only [Bool.and_eq_true, decide_eq_true_eq] at h
    cases r1 with
    | @dic a kvs _ g1 n1 k1 s1 =>
      cases r2 with
      | @dic b lvs _ g2 n2 k2 s2 =>
        cases (show v = Value.ref a from rx)
        cases (show u = Value.ref b from ry)
        obtain ⟨_, ya, va, ra, da⟩ := (show ObjOk X.prog X.w H s.heap a (.dK kvs) from I.hok a _ g1)
        obtain ⟨_, yb, vb, rb, db⟩ := (show ObjOk X.prog X.w H s.heap b (.dK lvs) from I.hok b _ g2)
        refine ⟨a, b, rfl, rfl, fun E Q q => ?_, fun hl => by cases hl⟩
        refine PySem.W.rcP_dicts (knd := mixKind X.prog X.w) (r := true) ya yb da db hu (fun _ => dic_run ih s2 rb h.2 s1 ra) E Q ?_
        have el : va.length = vb.length := by
          rw [← ra.length, ← rb.length]
          simpa using h.1
        rw [show (va.length == vb.length && true) = true from by rw [el]; simp]
        exact q
  · cases h
theorem eqL_run (I : Inv X pins σ H s) (hu : A.units + 56 < cLine) : RunE X A s H eqL := by
  intro d e x y v u h r1 r2 rx ry
  simp only [eqL, Bool.and_eq_true, decide_eq_true_eq] at h
  obtain ⟨p1, p2, dd, h⟩ := h
  obtain ⟨as, a1⟩ := r1.reads I rx p1
  obtain ⟨bs, a2⟩ := r2.reads I ry p2
  have := SeqAt.eqAt_reads d.py e.py A s v u as bs a1 a2 (r1.lay p1) (r2.lay p2) (by rw [py_dep d p1]; omega)
  rw [py_eq _ _ p1 p2, h] at this
  exact this.eqP
theorem eqK_run (I : Inv X pins σ H s) : ∀ (n : Nat) (A : Around), A.units + n + 56 < cLine → RunE X A s H (eqK n)
  | 0, A, hu => eqL_run I (by omega)
  | n + 1, A, hu => by
    intro d e x y v u h r1 r2 rx ry
    simp only [eqK, Bool.or_eq_true] at h
    rcases h with h | h
    · exact eqL_run I (by omega) d e x y v u h r1 r2 rx ry
    · obtain ⟨a, b, rfl, rfl, st, _⟩ := eqS_run I (A := A) (by omega) (eqK_run I n A.in1 (by show A.units + 1 + n + 56 < cLine; omega)) h r1 r2 rx ry
      by_cases e : a = b
      · subst e; exact (SeqAt.EqAt.same _).eqP
      · exact SeqAt.eqP_refs e st
end
section
variable {X : Cx}
def rCmp (K : PySem.W.Frag) (op : CmpOp) : R2 := fun x y H Q => ∃ F d e b, Same F H ∧ Vw K F H x d ∧ Vw K F H y e ∧ cmpD op d e = some b ∧ Q (.bl b) H
theorem op_cmpD (hw : X.w = HasW.w) (hu : X.A.units + 64 < cLine) (op : CmpOp) : OpR X (compareOp op) (rCmp X.K op) := by
  intro pins s σ H x y v u Q I rx ry h
  obtain ⟨F, d, e, b, sb, vx, vy, hb, q⟩ := h
  unfold cmpD at hb
  split at hb
  · rename_i xs
    cases hb
    obtain ⟨a, rfl, hs⟩ := vx.scr sb
    have r2 := vy.rp sb
    obtain ⟨as, a1⟩ := Dp.reads I (.list (xs.map PyData.int)) _ _ (.lst hs (dp_ints xs)) rx
    obtain ⟨bs, a2⟩ := r2.reads I ry (by rfl)
    refine SeqAt.compareNe_reads a1 a2 (by simp only [PyData.canLay0]; exact lay_ints xs) (r2.lay (by rfl)) (by simp only [D.py, D.pys, PyData.depth, PyData.depthAll]; omega) ?_
    have e : PyData.eqv (.list (xs.map PyData.int)) (D.lst []).py = xs.isEmpty := by
      cases xs <;> simp [D.py, D.pys, PyData.eqv, PyData.eqvAll]
    rw [e]
    exact ⟨.bl _, H, I, rfl, q⟩
  · split at hb
    · rename_i hf
      cases hb
      obtain ⟨p1, p2, dm⟩ := eqOk_iff hf
      have r1 := vx.rp sb
      have r2 := vy.rp sb
      obtain ⟨as, a1⟩ := r1.reads I rx p1
      obtain ⟨bs, a2⟩ := r2.reads I ry p2
      refine SeqAt.compareEq_reads a1 a2 (r1.lay p1) (r2.lay p2) (by omega) ?_
      rw [py_eq _ _ p1 p2]
      exact ⟨.bl _, H, I, rfl, q⟩
    · split at hb
      · rename_i hk
        cases hb
        obtain ⟨a, b, rfl, rfl, st, _⟩ := eqS_run I (A := X.A) (by omega) (eqK_run I 3 X.A.in1 (by show X.A.units + 1 + 3 + 56 < cLine; omega)) hk (vx.rp sb) (vy.rp sb) rx ry
        exact st _ _ ⟨.bl _, H, I, rfl, q⟩
      · cases hb
  · split at hb
    · rename_i hf
      cases hb
      obtain ⟨p1, p2, dm⟩ := eqOk_iff hf
      have r1 := vx.rp sb
      have r2 := vy.rp sb
      obtain ⟨as, a1⟩ := r1.reads I rx p1
      obtain ⟨bs, a2⟩ := r2.reads I ry p2
      refine SeqAt.compareNe_reads a1 a2 (r1.lay p1) (r2.lay p2) (by omega) ?_
      rw [py_eq _ _ p1 p2]
      exact ⟨.bl _, H, I, rfl, q⟩
    · split at hb
      · rename_i hk
        cases hb
        rw [Bool.and_eq_true] at hk
        obtain ⟨a, b, rfl, rfl, _, st⟩ := eqS_run I (A := X.A) (by omega) (eqK_run I 3 X.A.in1 (by show X.A.units + 1 + 3 + 56 < cLine; omega)) hk.2 (vx.rp sb) (vy.rp sb) rx ry
        exact st hk.1 _ _ ⟨.bl _, H, I, rfl, q⟩
      · cases hb
  · cases vx.int; cases vy.int; cases hb
    exact op_lt pins s σ H _ _ v u Q I rx ry ⟨_, _, rfl, rfl, q⟩
  · cases vx.int; cases vy.int; cases hb
    exact op_le pins s σ H _ _ v u Q I rx ry ⟨_, _, rfl, rfl, q⟩
  · cases vx.int; cases vy.int; cases hb
    exact op_gt pins s σ H _ _ v u Q I rx ry ⟨_, _, rfl, rfl, q⟩
  · cases vx.int; cases vy.int; cases hb
    exact op_ge pins s σ H _ _ v u Q I rx ry ⟨_, _, rfl, rfl, q⟩
  · cases vy.non
    cases hb
    refine op_isN pins s σ H _ _ v u Q I rx ry ⟨rfl, ?_⟩
    have e : decide (x = V.non) = isNon d := by
      have r := vx.rp sb
      cases r <;> simp [isNon]
    rw [e]; exact q
  · cases vy.non
    cases hb
    refine op_notN pins s σ H _ _ v u Q I rx ry ⟨rfl, ?_⟩
    have e : (!decide (x = V.non)) = !isNon d := by
      have r := vx.rp sb
      cases r <;> simp [isNon]
    rw [e]; exact q
  · cases vx.bl; cases vy.bl; cases hb
    refine op_isBl pins s σ H _ _ v u Q I rx ry ⟨_, _, rfl, rfl, ?_⟩
    rw [← Bool.beq_eq_decide_eq]; exact q
  · cases vx.bl; cases vy.bl; cases hb
    refine op_notBl pins s σ H _ _ v u Q I rx ry ⟨_, _, rfl, rfl, ?_⟩
    rw [← Bool.beq_eq_decide_eq]; exact q
  · split at hb
    · rename_i hf
      cases hb
      obtain ⟨p1, p2, dm⟩ := eqOk_iff hf
      have r1 := vx.rp sb
      have r2 := vy.rp sb
      obtain ⟨as, a1⟩ := r1.reads I rx p1
      obtain ⟨bs, a2⟩ := r2.reads I ry p2
      have l2 := r2.lay p2
      simp only [D.py] at a2
      simp only [D.py, PyData.canLay0] at l2
      simp only [D.py, PyData.depth] at dm
      refine SeqAt.in_list_reads a2 a1 l2 (r1.lay p1) (by omega) ?_
      rw [pys_any (by simpa [D.plain] using p2) p1]
      exact ⟨.bl _, H, I, rfl, q⟩
    · cases hb
  · split at hb
    · rename_i hf
      cases hb
      obtain ⟨p1, p2, dm⟩ := eqOk_iff hf
      have r1 := vx.rp sb
      have r2 := vy.rp sb
      obtain ⟨as, a1⟩ := r1.reads I rx p1
      obtain ⟨bs, a2⟩ := r2.reads I ry p2
      have l2 := r2.lay p2
      simp only [D.py] at a2
      simp only [D.py, PyData.canLay0] at l2
      simp only [D.py, PyData.depth] at dm
      refine SeqAt.notIn_list_reads a2 a1 l2 (r1.lay p1) (by omega) ?_
      rw [pys_any (by simpa [D.plain] using p2) p1]
      exact ⟨.bl _, H, I, rfl, q⟩
    · cases hb
  · split at hb
    · rename_i hf
      cases hb
      obtain ⟨p1, p2, dm⟩ := eqOk_iff hf
      have r1 := vx.rp sb
      have r2 := vy.rp sb
      obtain ⟨as, a1⟩ := r1.reads I rx p1
      obtain ⟨bs, a2⟩ := r2.reads I ry p2
      have l2 := r2.lay p2
      simp only [D.py] at a2
      simp only [D.py, PyData.canLay0] at l2
      simp only [D.py, PyData.depth] at dm
      refine SeqAt.in_tuple_reads a2 a1 l2 (r1.lay p1) (by omega) ?_
      rw [pys_any (by simpa [D.plain] using p2) p1]
      exact ⟨.bl _, H, I, rfl, q⟩
    · split at hb
      · rename_i hz
        cases hb
        rw [Bool.and_eq_true] at hz
        exact (op_odd (by omega) I sb hz.1 hz.2 vx vy rx ry).1 _ ⟨.bl _, H, I, rfl, q⟩
      · cases hb
  · split at hb
    · rename_i hf
      cases hb
      obtain ⟨p1, p2, dm⟩ := eqOk_iff hf
      have r1 := vx.rp sb
      have r2 := vy.rp sb
      obtain ⟨as, a1⟩ := r1.reads I rx p1
      obtain ⟨bs, a2⟩ := r2.reads I ry p2
      have l2 := r2.lay p2
      simp only [D.py] at a2
      simp only [D.py, PyData.canLay0] at l2
      simp only [D.py, PyData.depth] at dm
      refine SeqAt.notIn_tuple_reads a2 a1 l2 (r1.lay p1) (by omega) ?_
      rw [pys_any (by simpa [D.plain] using p2) p1]
      exact ⟨.bl _, H, I, rfl, q⟩
    · split at hb
      · rename_i hz
        cases hb
        rw [Bool.and_eq_true] at hz
        exact (op_odd (by omega) I sb hz.1 hz.2 vx vy rx ry).2 _ ⟨.bl _, H, I, rfl, q⟩
      · cases hb
  · split at hb
    · rename_i ks vs hk
      cases hb
      obtain ⟨a, kvs, rfl, h1, rfl, g, ok, r1⟩ := vy.dic sb
      obtain ⟨k, rfl, rfl, _⟩ := isKey_k vx hk
      have := dGet_val k r1
      cases ry
      refine d_in (by omega) I (DGet.k (k := k) h1) rx fun s3 I3 => ⟨.bl _, H, I3, rfl, ?_⟩
      cases e : dGet (kvs.map fun p => kD p.1) _ (kD k) with
      | none => rw [e] at this q; rw [this]; exact q
      | some d => rw [e] at this q; obtain ⟨z, hz, _⟩ := this; rw [hz]; exact q
    · cases hb
  · split at hb
    · rename_i ks vs hk
      cases hb
      obtain ⟨a, kvs, rfl, h1, rfl, g, ok, r1⟩ := vy.dic sb
      obtain ⟨k, rfl, rfl, _⟩ := isKey_k vx hk
      have := dGet_val k r1
      cases ry
      refine d_notIn (by omega) I (DGet.k (k := k) h1) rx fun s3 I3 => ⟨.bl _, H, I3, rfl, ?_⟩
      cases e : dGet (kvs.map fun p => kD p.1) _ (kD k) with
      | none => rw [e] at this q; rw [this]; exact q
      | some d => rw [e] at this q; obtain ⟨z, hz, _⟩ := this; rw [hz]; exact q
    · cases hb
  · obtain ⟨rfl, _, _⟩ := vx.str
    cases hb
    exact op_in_cd hw I vy rx ry q
  · obtain ⟨rfl, _, _⟩ := vx.str
    cases hb
    exact op_notIn_cd hw I vy rx ry q
  · split at hb
    · rename_i hk
      cases hb
      exact op_in_td hw (by omega) I sb vy vx hk rx ry q
    · cases hb
  · split at hb
    · rename_i hk
      cases hb
      exact op_notIn_td hw (by omega) I sb vy vx hk rx ry q
    · cases hb
  · obtain ⟨rfl, _, _⟩ := vx.str
    obtain ⟨rfl, _, _⟩ := vy.str
    cases hb
    refine op_in_sign pins s σ H _ _ v u Q I rx ry ⟨_, _, rfl, rfl, ?_⟩
    rw [any_one] at q; exact q
  · obtain ⟨rfl, _, _⟩ := vx.str
    obtain ⟨rfl, _, _⟩ := vy.str
    cases hb
    refine op_notIn_sign pins s σ H _ _ v u Q I rx ry ⟨_, _, rfl, rfl, ?_⟩
    rw [any_one] at q; exact q
  · exact op_cmpD2 hu op I rx ry sb vx vy hb q
end
end MP

namespace MP
open PySem PySem.Spec PyProof.Rows L2
variable [HasW]

def SndT (X : Cx) (cn : List Str) (W : WX) (x : Expr) (r : Env → R Bool) : Prop :=
  ∀ (ρ : Env) (F H : Hp) (as : List Addr) (σ : L2.St) (Q : Bool → Hp → Prop), EnvR X.K F H σ ρ as → as.Nodup → Same F H →
    (r ρ).wp (fun b ρ' => ∀ F' H' as', Stp F H as F' H' as' → EnvR X.K F' H' σ ρ' as' → as'.Nodup → Same F' H' → Q b H') (ExP X cn W F H as σ) → WT X x σ H Q
section
variable {X : Cx} {cn : List Str} {W : WX} {F F1 H H1 : Hp} {as as1 : List Addr} {σ : L2.St}
theorem ExP.trans {c : Nat} {ps : List D} {ρ : Env} (h : ExP X cn W F H as σ c ps ρ) (t : Stp F H as F1 H1 as1) : ExP X cn W F1 H1 as1 σ c ps ρ :=
  fun cls d F' H' as' t' e n s x => h cls d F' H' as' (t.trans t') e n s x
theorem OkP.trans {Q : VK} {s : Sl} {ρ : Env} (h : OkP X F H as σ Q s ρ) (t : Stp F H as F1 H1 as1) : OkP X F1 H1 as1 σ Q s ρ :=
  fun v F' H' a as' t' e r n sb => h v F' H' a as' (t.trans t') e r n sb
end
theorem sub_r {a b : List Addr} : ∀ x ∈ b, x ∈ a ++ b := fun _ h => List.mem_append_right _ h
theorem nd_r {a b : List Addr} (h : (a ++ b).Nodup) : b.Nodup := (nodup_app.mp h).2.1
theorem nd_dis {a b : List Addr} (h : (a ++ b).Nodup) : ∀ x ∈ a, x ∉ b := (nodup_app.mp h).2.2
section
variable {X : Cx} {N : List Str} {sc : Scope} {cn : List Str} {W : WX} {n : Nat} {C : Ctx} {pos : Pos} {xa xb xc : Expr} {a b c : E}

/-- two operands, the left one first -/
theorem two {ra rb : Env → R Bv} (ha : SndB X cn W xa ra) (hb : SndB X cn W xb rb) {ρ : Env} {F H : Hp} {as : List Addr} {σ : L2.St} {R : V → V → Hp → Prop} {P : Bv → Bv → Env → Prop} (e : EnvR X.K F H σ ρ as) (nd : as.Nodup) (sub : Same F H)
    (w : (ra ρ).wp (fun x ρ1 => (rb ρ1).wp (fun y ρ2 => P x y ρ2) (ExP X cn W F H as σ)) (ExP X cn W F H as σ))
    (k : ∀ x y ρ2 v1 v2 F2 H2 a1 a2 as2, P x y ρ2 → Stp F H as F2 H2 (a1 ++ (a2 ++ as2)) → EnvR X.K F2 H2 σ ρ2 as2 → RBv X.K F2 H2 σ v1 x a1 → RBv X.K F2 H2 σ v2 y a2 → (a1 ++ (a2 ++ as2)).Nodup → Same F2 H2 → R v1 v2 H2) :
    WE X xa σ H fun v1 H1 => WE X xb σ H1 fun v2 H2 => R v1 v2 H2 := by
  refine ha ρ F H as σ _ e nd sub (wp_mono w (fun x ρ1 w1 v1 F1 H1 a1 as1 t1 e1 r1 n1 s1 => ?_) fun _ _ _ z => z)
  have t1' : Stp F H as F1 H1 as1 := t1.sub sub_r
  refine hb ρ1 F1 H1 as1 σ _ e1 (nd_r n1) s1 (wp_mono w1 (fun y ρ2 w2 v2 F2 H2 a2 as2 t2 e2 r2 n2 s2 => ?_) fun _ _ _ z => z.trans t1')
  refine k x y ρ2 v1 v2 F2 H2 a1 a2 as2 w2 (t1.trans t2.frame) e2 (r1.step t2 (nd_dis n1)) r2 ?_ s2
  exact nodup_app.mpr ⟨(nodup_app.mp n1).1, n2, t2.apart (fun b hb => (r1.there b hb).1) (nd_dis n1)⟩
theorem wp_view {α : Type} {x : Bv} {ρ : Env} {f : D → R α} {ok : α → Env → Prop} {ex : Nat → List D → Env → Prop} (h : (view1 x ρ f).wp ok ex) : ∃ d, x.view ρ = some d ∧ (f d).wp ok ex := by
  unfold view1 at h
  split at h
  · exact ⟨_, by assumption, h⟩
  · exact h.elim
theorem wp_test {α : Type} {d : D} {f : Bool → R α} {ok : α → Env → Prop} {ex : Nat → List D → Env → Prop} (h : (R.test d f).wp ok ex) : ∃ b, d.truth = some b ∧ (f b).wp ok ex := by
  unfold R.test at h
  split at h
  · exact ⟨_, by assumption, h⟩
  · exact h.elim
theorem RBv.vw {K : PySem.W.Frag} {F H : Hp} {as a : List Addr} {σ : L2.St} {ρ : Env} {v : V} {b : Bv} {d : D} (r : RBv K F H σ v b a) (e : EnvR K F H σ ρ as) (h : b.view ρ = some d) : Vw K F H v d := by
  obtain ⟨s, c, q, z, _⟩ := r.view e h
  exact ⟨s, c, q, z⟩
theorem snd_bin {op : Operator} (ha : SndB X cn W xa (bvOf a (evE C a))) (hb : SndB X cn W xb (bvOf b (evE C b))) : SndE X cn W (.BinOp xa op xb pos) (evE C (.bin op a b)) := by
  intro ρ F H as σ Q e nd sub w
  simp only [evE, wp_bind] at w
  refine we_of (pe_op (op_bin op) pe_w pe_w) (two ha hb e nd sub w fun x y ρ2 v1 v2 F2 H2 a1 a2 as2 w2 t2 e2 r1 r2 n2 s2 => ?_)
  obtain ⟨d, hd, w2⟩ := wp_view w2
  obtain ⟨f, hf, w2⟩ := wp_view w2
  obtain ⟨s, hs, w2⟩ := wp_ofO w2
  exact ⟨F2, d, f, s, s2, r1.vw e2 hd, r2.vw e2 hf, hs, fun z F' H' a' nw => w2.new t2 e2 (fun _ hx => sub_r _ (sub_r _ hx)) (nd_r (nd_r n2)) nw⟩
theorem snd_cmp {op : CmpOp} (hw : X.w = HasW.w) (hu : X.A.units + 64 < cLine) (hm : behindInMarks op xb = false) (ha : SndB X cn W xa (bvOf a (evE C a))) (hb : SndB X cn W xb (bvOf b (evE C b))) : SndE X cn W (.Compare xa [op] [xb] pos) (evE C (.cmp op a b)) := by
  intro ρ F H as σ Q e nd sub w
  simp only [evE, wp_bind] at w
  refine we_of (pe_cmpR (op_cmpD hw hu op) pe_w pe_w hm) (two ha hb e nd sub w fun x y ρ2 v1 v2 F2 H2 a1 a2 as2 w2 t2 e2 r1 r2 n2 s2 => ?_)
  obtain ⟨d, hd, w2⟩ := wp_view w2
  obtain ⟨f, hf, w2⟩ := wp_view w2
  obtain ⟨s, hs, w2⟩ := wp_ofO w2
  cases q : cmpD op d f with
  | none => rw [q] at hs; simp at hs
  | some k =>
    rw [q] at hs
    simp only [Option.map_some, Option.some.injEq] at hs
    subst hs
    exact ⟨F2, d, f, k, s2, r1.vw e2 hd, r2.vw e2 hf, q, w2.new t2 e2 (fun _ hx => sub_r _ (sub_r _ hx)) (nd_r (nd_r n2)) (New.dat s2 (.bl k))⟩
theorem snd_cmpT {op : CmpOp} (hw : X.w = HasW.w) (hu : X.A.units + 64 < cLine) (hm : behindInMarks op xb = false) (ha : SndB X cn W xa (bvOf a (evE C a))) (hb : SndB X cn W xb (bvOf b (evE C b))) : SndT X cn W (.Compare xa [op] [xb] pos) (fun ρ => tst (evE C (.cmp op a b) ρ)) := by
  intro ρ F H as σ Q e nd sub w
  simp only [evE, tst, wp_bind] at w
  refine wt_of (pt_cmpR (op_cmpD hw hu op) pe_w pe_w hm) (two ha hb e nd sub w fun x y ρ2 v1 v2 F2 H2 a1 a2 as2 w2 t2 e2 r1 r2 n2 s2 => ?_)
  obtain ⟨d, hd, w2⟩ := wp_view w2
  obtain ⟨f, hf, w2⟩ := wp_view w2
  obtain ⟨s, hs, w2⟩ := wp_ofO w2
  cases q : cmpD op d f with
  | none => rw [q] at hs; simp at hs
  | some k =>
    rw [q] at hs
    simp only [Option.map_some, Option.some.injEq] at hs
    subst hs
    refine ⟨F2, d, f, k, s2, r1.vw e2 hd, r2.vw e2 hf, q, k, rfl, ?_⟩
    exact w2 F2 H2 as2 (t2.sub fun _ hx => sub_r _ (sub_r _ hx)) e2 (nd_r (nd_r n2)) s2
/-- truth -/
theorem tru {K : PySem.W.Frag} {F H : Hp} {v : V} {d : D} {k : Bool} (r : Rp K H v d) (h : d.truth = some k) : TruV K v H k := by
  cases r with
  | non => simp only [D.truth, Option.some.injEq] at h; exact h.symm
  | bl b => simp only [D.truth, Option.some.injEq] at h; exact h.symm
  | int i => simp only [D.truth, Option.some.injEq] at h; exact h.symm
  | str x o l =>
    simp only [D.truth, Option.some.injEq] at h
    refine ⟨by rw [SX_len, line_eq]; exact l, ?_⟩
    rw [SX_len, ← h]
    cases x with
    | nil => rfl
    | cons c r => simp only [List.isEmpty_cons, Bool.not_false, List.length_cons]; symm; rw [bne_iff_ne]; omega
  | tup s r =>
    simp only [D.truth, Option.some.injEq] at h
    refine .inr (.inl ⟨_, sqX_t s, ?_⟩)
    rw [← h]; cases r <;> rfl
  | pr _ _ => simp only [D.truth, reduceCtorEq] at h
  | lst s r =>
    simp only [D.truth, Option.some.injEq] at h
    refine .inl ⟨_, .inl s, ?_⟩
    rw [← h]; cases r <;> rfl
  | dic _ _ _ _ => simp only [D.truth, reduceCtorEq] at h
  | cdic _ _ _ _ _ => simp only [D.truth, reduceCtorEq] at h
  | tdic _ _ _ _ _ _ _ => simp only [D.truth, reduceCtorEq] at h
  | exn _ _ => simp only [D.truth, reduceCtorEq] at h
  | obj _ _ _ _ => simp only [D.truth, reduceCtorEq] at h
  | @scr a xs s =>
    simp only [D.truth, Option.some.injEq] at h
    refine .inl ⟨_, s, ?_⟩
    rw [← h]; cases xs <;> rfl
def plainT : Expr → Bool
  | .UnaryOp .Not _ _ => false
  | .BoolOp _ _ _ => false
  | .IfExp _ _ _ _ => false
  | .Compare _ _ _ _ => false
  | _ => true
theorem plainT_ok {x : Expr} (h : plainT x = true) {env : PySem.Env} : ∀ whole, isTrue x env whole = (do let v ← whole; standAt x.pos; holding [v] (truthy v)) := by
  intro whole
  cases x with
  | UnaryOp op e p => cases op <;> first | rfl | (simp [plainT] at h)
  | BoolOp _ _ _ => simp [plainT] at h
  | IfExp _ _ _ _ => simp [plainT] at h
  | Compare _ _ _ _ => simp [plainT] at h
  | _ => rfl
/-- an operand's truth, where nothing is special about it -/
theorem snd_tB {x : Expr} {r : Env → R Bv} (hp : plainT x = true) (h : SndB X cn W x r) : SndT X cn W x (fun ρ => testB (r ρ)) := by
  intro ρ F H as σ Q e nd sub w
  simp only [testB, wp_bind] at w
  refine wt_of (pt_truth pe_w (plainT_ok hp)) ?_
  refine h ρ F H as σ _ e nd sub (wp_mono w (fun x ρ1 w1 v1 F1 H1 a1 as1 t1 e1 r1 n1 s1 => ?_) fun _ _ _ z => z)
  obtain ⟨d, hd, w2⟩ := wp_view w1
  obtain ⟨k, hk, w2⟩ := wp_test w2
  exact ⟨k, tru (F := F1) ((r1.vw e1 hd).rp s1) hk, w2 F1 H1 as1 (t1.sub sub_r) e1 (nd_r n1) s1⟩
theorem snd_tE {x : Expr} {r : Env → R Sl} (hp : plainT x = true) (h : SndE X cn W x r) : SndT X cn W x (fun ρ => tst (r ρ)) := by
  intro ρ F H as σ Q e nd sub w
  simp only [tst, wp_bind] at w
  refine wt_of (pt_truth pe_w (plainT_ok hp)) ?_
  refine h ρ F H as σ _ e nd sub (wp_mono w (fun s ρ1 w1 v1 F1 H1 a1 as1 t1 e1 r1 n1 s1 => ?_) fun _ _ _ z => z)
  obtain ⟨k, hk, w2⟩ := wp_test w1
  exact ⟨k, tru (F := F1) (r1.look s1) hk, w2 F1 H1 as1 (t1.sub sub_r) e1 (nd_r n1) s1⟩
/-- the operand's truth by the expression's, where it is no name -/
def isVar : E → Bool
  | .var _ => true
  | _ => false
theorem bvOf_tmp {r : Env → R Sl} {ρ : Env} (h : isVar a = false) : bvOf a r ρ = (r ρ).bind fun s ρ => .ok (.tmp s) ρ := by
  cases a <;> first | rfl | (simp [isVar] at h)
theorem testB_tst {r : Env → R Sl} {ρ : Env} (h : isVar a = false) : testB (bvOf a r ρ) = tst (r ρ) := by
  rw [bvOf_tmp h]
  cases r ρ <;> rfl
/-- not -/
theorem snd_not (ha : SndT X cn W xa (fun ρ => testB (bvOf a (evE C a) ρ))) : SndT X cn W (.UnaryOp .Not xa pos) (fun ρ => tst (evE C (.notE a) ρ)) := by
  intro ρ F H as σ Q e nd sub w
  simp only [evE, tst, wp_bind] at w
  refine wt_of (pt_not pt_w) ?_
  exact ha ρ F H as σ _ e nd sub (wp_mono w (fun b ρ1 w1 F1 H1 as1 t1 e1 n1 s1 => w1 F1 H1 as1 t1 e1 n1 s1) fun _ _ _ z => z)
theorem snd_notE (ha : SndB X cn W xa (bvOf a (evE C a))) : SndE X cn W (.UnaryOp .Not xa pos) (evE C (.notE a)) := by
  intro ρ F H as σ Q e nd sub w
  simp only [evE, testB, wp_bind] at w
  refine we_of (pe_notT pe_w) ?_
  refine ha ρ F H as σ _ e nd sub (wp_mono w (fun x ρ1 w1 v1 F1 H1 a1 as1 t1 e1 r1 n1 s1 => ?_) fun _ _ _ z => z)
  obtain ⟨d, hd, w2⟩ := wp_view w1
  obtain ⟨k, hk, w2⟩ := wp_test w2
  exact ⟨k, tru (F := F1) ((r1.vw e1 hd).rp s1) hk, OkP.new w2 (t1.sub sub_r) e1 (fun _ h => h) (nd_r n1) (New.dat s1 (.bl _))⟩
/-- and, or -/
theorem snd_and {r : List Expr} (ha : SndE X cn W xa (evE C a)) (hb : SndE X cn W (.BoolOp .And (xb :: r) pos) (evE C b)) : SndE X cn W (.BoolOp .And (xa :: xb :: r) pos) (evE C (.and a b)) := by
  intro ρ F H as σ Q e nd sub w
  simp only [evE, wp_bind] at w
  refine we_of (pe_andT pe_w pe_w) ?_
  refine ha ρ F H as σ _ e nd sub (wp_mono w (fun s ρ1 w1 v1 F1 H1 a1 as1 t1 e1 r1 n1 s1 => ?_) fun _ _ _ z => z)
  obtain ⟨k, hk, w2⟩ := wp_test w1
  refine ⟨k, tru (F := F1) (r1.look s1) hk, ?_⟩
  cases k with
  | true => exact hb ρ1 F1 H1 as1 σ Q e1 (nd_r n1) s1 (wp_mono w2 (fun s ρ2 z => z.trans (t1.sub sub_r)) fun _ _ _ z => z.trans (t1.sub sub_r))
  | false => exact w2 v1 F1 H1 a1 as1 t1 e1 r1 n1 s1
theorem snd_or {r : List Expr} (ha : SndE X cn W xa (evE C a)) (hb : SndE X cn W (.BoolOp .Or (xb :: r) pos) (evE C b)) : SndE X cn W (.BoolOp .Or (xa :: xb :: r) pos) (evE C (.or a b)) := by
  intro ρ F H as σ Q e nd sub w
  simp only [evE, wp_bind] at w
  refine we_of (pe_orT pe_w pe_w) ?_
  refine ha ρ F H as σ _ e nd sub (wp_mono w (fun s ρ1 w1 v1 F1 H1 a1 as1 t1 e1 r1 n1 s1 => ?_) fun _ _ _ z => z)
  obtain ⟨k, hk, w2⟩ := wp_test w1
  refine ⟨k, tru (F := F1) (r1.look s1) hk, ?_⟩
  cases k with
  | true => exact w2 v1 F1 H1 a1 as1 t1 e1 r1 n1 s1
  | false => exact hb ρ1 F1 H1 as1 σ Q e1 (nd_r n1) s1 (wp_mono w2 (fun s ρ2 z => z.trans (t1.sub sub_r)) fun _ _ _ z => z.trans (t1.sub sub_r))
theorem snd_one {op : BoolOp} {r : Env → R Sl} (ha : SndE X cn W xa r) : SndE X cn W (.BoolOp op [xa] pos) r := fun ρ F H as σ Q e nd sub w => we_of (pe_one pe_w) (ha ρ F H as σ Q e nd sub w)
/-- as tests -/
def SndW (X : Cx) (cn : List Str) (W : WX) (x : Expr) (r : Env → R Bool) : Prop :=
  ∀ (ρ : Env) (F H : Hp) (as : List Addr) (σ : L2.St) (Q : Bool → Hp → Prop), EnvR X.K F H σ ρ as → as.Nodup → Same F H →
    (r ρ).wp (fun b ρ' => ∀ F' H' as', Stp F H as F' H' as' → EnvR X.K F' H' σ ρ' as' → as'.Nodup → Same F' H' → Q b H') (ExP X cn W F H as σ) →
    ∀ whole pins s, Inv X pins σ H s → wpAny (model X.prog X.w) X.A (isTrue x X.env whole) (TP X pins σ Q) X.xe s
def WW (X : Cx) (x : Expr) : TT := fun σ H Q => ∀ whole pins s, Inv X pins σ H s → wpAny (model X.prog X.w) X.A (isTrue x X.env whole) (TP X pins σ Q) X.xe s
theorem pw_w {X : Cx} {x : Expr} : PW X x (WW X x) := ⟨fun whole pins s σ H Q I h => h whole pins s I⟩
theorem SndW.t {x : Expr} {r : Env → R Bool} (h : SndW X cn W x r) : SndT X cn W x r := fun ρ F H as σ Q e nd sub w pins s I => h ρ F H as σ Q e nd sub w _ pins s I
theorem tst_and {ρ : Env} : tst (evE C (.and a b) ρ) = (tst (evE C a ρ)).bind fun t ρ => if t then tst (evE C b ρ) else .ok false ρ := by
  simp only [evE, tst]
  cases evE C a ρ with
  | ok s ρ1 =>
    simp only [R.bind, R.test]
    cases h : s.cap.truth with
    | none => rfl
    | some k => cases k <;> simp [h]
  | exc _ _ _ => rfl
  | stuck => rfl
theorem tst_or {ρ : Env} : tst (evE C (.or a b) ρ) = (tst (evE C a ρ)).bind fun t ρ => if t then .ok true ρ else tst (evE C b ρ) := by
  simp only [evE, tst]
  cases evE C a ρ with
  | ok s ρ1 =>
    simp only [R.bind, R.test]
    cases h : s.cap.truth with
    | none => rfl
    | some k => cases k <;> simp [h]
  | exc _ _ _ => rfl
  | stuck => rfl
theorem sndw_one {op : BoolOp} {r : Env → R Bool} (ha : SndT X cn W xa r) : SndW X cn W (.BoolOp op [xa] pos) r := by
  intro ρ F H as σ Q e nd sub w whole pins s I
  cases op with
  | And => exact (pw_and1 (pt_w (x := xa))).run whole pins s σ H Q I (ha ρ F H as σ Q e nd sub w)
  | Or => exact (pw_or1 (pt_w (x := xa))).run whole pins s σ H Q I (ha ρ F H as σ Q e nd sub w)
theorem sndw_and {r : List Expr} (ha : SndT X cn W xa (fun ρ => tst (evE C a ρ))) (hb : SndW X cn W (.BoolOp .And (xb :: r) pos) (fun ρ => tst (evE C b ρ))) : SndW X cn W (.BoolOp .And (xa :: xb :: r) pos) (fun ρ => tst (evE C (.and a b) ρ)) := by
  intro ρ F H as σ Q e nd sub w whole pins s I
  simp only [tst_and, wp_bind] at w
  refine (pw_and pt_w pw_w).run whole pins s σ H Q I ?_
  refine ha ρ F H as σ _ e nd sub (wp_mono w (fun k ρ1 w1 F1 H1 as1 t1 e1 n1 s1 => ?_) fun _ _ _ z => z)
  cases k with
  | true =>
    show (if true = true then _ else _)
    rw [if_pos rfl]
    exact fun whole pins s I => hb ρ1 F1 H1 as1 σ Q e1 n1 s1 (wp_mono w1 (fun b ρ2 z F' H' as' t' => z F' H' as' (t1.trans t')) fun _ _ _ z => z.trans t1) whole pins s I
  | false =>
    show (if false = true then _ else _)
    rw [if_neg Bool.false_ne_true]
    exact w1 F1 H1 as1 t1 e1 n1 s1
theorem sndw_or {r : List Expr} (ha : SndT X cn W xa (fun ρ => tst (evE C a ρ))) (hb : SndW X cn W (.BoolOp .Or (xb :: r) pos) (fun ρ => tst (evE C b ρ))) : SndW X cn W (.BoolOp .Or (xa :: xb :: r) pos) (fun ρ => tst (evE C (.or a b) ρ)) := by
  intro ρ F H as σ Q e nd sub w whole pins s I
  simp only [tst_or, wp_bind] at w
  refine (pw_or pt_w pw_w).run whole pins s σ H Q I ?_
  refine ha ρ F H as σ _ e nd sub (wp_mono w (fun k ρ1 w1 F1 H1 as1 t1 e1 n1 s1 => ?_) fun _ _ _ z => z)
  cases k with
  | true =>
    show (if true = true then _ else _)
    rw [if_pos rfl]
    exact w1 F1 H1 as1 t1 e1 n1 s1
  | false =>
    show (if false = true then _ else _)
    rw [if_neg Bool.false_ne_true]
    exact fun whole pins s I => hb ρ1 F1 H1 as1 σ Q e1 n1 s1 (wp_mono w1 (fun b ρ2 z F' H' as' t' => z F' H' as' (t1.trans t')) fun _ _ _ z => z.trans t1) whole pins s I
/-- a if c else b -/
theorem snd_ite (hc : SndT X cn W xc (fun ρ => testB (bvOf c (evE C c) ρ))) (ha : SndE X cn W xa (evE C a)) (hb : SndE X cn W xb (evE C b)) : SndE X cn W (.IfExp xc xa xb pos) (evE C (.ite c a b)) := by
  intro ρ F H as σ Q e nd sub w
  simp only [evE, wp_bind] at w
  refine we_of (pe_ifExp pt_w pe_w pe_w) ?_
  refine hc ρ F H as σ _ e nd sub (wp_mono w (fun k ρ1 w1 F1 H1 as1 t1 e1 n1 s1 => ?_) fun _ _ _ z => z)
  cases k with
  | true =>
    show (if true = true then _ else _)
    rw [if_pos rfl]
    exact ha ρ1 F1 H1 as1 σ Q e1 n1 s1 (wp_mono w1 (fun s ρ2 z => z.trans t1) fun _ _ _ z => z.trans t1)
  | false =>
    show (if false = true then _ else _)
    rw [if_neg Bool.false_ne_true]
    exact hb ρ1 F1 H1 as1 σ Q e1 n1 s1 (wp_mono w1 (fun s ρ2 z => z.trans t1) fun _ _ _ z => z.trans t1)
/-- -a -/
theorem snd_neg (ha : SndE X cn W xa (evE C a)) : SndE X cn W (.UnaryOp .USub xa pos) (evE C (.neg a)) := by
  intro ρ F H as σ Q e nd sub w
  simp only [evE, wp_bind] at w
  refine we_of (pe_un un_neg pe_w) ?_
  refine ha ρ F H as σ _ e nd sub (wp_mono w (fun s ρ1 w1 v1 F1 H1 a1 as1 t1 e1 r1 n1 s1 => ?_) fun _ _ _ z => z)
  split at w1
  · rename_i i hi
    have hv : Vw X.K F1 H1 v1 (.int i) := ⟨s, a1, r1, hi⟩
    cases hv.int
    exact ⟨i, rfl, OkP.new w1 (t1.sub sub_r) e1 (fun _ h => h) (nd_r n1) (New.dat s1 (.int _))⟩
  · exact w1.elim
/-- three operands for a chain -/
theorem snd_cmp2 {o1 o2 : CmpOp} (hw : X.w = HasW.w) (hu : X.A.units + 64 < cLine) (hm : lastMarks [o1, o2] [xb, xc] = false) (ha : SndB X cn W xa (bvOf a (evE C a))) (hb : SndB X cn W xb (bvOf b (evE C b))) (hc : SndB X cn W xc (bvOf c (evE C c))) :
    SndE X cn W (.Compare xa [o1, o2] [xb, xc] pos) (evE C (.cmp2 o1 o2 a b c)) := by
  intro ρ F H as σ Q e nd sub w
  simp only [evE, wp_bind] at w
  refine we_of (pe_chain (op_cmpD hw hu o1) (op_cmpD hw hu o2) pe_w pe_w pe_w hm) (two ha hb e nd sub w fun x y ρ2 v1 v2 F2 H2 a1 a2 as2 w2 t2 e2 r1 r2 n2 s2 => ?_)
  obtain ⟨d, hd, w2⟩ := wp_view w2
  obtain ⟨f, hf, w2⟩ := wp_view w2
  have t2' : Stp F H as F2 H2 as2 := t2.sub fun _ hx => sub_r _ (sub_r _ hx)
  have n2' := nd_r n2
  split at w2
  · rename_i hk
    refine ⟨F2, d, f, true, s2, r1.vw e2 hd, r2.vw e2 hf, hk, true, rfl, ?_⟩
    rw [if_pos rfl]
    simp only [wp_bind] at w2
    refine hc ρ2 F2 H2 as2 σ _ e2 (nd_r n2') s2 (wp_mono w2 (fun z ρ3 w3 v3 F3 H3 a3 as3 t3 e3 r3 n3 s3 => ?_) fun _ _ _ z => z.trans t2')
    obtain ⟨f2, hf2, w3⟩ := wp_view w3
    obtain ⟨g, hg, w3⟩ := wp_view w3
    obtain ⟨s, hs, w3⟩ := wp_ofO w3
    cases q : cmpD o2 f2 g with
    | none => rw [q] at hs; simp at hs
    | some k =>
      rw [q] at hs
      simp only [Option.map_some, Option.some.injEq] at hs
      subst hs
      have r2' := r2.step t3 (nd_dis n2')
      exact ⟨F3, f2, g, k, s3, r2'.vw e3 hf2, r3.vw e3 hg, q, OkP.new (OkP.trans w3 t2') (t3.sub sub_r) e3 (fun _ h => h) (nd_r n3) (New.dat s3 (.bl k))⟩
  · rename_i hk
    refine ⟨F2, d, f, false, s2, r1.vw e2 hd, r2.vw e2 hf, hk, false, rfl, ?_⟩
    rw [if_neg Bool.false_ne_true]
    exact OkP.new w2 t2' e2 (fun _ h => h) (nd_r n2') (New.dat s2 (.bl false))
  · exact w2.elim
theorem snd_cmp2T {o1 o2 : CmpOp} (hw : X.w = HasW.w) (hu : X.A.units + 64 < cLine) (hm : lastMarks [o1, o2] [xb, xc] = false) (ha : SndB X cn W xa (bvOf a (evE C a))) (hb : SndB X cn W xb (bvOf b (evE C b))) (hc : SndB X cn W xc (bvOf c (evE C c))) :
    SndT X cn W (.Compare xa [o1, o2] [xb, xc] pos) (fun ρ => tst (evE C (.cmp2 o1 o2 a b c) ρ)) := by
  intro ρ F H as σ Q e nd sub w
  simp only [evE, tst, wp_bind] at w
  refine wt_of (pt_chain (op_cmpD hw hu o1) (op_cmpD hw hu o2) pe_w pe_w pe_w hm) (two ha hb e nd sub w fun x y ρ2 v1 v2 F2 H2 a1 a2 as2 w2 t2 e2 r1 r2 n2 s2 => ?_)
  obtain ⟨d, hd, w2⟩ := wp_view w2
  obtain ⟨f, hf, w2⟩ := wp_view w2
  have t2' : Stp F H as F2 H2 as2 := t2.sub fun _ hx => sub_r _ (sub_r _ hx)
  have n2' := nd_r n2
  split at w2
  · rename_i hk
    refine ⟨F2, d, f, true, s2, r1.vw e2 hd, r2.vw e2 hf, hk, true, rfl, ?_⟩
    rw [if_pos rfl]
    simp only [wp_bind] at w2
    refine hc ρ2 F2 H2 as2 σ _ e2 (nd_r n2') s2 (wp_mono w2 (fun z ρ3 w3 v3 F3 H3 a3 as3 t3 e3 r3 n3 s3 => ?_) fun _ _ _ z => z.trans t2')
    obtain ⟨f2, hf2, w3⟩ := wp_view w3
    obtain ⟨g, hg, w3⟩ := wp_view w3
    obtain ⟨s, hs, w3⟩ := wp_ofO w3
    cases q : cmpD o2 f2 g with
    | none => rw [q] at hs; simp at hs
    | some k =>
      rw [q] at hs
      simp only [Option.map_some, Option.some.injEq] at hs
      subst hs
      have r2' := r2.step t3 (nd_dis n2')
      exact ⟨F3, f2, g, k, s3, r2'.vw e3 hf2, r3.vw e3 hg, q, k, rfl, w3 F3 H3 as3 (t2'.trans (t3.sub sub_r)) e3 (nd_r n3) s3⟩
  · rename_i hk
    refine ⟨F2, d, f, false, s2, r1.vw e2 hd, r2.vw e2 hf, hk, false, rfl, ?_⟩
    rw [if_neg Bool.false_ne_true]
    exact ⟨false, rfl, w2 F2 H2 as2 t2' e2 (nd_r n2') s2⟩
  · exact w2.elim
end
end MP

namespace MP
open PySem PySem.Spec PyProof.Rows L2
variable [HasW]

inductive RBvs (K : PySem.W.Frag) (F H : Hp) (σ : L2.St) : List V → List Bv → List Addr → Prop
  | nil : RBvs K F H σ [] [] []
  | cons {v : V} {b : Bv} {a as : List Addr} {vs : List V} {bs : List Bv} : RBv K F H σ v b a → RBvs K F H σ vs bs as → RBvs K F H σ (v :: vs) (b :: bs) (a ++ as)
section
variable {K : PySem.W.Frag} {F F' H H' : Hp} {as as' a : List Addr} {σ : L2.St} {ρ ρ' : Env} {vs : List V} {bs : List Bv} {ss : List Sl}
theorem RBvs.step (r : RBvs K F H σ vs bs a) (t : Stp F H as F' H' as') (n : ∀ x ∈ a, x ∉ as) : RBvs K F' H' σ vs bs a := by
  induction r with
  | nil => exact .nil
  | cons r _ ih => exact .cons (r.step t fun x hx => n x (List.mem_append_left _ hx)) (ih fun x hx => n x (List.mem_append_right _ hx))
theorem RBvs.there (r : RBvs K F H σ vs bs a) : ∀ x ∈ a, (∃ o, H x = some o) ∧ F x = none := by
  induction r with
  | nil => intro x hx; cases hx
  | cons r _ ih =>
    intro x hx
    rcases List.mem_append.mp hx with z | z
    · exact r.there x z
    · exact ih x z
theorem RBvs.length (r : RBvs K F H σ vs bs a) : vs.length = bs.length := by
  induction r with
  | nil => rfl
  | cons _ _ ih => simp [ih]
theorem RpSs.length (r : RpSs K F H vs ss a) : vs.length = ss.length := by
  induction r using RpSs.ind with
  | nil => rfl
  | cons _ _ ih => simp [ih]
/-- the things are taken: places are left empty -/
theorem takes_ok (r : RBvs K F H σ vs bs a) : ∀ {ρ ρ' : Env} {as : List Addr} {ss : List Sl}, EnvR K F H σ ρ as → takes bs ρ = some (ss, ρ') → ∃ a' as', RpSs K F H vs ss a' ∧ EnvR K F H σ ρ' as' ∧ (a ++ as).Perm (a' ++ as') := by
  induction r with
  | nil =>
    intro ρ ρ' as ss e h
    simp only [takes, Option.some.injEq, Prod.mk.injEq] at h
    obtain ⟨rfl, rfl⟩ := h
    exact ⟨[], as, .nil, e, .refl _⟩
  | @cons v b a0 as0 vs bs r rr ih =>
    intro ρ ρ' as ss e h
    cases r with
    | @pl i v hi =>
      simp only [takes] at h
      cases q : getS ρ i with
      | none => rw [q] at h; simp at h
      | some s =>
        rw [q] at h
        simp only [Option.bind_some] at h
        cases q2 : takes bs (ρ.set i .un) with
        | none => rw [q2] at h; simp at h
        | some p =>
          rw [q2] at h
          simp only [Option.map_some, Option.some.injEq, Prod.mk.injEq] at h
          obtain ⟨rfl, rfl⟩ := h
          obtain ⟨g1, g2⟩ := getS_some q
          obtain ⟨v', c, a1, e1, rs, em, pm⟩ := e.out g1 g2
          rw [hi] at e1; cases e1
          obtain ⟨a'', as'', r2, e2, p2⟩ := ih em q2
          refine ⟨c ++ a'', as'', .cons rs r2, e2, ?_⟩
          rw [List.nil_append]
          refine (List.Perm.append_left as0 pm).trans ?_
          rw [← List.append_assoc]
          refine (List.Perm.append_right a1 List.perm_append_comm).trans ?_
          rw [List.append_assoc, List.append_assoc]
          exact List.Perm.append_left c p2
    | @tmp v s a1 rs =>
      simp only [takes] at h
      cases q2 : takes bs ρ with
      | none => rw [q2] at h; simp at h
      | some p =>
        rw [q2] at h
        simp only [Option.map_some, Option.some.injEq, Prod.mk.injEq] at h
        obtain ⟨rfl, rfl⟩ := h
        obtain ⟨a'', as'', r2, e2, p2⟩ := ih e q2
        refine ⟨a0 ++ a'', as'', .cons rs r2, e2, ?_⟩
        rw [List.append_assoc, List.append_assoc]
        exact List.Perm.append_left a0 p2
inductive Vws (K : PySem.W.Frag) (F H : Hp) : List V → List D → Prop
  | nil : Vws K F H [] []
  | cons {v : V} {d : D} {vs : List V} {ds : List D} : Vw K F H v d → Vws K F H vs ds → Vws K F H (v :: vs) (d :: ds)
theorem views_ok (r : RBvs K F H σ vs bs a) : ∀ {ds : List D}, EnvR K F H σ ρ as → views bs ρ = some ds → Vws K F H vs ds := by
  induction r with
  | nil =>
    intro ds e h
    simp only [views, Option.some.injEq] at h
    subst h; exact .nil
  | @cons v b a0 as0 vs bs r rr ih =>
    intro ds e h
    simp only [views] at h
    cases q : b.view ρ with
    | none => rw [q] at h; simp at h
    | some d =>
      rw [q] at h
      cases q2 : views bs ρ with
      | none => rw [q2] at h; simp at h
      | some l =>
        rw [q2] at h
        simp only [Option.bind_some, Option.map_some, Option.some.injEq] at h
        subst h
        exact .cons (r.vw e q) (ih e q2)
end
def OkA (X : Cx) (k : Nat) (F H : Hp) (as : List Addr) (σ : L2.St) (Q : List V → Hp → Prop) : List Bv → Env → Prop := fun bs ρ' =>
  ∀ vs F' H' a as', Stp F H as F' H' (a ++ as') → EnvR X.K F' H' σ ρ' as' → RBvs X.K F' H' σ vs bs a → (a ++ as').Nodup → Same F' H' → vs.length = k → Q vs H'
def SndA (X : Cx) (cn : List Str) (W : WX) (xs : List Expr) (r : Env → R (List Bv)) : Prop :=
  ∀ (ρ : Env) (F H : Hp) (as : List Addr) (σ : L2.St) (Q : List V → Hp → Prop), EnvR X.K F H σ ρ as → as.Nodup → Same F H →
    (r ρ).wp (OkA X xs.length F H as σ Q) (ExP X cn W F H as σ) → WA X xs σ H Q
def noStar : Expr → Bool
  | .Starred _ _ => false
  | _ => true
theorem starEach_cons {x : Expr} {xs : List Expr} {env : PySem.Env} (h : noStar x = true) : starEach (x :: xs) env = (false, eval x env) :: starEach xs env := by
  cases x <;> first | rfl | (simp [noStar] at h)
section
variable {X : Cx} {N : List Str} {sc : Scope} {cn : List Str} {W : WX} {n : Nat} {C : Ctx} {pos : Pos} {xa xb xc : Expr} {a b c : E} {xs : List Expr} {es : EL}
theorem snda_nil : SndA X cn W [] (fun ρ => .ok [] ρ) := fun ρ F H as σ Q e nd sub w => wa_of pa_nil (w [] F H [] as Stp.refl e .nil nd sub rfl)
theorem snda_cons {r : Env → R Bv} {rs : Env → R (List Bv)} (hs : noStar xa = true) (ha : SndB X cn W xa r) (hb : SndA X cn W xs rs) : SndA X cn W (xa :: xs) (fun ρ => (r ρ).bind fun b ρ => (rs ρ).bind fun bs ρ => .ok (b :: bs) ρ) := by
  intro ρ F H as σ Q e nd sub w
  simp only [wp_bind] at w
  refine wa_of (pa_cons pe_w pa_w (starEach_cons hs)) ?_
  refine ha ρ F H as σ _ e nd sub (wp_mono w (fun x ρ1 w1 v1 F1 H1 a1 as1 t1 e1 r1 n1 s1 => ?_) fun _ _ _ z => z)
  have t1' : Stp F H as F1 H1 as1 := t1.sub sub_r
  refine hb ρ1 F1 H1 as1 σ _ e1 (nd_r n1) s1 (wp_mono w1 (fun y ρ2 w2 v2 F2 H2 a2 as2 t2 e2 r2 n2 s2 l2 => ?_) fun _ _ _ z => z.trans t1')
  refine w2 (v1 :: v2) F2 H2 (a1 ++ a2) as2 ?_ e2 (.cons (r1.step t2 (nd_dis n1)) r2) ?_ s2 (by simp [l2])
  · rw [List.append_assoc]; exact t1.trans t2.frame
  · rw [List.append_assoc]
    exact nodup_app.mpr ⟨(nodup_app.mp n1).1, n2, t2.apart (fun b hb => (r1.there b hb).1) (nd_dis n1)⟩
/-- things handed on, told as data from now on -/
theorem OkP.cap {F H F1 H1 : Hp} {as a1 as1 : List Addr} {σ : L2.St} {Q : VK} {ρ1 ρ2 : Env} {vs : List V} {bs : List Bv} {ss : List Sl} {s : Sl} (t : Stp F H as F1 H1 (a1 ++ as1)) (e : EnvR X.K F1 H1 σ ρ1 as1) (r : RBvs X.K F1 H1 σ vs bs a1) (nd : (a1 ++ as1).Nodup) (sub : Same F1 H1)
    (h : takes bs ρ1 = some (ss, ρ2)) : ∃ F2 as2, Stp F H as F2 H1 as2 ∧ EnvR X.K F2 H1 σ ρ2 as2 ∧ Rps X.K F2 vs (ss.map Sl.cap) ∧ as2.Nodup ∧ Same F2 H1 := by
  obtain ⟨a', as', rs, e2, pm⟩ := takes_ok r e h
  have nd2 := pm.nodup_iff.mp nd
  refine ⟨frzH F1 H1 a', as', ?_, ?_, rs.capture sub a' fun _ h => h, nd_r nd2, frzH_sub sub⟩
  · exact t.trans (frzH_stp sub (fun b hb => pm.mem_iff.mpr (List.mem_append_left _ hb)) fun b hb => pm.mem_iff.mpr (List.mem_append_right _ hb))
  · exact e2.step (frzH_stp (as := a') (as' := a') sub (fun _ z => z) fun _ z => z) fun x hx z => nd_dis nd2 x z hx
theorem snd_tup {j : Nat} (hl : xs.length ≤ 1000) (ha : SndA X cn W xs (evArgs C es)) : SndE X cn W (.Tuple xs j pos) (evE C (.tup es)) := by
  intro ρ F H as σ Q e nd sub w
  simp only [evE, wp_bind] at w
  refine we_of (pe_tupX pa_w) ?_
  refine ha ρ F H as σ _ e nd sub (wp_mono w (fun bs ρ1 w1 vs F1 H1 a1 as1 t1 e1 r1 n1 s1 l1 => ?_) fun _ _ _ z => z)
  split at w1
  · rename_i ss ρ2 ht
    obtain ⟨F2, as2, t2, e2, r2, n2, s2⟩ := OkP.cap (s := .un) (Q := Q) t1 e1 r1 n1 s1 ht
    exact ⟨by rw [l1, line_eq]; omega, fun p o ho hp => OkP.new w1 t2 e2 (fun _ h => h) n2 (New.tup ho s2 hp r2)⟩
  · exact w1.elim
theorem snd_lst (hl : xs.length ≤ 1000) (ha : SndA X cn W xs (evArgs C es)) : SndE X cn W (.List xs pos) (evE C (.lst es)) := by
  intro ρ F H as σ Q e nd sub w
  simp only [evE, wp_bind] at w
  refine we_of (pe_lst pa_w) ?_
  refine ha ρ F H as σ _ e nd sub (wp_mono w (fun bs ρ1 w1 vs F1 H1 a1 as1 t1 e1 r1 n1 s1 l1 => ?_) fun _ _ _ z => z)
  split at w1
  · rename_i ss ρ2 ht
    obtain ⟨F2, as2, t2, e2, r2, n2, s2⟩ := OkP.cap (s := .un) (Q := Q) t1 e1 r1 n1 s1 ht
    exact ⟨by rw [l1, line_eq]; omega, fun p hp => OkP.new w1 t2 e2 (fun _ h => h) n2 (New.lst s2 hp r2)⟩
  · exact w1.elim

/-! ### subscripts -/
def noSl : Expr → Bool
  | .Slice _ _ _ _ => false
  | _ => true
theorem noSl_ok {x : Expr} (h : noSl x = true) : ∀ o i, subscripted x false o i = operate [o, i] (getItem o i) := by
  intro o i
  cases x <;> first | rfl | (simp [noSl] at h)
theorem subTail {prog : Program} {w : World} {A : Around} {E : Value → Shared → Prop} {s : Shared} {value slice : Expr} {o i : Value} {T id : String} {Q : Value → Shared → Prop}
    (hl : typeLookup (.type T) "__getitem__" = pure (some (.builtin id))) (hs : subscripted slice false o i = operate [o, i] (getItem o i)) (hT : s.TypeIs o T)
    (h : wpAny (model prog w) A (getItem o i) Q E s) : wpAny (model prog w) A (subscriptTail value slice o i) Q E s := by
  unfold subscriptTail
  refine wpAny_bind ?_
  rw [getitemInPython_of_ne hT.not_modules]
  refine wpAny_bind (wpAny_specialOf hT hl ?_)
  have fin : wpAny (model prog w) A (subscripted slice false o i) (fun r s₃ => wpAny (model prog w) A (letTemporaryGo value o r >>= fun _ => pure r) Q E s₃) E s := by
    rw [hs]
    exact wpAny_operating (wpAny_mono h (fun r s₃ h₃ => wpAny_bind (wpAny_letTemporaryGo (wpAny_pure h₃))) fun _ _ x => x)
  first
    | exact wpAny_pure (wpAny_bind fin)
    | exact wpAny_bind fin
    | exact wpAny_pure fin
def rIxD (K : PySem.W.Frag) : R2 := fun x y H Q => ∃ F d e s, Same F H ∧ Vw K F H x d ∧ Vw K F H y e ∧ ixD d e = some s ∧ ∀ z, Rp K F z s → Q z H
theorem ix_data (hw : X.w = HasW.w) (hu : X.A.units + 64 < cLine) : IxR X (rIxD X.K) := by
  intro value slice pins s σ H x y v u Q I rx ry h hs
  obtain ⟨F, d, e, r, sb, vx, vy, hb, q⟩ := h
  unfold ixD at hb
  split at hb
  · rename_i xs i
    obtain ⟨a, vs, rfl, h1, r1⟩ := vx.tup
    cases vy.int
    have hv : ∃ z, atI vs i = some z ∧ Rp X.K F z r := by
      unfold atI at hb ⊢
      rw [r1.length]
      revert hb
      cases ixN _ _ with
      | none => intro hb; simp at hb
      | some j => intro hb; simpa using r1.get (by simpa using hb)
    obtain ⟨z, hz, rz⟩ := hv
    exact ix_tup value slice pins s σ H _ _ v u Q I rx ry ⟨a, vs, i, z, rfl, rfl, sqT_mono sb h1, hz, q z rz⟩ hs
  · rename_i xs i
    obtain ⟨a, vs, rfl, h1, r1⟩ := vx.lst sb
    cases vy.int
    have hv : ∃ z, atI vs i = some z ∧ Rp X.K F z r := by
      unfold atI at hb ⊢
      rw [r1.length]
      revert hb
      cases ixN _ _ with
      | none => intro hb; simp at hb
      | some j => intro hb; simpa using r1.get (by simpa using hb)
    obtain ⟨z, hz, rz⟩ := hv
    exact ix_list value slice pins s σ H _ _ v u Q I rx ry ⟨a, vs, i, z, rfl, rfl, .inl h1, hz, q z rz⟩ hs
  · rename_i xs i
    obtain ⟨a, rfl, h1⟩ := vx.scr sb
    cases vy.int
    cases hc : atI xs i with
    | none => rw [hc] at hb; simp at hb
    | some c =>
      rw [hc] at hb
      simp only [Option.map_some, Option.some.injEq] at hb
      subst hb
      refine ix_list value slice pins s σ H _ _ v u Q I rx ry ⟨a, xs.map V.int, i, .int c, rfl, rfl, h1, ?_, q _ (.int c)⟩ hs
      unfold atI at hc ⊢
      rw [List.length_map]
      revert hc
      cases ixN _ _ with
      | none => intro hc; simp at hc
      | some j =>
        intro hc
        have hc' : xs[j]? = some c := by simpa using hc
        simp [List.getElem?_map, hc']
  · rename_i x i
    obtain ⟨rfl, o, l⟩ := vx.str
    cases vy.int
    cases hc : atI x i with
    | none => rw [hc] at hb; simp at hb
    | some c =>
      rw [hc] at hb
      simp only [Option.map_some, Option.some.injEq] at hb
      subst hb
      refine ix_str value slice pins s σ H _ _ v u Q I rx ry ⟨_, _, c, rfl, rfl, by rw [SX_len, line_eq]; exact l, hc, q _ (.str [c] ?_ (by simp))⟩ hs
      obtain ⟨j, _, e2, _⟩ := atI_get hc
      have hm := List.mem_of_getElem? e2
      unfold strOkL at o ⊢
      rw [List.all_eq_true] at o
      simp only [List.all_cons, List.all_nil, Bool.and_true]
      exact o c hm
  · split at hb
    · rename_i hk
      obtain ⟨a, kvs, rfl, h1, rfl, g, ok, r1⟩ := vx.dic sb
      obtain ⟨k, rfl, rfl, _⟩ := isKey_k vy hk
      have := dGet_val k r1
      rw [hb] at this
      obtain ⟨z, hz, rz⟩ := this
      have hg : DGet H a (kV k) (some z) := by rw [← hz]; exact DGet.k h1
      cases rx
      exact subTail PySem.F.slot_dict_getitem.lookup hs (dict_typeIs I hg) (d_getItem (by omega) I hg ry fun w' s3 I3 rw' => ⟨z, H, I3, rw', q z rz⟩)
    · cases hb
  · rename_i ks ds x
    obtain ⟨rfl, o, l⟩ := vy.str
    obtain ⟨a, es, n, xs, vs, rfl, rfl, k, c, r1, _, _⟩ := vx.cdic
    rw [← hw] at k
    have := nsIn_ces k x c r1
    rw [hb] at this
    obtain ⟨u0, v0, h1, h2, h3⟩ := this
    exact ix_kdict value slice pins s σ H _ _ v u Q I rx ry ⟨a, SX x, v0, rfl, rfl, ⟨es, n, u0, k.at_, k.lit, h1, h2⟩, q v0 h3⟩ hs
  · split at hb
    · rename_i hk
      obtain ⟨ht, hg⟩ := td_get hw (by omega) I sb vx vy hk hb rx ry fun z w' s3 I3 rw' rz => (⟨z, H, I3, rw', q z rz⟩ : EP X pins σ Q w' s3)
      exact subTail PySem.F.slot_dict_getitem.lookup hs ht hg
    · cases hb
  · cases hb
end
end MP

namespace MP
open PySem PySem.Spec PyProof.Rows L2
variable [HasW]
section
variable {X : Cx} {N : List Str} {sc : Scope} {cn : List Str} {W : WX} {n : Nat} {C : Ctx} {pos : Pos} {xa xb xc : Expr} {a b c : E} {xs : List Expr} {es : EL}
theorem snd_ix (hw : X.w = HasW.w) (hu : X.A.units + 64 < cLine) (hs : noSl xb = true) (ha : SndB X cn W xa (bvOf a (evE C a))) (hb : SndB X cn W xb (bvOf b (evE C b))) : SndE X cn W (.Subscript xa xb pos) (evE C (.ix a b)) := by
  intro ρ F H as σ Q e nd sub w
  simp only [evE, wp_bind] at w
  refine we_of (pe_ix (ix_data hw hu) pe_w pe_w (noSl_ok hs)) (two ha hb e nd sub w fun x y ρ2 v1 v2 F2 H2 a1 a2 as2 w2 t2 e2 r1 r2 n2 s2 => ?_)
  obtain ⟨d, hd, w2⟩ := wp_view w2
  obtain ⟨f, hf, w2⟩ := wp_view w2
  obtain ⟨s, hs, w2⟩ := wp_ofO w2
  cases q : ixD d f with
  | none => rw [q] at hs; simp at hs
  | some k =>
    rw [q] at hs
    simp only [Option.map_some, Option.some.injEq] at hs
    subst hs
    exact ⟨F2, d, f, k, s2, r1.vw e2 hd, r2.vw e2 hf, q, fun z rz => OkP.new w2 t2 e2 (fun _ hx => sub_r _ (sub_r _ hx)) (nd_r (nd_r n2)) (New.dat s2 rz)⟩
/-! slices -/
def rSlD (K : PySem.W.Frag) : V → Option Int → Option Int → Hp → VK → Prop := fun x lo hi H Q => ∃ F d s, Same F H ∧ Vw K F H x d ∧ slD d lo hi = some s ∧ ∀ z F' H' a, New K F H z s F' H' a → Q z H'
theorem Rps.ofInts {K : PySem.W.Frag} {F : Hp} : ∀ {l : List Int}, Rps K F (l.map V.int) (l.map D.int)
  | [] => .nil
  | i :: _ => .cons (.int i) Rps.ofInts
theorem cutS_eq (x : List Nat) (lo hi : Option Int) : cutS (SX x) lo hi = SX (cutL x lo hi) := by
  unfold cutS cutL
  simp only [Str.length, List.size_toArray]
theorem strOk_cut {x : List Nat} {lo hi : Option Int} (h : strOkL x = true) : strOkL (cutL x lo hi) = true := by
  unfold strOkL at *
  rw [List.all_eq_true] at *
  intro c hc
  exact h c (List.mem_of_mem_drop (List.mem_of_mem_take hc))
theorem cutL_len {α : Type} (x : List α) (lo hi : Option Int) : (cutL x lo hi).length ≤ x.length := by
  unfold cutL; rw [List.length_take, List.length_drop]; omega
theorem sl_data : SlR X (rSlD X.K) := by
  intro pins s σ H x v vl vu lo hi sl Q I rx hs pl pu h
  obtain ⟨F, d, r, sb, vx, hb, q⟩ := h
  unfold slD at hb
  split at hb
  · cases hb
    obtain ⟨a, vs, rfl, x1, r1⟩ := vx.tupX
    have h1 := sqX_t x1
    refine sl_tupX pins s σ H _ v vl vu lo hi sl Q I rx hs pl pu ⟨a, vs, rfl, sqT_mono sb h1, fun z => ?_, fun _ p o ho hp => q _ _ _ _ (New.tup ho sb hp (r1.cut lo hi))⟩
    have e : cutV vs lo hi = vs := by
      unfold cutV; rw [z.1, z.2]; simp
    have r2 := r1.cut lo hi
    rw [e] at r2
    exact q _ _ _ _ (New.dat sb (.tup x1 r2))
  · cases hb
    obtain ⟨a, vs, rfl, h1, r1⟩ := vx.lst sb
    exact sl_list pins s σ H _ v vl vu lo hi sl Q I rx hs pl pu ⟨a, vs, rfl, .inl h1, fun p hp => q _ _ _ _ (New.lst sb hp (r1.cut lo hi))⟩
  · cases hb
    rename_i xs
    obtain ⟨a, rfl, h1⟩ := vx.scr sb
    refine sl_list pins s σ H _ v vl vu lo hi sl Q I rx hs pl pu ⟨a, xs.map V.int, rfl, h1, fun p hp => q _ _ _ _ (New.lst sb hp ?_)⟩
    have e : cutV (xs.map V.int) lo hi = (cutL xs lo hi).map V.int := by
      unfold cutV cutL
      rw [List.length_map, List.map_take, List.map_drop]
    rw [e]
    exact Rps.ofInts
  · cases hb
    obtain ⟨rfl, o, l⟩ := vx.str
    refine sl_str pins s σ H _ v vl vu lo hi sl Q I rx hs pl pu ⟨_, rfl, by rw [SX_len, line_eq]; exact l, ?_⟩
    rw [cutS_eq]
    exact q _ _ _ _ (New.dat sb (.str _ (strOk_cut o) (Nat.le_trans (cutL_len _ _ _) l)))
  · cases hb
theorem snd_slA {p2 : Pos} (ha : SndB X cn W xa (bvOf a (evE C a))) (hb : SndB X cn W xb (bvOf b (evE C b))) : SndE X cn W (.Subscript xa (.Slice (some xb) none none p2) pos) (evE C (.slA a b)) := by
  intro ρ F H as σ Q e nd sub w
  simp only [evE, wp_bind] at w
  refine we_of (pe_slice sl_data pe_w (po_some pe_w) po_none) (two ha hb e nd sub w fun x y ρ2 v1 v2 F2 H2 a1 a2 as2 w2 t2 e2 r1 r2 n2 s2 => ?_)
  obtain ⟨d, hd, w2⟩ := wp_view w2
  obtain ⟨f, hf, w2⟩ := wp_view w2
  split at w2
  · obtain ⟨s, hs, w2⟩ := wp_ofO w2
    exact ⟨_, (r2.vw e2 hf).int, F2, d, s, s2, r1.vw e2 hd, hs, fun z F' H' a' nw => w2.new t2 e2 (fun _ hx => sub_r _ (sub_r _ hx)) (nd_r (nd_r n2)) nw⟩
  · exact w2.elim
theorem snd_slB {p2 : Pos} (ha : SndB X cn W xa (bvOf a (evE C a))) (hb : SndB X cn W xb (bvOf b (evE C b))) : SndE X cn W (.Subscript xa (.Slice none (some xb) none p2) pos) (evE C (.slB a b)) := by
  intro ρ F H as σ Q e nd sub w
  simp only [evE, wp_bind] at w
  refine we_of (pe_slice sl_data pe_w po_none (po_some pe_w)) (two ha hb e nd sub w fun x y ρ2 v1 v2 F2 H2 a1 a2 as2 w2 t2 e2 r1 r2 n2 s2 => ?_)
  obtain ⟨d, hd, w2⟩ := wp_view w2
  obtain ⟨f, hf, w2⟩ := wp_view w2
  split at w2
  · obtain ⟨s, hs, w2⟩ := wp_ofO w2
    exact ⟨_, (r2.vw e2 hf).int, F2, d, s, s2, r1.vw e2 hd, hs, fun z F' H' a' nw => w2.new t2 e2 (fun _ hx => sub_r _ (sub_r _ hx)) (nd_r (nd_r n2)) nw⟩
  · exact w2.elim
theorem snd_sl {p2 : Pos} (ha : SndB X cn W xa (bvOf a (evE C a))) (hb : SndB X cn W xb (bvOf b (evE C b))) (hc : SndB X cn W xc (bvOf c (evE C c))) : SndE X cn W (.Subscript xa (.Slice (some xb) (some xc) none p2) pos) (evE C (.sl a b c)) := by
  intro ρ F H as σ Q e nd sub w
  simp only [evE, wp_bind] at w
  refine we_of (pe_slice sl_data pe_w (po_some pe_w) (po_some pe_w)) (two ha hb e nd sub w fun x y ρ2 v1 v2 F2 H2 a1 a2 as2 w2 t2 e2 r1 r2 n2 s2 => ?_)
  have t2' : Stp F H as F2 H2 as2 := t2.sub fun _ hx => sub_r _ (sub_r _ hx)
  have n2' := nd_r n2
  obtain ⟨f, hf, w2⟩ := wp_view w2
  split at w2
  · rename_i i
    simp only [wp_bind] at w2
    refine ⟨i, (r2.vw e2 hf).int, ?_⟩
    refine hc ρ2 F2 H2 as2 σ _ e2 (nd_r n2') s2 (wp_mono w2 (fun z ρ3 w3 v3 F3 H3 a3 as3 t3 e3 r3 n3 s3 => ?_) fun _ _ _ z => z.trans t2')
    obtain ⟨d, hd, w3⟩ := wp_view w3
    obtain ⟨g, hg, w3⟩ := wp_view w3
    split at w3
    · rename_i j
      obtain ⟨s, hs, w3⟩ := wp_ofO w3
      have r1' := r1.step t3 (fun b hb => fun z => nd_dis n2 b hb (List.mem_append_right _ z))
      exact ⟨j, (r3.vw e3 hg).int, F3, d, s, s3, r1'.vw e3 hd, hs, fun z F' H' a' nw => OkP.new (OkP.trans w3 t2') (t3.sub sub_r) e3 (fun _ h => h) (nd_r n3) nw⟩
    · exact w3.elim
  · exact w2.elim
/-! ### isinstance -/
def tyV : Ty → Option (Str × String)
  | .int => some ("int", "int")
  | .bool => some ("bool", "bool")
  | .str => some ("str", "str")
  | .list => some ("list", "list")
  | .tuple => some ("tuple", "tuple")
  | .dict => some ("dict", "dict")
  | .own _ => none
  | .owns _ => none
theorem tyX_tup {K : PySem.W.Frag} {H : Hp} {a : Addr} {xs : List V} (h : SqT K H a xs) : TyX K H (.ref a) (.type "tuple") := by
  rcases h with (h | ⟨o, h⟩) | ⟨o, its, n, h1, h2, _⟩
  · exact .base (.tup h)
  · exact .fTuple h
  · exact .kTuple h1 h2
theorem tyX_lst {K : PySem.W.Frag} {H : Hp} {a : Addr} {xs : List V} (h : Rd H a (.lst xs)) : TyX K H (.ref a) (.type "list") := by
  rcases h with h | ⟨o, h⟩
  · exact .base (.lst h)
  · exact .base (.frz h)
theorem tyX_sq {K : PySem.W.Frag} {H : Hp} {a : Addr} {xs : List V} (h : SqL K H a xs) : TyX K H (.ref a) (.type "list") := by
  rcases h with h | ⟨o, its, n, h1, h2, _⟩
  · exact tyX_lst h
  · exact .kList h1 h2
/-- what the class C of instances must say where isinstance is asked of one -/
structure InF (K : PySem.W.Frag) (C : Addr) : Prop where
  cls : Cls K C
  ha : PySem.W.findIn K (.ref C) "__class__" = some (some (.builtin "object.__class__"))
  hn : PySem.W.specialIn K (.builtin "object.__class__") "__get__" = some (some (.builtin "getset_descriptor.__get__"))
  ht : PySem.W.takesIn K (.builtin "object.__class__") = some true
  hm : PySem.W.mroIn K C (.type "object") = some true
  no : PySem.W.kitOne K (.ref C) (.type "str") = some false
theorem isi_obj {K : PySem.W.Frag} {H : Hp} {v : V} {c : Nat} {vs : List D} (hi : ∀ c C, clsI K c = some C → InF K C) (r : Rp K H v (.obj c vs)) : ∃ ty, TyX K H v ty ∧ PySem.W.kitOne K ty (.type "str") = some false := by
  cases r with
  | obj h1 h2 h3 h4 =>
    have Z := hi _ _ h1
    first
      | exact ⟨_, .base (.ins h2 Z.cls Z.ha Z.hn Z.ht Z.hm), Z.no⟩
      | exact ⟨_, .base (.ins h3 Z.cls Z.ha Z.hn Z.ht Z.hm), Z.no⟩
      | exact ⟨_, .base (.ins h4 Z.cls Z.ha Z.hn Z.ht Z.hm), Z.no⟩
theorem isi_ok {K : PySem.W.Frag} {H : Hp} {v : V} {d : D} {t : Ty} {b : Bool} {x : Str} {nm : String} (r : Rp K H v d) (no : ∀ c vs, d ≠ .obj c vs) (ht : tyV t = some (x, nm)) (h : isiD d t = some b) : ∃ ty, TyX K H v (.type ty) ∧ kitB ty nm = some b := by
  cases r with
  | non => refine ⟨_, .base .non, ?_⟩; cases t <;> simp only [tyV, Option.some.injEq, Prod.mk.injEq, reduceCtorEq] at ht <;> obtain ⟨-, rfl⟩ := ht <;> simp only [isiD, Option.some.injEq] at h <;> subst h <;> decide +kernel
  | bl q => refine ⟨_, .base (.bl q), ?_⟩; cases t <;> simp only [tyV, Option.some.injEq, Prod.mk.injEq, reduceCtorEq] at ht <;> obtain ⟨-, rfl⟩ := ht <;> simp only [isiD, Option.some.injEq] at h <;> subst h <;> decide +kernel
  | int q => refine ⟨_, .base (.int q), ?_⟩; cases t <;> simp only [tyV, Option.some.injEq, Prod.mk.injEq, reduceCtorEq] at ht <;> obtain ⟨-, rfl⟩ := ht <;> simp only [isiD, Option.some.injEq] at h <;> subst h <;> decide +kernel
  | str x _ _ => refine ⟨_, .base (.str _), ?_⟩; cases t <;> simp only [tyV, Option.some.injEq, Prod.mk.injEq, reduceCtorEq] at ht <;> obtain ⟨-, rfl⟩ := ht <;> simp only [isiD, Option.some.injEq] at h <;> subst h <;> decide +kernel
  | pr s _ => cases t <;> simp [isiD] at h
  | cdic _ _ _ _ _ => cases t <;> simp [isiD] at h
  | tdic _ _ _ _ _ _ _ => cases t <;> simp [isiD] at h
  | exn _ _ => cases t <;> simp [isiD, tyV] at h ht
  | obj _ _ _ _ => exact absurd rfl (no _ _)
  | tup s _ => refine ⟨_, tyX_tup (sqX_t s), ?_⟩; cases t <;> simp only [tyV, Option.some.injEq, Prod.mk.injEq, reduceCtorEq] at ht <;> obtain ⟨-, rfl⟩ := ht <;> simp only [isiD, Option.some.injEq] at h <;> subst h <;> decide +kernel
  | lst s _ => refine ⟨_, tyX_lst s, ?_⟩; cases t <;> simp only [tyV, Option.some.injEq, Prod.mk.injEq, reduceCtorEq] at ht <;> obtain ⟨-, rfl⟩ := ht <;> simp only [isiD, Option.some.injEq] at h <;> subst h <;> decide +kernel
  | scr s => refine ⟨_, tyX_sq s, ?_⟩; cases t <;> simp only [tyV, Option.some.injEq, Prod.mk.injEq, reduceCtorEq] at ht <;> obtain ⟨-, rfl⟩ := ht <;> simp only [isiD, reduceCtorEq] at h
  | dic s _ _ _ => refine ⟨_, .base (.dK s), ?_⟩; cases t <;> simp only [tyV, Option.some.injEq, Prod.mk.injEq, reduceCtorEq] at ht <;> obtain ⟨-, rfl⟩ := ht <;> simp only [isiD, Option.some.injEq] at h <;> subst h <;> decide +kernel
theorem boot_ty {t : Ty} {x : Str} {nm : String} (h : tyV t = some (x, nm)) : bootBuiltins x = some (.type nm) ∧ nmOk x = true := by
  cases t <;> simp only [tyV, Option.some.injEq, Prod.mk.injEq, reduceCtorEq] at h <;> obtain ⟨rfl, rfl⟩ := h <;> decide +kernel
theorem noStar_name {x : Str} {p : Pos} : noStar (.Name x p) = true := rfl
theorem snd_isi (G : Gd X N sc cn W n) (hi : ∀ c C, clsI X.K c = some C → InF X.K C) {t : Ty} {x : Str} {nm : String} {p p2 : Pos} (ht : tyV t = some (x, nm)) (hg : glC sc x = true) (hm : X.mg x = none) (g2 : glC sc "isinstance" = true) (m2 : X.mg "isinstance" = none) (hs : noStar xa = true)
    (ha : SndB X cn W xa (bvOf a (evE C a))) : SndE X cn W (.Call (.Name "isinstance" p) [xa, .Name x p2] [] pos) (evE C (.isi a t)) := by
  intro ρ F H as σ Q e nd sub w
  simp only [evE, wp_bind] at w
  obtain ⟨hb, hn⟩ := boot_ty ht
  have pt : PE X (.Name x p2) (tC (.ty nm)) := pe_bltn (v := .ty nm) (G.gl hg) hm hb rfl (nmOk_d hn).2.2 (nmOk_d hn).1
  refine we_of (pe_callB call_isi (G.gl g2) m2 (by decide +kernel) (pa_cons pe_w (pa_cons pt pa_nil (starEach_cons rfl)) (starEach_cons hs)) (by decide) (by decide) (starEach_cons hs) (by rw [starEach_cons rfl]; rfl)) ?_
  refine ha ρ F H as σ _ e nd sub (wp_mono w (fun x ρ1 w1 v1 F1 H1 a1 as1 t1 e1 r1 n1 s1 => ?_) fun _ _ _ z => z)
  obtain ⟨d, hd, w2⟩ := wp_view w1
  obtain ⟨s, hs, w2⟩ := wp_ofO w2
  cases q : isiD d t with
  | none => rw [q] at hs; simp at hs
  | some k =>
    rw [q] at hs
    simp only [Option.map_some, Option.some.injEq] at hs
    subst hs
    have key : ∃ ty, TyX X.K H1 v1 ty ∧ PySem.W.kitOne X.K ty (.type nm) = some k := by
      have rp := (r1.vw e1 hd).rp s1
      by_cases no : ∀ c vs, d ≠ .obj c vs
      · obtain ⟨ty, h1, h2⟩ := isi_ok rp no ht q
        exact ⟨_, h1, kit_ty h2⟩
      · obtain ⟨c, z⟩ := Classical.not_forall.mp no
        obtain ⟨vs, z⟩ := Classical.not_forall.mp z
        have z := Classical.not_not.mp z
        subst z
        cases t <;> simp only [isiD, Option.some.injEq, reduceCtorEq] at q
        subst q
        simp only [tyV, Option.some.injEq, Prod.mk.injEq] at ht
        obtain ⟨-, rfl⟩ := ht
        exact isi_obj hi rp
    obtain ⟨ty, h1, h2⟩ := key
    exact ⟨v1, .ty nm, ty, .type nm, k, rfl, .ty nm, h1, h2, OkP.new w2 (t1.sub sub_r) e1 (fun _ h => h) (nd_r n1) (New.dat s1 (.bl k))⟩
end
end MP

namespace MP
open PySem PySem.Spec PyProof.Rows L2
variable [HasW]
/-! dicts: puts and merges, by data -/
theorem putK_hit {k : Key} {y v' : V} {r : List (Key × V)} (n : k ∉ r.map (·.1)) : putK ((k, v') :: r) k y = (k, y) :: r := by
  unfold putK
  rw [if_pos (by simp)]
  rw [List.map_cons, if_pos rfl]
  congr 1
  have : ∀ l : List (Key × V), k ∉ l.map (·.1) → l.map (fun kv => if kv.1 = k then (kv.1, y) else kv) = l := by
    intro l
    induction l with
    | nil => intro _; rfl
    | cons p l ih =>
      intro h
      rw [List.map_cons, List.mem_cons, not_or] at h
      rw [List.map_cons, if_neg (fun z => h.1 z.symm), ih h.2]
  exact this r n
theorem putK_miss {k k' : Key} {y v' : V} {r : List (Key × V)} (e : ¬ k' = k) : putK ((k', v') :: r) k y = (k', v') :: putK r k y := by
  unfold putK
  by_cases h : (r.any fun kv => decide (kv.1 = k)) = true
  · rw [if_pos h, if_pos (by rw [List.any_cons, h, Bool.or_true]), List.map_cons, if_neg e]
  · rw [if_neg h, if_neg (by rw [List.any_cons, decide_eq_false e, Bool.false_or]; exact h)]
    rfl
theorem putK_mem {k : Key} {y : V} : ∀ {kvs : List (Key × V)} (z : Key), (kvs.map (·.1)).Nodup → (z ∈ (putK kvs k y).map (·.1) ↔ z = k ∨ z ∈ kvs.map (·.1))
  | [], z, _ => by simp [putK]
  | (k', v') :: r, z, nd => by
    rw [List.map_cons, List.nodup_cons] at nd
    by_cases e : k' = k
    · subst e
      rw [putK_hit nd.1]
      simp only [List.map_cons, List.mem_cons]
      constructor
      · intro h; exact .inr h
      · rintro (h | h)
        · exact .inl h
        · exact h
    · rw [putK_miss e, List.map_cons, List.mem_cons, putK_mem z nd.2, List.map_cons, List.mem_cons]
      constructor
      · rintro (h | h | h)
        · exact .inr (.inl h)
        · exact .inl h
        · exact .inr (.inr h)
      · rintro (h | h | h)
        · exact .inr (.inl h)
        · exact .inl h
        · exact .inr (.inr h)
theorem putK_nd {k : Key} {y : V} : ∀ {kvs : List (Key × V)}, (kvs.map (·.1)).Nodup → ((putK kvs k y).map (·.1)).Nodup
  | [], _ => by simp [putK]
  | (k', v') :: r, nd => by
    rw [List.map_cons, List.nodup_cons] at nd
    by_cases e : k' = k
    · subst e
      rw [putK_hit nd.1, List.map_cons, List.nodup_cons]
      exact nd
    · rw [putK_miss e, List.map_cons, List.nodup_cons]
      refine ⟨fun h => ?_, putK_nd nd.2⟩
      rcases (putK_mem (k := k) (y := y) k' nd.2).mp h with h | h
      · exact e h
      · exact nd.1 h
theorem dPut_ok {K : PySem.W.Frag} {F : Hp} (k : Key) {y : V} {d : D} (ry : Rp K F y d) : ∀ {kvs : List (Key × V)} {ds : List D}, (kvs.map (·.1)).Nodup → Rps K F (kvs.map (·.2)) ds →
    (dPut (kvs.map fun p => kD p.1) ds (kD k) d).1 = (putK kvs k y).map (fun p => kD p.1) ∧ Rps K F ((putK kvs k y).map (·.2)) (dPut (kvs.map fun p => kD p.1) ds (kD k) d).2
  | [], ds, _, r => by cases r; exact ⟨rfl, .cons ry .nil⟩
  | (k', v') :: r, ds, nd, h => by
    rw [List.map_cons, List.nodup_cons] at nd
    cases h with
    | @cons v vs d' ds hv ht =>
      have ih := dPut_ok k ry nd.2 ht
      simp only [List.map_cons, dPut]
      rw [kd_dec]
      by_cases e : k' = k
      · subst e
        simp only [decide_true, if_true]
        rw [putK_hit nd.1]
        exact ⟨rfl, .cons ry ht⟩
      · rw [decide_eq_false e]
        simp only [Bool.false_eq_true, if_false]
        rw [putK_miss e]
        refine ⟨?_, .cons hv ih.2⟩
        rw [List.map_cons, ih.1]
theorem dMerge_ok {K : PySem.W.Frag} {F : Hp} : ∀ {more kvs : List (Key × V)} {ds ws : List D}, (kvs.map (·.1)).Nodup → (∀ k ∈ kvs.map (·.1), keyOk k = true) → (∀ k ∈ more.map (·.1), keyOk k = true) → Rps K F (kvs.map (·.2)) ds → Rps K F (more.map (·.2)) ws →
    (dMerge (kvs.map fun p => kD p.1) ds (more.map fun p => kD p.1) ws).1 = (mergeK kvs more).map (fun p => kD p.1) ∧ Rps K F ((mergeK kvs more).map (·.2)) (dMerge (kvs.map fun p => kD p.1) ds (more.map fun p => kD p.1) ws).2 ∧
      ((mergeK kvs more).map (·.1)).Nodup ∧ ∀ k ∈ (mergeK kvs more).map (·.1), keyOk k = true
  | [], kvs, ds, ws, nd, ok, _, r, s => by cases s; simp only [List.map_nil, dMerge, mergeK, List.foldl_nil]; exact ⟨trivial, r, nd, ok⟩
  | (k, v) :: more, kvs, ds, ws, nd, ok, ok2, r, s => by
    cases s with
    | @cons v vs d ws hv ht =>
      obtain ⟨h1, h2⟩ := dPut_ok k hv nd r
      have ih := dMerge_ok (more := more) (kvs := putK kvs k v) (putK_nd (k := k) (y := v) nd) (fun z hz => by
        rcases (putK_mem z nd).mp hz with rfl | hz
        · exact ok2 _ List.mem_cons_self
        · exact ok z hz) (fun z hz => ok2 z (List.mem_cons_of_mem _ hz)) h2 ht
      simp only [List.map_cons, dMerge]
      rw [h1]
      simp only [mergeK, List.foldl_cons] at ih ⊢
      exact ih
end MP

namespace MP
open PySem PySem.Spec PyProof.Rows L2
/-! raw rules: built-ins over tuples -/
section
variable {prog : Program} {w : World} {A : Around} {E : Value → Shared → Prop} {s : Shared} {l : Addr} {its : List Value} {ns : List Int} {Q : Value → Shared → Prop}
theorem kept_old {o : Obj} {h' : Heap} (k : ∀ b u, b ∉ [s.heap.objs.size] → (s.heap.push o).get? b = some u → h'.get? b = some u) : ∀ b u, s.heap.get? b = some u → h'.get? b = some u := fun b u e =>
  k b u (fun z => absurd (List.mem_singleton.mp z ▸ Heap.lt_size e) (Nat.lt_irrefl _)) (Heap.get?_push_of_some _ e)
theorem pyIter_tup {vs : Array Value} (hl : s.heap.IsTuple l vs)
    (h : ∀ s2 : Shared, s2 = { s with heap := s.heap.push { cls := .type "tuple_iterator", data := .fields #[.ref l, .int 0 0] } } → (s2.heap.IsTupleIter s.heap.objs.size l 0 ∧ s2.heap.IsTuple l vs) → (∀ b ∈ [s.heap.objs.size, l], b < s2.heap.objs.size) → l ≠ s.heap.objs.size → Q (.ref s.heap.objs.size) s2) :
    wpAny (model prog w) A (pyIter (.ref l)) Q E s := by
  have z : l < s.heap.objs.size := by obtain ⟨_, e, _⟩ := hl; exact Heap.lt_size e
  refine wpAny_pyIter_tuple hl (h _ rfl ⟨⟨_, Heap.get?_push_size _ rfl, rfl, rfl⟩, hl.push _⟩ (fun b m => ?_) (Nat.ne_of_lt z))
  show b < (Heap.push s.heap _).objs.size
  rw [Heap.size_push]
  simp only [List.mem_cons, List.not_mem_nil, or_false] at m
  rcases m with rfl | rfl
  · exact Nat.lt_succ_self _
  · exact Nat.lt_succ_of_lt z
theorem sum_tupRaw (hh : A.handled = none) (hl : s.heap.IsTuple l its.toArray) (hi : IntsAre its ns)
    (h : ∀ h' tk t', (∀ b o, s.heap.get? b = some o → h'.get? b = some o) → Q (.int ns.sum t') { s with heap := h', toks := tk }) : wpAny (model prog w) A (call (.builtin "sum") [.ref l]) Q E s := by
  obtain ⟨xs, e⟩ := hi.allInts.items
  have hn := hi.numsOf
  rw [show its = (intItems xs).toList by rw [← e]] at hn
  rw [nums_intItems] at hn
  rw [e] at hl
  refine call_sum_walkG (pyIter_tup hl fun s2 e2 st fp ne => ?_)
  subst e2
  refine ⟨_, _, _, _, _, _, numAt xs, rfl, Walks.tuple (A := A.in1) hh _ l ne (intItems xs), st, fp, fun _ _ => intItems_at, fun h' tk t' k => ?_⟩
  have z := h h' tk t' (kept_old k)
  have e3 : preSum (numAt xs) (intItems xs).size = ns.sum := by
    rw [show (intItems xs).size = xs.size by simp [intItems], preSum_eq, List.take_of_length_le (by simp), hn]
  rw [e3]; exact z
theorem max_tupRaw (hh : A.handled = none) (hl : s.heap.IsTuple l its.toArray) (hi : IntsAre its ns) (h0 : 0 < ns.length)
    (h : ∀ h' tk M t', (∀ b o, s.heap.get? b = some o → h'.get? b = some o) → M ∈ ns → (∀ a, a ∈ ns → a ≤ M) → Q (.int M t') { s with heap := h', toks := tk }) : wpAny (model prog w) A (call (.builtin "max") [.ref l]) Q E s := by
  obtain ⟨xs, e⟩ := hi.allInts.items
  have hn := hi.numsOf
  rw [show its = (intItems xs).toList by rw [← e]] at hn
  rw [nums_intItems] at hn
  subst hn
  rw [e] at hl
  have hz : (intItems xs).size = xs.size := by simp [intItems]
  have h1 : 0 < xs.size := by simpa using h0
  refine call_max_walk (pyIter_tup hl fun s2 e2 st fp ne => ?_)
  subst e2
  refine ⟨_, _, _, _, _, _, _, rfl, Walks.tuple (A := A.in1) hh _ l ne (intItems xs), st, fp, by rw [hz]; exact h1, CmpOf.ints_gt (numAt xs) (fun _ _ => intItems_at), fun v h' tk hP k => ?_⟩
  obtain ⟨t, rfl⟩ := intItems_at hP
  rw [hz] at hP ⊢
  obtain ⟨g1, g2⟩ := argBest_gt (numAt xs) (xs.size - 1)
  refine h h' tk _ t (kept_old k) ?_ fun a ha => ?_
  · rw [numAt_eq]
    exact PySem.getD_mem (by rw [List.length_map, Array.length_toList]; omega)
  · obtain ⟨j, hj, rfl⟩ := mem_getD ha
    simp only [List.length_map, Array.length_toList] at hj
    rw [← numAt_eq]
    exact g2 j (by omega)
theorem min_tupRaw (hh : A.handled = none) (hl : s.heap.IsTuple l its.toArray) (hi : IntsAre its ns) (h0 : 0 < ns.length)
    (h : ∀ h' tk M t', (∀ b o, s.heap.get? b = some o → h'.get? b = some o) → M ∈ ns → (∀ a, a ∈ ns → M ≤ a) → Q (.int M t') { s with heap := h', toks := tk }) : wpAny (model prog w) A (call (.builtin "min") [.ref l]) Q E s := by
  obtain ⟨xs, e⟩ := hi.allInts.items
  have hn := hi.numsOf
  rw [show its = (intItems xs).toList by rw [← e]] at hn
  rw [nums_intItems] at hn
  subst hn
  rw [e] at hl
  have hz : (intItems xs).size = xs.size := by simp [intItems]
  have h1 : 0 < xs.size := by simpa using h0
  refine call_min_walk (pyIter_tup hl fun s2 e2 st fp ne => ?_)
  subst e2
  refine ⟨_, _, _, _, _, _, _, rfl, Walks.tuple (A := A.in1) hh _ l ne (intItems xs), st, fp, by rw [hz]; exact h1, CmpOf.ints_lt (numAt xs) (fun _ _ => intItems_at), fun v h' tk hP k => ?_⟩
  obtain ⟨t, rfl⟩ := intItems_at hP
  rw [hz] at hP ⊢
  obtain ⟨g1, g2⟩ := argBest_lt (numAt xs) (xs.size - 1)
  refine h h' tk _ t (kept_old k) ?_ fun a ha => ?_
  · rw [numAt_eq]
    exact PySem.getD_mem (by rw [List.length_map, Array.length_toList]; omega)
  · obtain ⟨j, hj, rfl⟩ := mem_getD ha
    simp only [List.length_map, Array.length_toList] at hj
    rw [← numAt_eq]
    exact g2 j (by omega)
end
end MP

namespace MP
open PySem PySem.Spec PyProof.Rows L2 RT
/-! tuple(reversed(t)), t a tuple -/
theorem rt_nolen : typeLookup (.type "reversed") "__len__" = pure none := by
  rw [typeLookup_type, builtinLookup_eq_fast]
  kernel_rfl
theorem rt_hint : typeLookup (.type "reversed") "__length_hint__" = pure (some (.builtin "reversed.__length_hint__")) := by
  rw [typeLookup_type, builtinLookup_eq_fast]
  kernel_rfl
theorem rt_hint_entry : entryFor table "reversed.__length_hint__" = some Builtin.«reversed.__length_hint__» := entryFor_of_tree (by kernel_rfl)
theorem rt_slot_hint : Slot "reversed" "__length_hint__" "reversed.__length_hint__" :=
  .of (owner := "reversed") (n := "__length_hint__") rt_hint (by decide +kernel) (by decide +kernel) (by decide +kernel)
    (by first | exact .inl (by decide +kernel) | exact .inr (by decide +kernel)) (by rw [isSubtype_type]; kernel_rfl)
theorem rt_hint_args (a : Value) : argsOk "reversed.__length_hint__" ⟨[a], []⟩ := by
  unfold argsOk
  rw [signature?_of (id := "reversed.__length_hint__") (n := ['_', '_', 't', 'n', 'i', 'h', '_', 'h', 't', 'g', 'n', 'e', 'l', '_', '_']) (o := ['d', 'e', 's', 'r', 'e', 'v', 'e', 'r']) (by kernel_rfl) owner_rt]
  kernel_rfl
theorem rt_bind (v : Value) : bindSpecial (.builtin "reversed.__length_hint__") v = pure (.builtin "reversed.__length_hint__", [v]) := by
  unfold bindSpecial
  rw [show typeOf (.builtin "reversed.__length_hint__") = pure (.type "method_descriptor") from by kernel_rfl]
  rfl
theorem tup_at {h h' : Heap} {a : Addr} {vs : Array Value} (x : IsTup h a vs) (e : ∀ o, h.get? a = some o → h'.get? a = some o) : IsTup h' a vs := by
  obtain ⟨o, ho, r⟩ := x
  exact ⟨o, e o ho, r⟩
/-- the walk over reversed(t) -/
theorem walk_rt {prog : Program} {w : World} {A : Around} (hh : A.handled = none) (I l : Addr) (ne : l ≠ I) (vs : Array Value) (hz : vs.size ≤ sizeLine) :
    Walks prog w A I [I, l] [I] vs.size (fun i v => vs[vs.size - 1 - i]? = some v) (fun i h => i ≤ vs.size ∧ IsRt h I l ((vs.size : Int) - 1 - (i : Int)) ∧ IsTup h l vs) where
  sub := fun b m => by rw [List.mem_singleton.mp m]; exact List.mem_cons_self
  frame := fun _ _ _ x k => ⟨x.1, x.2.1.at fun o e => k I List.mem_cons_self o e, tup_at x.2.2 fun o e => k l (List.mem_cons_of_mem _ List.mem_cons_self) o e⟩
  item := fun i s Q E hi x hQ => by
    have e1 : (vs.size : Int) - 1 - (i : Int) = ((vs.size - 1 - i : Nat) : Int) := by omega
    have it := x.2.1
    rw [e1] at it
    have hx : vs[vs.size - 1 - i]? = some (vs[vs.size - 1 - i]'(by omega)) := Array.getElem?_eq_getElem (by omega)
    refine next_rt_item it x.2.2 hx hz fun h' it' sb => ?_
    have e2 : ((vs.size - 1 - i : Nat) : Int) - 1 = (vs.size : Int) - 1 - ((i + 1 : Nat) : Int) := by omega
    rw [e2] at it'
    refine hQ _ h' (s.toks + 1) hx ⟨hi, it', tup_at x.2.2 fun o e => (sb.2 l ne).trans e⟩ fun b o nb e => (sb.2 b fun z => nb (z ▸ List.mem_singleton.mpr rfl)).trans e
  done := fun s Q E x hQ => by
    have e1 : (vs.size : Int) - 1 - (vs.size : Int) = -1 := by omega
    have it := x.2.1
    rw [e1] at it
    exact next_rt_end hh it fun h' k => hQ h' s.toks fun b o nb e => k b o (fun z => nb (z ▸ List.mem_singleton.mpr rfl)) e
  self := fun _ _ _ _ x hQ => iter_rt x.2.1 hQ
section
variable {prog : Program} {w : World} {A : Around} {E : Value → Shared → Prop} {s : Shared}
/-- how many reversed(t) has left, asked for room -/
theorem hint_rt {I l : Addr} {vs : Array Value} {Q : Bool → Shared → Prop} (hit : IsRt s.heap I l ((vs.size : Int) - 1)) (hl : IsTup s.heap l vs) (hz : vs.size ≤ sizeLine)
    (h : ∀ b tk, Q b { s with toks := tk }) : wpAny (model prog w) A (Builtin.List.listLengthHint (.ref I)) Q E s := by
  obtain ⟨o, ho, hc, hd⟩ := id hit
  have ty := hit.typeIs
  rw [sizeLine_eq] at hz
  unfold Builtin.List.listLengthHint
  refine wpAny_bind (wpAny_specialOf ty rt_nolen ?_)
  show wpAny _ _ (specialOf (.ref I) (Str.ofString "__length_hint__") >>= fun _ => _) _ _ _
  refine wpAny_bind (wpAny_specialOf ty rt_hint ?_)
  generalize q : ("reversed.__length_hint__" : String) = id0
  wp_delta
  rw [show splitId id0 = some ("reversed", "__length_hint__") by subst q; decide +kernel]
  subst q
  refine wpAny_bind (wpAny_isInstance (b := true) ty (by rw [isSubtype_type]; kernel_rfl) ?_)
  rw [if_neg (by decide)]
  try dsimp only
  rw [if_neg (by decide +kernel)]
  refine wpAny_bind (wpAny_rule ?_)
  rw [rt_bind]
  refine wpAny_bind (wpAny_pure ?_)
  try dsimp only
  refine wpAny_bind (wpAny_attempt (wpAny_call_entry rt_slot_hint ty rt_hint_entry ?_ (rt_hint_args _)))
  unfold Builtin.«reversed.__length_hint__»
  refine wpAny_bind (wpAny_of_eq (a := Value.ref I) rfl ?_)
  try dsimp only
  refine wpAny_bind (wpAny_field ho hd (x := .ref l) rfl ?_)
  rw [if_neg (by simp)]
  try dsimp only
  refine wpAny_bind (PyProof.Rows.len_tuple hl (by omega) ?_)
  refine wpAny_bind (wpAny_of_eq (a := some ((vs.size : Nat) : Int)) rfl ?_)
  try dsimp only
  refine wpAny_bind (wpAny_field (s := { s with toks := s.toks + 1 + 1 }) ho hd (x := rawInt ((vs.size : Int) - 1)) rfl ?_)
  show wpAny _ _ (if (vs.size : Int) < (vs.size : Int) - 1 + 1 then _ else retInt ((vs.size : Int) - 1 + 1)) _ _ _
  rw [if_neg (by omega)]
  have e1 : (vs.size : Int) - 1 + 1 = ((vs.size : Nat) : Int) := by omega
  rw [e1]
  refine wpAny_bind (wpAny_mkInt ?_)
  refine wpAny_pure ⟨_, rfl, ?_⟩
  have ea : ∀ t, asInt? (Value.int ((vs.size : Nat) : Int) t) = pure (some ((vs.size : Nat) : Int)) := fun _ => rfl
  generalize s.toks + 1 + 1 = tk
  have f1 : Builtin.List.listFitsIndex ((vs.size : Nat) : Int) = true := by
    simp [Builtin.List.listFitsIndex]; omega
  have f2 : Builtin.List.listTooLong ((vs.size : Nat) : Int).toNat = false := by
    simp [Builtin.List.listTooLong, sizeLine_eq]; omega
  have f3 : ¬ ((vs.size : Nat) : Int) < 0 := by omega
  have pb : ∀ (f : Option Int → Sem Bool) a, (pure a >>= f) = f a := fun _ _ => rfl
  simp only [ea, pb, f1, f2, f3, Bool.not_true, Bool.false_eq_true, if_false]
  exact wpAny_pure (h _ _)
theorem collect_rt {I l : Addr} {vs : Array Value} {Q : List Value → Shared → Prop} (hh : A.handled = none) (hit : IsRt s.heap I l ((vs.size : Int) - 1)) (hl : IsTup s.heap l vs) (ne : l ≠ I) (hz : vs.size ≤ sizeLine)
    (hQ : ∀ (h' : Heap) (tk : Nat) (acc : Array Value), (∀ b o, b ≠ I → s.heap.get? b = some o → h'.get? b = some o) → ItemsOf (fun i v => vs[vs.size - 1 - i]? = some v) acc vs.size → Q acc.toList { s with heap := h', toks := tk }) :
    wpAny (model prog w) A (collect (.ref I)) Q E s := by
  have W := (walk_rt (prog := prog) (w := w) (A := A.in1) hh I l ne vs hz).toS
  obtain ⟨oi, hoi, _⟩ := id hit
  obtain ⟨ol, hol, _⟩ := id hl
  have n1 : s.heap.objs.size ≠ I := Nat.ne_of_gt (Heap.lt_size hoi)
  have n2 : s.heap.objs.size ≠ l := Nat.ne_of_gt (Heap.lt_size hol)
  have nf : s.heap.objs.size ∉ [I, l] := by simp [n1, n2]
  unfold collect
  refine wpAny_bind (wpAny_runValue (codeAny_builtin PySem.F.entry_proto_collect ?_))
  rw [Around.under_plainId PySem.F.plain_proto_collect _]
  show wpAny _ A.in1 (newList [] >>= fun z => again (.builtin "list.__iadd__" ⟨[z, .ref I], []⟩)) _ _ _
  refine wpAny_bind (wpAny_newObj_type (wpAny_pure ⟨plainId_quiet PySem.F.plain_list_iadd _, codeAny_builtin PySem.F.entry_list_iadd ?_⟩))
  rw [Around.under_plainId PySem.F.plain_list_iadd _]
  generalize hS : ({ cls := .type "list", data := .seq ([] : List Value).toArray } : Obj) = oS
  have g1 : (s.heap.push oS).get? s.heap.objs.size = some oS := Heap.get?_push_size _ (by rw [← hS]; rfl)
  have k1 : ∀ b o, s.heap.get? b = some o → (s.heap.push oS).get? b = some o := fun b o e => Heap.get?_push_of_some _ e
  have it1 : IsRt (s.heap.push oS) I l ((vs.size : Int) - 1) := hit.at fun o e => k1 _ _ e
  have l1 : IsTup (s.heap.push oS) l vs := tup_at hl fun o e => k1 _ _ e
  have ty : ({ s with heap := s.heap.push oS } : Shared).TypeIs (.ref I) "reversed" := it1.typeIs (s := { s with heap := s.heap.push oS })
  have same : Builtin.List.listSameRef (.ref s.heap.objs.size) (.ref I) = false := by simp [Builtin.List.listSameRef, n1]
  show wpAny _ A.in1 (Builtin.List.listExtendWith (.ref s.heap.objs.size) (.ref I) (.ref s.heap.objs.size)) _ _ _
  unfold Builtin.List.listExtendWith
  refine wpAny_bind (wpAny_typeOf ty ?_)
  rw [if_neg (by rw [same]; decide)]
  refine wpAny_bind (iter_rt (s := { s with heap := s.heap.push oS }) it1 (wpAny_bind (wpAny_holding (hint_rt (s := { s with heap := s.heap.push oS }) it1 l1 hz fun b tk => ?_))))
  have e0 : ((vs.size : Nat) : Int) - 1 - ((0 : Nat) : Int) = (vs.size : Int) - 1 := by omega
  have n1' := Ne.symm n1
  have n2' := Ne.symm n2
  cases b with
  | false =>
    rw [if_neg (by decide)]
    refine wpAny_pure ⟨plainId_quiet PySem.F.plain_extend_loop _, codeAny_extend_loopS W hz _ nf _ vs.size 0 _ _ _ rfl (Nat.zero_le _) ⟨Nat.zero_le _, by rw [e0]; exact it1, l1⟩ (by rw [← hS] at g1 ⊢; exact g1) (ItemsOf.nil _) fun s' acc' c' hm g' ha => ?_⟩
    show wpAny _ A (load s.heap.objs.size >>= fun _ => _) _ _ s'
    refine wpAny_bind (wpAny_load g' (wpAny_pure ?_))
    rw [Moved.eq_with hm]
    refine hQ s'.heap s'.toks acc' (fun b o nb e => hm.heap b o (fun z => ?_) (k1 _ _ e)) ha
    rcases List.mem_cons.mp z with z | z
    · exact absurd (Heap.lt_size e) (by rw [z]; exact Nat.lt_irrefl _)
    · exact nb (List.mem_singleton.mp z)
  | true =>
    rw [if_pos (by decide)]
    refine wpAny_bind (wpAny_rule ?_)
    refine wpAny_bind ?_
    show wpAny _ A.in1 (updateSeq s.heap.objs.size (fun z => z.push .none) >>= fun _ => updateSeq s.heap.objs.size (fun z => z.pop)) _ _ _
    subst hS
    refine wpAny_bind (wpAny_updateSeq g1 rfl ?_)
    have g2 := Heap.get?_update_self (Obj.mapSeq (fun z => z.push Value.none)) g1 rfl
    refine wpAny_updateSeq g2 rfl ?_
    have g3 := Heap.get?_update_self (Obj.mapSeq (fun z => z.pop)) g2 rfl
    have oth : ∀ b o, b ≠ s.heap.objs.size → (s.heap.push { cls := .type "list", data := .seq ([] : List Value).toArray }).get? b = some o → (((s.heap.push { cls := .type "list", data := .seq ([] : List Value).toArray }).update s.heap.objs.size (Obj.mapSeq (fun z => z.push Value.none))).update s.heap.objs.size (Obj.mapSeq (fun z => z.pop))).get? b = some o :=
      fun b o nb e => by
        rw [Heap.get?_update_other _ _ (Ne.symm nb), Heap.get?_update_other _ _ (Ne.symm nb)]
        exact e
    refine wpAny_pure ⟨plainId_quiet PySem.F.plain_extend_loop _, codeAny_extend_loopS W hz _ nf _ vs.size 0 _ _ _ rfl (Nat.zero_le _) ⟨Nat.zero_le _, by rw [e0]; exact it1.at fun o e => oth _ _ n1' e, tup_at l1 fun o e => oth _ _ n2' e⟩ g3 (ItemsOf.nil _) fun s' acc' c' hm g' ha => ?_⟩
    show wpAny _ A (load s.heap.objs.size >>= fun _ => _) _ _ s'
    refine wpAny_bind (wpAny_load g' (wpAny_pure ?_))
    rw [Moved.eq_with hm]
    refine hQ s'.heap s'.toks acc' (fun b o nb e => ?_) ha
    have nS : b ≠ s.heap.objs.size := Nat.ne_of_lt (Heap.lt_size e)
    refine hm.heap b o (fun z => ?_) (oth b o nS (k1 _ _ e))
    rcases List.mem_cons.mp z with z | z
    · exact nS z
    · exact nb (List.mem_singleton.mp z)
theorem code_tup_rt {I l : Addr} {vs : Array Value} {R : Value → Shared → Prop} (hh : A.handled = none) (hit : IsRt s.heap I l ((vs.size : Int) - 1)) (hl : IsTup s.heap l vs) (ne : l ≠ I) (hz : vs.size ≤ sizeLine)
    (h : ∀ (h' : Heap) (tk : Nat) (acc : Array Value), (∀ b o, b ≠ I → s.heap.get? b = some o → h'.get? b = some o) → ItemsOf (fun i v => vs[vs.size - 1 - i]? = some v) acc vs.size → R (.ref h'.objs.size) { s with heap := h'.push { cls := .type "tuple", data := .seq acc }, toks := tk }) :
    codeAny (model prog w) A (.call (.builtin "tuple.__new__") ⟨[.type "tuple", .ref I], []⟩) (wants R E) s := by
  refine codeAny_of_tree ?_
  show wpAny _ A.in1 (do checkBuiltinCall "tuple.__new__" ⟨[.type "tuple", .ref I], []⟩; again (.builtin "tuple.__new__" ⟨[.type "tuple", .ref I], []⟩)) _ _ _
  refine wpAny_bind (wpAny_of_eq (PySem.F.newCall_tuple_1 _) (wpAny_pure ⟨plainId_quiet PySem.F.plain_tuple_new _, codeAny_builtin PySem.F.entry_tuple_new ?_⟩))
  rw [Around.under_plainId PySem.F.plain_tuple_new _]
  have a1 := sub_tuple_self
  have a2 := init_tuple_lookup
  have a3 := madeHere_tuple
  have ty : s.TypeIs (.ref I) "reversed" := hit.typeIs
  have hh1 : A.in1.handled = none := hh
  wp_walk using wpAny_typeOf ty, collect_rt (A := A.in1) hh1 hit hl ne hz
  intro h' tk acc hk ha
  show wpAny _ _ (Builtin.Tuple.tupleExact acc.toList.toArray >>= fun z => ret z) _ _ _
  unfold Builtin.Tuple.tupleExact
  refine wpAny_bind (wpAny_newObj_type (wpAny_pure ?_) (by show acc.toList.toArray.size ≤ sizeLine; rw [Array.toArray_toList, ha.1]; exact hz))
  rw [Array.toArray_toList]
  exact h h' tk acc hk ha
theorem call_tup_rt {I l : Addr} {vs : Array Value} {Q : Value → Shared → Prop} (hh : A.handled = none) (hit : IsRt s.heap I l ((vs.size : Int) - 1)) (hl : IsTup s.heap l vs) (ne : l ≠ I) (hz : vs.size ≤ sizeLine)
    (h : ∀ (h' : Heap) (tk : Nat) (acc : Array Value), (∀ b o, b ≠ I → s.heap.get? b = some o → h'.get? b = some o) → ItemsOf (fun i v => vs[vs.size - 1 - i]? = some v) acc vs.size → Q (.ref h'.objs.size) { s with heap := h'.push { cls := .type "tuple", data := .seq acc }, toks := tk }) :
    wpAny (model prog w) A (call (.type "tuple") [.ref I]) Q E s := by
  refine callType_codes (Q₁ := fun z s1 => s1.TypeIs z "tuple" ∧ Q z s1) PySem.F.called_tuple (PySem.F.typeCall_tuple_1 _) PySem.F.entry_object_init
    (code_tup_rt (A := A.in1) hh hit hl ne hz fun h' tk acc k ha => ⟨⟨_, Heap.get?_push_size _ rfl, rfl⟩, h h' tk acc k ha⟩) fun z s1 hz1 => ?_
  exact ⟨hz1.1, PySem.F.args_object_init_2 z _, object_init_meets PySem.F.called_tuple.init.lookup PySem.F.called_tuple.made (by decide) prog w A.in1 _ s1 ⟨hz1.1, rfl, hz1.2⟩⟩
end
end MP

namespace MP
open PySem PySem.Spec PyProof.Rows L2
/-! dict(t), t a tuple of pairs that has no attributes of its own -/
theorem tup_keys_none : typeLookup (.type "tuple") "keys" = pure none := am_miss_of_fast (by first | decide +kernel | rfl)
section
variable {prog : Program} {w : World} {A : Around} {E : Value → Shared → Prop}
theorem miss_tup {s : Shared} {a : Addr} {o : Obj} {xs : Array Value} {k : Nat} {Q : Option Value → Shared → Prop} (hx : s.heap.get? a = some o) (hc : o.cls = .type "tuple") (hdat : o.data = .seq xs k) (hd : o.dict = none) (hA : A.handled = none)
    (h : ∀ h' tk, (∀ b u, s.heap.get? b = some u → h'.get? b = some u) → Q none { s with heap := h', toks := tk }) : wpAny (model prog w) A (getAttr? (.ref a) "keys") Q E s := by
  obtain ⟨c, dct, dat, sl⟩ := o
  simp only at hc hdat hd; subst hc hdat hd
  obtain ⟨hp, g, d, tk, os⟩ := s
  have ty : ∀ z, (⟨hp, g, d, z, os⟩ : Shared).TypeIs (.ref a) "tuple" := fun _ => ⟨_, hx, rfl⟩
  have miss := tup_keys_none
  have nm : (["__module__", "__name__", "__qualname__", "__doc__", "__annotations__"] : List PySem.Str).contains "keys" = false := by decide +kernel
  have sz : ("keys" : PySem.Str).length + 100 ≤ sizeLine := by first | size_fits | decide +kernel
  have f1 := sub_AttributeError
  have f2 := PySem.F.slot_tuple_getattribute.lookup
  have f3 := PySem.F.slot_tuple_getattribute.bind (.ref a)
  have f4 := am_tuple_getattr_none
  unfold getAttr? getAttrBy? getAttrBy
  repeat (any_goals (first | assumption | exact ty _ | ((with_reducible show wpAny _ _ (call (Value.builtin "tuple.__getattribute__") _ _) _ _ _); refine call_meets PySem.F.slot_tuple_getattribute (ty _) am_entry_tuple_getattribute (PySem.F.args_tuple_getattribute_2 _ _) (meets_getattribute_miss_tuple a xs k sl "keys" _ miss nm sz) ⟨hx, hA, fun h' tk' e hx' => ?_⟩) | wp_step))
  obtain ⟨t', u', he⟩ := hx'.there
  show wpAny _ _ (getattributeRaised _ _ _ _ _ _ _) _ _ _
  unfold getattributeRaised
  repeat (any_goals (first | assumption | wp_step))
  all_goals first | exact h _ _ hx'.keeps | (dsimp only; repeat (any_goals (first | assumption | exact h _ _ hx'.keeps | wp_step)))
/-- the pairs of a tuple, one behind the other -/
theorem upd_tup {R : Result → Shared → Prop} {S I l : Addr} {vs : Array Value} {res : Value} (hh : A.handled = none) (n1 : l ≠ I) (n2 : S ≠ I) (n3 : S ≠ l) :
    ∀ (rest : List (Key × Value)) (i : Nat) (acc : List (Key × Value)) (ix : Int) (t : Tok) (s : Shared), vs.size = i + rest.length → acc.length + rest.length ≤ sizeLine →
      (∀ (j : Nat) (q : Key × Value), rest[j]? = some q → ∃ (b : Addr) (u : Value), vs[i + j]? = some (.ref b) ∧ b ≠ S ∧ b ≠ I ∧ IsTup s.heap b #[u, q.2] ∧ keyIs q.1 u = true) →
      s.heap.IsTupleIter I l i → s.heap.IsTuple l vs → s.heap.DictOf (mixKind prog w) S acc →
      (∀ h' tk, h'.DictOf (mixKind prog w) S (merged acc rest) → (∀ b o, b ≠ S → b ≠ I → s.heap.get? b = some o → h'.get? b = some o) → R (.ok (.ret res)) { s with heap := h', toks := tk }) →
      codeAny (model prog w) A (.builtin "dict.update.loop" ⟨[.ref S, .ref I, .int ix t, res], []⟩) R s
  | [], i, acc, ix, t, s, hs, _, _, it, hl, hm, hR => by
    refine codeAny_builtin ud_entry ?_
    rw [Around.under_plainId ud_plain _]
    show wpAny _ A.in1 (pyNext (.ref I) >>= fun _ => _) _ _ _
    refine wpAny_bind (wpAny_pyNext_tuple_end (A := A.in1) hh it hl (Array.getElem?_eq_none (by simp at hs; omega)) fun h' he => ?_)
    show wpAny _ A.in1 (Builtin.Dict.addKeywords S [] >>= fun _ => _) _ _ _
    refine wpAny_bind (wpAny_pure (wpAny_pure ?_))
    exact hR h' s.toks (hm.extBut he n2) fun b o _ nb e => he b o nb e
  | q :: rest, i, acc, ix, t, s, hs, hn, ht, it, hl, hm, hR => by
    obtain ⟨b, u, g1, g2, g3, g4, g5⟩ := ht 0 q rfl
    rw [List.length_cons] at hs hn
    refine codeAny_builtin ud_entry ?_
    rw [Around.under_plainId ud_plain _]
    show wpAny _ A.in1 (pyNext (.ref I) >>= fun _ => _) _ _ _
    refine wpAny_bind (wpAny_pyNext_tuple_item (x := .ref b) it hl (by simpa using g1) fun h1 it1 sb => ?_)
    have t1 : IsTup h1 b #[u, q.2] := g4.extBut sb.extBut g3
    have l1 : h1.IsTuple l vs := IsTup.extBut hl sb.extBut n1
    have m1 : h1.DictOf (mixKind prog w) S acc := hm.extBut sb.extBut n2
    obtain ⟨o, ho, hc, n, hd⟩ := id t1
    show wpAny _ A.in1 (holding [Value.ref b] _ >>= fun _ => _) _ _ _
    refine wpAny_bind (wpAny_holding (wpAny_bind (wpAny_tryCatch ?_)))
    unfold Builtin.Dict.pairItems
    refine wpAny_bind (wpAny_typeOf (T := "tuple") ⟨o, ho, hc⟩ ?_)
    rw [if_pos (by first | decide | rfl | simp)]
    refine wpAny_bind (wpAny_seqItems ho hd (wpAny_pure ?_))
    show wpAny _ A.in1 (holding [u, q.2] (dictSet S u q.2)) _ _ _
    refine wpAny_holding (wpAny_dictSet_pairs (knd := mixKind prog w) (k := q.1) g5 m1 (fun h2 m2 sb2 => ?_) (by omega))
    refine wpAny_pure ⟨plainId_quiet ud_plain _, upd_tup (vs := vs) hh n1 n2 n3 rest (i + 1) (stored acc q.1 q.2) (ix + 1) 0 _ (show vs.size = i + 1 + rest.length by omega) ?_ (fun j q' e => ?_) ?_ ?_ m2 fun h' tk hd' k => ?_⟩
    · have z := stored_length_le acc q.1 q.2
      omega
    · obtain ⟨b', u', e1, e2, e3, e4, e5⟩ := ht (j + 1) q' (by simpa using e)
      refine ⟨b', u', ?_, e2, e3, (e4.extBut sb.extBut e3).extBut sb2.extBut e2, e5⟩
      rw [show i + 1 + j = i + (j + 1) by omega]
      exact e1
    · exact it1.at fun o' e => sb2.extBut I o' (Ne.symm n2) e
    · exact IsTup.extBut l1 sb2.extBut (Ne.symm n3)
    · exact hR h' tk hd' fun c oc c1 c2 e => k c oc c1 c2 (sb2.extBut c oc c1 (sb.extBut c oc c2 e))
/-- dict(t) -/
theorem call_dict_tup {s : Shared} {l : Addr} {ol : Obj} {vs : Array Value} {n : Nat} {prs : List (Key × Value)} {Q : Value → Shared → Prop} (hh : A.handled = none) (hl : s.heap.get? l = some ol) (hc : ol.cls = .type "tuple") (hd : ol.dict = none)
    (hdat : ol.data = .seq vs n) (hz : vs.size = prs.length) (hn : prs.length ≤ sizeLine)
    (ht : ∀ (j : Nat) (q : Key × Value), prs[j]? = some q → ∃ (b : Addr) (u : Value), vs[j]? = some (.ref b) ∧ IsTup s.heap b #[u, q.2] ∧ keyIs q.1 u = true)
    (h : ∀ h' tk, h'.DictOf (mixKind prog w) s.heap.objs.size (merged [] prs) → (∀ b o, s.heap.get? b = some o → h'.get? b = some o) → Q (.ref s.heap.objs.size) { s with heap := h', toks := tk }) :
    wpAny (model prog w) A (call (.type "dict") [.ref l]) Q E s := by
  refine callType_codes (Q₁ := fun z s1 => z = .ref s.heap.objs.size ∧ s1 = { s with heap := s.heap.push { cls := .type "dict", data := .dict #[] } }) PySem.F.kt_called_dict (PySem.F.kt_typeCall_dict_1 _) PySem.F.entry_dict_init (kt_code_dict_new _ ⟨rfl, rfl⟩) ?_
  rintro z s1 ⟨rfl, rfl⟩
  have new := Heap.DictOf.new (knd := mixKind prog w) s.heap
  have k0 : ∀ b o, s.heap.get? b = some o → (s.heap.push { cls := .type "dict", data := .dict #[] }).get? b = some o := fun b o e => Heap.get?_push_of_some _ e
  refine ⟨new.typeIs, PySem.F.args_dict_init_2 _ _, ?_⟩
  unfold Builtin.«dict.__init__»
  refine wpAny_bind ?_
  unfold Builtin.Dict.selfAndRest
  refine wpAny_bind (wpAny_notOrdered_dict new.typeIs ?_)
  show wpAny _ _ (pure (s.heap.objs.size, [Value.ref l])) _ _ _
  refine wpAny_pure ?_
  show wpAny _ _ (Builtin.Dict.updateFrom "dict.__init__" s.heap.objs.size (.ref l) [] .none) _ _ _
  unfold Builtin.Dict.updateFrom
  refine wpAny_bind (wpAny_typeOf (T := "tuple") ⟨ol, k0 _ _ hl, hc⟩ ?_)
  rw [if_pos (by first | decide | rfl | simp)]
  refine wpAny_bind (miss_tup (k0 _ _ hl) hc hdat hd hh fun h1 tk1 hk1 => ?_)
  rw [if_pos (show (none : Option Value).isNone = true from rfl)]
  refine wpAny_bind (wpAny_rule ?_)
  have l1 : h1.IsTuple l vs := ⟨ol, hk1 _ _ (k0 _ _ hl), hc, n, hdat⟩
  have S1 : s.heap.objs.size < h1.objs.size := Heap.lt_size (hk1 _ _ (show (s.heap.push { cls := .type "dict", data := .dict #[] }).get? s.heap.objs.size = some _ from Heap.get?_push_size _ rfl))
  refine wpAny_bind (wpAny_pyIter_tuple l1 ?_)
  have k2 : ∀ b o, h1.get? b = some o → (h1.push { cls := .type "tuple_iterator", data := .fields #[.ref l, .int 0 0] }).get? b = some o := fun b o e => Heap.get?_push_of_some _ e
  have lt : l < s.heap.objs.size := Heap.lt_size hl
  have key := upd_tup (prog := prog) (w := w) (A := A.in1) (R := wants (fun r s2 => r = .none ∧ Q (.ref s.heap.objs.size) s2) E) (S := s.heap.objs.size) (I := h1.objs.size) (l := l) (vs := vs) (res := Value.none) hh
    (Nat.ne_of_lt (Nat.lt_trans lt S1)) (Nat.ne_of_lt S1) (Nat.ne_of_gt lt) prs 0 [] 0 0
    { s with heap := h1.push { cls := .type "tuple_iterator", data := .fields #[.ref l, .int 0 0] }, toks := tk1 } (by rw [hz, Nat.zero_add]) (by rw [List.length_nil, Nat.zero_add]; exact hn)
    (fun j q e => by
      obtain ⟨b, u, e1, e2, e3⟩ := ht j q e
      have hb : b < s.heap.objs.size := e2.lt
      exact ⟨b, u, by rw [Nat.zero_add]; exact e1, Nat.ne_of_lt hb, Nat.ne_of_lt (Nat.lt_trans hb S1), e2.keeps fun c o z => k2 _ _ (hk1 _ _ (k0 _ _ z)), e3⟩)
    ⟨_, Heap.get?_push_size _ rfl, rfl, rfl⟩ (IsTup.keeps l1 fun c o e => k2 _ _ e) ((new.at fun o e => hk1 _ _ e).at fun o e => k2 _ _ e)
    (fun h' tk hd' k => ⟨rfl, h h' tk hd' fun b o e => k b o (Nat.ne_of_lt (Heap.lt_size e)) (Nat.ne_of_lt (Nat.lt_trans (Heap.lt_size e) S1)) (k2 _ _ (hk1 _ _ (k0 _ _ e)))⟩)
  first
    | exact wpAny_pure ⟨plainId_quiet ud_plain _, key⟩
    | exact wpAny_bind (wpAny_pure (wpAny_pure ⟨plainId_quiet ud_plain _, key⟩))
end
end MP

/-! repr of lists and tuples -/
namespace MP
open PySem PySem.Spec PyProof.Rows L2
variable [HasW]
theorem ch_lt (d : Char) : d.toNat < 1114112 := by
  have h := d.valid
  simp only [UInt32.isValidChar, Nat.isValidChar] at h
  show d.val.toNat < 1114112
  omega
def OkS (x : PySem.Str) : Prop := ∀ c ∈ x.cps.toList, c < 1114112
theorem okS_append {x y : PySem.Str} (h : OkS x) (k : OkS y) : OkS (x ++ y) := by
  intro c hc
  have e : (x ++ y).cps = x.cps ++ y.cps := rfl
  rw [e, Array.toList_append, List.mem_append] at hc
  rcases hc with hc | hc
  · exact h c hc
  · exact k c hc
theorem okS_of (x : String) : OkS (PySem.Str.ofString x) := by
  intro c hc
  rw [PySem.Str.ofString_eq_toList, List.mem_map] at hc
  obtain ⟨d, _, rfl⟩ := hc
  exact ch_lt d
theorem repr_char (q c : Nat) (hq : q < 1114112) (hc : c < 1114112) : ∀ y ∈ PySem.Builtin.Str.reprChar q c, y < 1114112 := by
  have hex : ∀ (w : Nat), ∀ y ∈ (List.replicate (w - ((Nat.toDigits 16 c).map Char.toNat).length) 48 ++ (Nat.toDigits 16 c).map Char.toNat), y < 1114112 := by
    intro w y hy
    rcases List.mem_append.mp hy with hy | hy
    · rw [(List.mem_replicate.mp hy).2]; omega
    · obtain ⟨d, _, rfl⟩ := List.mem_map.mp hy
      exact ch_lt d
  intro y hy
  unfold PySem.Builtin.Str.reprChar at hy
  simp only [] at hy
  repeat' split at hy
  all_goals first
    | (simp only [List.mem_cons, List.not_mem_nil, or_false] at hy; omega)
    | (rcases List.mem_append.mp hy with hy | hy
       · simp only [List.mem_cons, List.not_mem_nil, or_false] at hy; omega
       · exact hex _ y hy)
theorem fold_ok (q : Nat) (hq : q < 1114112) : ∀ (l : List Nat) (acc : Array Nat), (∀ c ∈ l, c < 1114112) → (∀ c ∈ acc.toList, c < 1114112) → ∀ c ∈ (l.foldl (fun out c => out ++ (PySem.Builtin.Str.reprChar q c).toArray) acc).toList, c < 1114112
  | [], acc, _, h => h
  | x :: l, acc, hl, h => by
    rw [List.foldl_cons]
    refine fold_ok q hq l _ (fun c hc => hl c (List.mem_cons_of_mem _ hc)) fun c hc => ?_
    rw [Array.toList_append, List.mem_append] at hc
    rcases hc with hc | hc
    · exact h c hc
    · exact repr_char q x hq (hl x List.mem_cons_self) c (by simpa using hc)
theorem okS_repr {x : PySem.Str} (h : OkS x) : OkS (reprText x) := by
  have hq : reprQuote x < 1114112 := by unfold reprQuote; split <;> omega
  intro c hc
  unfold reprText at hc
  simp only [Array.toList_push, List.mem_append, List.mem_singleton] at hc
  rcases hc with hc | hc
  · rw [← Array.foldl_toList] at hc
    exact fold_ok _ hq x.cps.toList _ h (by intro c hc; simp at hc; rw [hc]; exact hq) c hc
  · rw [hc]; exact hq
theorem okS_join {s : PySem.Str} (hs : OkS s) : ∀ l : List PySem.Str, (∀ x ∈ l, OkS x) → OkS (PySem.Str.join s l)
  | [], _ => by intro c hc; simp [PySem.Str.join, PySem.Str.empty] at hc
  | [x], h => h x List.mem_cons_self
  | x :: y :: r, h => okS_append (okS_append (h x List.mem_cons_self) hs) (okS_join hs (y :: r) fun z hz => h z (List.mem_cons_of_mem _ hz))
theorem okS_text : ∀ (l : List PySem.Str) (k : Nat) (acc : PySem.Str), OkS acc → (∀ x ∈ l, OkS x) → OkS (textFrom k acc l)
  | [], _, _, h, _ => h
  | x :: l, k, acc, h, hl => okS_text l (k + 1) _ (okS_append (okS_append h (okS_of _)) (hl x List.mem_cons_self)) fun z hz => hl z (List.mem_cons_of_mem _ hz)
mutual
theorem okS_shown : ∀ d : PyData, d.canLay0 = true → OkS d.shown
  | .none, _ => okS_of "None"
  | .bool b, _ => by
    simp only [PyData.shown]
    split <;> exact okS_of _
  | .int i, _ => okS_of (toString i)
  | .str x, h => okS_repr (by
      intro c hc
      have h0 : x.cps.all (· < 0x110000) = true := by simpa only [PyData.canLay0, PyData.strOk] using h
      rw [Array.all_eq_true'] at h0
      have := h0 c (by simpa using hc)
      simpa using this)
  | .list xs, h => okS_append (okS_text _ _ _ (okS_of "[") (okS_all xs (by simpa only [PyData.canLay0] using h))) (okS_of "]")
  | .tuple xs, h => okS_append (okS_append (okS_of "(") (okS_join (okS_of ", ") _ (okS_all xs (by simpa only [PyData.canLay0] using h)))) (okS_of _)
  | .dict kvs, h => by simp [PyData.canLay0] at h
theorem okS_all : ∀ ds : List PyData, PyData.canLayAll0 ds = true → ∀ x ∈ PyData.shownAll ds, OkS x
  | [], _, x, hx => by simp [PyData.shownAll] at hx
  | d :: ds, h, x, hx => by
    simp only [PyData.canLayAll0, Bool.and_eq_true] at h
    simp only [PyData.shownAll, List.mem_cons] at hx
    rcases hx with rfl | hx
    · exact okS_shown d h.1
    · exact okS_all ds h.2 x hx
end
theorem repL_str (d : D) : SX (repL d) = d.py.shown := by
  unfold repL
  cases d.py.shown with
  | mk c => simp [SX]
theorem repOk_iff {d : D} (h : repOk d = true) : d.plain = true ∧ d.dep ≤ 50 ∧ d.py.depth ≤ 64 ∧ d.py.weight ≤ 2 ^ 20 ∧ d.py.showable = true ∧ d.py.intsShort 13 = true := by
  simp only [repOk, Bool.and_eq_true, decide_eq_true_eq] at h
  exact ⟨h.1, h.2.1, h.2.2.1, h.2.2.2.1, h.2.2.2.2.1, h.2.2.2.2.2⟩
section
variable {X : Cx} {pins : List (Addr × Obj)} {σ : L2.St} {H : Hp} {s : Shared}
/-- repr(x) of a list, a tuple -/
theorem call_rep (gu : X.A.guards = some []) (hu : X.A.units + 64 < cLine) (I : Inv X pins σ H s) {a : Addr} {d : D} {Q : VK} (r : Rp X.K H (.ref a) d) (ok : repOk d = true) (q : strOkL (repL d) = true → (repL d).length ≤ 16777216 → Q (.str (SX (repL d))) H) :
    wpAny (model X.prog X.w) X.A (call (.builtin "repr") [.ref a]) (EP X pins σ Q) X.xe s := by
  obtain ⟨p, dd, d64, wt, sh, sm⟩ := repOk_iff ok
  obtain ⟨as, a1⟩ := r.reads I (show RelV (.ref a) (Value.ref a) from rfl) p
  have cl := r.lay p
  have ly : PyData.layable0 d.py = true := by
    show (PyData.canLay0 d.py && decide (PyData.depth d.py ≤ 64) && decide (PyData.weight d.py ≤ 2 ^ 20)) = true
    rw [cl, decide_eq_true d64, decide_eq_true wt]; rfl
  have len := PyProof.Rows.shown_le13 ly sm
  have e : (repL d).length = d.py.shown.length := by
    unfold repL
    rw [Array.length_toList]; rfl
  have o1 : strOkL (repL d) = true := by
    unfold strOkL
    rw [List.all_eq_true]
    intro c hc
    exact decide_eq_true (okS_shown d.py cl c hc)
  refine repr_of_reads' a1 sh (PyData.noDict_hsm (PyData.hasDict_of_layable ly)) gu (by rw [py_dep d p]; omega) (fun _ _ e => e) (fun h' u tk hk => ⟨.str (SX (repL d)), H, I.kept hk, ⟨u, by rw [repL_str]⟩, q o1 (by omega)⟩) (by rw [sizeLine_eq]; omega)
end
theorem args_NoneRepr : argsOk "NoneType.__repr__" { pos := [Value.none] } := by
  obtain ⟨rows, hr⟩ := Option.isSome_iff_exists.mp (show (List.lookup (String.ofList ['e', 'p', 'y', 'T', 'e', 'n', 'o', 'N'].reverse) Manifest.owners).isSome = true by kernel_rfl)
  unfold argsOk
  rw [signature?_of (id := "NoneType.__repr__") (n := ['_', '_', 'r', 'p', 'e', 'r', '_', '_']) (o := ['e', 'p', 'y', 'T', 'e', 'n', 'o', 'N']) (by kernel_rfl) hr]
  have e : List.lookup (String.ofList ['_', '_', 'r', 'p', 'e', 'r', '_', '_'].reverse) rows = (List.lookup (String.ofList ['e', 'p', 'y', 'T', 'e', 'n', 'o', 'N'].reverse) Manifest.owners).bind fun rows => List.lookup (String.ofList ['_', '_', 'r', 'p', 'e', 'r', '_', '_'].reverse) rows := by rw [hr]; rfl
  rw [e]
  kernel_rfl
theorem call_repN {X : Cx} {pins : List (Addr × Obj)} {σ : L2.St} {H : Hp} {s : Shared} (hu : X.A.units + 64 < cLine) (I : L2.Inv X pins σ H s) {Q : VK} (q : Q (.str (PySem.Str.ofString "None")) H) :
    wpAny (model X.prog X.w) X.A (call (.builtin "repr") [.none]) (EP X pins σ Q) X.xe s := by
  refine call_repr_slot (T := "NoneType") (idr := "NoneType.__repr__") (by omega) (by show typeOf .none = pure _; rfl) F.slot_NoneType_repr.toG ?_
  refine wpAny_call_entry F.slot_NoneType_repr (by show typeOf .none = pure _; rfl) F.entry_NoneType_repr ?_ args_NoneRepr
  unfold Builtin.«NoneType.__repr__»
  rw [show slotArgs "__repr__" 0 (⟨[.none], []⟩ : Args) = pure _ from rfl]
  refine wpAny_bind (wpAny_pure ?_)
  unfold retStr
  refine wpAny_bind (wpAny_mkStr ?_ (by rw [sizeLine_eq]; decide))
  exact wpAny_pure ⟨_, rfl, _, _, rfl, .str (Str.ofString "None"), H, Inv.tok I _, ⟨_, rfl⟩, q⟩
end MP

namespace MP
open PySem PySem.Spec PyProof.Rows L2
variable [HasW]

def biV : Bi → Option (Str × Value)
  | .len => some ("len", .builtin "len")
  | .sum => some ("sum", .builtin "sum")
  | .max1 => some ("max", .builtin "max")
  | .max2 => some ("max", .builtin "max")
  | .min1 => some ("min", .builtin "min")
  | .min2 => some ("min", .builtin "min")
  | .abs => some ("abs", .builtin "abs")
  | .any => some ("any", .builtin "any")
  | .all => some ("all", .builtin "all")
  | .sorted => some ("sorted", .builtin "sorted")
  | .list => some ("list", .type "list")
  | .tuple => some ("tuple", .type "tuple")
  | .divmod => some ("divmod", .builtin "divmod")
  | .int => some ("int", .type "int")
  | .dict => some ("dict", .type "dict")
  | .dictT => some ("dict", .type "dict")
  | .repr => some ("repr", .builtin "repr")
  | .str => some ("str", .type "str")
  | _ => none
def rBi (K : PySem.W.Frag) (f : Bi) : List V → Hp → VK → Prop := fun vs H Q => ∃ F ds s, Same F H ∧ Vws K F H vs ds ∧ biD f ds = some s ∧ ∀ z F' H' a, New K F H z s F' H' a → Q z H'
section
variable {K : PySem.W.Frag} {F H : Hp}
theorem Vws.one {vs : List V} {d : D} (h : Vws K F H vs [d]) : ∃ v, vs = [v] ∧ Vw K F H v d := by
  cases h with
  | cons r t => cases t; exact ⟨_, rfl, r⟩
theorem Vws.two {vs : List V} {d e : D} (h : Vws K F H vs [d, e]) : ∃ v u, vs = [v, u] ∧ Vw K F H v d ∧ Vw K F H u e := by
  cases h with
  | cons r t =>
    cases t with
    | cons r2 t => cases t; exact ⟨_, _, rfl, r, r2⟩
theorem Vw.len {v : V} {d : D} {k : Nat} (s : Same F H) (h : Vw K F H v d) (hd : match d with | .lst xs => xs.length = k | .scr xs => xs.length = k | .tup xs => xs.length = k | .str xs => xs.length = k | _ => False) : LenV K v H k := by
  cases d with
  | lst xs => obtain ⟨a, vs, rfl, h1, r⟩ := h.lst s; exact .inl ⟨vs, .inl h1, by rw [r.length]; exact hd.symm⟩
  | scr xs => obtain ⟨a, rfl, h1⟩ := h.scr s; exact .inl ⟨_, h1, by rw [List.length_map]; exact hd.symm⟩
  | tup xs => obtain ⟨a, vs, rfl, h1, r⟩ := h.tup; exact .inr ⟨vs, sqT_mono s h1, by rw [r.length]; exact hd.symm⟩
  | str xs => obtain ⟨rfl, o, l⟩ := h.str; exact ⟨by rw [SX_len, line_eq]; exact l, by rw [SX_len]; exact hd.symm⟩
  | _ => exact hd.elim
theorem Rps.ofStrs : ∀ {l : List (List Nat)}, (∀ x ∈ l, strOkL x = true ∧ x.length ≤ 16777216) → Rps K F (l.map fun x => V.str (SX x)) (l.map D.str)
  | [], _ => .nil
  | x :: r, h => .cons (.str x (h x List.mem_cons_self).1 (h x List.mem_cons_self).2) (Rps.ofStrs fun y hy => h y (List.mem_cons_of_mem _ hy))
end
/-! sums, ends -/
theorem foldl_max : ∀ (l : List Int) (x : Int), l.foldl max x ∈ x :: l ∧ ∀ y ∈ x :: l, y ≤ l.foldl max x
  | [], x => ⟨List.mem_singleton.mpr rfl, fun y h => by simp at h; subst h; exact Int.le_refl _⟩
  | z :: r, x => by
    obtain ⟨h1, h2⟩ := foldl_max r (max x z)
    rw [List.foldl_cons]
    refine ⟨?_, fun y hy => ?_⟩
    · rcases List.mem_cons.mp h1 with e | e
      · rw [e]
        by_cases c : x ≤ z
        · rw [Int.max_eq_right c]; simp
        · rw [Int.max_eq_left (by omega)]; simp
      · exact List.mem_cons_of_mem _ (List.mem_cons_of_mem _ e)
    · have h3 := h2 (max x z) List.mem_cons_self
      rcases List.mem_cons.mp hy with rfl | hy
      · omega
      · rcases List.mem_cons.mp hy with rfl | hy
        · omega
        · exact h2 y (List.mem_cons_of_mem _ hy)
theorem foldl_min : ∀ (l : List Int) (x : Int), l.foldl min x ∈ x :: l ∧ ∀ y ∈ x :: l, l.foldl min x ≤ y
  | [], x => ⟨List.mem_singleton.mpr rfl, fun y h => by simp at h; subst h; exact Int.le_refl _⟩
  | z :: r, x => by
    obtain ⟨h1, h2⟩ := foldl_min r (min x z)
    rw [List.foldl_cons]
    refine ⟨?_, fun y hy => ?_⟩
    · rcases List.mem_cons.mp h1 with e | e
      · rw [e]
        by_cases c : x ≤ z
        · rw [Int.min_eq_left c]; simp
        · rw [Int.min_eq_right (by omega)]; simp
      · exact List.mem_cons_of_mem _ (List.mem_cons_of_mem _ e)
    · have h3 := h2 (min x z) List.mem_cons_self
      rcases List.mem_cons.mp hy with rfl | hy
      · omega
      · rcases List.mem_cons.mp hy with rfl | hy
        · omega
        · exact h2 y (List.mem_cons_of_mem _ hy)
/-! sorted texts -/
theorem ltL_lt : ∀ x y : List Nat, ltL x y = decide (x < y)
  | [], [] => by simp [ltL]
  | [], _ :: _ => by simp [ltL]
  | _ :: _, [] => by simp [ltL]
  | a :: x, b :: y => by
    rw [ltL, ltL_lt x y]
    by_cases h : a = b
    · subst h; simp [List.cons_lt_cons_iff]
    · simp only [h, if_false, List.cons_lt_cons_iff]
      simp
/-- in order -/
def sdS : List (List Nat) → Prop
  | [] => True
  | x :: r => (∀ y ∈ r, ¬ y < x) ∧ sdS r
theorem insS_perm (x : List Nat) : ∀ l, (insS x l).Perm (x :: l)
  | [] => .refl _
  | y :: r => by
    unfold insS; split
    · exact (List.Perm.cons y (insS_perm x r)).trans (List.Perm.swap x y r)
    · exact .refl _
theorem insS_sd (x : List Nat) : ∀ l, sdS l → sdS (insS x l)
  | [], _ => ⟨by simp, trivial⟩
  | y :: r, h => by
    unfold insS; split
    · rename_i hlt
      rw [ltL_lt, decide_eq_true_eq] at hlt
      refine ⟨fun z hz => ?_, insS_sd x r h.2⟩
      rcases List.mem_cons.mp ((insS_perm x r).mem_iff.mp hz) with rfl | hz
      · exact fun q => List.lt_irrefl _ (List.lt_trans q hlt)
      · exact h.1 z hz
    · rename_i hlt
      rw [ltL_lt, decide_eq_true_eq] at hlt
      refine ⟨fun z hz => ?_, h⟩
      rcases List.mem_cons.mp hz with rfl | hz
      · exact hlt
      · intro q
        have h1 := h.1 z hz
        have h2 : x ≤ y := List.not_lt.mp hlt
        have h3 : y ≤ z := List.not_lt.mp h1
        exact (List.not_lt.mpr (List.le_trans h2 h3)) q
theorem sortS_perm : ∀ l, (sortS l).Perm l
  | [] => .refl _
  | x :: r => (insS_perm x _).trans (List.Perm.cons x (sortS_perm r))
theorem sortS_sd : ∀ l, sdS (sortS l)
  | [] => trivial
  | x :: r => insS_sd x _ (sortS_sd r)
theorem sd_unique : ∀ {l m : List (List Nat)}, sdS l → sdS m → l.Perm m → l = m
  | [], m, _, _, p => (List.nil_perm.mp p).symm
  | x :: r, [], _, _, p => absurd (List.perm_nil.mp p) (by simp)
  | x :: r, y :: s, h, g, p => by
    have e : x = y := by
      have h1 : x ∈ y :: s := p.mem_iff.mp List.mem_cons_self
      have h2 : y ∈ x :: r := p.mem_iff.mpr List.mem_cons_self
      rcases List.mem_cons.mp h1 with e | h1
      · exact e
      · rcases List.mem_cons.mp h2 with e | h2
        · exact e.symm
        · exact List.le_antisymm (List.not_lt.mp (h.1 y h2)) (List.not_lt.mp (g.1 x h1))
    subst e
    rw [sd_unique h.2 g.2 ((List.perm_cons x).mp p)]
theorem ltCps_eq : ∀ x y : List Nat, ltCps x y = ltL x y
  | [], [] => rfl
  | [], _ :: _ => rfl
  | _ :: _, [] => rfl
  | a :: x, b :: y => by
    have ih := ltCps_eq x y
    unfold ltCps ltL
    by_cases h : a = b
    · subst h; simp [ih]
    · by_cases h2 : a < b
      · simp [h, h2]
      · simp [h, h2]
theorem rising_sd : ∀ (l : List Str) (p : Str), risingS p l = true → sdS (p.cps.toList :: l.map fun x => x.cps.toList)
  | [], p, _ => ⟨by simp, trivial⟩
  | x :: r, p, h => by
    have h' : ltCps x.cps.toList p.cps.toList = false ∧ risingS x r = true := by
      unfold risingS at h
      simpa using h
    have ih := rising_sd r x h'.2
    refine ⟨fun y hy => ?_, ih⟩
    have h1 : ¬ x.cps.toList < p.cps.toList := by
      have := h'.1
      rw [ltCps_eq, ltL_lt] at this
      simpa using this
    rcases List.mem_cons.mp hy with rfl | hy
    · exact h1
    · have h2 := ih.1 y hy
      have h3 : p.cps.toList ≤ x.cps.toList := List.not_lt.mp h1
      have h4 : x.cps.toList ≤ y := List.not_lt.mp h2
      exact List.not_lt.mpr (List.le_trans h3 h4)
theorem sorted_sd {l : List Str} (h : sortedS l = true) : sdS (l.map fun x => x.cps.toList) := by
  cases l with
  | nil => trivial
  | cons x r => exact rising_sd r x h
/-- the one sorted list -/
theorem sorted_is {l : List (List Nat)} {ys : List Str} (p : ys.Perm (l.map SX)) (s : sortedS ys = true) : ys = (sortS l).map SX := by
  have h1 := sorted_sd s
  have h2 : (ys.map fun x => x.cps.toList).Perm l := by
    have := p.map (fun x : Str => x.cps.toList)
    rw [List.map_map] at this
    have e : ((fun x : Str => x.cps.toList) ∘ SX) = id := by funext z; rfl
    rw [e, List.map_id] at this
    exact this
  have h3 := sd_unique h1 (sortS_sd l) (h2.trans (sortS_perm l).symm)
  rw [← h3, List.map_map]
  have e : (SX ∘ fun x : Str => x.cps.toList) = id := by funext z; exact SX.S_tl z
  rw [e, List.map_id]

section
variable {X : Cx} {N : List Str} {sc : Scope} {cn : List Str} {W : WX} {n : Nat} {C : Ctx} {pos : Pos} {xa xb xc : Expr} {a b c : E} {xs : List Expr} {es : EL}
theorem strs_are {l : List (List Nat)} {its : List Value} (r : Vals (l.map fun x => V.str (SX x)) its) : StrsAre its (l.map SX) := by
  have e : (l.map fun x => V.str (SX x)) = (l.map SX).map V.str := by rw [List.map_map]; rfl
  rw [e] at r
  exact r.strs
/-- sorted of a list or a tuple of texts -/
theorem sorted_seq {pins : List (Addr × Obj)} {σ : L2.St} {H : Hp} {s : Shared} {Q : VK} (I : Inv X pins σ H s) {p : Addr} {T : String} {o : Obj} {its : List Value} {m : Nat} {l : List (List Nat)} (hT : T = "list" ∨ T = "tuple") (ho : s.heap.get? p = some o) (hc : o.cls = .type T) (hd : o.data = .seq its.toArray m)
    (hS : StrsAre its (l.map SX)) (h64 : l.length < 64) (q : ∀ r, H r = none → Q (.ref r) (upd H r (.lst ((sortS l).map fun x => V.str (SX x))))) :
    wpAny (model X.prog X.w) X.A (call (.builtin "sorted") [.ref p]) (EP X pins σ Q) X.xe s := by
  have hl : its.length = l.length := by have := hS.length; rw [List.length_map] at this; exact this
  refine Calls.call_function_entry PyProof.Rows.kind_sorted PyProof.Rows.plain_sorted PyProof.Rows.entry_sorted (PyProof.Rows.args_sorted1 _) ?_
  unfold Builtin.«sorted»
  refine wpAny_bind (m := checkCount "sorted" 1 1 _) (wpAny_pure ?_)
  refine wpAny_bind (wpAny_collect_seq p hT ho hc hd (fun h' hk => ?_) (by rw [List.size_toArray, hl, line_eq]; omega))
  have I1 : Inv X pins σ H { s with heap := h' } := I.kept (t' := s.toks) hk
  refine wpAny_bind (wpAny_newList ?_ (by rw [List.toList_toArray, hl, line_eq]; omega))
  have hoL : (h'.push (seqObj "list" its.toArray.toList.toArray 0)).get? h'.objs.size = some (seqObj "list" its.toArray.toList.toArray 0) := Heap.get?_push_size _ rfl
  have hS' : StrsAre its.toArray.toList (l.map SX) := by simpa using hS
  show wpAny _ _ _ _ _ { s with heap := h'.push (seqObj "list" its.toArray.toList.toArray 0) }
  refine wpAny_bind (wpAny_holding (wpAny_call_entry PyProof.Rows.slot_list_sort ⟨_, hoL, rfl⟩ PyProof.Rows.entry_list_sort
    (list_sort_treeK strKind_oneLt (s := { s with heap := h'.push (seqObj "list" its.toArray.toList.toArray 0) }) hoL hS'.keysOf (fun v₁ v₂ rest e => keyKind_strs (by rw [← e]; exact hS')) (by rw [List.toList_toArray, hl]; exact h64) fun st' hp hs => ⟨_, rfl, ?_⟩)
    (PyProof.Rows.args_list_sort _)))
  obtain ⟨ys, g1, g2, g3⟩ := sorted_out_str hS' hp hs
  obtain ⟨e', he'⟩ := PyProof.Rows.sortedHeap_at (vs := its.toArray.toList) (out := (arrOf st').map (·.2)) hoL
  have hy := sorted_is g2 g3
  have hv : Vals ((sortS l).map fun x => V.str (SX x)) ((arrOf st').map (·.2)).toList := by
    have := vals_of_strs g1
    rw [hy, List.map_map] at this
    exact this
  have hlen : ((sortS l).map fun x => V.str (SX x)).length ≤ sizeLine := by
    rw [List.length_map, (sortS_perm l).length_eq, line_eq]; omega
  refine wpAny_pure ⟨_, rfl, .ref h'.objs.size, upd H h'.objs.size (.lst ((sortS l).map fun x => V.str (SX x))), I1.laid (t' := s.toks) (fun b u e => ?_) (Nat.le_refl _)
    (show ObjOk X.prog X.w _ _ _ (.lst ((sortS l).map fun x => V.str (SX x))) from ⟨hlen, ((arrOf st').map (·.2)).toList, e', hv, by rw [Array.toArray_toList]; exact he'⟩), rfl, q _ (I1.hok.fresh (Nat.le_refl _))⟩
  have hb : b < h'.objs.size := Heap.lt_size e
  rw [PyProof.Rows.sortedHeap_old (Nat.ne_of_lt hb) (by rw [size_push']; exact Nat.lt_succ_of_lt hb)]
  exact Heap.get?_push_of_some _ e
theorem strs_ok_sorted {l : List (List Nat)} (h : ∀ x ∈ l, strOkL x = true ∧ x.length ≤ 16777216) : ∀ x ∈ sortS l, strOkL x = true ∧ x.length ≤ 16777216 := fun x hx => h x ((sortS_perm l).mem_iff.mp hx)
theorem keys_rps {K : PySem.W.Frag} {F : Hp} : ∀ {kvs : List (Key × V)}, (∀ k ∈ kvs.map (·.1), keyOk k = true) → Rps K F (kvs.map fun kv => kV kv.1) (kvs.map fun kv => kD kv.1)
  | [], _ => .nil
  | (k, v) :: r, h => by
    refine .cons ?_ (keys_rps fun k hk => h k (List.mem_cons_of_mem _ hk))
    have hk := h k List.mem_cons_self
    cases k with
    | inl i => exact .int i
    | inr x =>
      have hk' : (strOkL x.cps.toList && decide (x.cps.toList.length ≤ 16777216)) = true := hk
      rw [Bool.and_eq_true, decide_eq_true_eq] at hk'
      have := Rp.str (K := K) (F := F) x.cps.toList hk'.1 hk'.2
      rw [show SX x.cps.toList = x from SX.S_tl x] at this
      exact this
theorem signs_rps {K : PySem.W.Frag} {F : Hp} : ∀ {x : List Nat}, strOkL x = true → Rps K F (x.map fun c => V.str (SX [c])) (x.map fun c => D.str [c])
  | [], _ => .nil
  | c :: r, o => by
    have o' : (decide (c < 1114112) && strOkL r) = true := o
    rw [Bool.and_eq_true] at o'
    refine .cons (.str [c] ?_ (by simp)) (signs_rps o'.2)
    show (decide (c < 1114112) && true) = true
    rw [o'.1]; rfl
/-! sorted numbers -/
omit [HasW] in
theorem insI_perm (x : Int) : ∀ l, (insI x l).Perm (x :: l)
  | [] => .refl _
  | y :: r => by
    unfold insI; split
    · exact (List.Perm.cons y (insI_perm x r)).trans (List.Perm.swap x y r)
    · exact .refl _
omit [HasW] in
theorem sortI_perm : ∀ l, (sortI l).Perm l
  | [] => .refl _
  | x :: r => (insI_perm x _).trans (List.Perm.cons x (sortI_perm r))
omit [HasW] in
theorem insI_pw (x : Int) : ∀ l, l.Pairwise (· ≤ ·) → (insI x l).Pairwise (· ≤ ·)
  | [], _ => by simp [insI]
  | y :: r, h => by
    rw [List.pairwise_cons] at h
    unfold insI; split
    · rw [List.pairwise_cons]
      refine ⟨fun z hz => ?_, insI_pw x r h.2⟩
      rcases List.mem_cons.mp ((insI_perm x r).mem_iff.mp hz) with rfl | hz
      · omega
      · exact h.1 z hz
    · rw [List.pairwise_cons, List.pairwise_cons]
      refine ⟨fun z hz => ?_, h⟩
      rcases List.mem_cons.mp hz with rfl | hz
      · omega
      · have := h.1 z hz; omega
omit [HasW] in
theorem sortI_pw : ∀ l, (sortI l).Pairwise (· ≤ ·)
  | [] => .nil
  | x :: r => insI_pw x _ (sortI_pw r)
theorem pw_unique : ∀ {l m : List Int}, l.Pairwise (· ≤ ·) → m.Pairwise (· ≤ ·) → l.Perm m → l = m
  | [], m, _, _, p => (List.nil_perm.mp p).symm
  | x :: r, [], _, _, p => absurd (List.perm_nil.mp p) (by simp)
  | x :: r, y :: s, h, g, p => by
    rw [List.pairwise_cons] at h g
    have e : x = y := by
      have h1 : x ∈ y :: s := p.mem_iff.mp List.mem_cons_self
      have h2 : y ∈ x :: r := p.mem_iff.mpr List.mem_cons_self
      rcases List.mem_cons.mp h1 with e | h1
      · exact e
      · rcases List.mem_cons.mp h2 with e | h2
        · exact e.symm
        · have := h.1 y h2; have := g.1 x h1; omega
    subst e
    rw [pw_unique h.2 g.2 ((List.perm_cons x).mp p)]
theorem sortI_is {l m : List Int} (p : m.Perm l) (h : m.Pairwise (· ≤ ·)) : m = sortI l := pw_unique h (sortI_pw l) (p.trans (sortI_perm l).symm)
theorem pairsD_ok {K : PySem.W.Frag} {F : Hp} : ∀ {vs : List V} {ds : List D} {p : List D × List D}, Rps K F vs ds → pairsD ds = some p → ∃ (ps : List Addr) (kvs : List (Key × V)), vs = ps.map V.ref ∧ Paired (fun a kv => SqT K F a [kV kv.1, kv.2]) ps kvs ∧
    p.1 = kvs.map (fun kv => kD kv.1) ∧ (∀ k ∈ kvs.map (·.1), keyOk k = true) ∧ Rps K F (kvs.map (·.2)) p.2
  | _, _, _, .nil, h => by simp only [pairsD, Option.some.injEq] at h; subst h; exact ⟨[], [], rfl, .nil, rfl, by simp, .nil⟩
  | _, _, p, .cons (d := d) (ds := ds) r t, h => by
    unfold pairsD at h
    split at h
    · rename_i he; simp at he
    · rename_i k v r' he
      simp only [List.cons.injEq] at he
      obtain ⟨rfl, rfl⟩ := he
      split at h
      · rename_i hk
        cases e : pairsD ds with
        | none => rw [e] at h; simp at h
        | some p' =>
          rw [e] at h
          simp only [Option.map_some, Option.some.injEq] at h
          subst h
          obtain ⟨ps, kvs, rfl, h2, h3, h4, h5⟩ := pairsD_ok t e
          obtain ⟨a, ws, rfl, hs, rr⟩ := r.tupI
          cases rr with
          | cons rk rr =>
            cases rr with
            | cons rv rr =>
              cases rr
              rename_i v1 v2
              obtain ⟨k', rfl, rfl, ok⟩ := isKey_k (Vw.of (H := F) rk) hk
              refine ⟨a :: ps, (k', v2) :: kvs, rfl, .cons hs h2, by simp [h3], fun z hz => ?_, .cons rv h5⟩
              rcases List.mem_cons.mp hz with rfl | hz
              · exact ok
              · exact h4 z hz
      · cases h
    · cases h
theorem paired_mono {K : PySem.W.Frag} {F H : Hp} (s : Same F H) : ∀ {ps : List Addr} {kvs : List (Key × V)}, Paired (fun a kv => SqT K F a [kV kv.1, kv.2]) ps kvs → Paired (fun a kv => SqT K H a [kV kv.1, kv.2]) ps kvs
  | _, _, .nil => .nil
  | _, _, .cons h t => .cons (sqT_mono s h) (paired_mono s t)
theorem paired_len {α β : Type} {P : α → β → Prop} : ∀ {as : List α} {bs : List β}, Paired P as bs → as.length = bs.length
  | _, _, .nil => rfl
  | _, _, .cons _ t => by simp [paired_len t]
/-- the object of a tuple that has no attributes of its own -/
theorem sqX_obj {pins : List (Addr × Obj)} {s : Shared} {σ : L2.St} {H : Hp} {a : Addr} {vs : List V} (I : Inv X pins σ H s) (h : SqX X.K H a vs) : ∃ (o : Obj) (its : List Value) (n : Nat), s.heap.get? a = some o ∧ o.cls = .type "tuple" ∧ o.dict = none ∧ o.data = .seq its.toArray n ∧ Vals vs its ∧ vs.length ≤ sizeLine := by
  rcases h with ⟨o, h, n⟩ | ⟨o, its, n, h1, h2, h3, h4, h5, h6⟩
  · obtain ⟨g1, g2, its, rv, o', e', c', n', d'⟩ := I.hok a _ h
    rw [g1] at e'
    cases e'
    exact ⟨o, its, n', g1, c', n, d', rv, g2⟩
  · refine ⟨o, its.toList, n, I.kIn a o h1, h2, h6, by rw [Array.toArray_toList]; exact h3, h5, ?_⟩
    rw [h5.length]; simpa using h4
/-! numbers and their texts -/
theorem decL_str (i : Int) : Str.ofString (toString i) = SX (numT i) := by
  refine TL.ext_tl ?_
  cases i with
  | ofNat n =>
    have h : ¬ ((Int.ofNat n) < 0) := by simp
    show TL.tl (Str.ofString (toString (Int.ofNat n))) = numT (Int.ofNat n)
    unfold numT
    rw [if_neg h]
    exact TL.tl_num n
  | negSucc n =>
    show TL.tl (Str.ofString (toString (Int.negSucc n))) = numT (Int.negSucc n)
    unfold numT
    rw [if_pos (Int.negSucc_lt_zero n), TL.tl_ofString]
    have e := TL.tl_num (n + 1)
    rw [TL.tl_ofString] at e
    rw [show (Int.negSucc n).natAbs = n + 1 from rfl, ← e, show toString (Int.negSucc n) = "-" ++ toString (((n + 1 : Nat)) : Int) from rfl, String.toList_append, List.map_append]
    rfl
theorem pow2_le (a b : Nat) (h : a ≤ b) : 2 ^ a ≤ 2 ^ b := Nat.pow_le_pow_right (by omega) h
theorem numL_ok (n : Nat) : strOkL (TL.numL n) = true := by
  unfold strOkL
  rw [List.all_eq_true]
  intro c hc
  have := TL.numL_digits n c hc
  exact decide_eq_true (by omega)
theorem decL_ok {i : Int} (h : i.natAbs < 1000000000) : strOkL (numT i) = true ∧ (numT i).length ≤ 16777216 := by
  have l := TL.numL_len (n := i.natAbs) (k := 9) (by omega) (by simpa using h)
  have o := numL_ok i.natAbs
  unfold numT
  split
  · refine ⟨?_, by simp; omega⟩
    unfold strOkL at *
    simp only [List.all_cons, o, Bool.and_true]
    rfl
  · exact ⟨o, by omega⟩
theorem digB_ok {x : List Nat} (h : digB x = true) : NumText.AllDigits x ∧ x ≠ [] ∧ x.length ≤ 600 := by
  simp only [digB, Bool.and_eq_true, Bool.not_eq_true', List.isEmpty_eq_false_iff, decide_eq_true_eq, List.all_eq_true] at h
  exact ⟨h.2.2, h.1, h.2.1⟩
theorem intS_ok {x : List Nat} {i : Int} (h : intS x = some i) : intText? (SX x) = some i ∧ (SX x).length ≤ 640 := by
  unfold intS at h
  split at h
  · rename_i g
    obtain ⟨g1, g2, g3⟩ := digB_ok g
    simp only [Option.some.injEq] at h
    subst h
    exact ⟨intText_digits (x := SX x) g1 g2 (by rw [SX_len]; omega), by rw [SX_len]; omega⟩
  · split at h
    · rename_i g
      simp only [Bool.and_eq_true] at g
      obtain ⟨g0, g⟩ := g
      obtain ⟨g1, g2, g3⟩ := digB_ok g
      simp only [Option.some.injEq] at h
      subst h
      cases x with
      | nil => simp at g0
      | cons c r =>
        have : c = 45 := by simpa using g0
        subst this
        simp only [List.tail_cons] at *
        refine ⟨intText_neg (x := SX (45 :: r)) rfl g1 g2 (by rw [SX_len, List.length_cons]; omega), by rw [SX_len, List.length_cons]; omega⟩
    · cases h
theorem call_biD2 (hc : X.calm = true) (hw : X.w = HasW.w) (hu : X.A.units + 64 < cLine) (gu : X.A.guards = some []) {pins : List (Addr × Obj)} {s : Shared} {σ : L2.St} {H F : Hp} (f : Bi) {x : Str} {v : Value} (hv : biV f = some (x, v) ∨ (f = .sortI ∧ v = .builtin "sorted")) {xs : List V} {us : List Value} {Q : VK} {ds : List D} {z : Sl} (I : Inv X pins σ H s) (r : Vals xs us) (sb : Same F H)
    (vw : Vws X.K F H xs ds) (hb : biD2 f ds = some z) (q : ∀ z' F' H' a, New X.K F H z' z F' H' a → Q z' H') : wpAny (model X.prog X.w) X.A (call v us) (EP X pins σ Q) X.xe s := by
  have scal : ∀ {z : V} {k : D}, (∀ F, Rp X.K F z k) → New X.K F H z (.dat k) F H [] := fun h => New.dat sb (h F)
  unfold biD2 at hb
  split at hb
  · obtain ⟨x1, rfl, h1⟩ := vw.one
    simp only [biV, Option.some.injEq, Prod.mk.injEq, reduceCtorEq, false_and, or_false] at hv; obtain ⟨-, rfl⟩ := hv
    rename_i ps
    cases e : pairsT ps with
    | none => rw [e] at hb; simp at hb
    | some p =>
      rw [e] at hb
      simp only [Option.bind_some] at hb
      split at hb
      · rename_i hl
        cases hb
        obtain ⟨u, rfl, rx⟩ := vals1 r
        exact call_dictT hc hw (by omega) I sb h1 rx e (by simpa using hl) q
      · cases hb
  · obtain ⟨x1, x2, rfl, h1, h2⟩ := vw.two
    simp only [biV, Option.some.injEq, Prod.mk.injEq, reduceCtorEq, false_and, or_false] at hv; obtain ⟨-, rfl⟩ := hv
    cases h1.int; cases h2.int
    split at hb
    · rename_i i j hf
      cases hb
      simp only [Bool.and_eq_true, decide_eq_true_eq] at hf
      obtain ⟨u, w', rfl, ⟨t, rfl⟩, ⟨t', rfl⟩⟩ := vals2 r
      refine divmod_int hf.1 ?_ (.inl (PyProof.noPylong_small hf.2))
      have hn : H s.heap.objs.size = none := I.hok.fresh (Nat.le_refl _)
      refine ⟨.ref s.heap.objs.size, upd H s.heap.objs.size (.frz (tO [.int (i.fdiv j) s.toks, .int (i.fmod j) (s.toks + 1)]) (.tup [.int (i.fdiv j), .int (i.fmod j)])), ?_, rfl, q _ _ _ _ (New.tup rfl sb hn (.cons (.int _) (.cons (.int _) .nil)))⟩
      refine I.laid (fun b o e => Heap.get?_push_of_some _ e) (Nat.le_refl _) ⟨Heap.get?_push_size s.heap rfl, by show 2 ≤ sizeLine; rw [sizeLine_eq]; omega, [.int (i.fdiv j) s.toks, .int (i.fmod j) (s.toks + 1)], .cons ⟨_, rfl⟩ (.cons ⟨_, rfl⟩ .nil), ?_⟩
      exact ⟨_, Heap.get?_push_size s.heap rfl, rfl, 0, rfl⟩
    · cases hb
  · obtain ⟨x1, rfl, h1⟩ := vw.one
    simp only [biV, Option.some.injEq, Prod.mk.injEq, reduceCtorEq, false_and, or_false] at hv; obtain ⟨-, rfl⟩ := hv
    rename_i xs
    cases e : asInts xs with
    | none => rw [e] at hb; simp at hb
    | some l =>
      rw [e] at hb
      simp only [Option.map_some, Option.some.injEq] at hb
      subst hb
      obtain ⟨a, vs, rfl, h1, rs⟩ := h1.tup
      have := rs.asInts e
      subst this
      obtain ⟨its, rv, hl, _⟩ := I.tuple (sqT_mono sb h1)
      rw [Vals.ref1 r]
      exact sum_tupRaw (I.ok.hd hc) hl rv.ints fun h' tk t' hk => ⟨.int _, H, I.kept hk, ⟨_, rfl⟩, q _ _ _ _ (scal fun F => .int _)⟩
  · obtain ⟨x1, rfl, h1⟩ := vw.one
    simp only [biV, Option.some.injEq, Prod.mk.injEq, reduceCtorEq, false_and, or_false] at hv; obtain ⟨-, rfl⟩ := hv
    rename_i xs
    cases e : asInts xs with
    | none => rw [e] at hb; simp at hb
    | some l =>
      rw [e] at hb
      cases l with
      | nil => simp [maxL] at hb
      | cons i l =>
        simp only [maxL, Option.bind_some, Option.map_some, Option.some.injEq] at hb
        subst hb
        obtain ⟨a, vs, rfl, h1, rs⟩ := h1.tup
        have := rs.asInts e
        subst this
        obtain ⟨its, rv, hl, _⟩ := I.tuple (sqT_mono sb h1)
        obtain ⟨g1, g2⟩ := foldl_max l i
        rw [Vals.ref1 r]
        refine max_tupRaw (I.ok.hd hc) hl rv.ints (by simp) fun h' tk m t' hk hm hy => ?_
        have e2 : m = l.foldl max i := Int.le_antisymm (g2 m hm) (hy _ g1)
        subst e2
        exact ⟨.int _, H, I.kept hk, ⟨_, rfl⟩, q _ _ _ _ (scal fun F => .int _)⟩
  · obtain ⟨x1, rfl, h1⟩ := vw.one
    simp only [biV, Option.some.injEq, Prod.mk.injEq, reduceCtorEq, false_and, or_false] at hv; obtain ⟨-, rfl⟩ := hv
    rename_i xs
    cases e : asInts xs with
    | none => rw [e] at hb; simp at hb
    | some l =>
      rw [e] at hb
      cases l with
      | nil => simp [minL] at hb
      | cons i l =>
        simp only [minL, Option.bind_some, Option.map_some, Option.some.injEq] at hb
        subst hb
        obtain ⟨a, vs, rfl, h1, rs⟩ := h1.tup
        have := rs.asInts e
        subst this
        obtain ⟨its, rv, hl, _⟩ := I.tuple (sqT_mono sb h1)
        obtain ⟨g1, g2⟩ := foldl_min l i
        rw [Vals.ref1 r]
        refine min_tupRaw (I.ok.hd hc) hl rv.ints (by simp) fun h' tk m t' hk hm hy => ?_
        have e2 : m = l.foldl min i := Int.le_antisymm (hy _ g1) (g2 m hm)
        subst e2
        exact ⟨.int _, H, I.kept hk, ⟨_, rfl⟩, q _ _ _ _ (scal fun F => .int _)⟩
  · obtain ⟨x1, rfl, h1⟩ := vw.one
    simp only [biV, Option.some.injEq, Prod.mk.injEq, reduceCtorEq, false_and, or_false] at hv; obtain ⟨-, rfl⟩ := hv
    cases hb; cases h1.int
    exact call_int1 pins s σ H _ us Q I r (.inl ⟨_, rfl, q _ _ _ _ (scal fun F => .int _)⟩)
  · obtain ⟨x1, rfl, h1⟩ := vw.one
    simp only [biV, Option.some.injEq, Prod.mk.injEq, reduceCtorEq, false_and, or_false] at hv; obtain ⟨-, rfl⟩ := hv
    cases hb; cases h1.bl
    exact call_int1 pins s σ H _ us Q I r (.inr ⟨_, rfl, q _ _ _ _ (scal fun F => .int _)⟩)
  · obtain ⟨x1, rfl, h1⟩ := vw.one
    simp only [biV, Option.some.injEq, Prod.mk.injEq, reduceCtorEq, false_and, or_false] at hv; obtain ⟨-, rfl⟩ := hv
    rename_i x
    cases e : intS x with
    | none => rw [e] at hb; simp at hb
    | some i =>
      rw [e] at hb
      simp only [Option.map_some, Option.some.injEq] at hb
      subst hb
      obtain ⟨rfl, _, _⟩ := h1.str
      obtain ⟨e1, e2⟩ := intS_ok e
      exact call_int_str pins s σ H _ us Q I r ⟨_, i, rfl, e1, e2, q _ _ _ _ (scal fun F => .int _)⟩
  · obtain ⟨x1, rfl, h1⟩ := vw.one
    simp only [biV, Option.some.injEq, Prod.mk.injEq, reduceCtorEq, false_and, or_false] at hv; obtain ⟨-, rfl⟩ := hv
    rename_i i
    split at hb
    · rename_i hf
      cases hb
      have hf' : i.natAbs < 1000000000 := by simpa using hf
      cases h1.int
      obtain ⟨o, l⟩ := decL_ok hf'
      refine call_str_int pins s σ H _ us Q I r ⟨i, rfl, ?_, ?_⟩
      · by_cases z : i.natAbs = 0
        · rw [z]; decide
        · exact (Nat.log2_lt z).mpr (Nat.lt_of_lt_of_le hf' (Nat.le_trans (show 1000000000 ≤ 2 ^ 30 by decide) (pow2_le 30 1920 (by omega))))
      · rw [decL_str]
        exact q _ _ _ _ (scal fun F => .str _ o l)
    · cases hb
  · obtain ⟨x1, rfl, h1⟩ := vw.one
    simp only [biV, Option.some.injEq, Prod.mk.injEq, reduceCtorEq, false_and, or_false] at hv; obtain ⟨-, rfl⟩ := hv
    cases hb
    obtain ⟨rfl, o, l⟩ := h1.str
    exact SkE.call_str_str pins s σ H _ us Q I r ⟨_, rfl, q _ _ _ _ (scal fun F => .str _ o l)⟩
  · obtain ⟨x1, rfl, h1⟩ := vw.one
    simp only [biV, reduceCtorEq, true_and, false_or] at hv; subst hv
    rename_i xs
    cases e : asInts xs with
    | none => rw [e] at hb; simp at hb
    | some l =>
      rw [e] at hb
      simp only [Option.bind_some] at hb
      split at hb
      · rename_i h64
        cases hb
        obtain ⟨a, vs, rfl, h1, rs⟩ := h1.lst sb
        have := rs.asInts e
        subst this
        exact cr_sorted pins s σ H _ us Q I r ⟨a, l, rfl, .inl h1, by simpa using h64, fun ns' p hp hw hn => by
          rw [sortI_is hp hw]
          exact q _ _ _ _ (New.lst sb hn Rps.ofInts)⟩
      · cases hb
  · simp only [biV, reduceCtorEq, true_and, false_or] at hv; subst hv
    obtain ⟨x1, rfl, h1⟩ := vw.one
    rename_i xs
    cases e : asInts xs with
    | none => rw [e] at hb; simp at hb
    | some l =>
      rw [e] at hb
      simp only [Option.bind_some] at hb
      split at hb
      · rename_i h64
        cases hb
        obtain ⟨a, vs, rfl, h1, rs⟩ := h1.tup
        have := rs.asInts e
        subst this
        obtain ⟨its, rv, ⟨o, ho, hc', m, hd⟩, _⟩ := I.tuple (sqT_mono sb h1)
        rw [Vals.ref1 r]
        have hi := rv.ints
        have hl : its.length = l.length := hi.length
        refine Calls.call_function_entry PyProof.Rows.kind_sorted PyProof.Rows.plain_sorted PyProof.Rows.entry_sorted (PyProof.Rows.args_sorted1 _) ?_
        unfold Builtin.«sorted»
        refine wpAny_bind (m := checkCount "sorted" 1 1 _) (wpAny_pure ?_)
        refine wpAny_bind (wpAny_collect_seq a (.inr rfl) ho hc' hd (fun h' hk => ?_) (by rw [List.size_toArray, hl, line_eq]; simp at h64; omega))
        have I1 : Inv X pins σ H { s with heap := h' } := I.kept (t' := s.toks) hk
        refine wpAny_bind (wpAny_newList ?_ (by rw [List.toList_toArray, hl, line_eq]; simp at h64; omega))
        have hoL : (h'.push (seqObj "list" its.toArray.toList.toArray 0)).get? h'.objs.size = some (seqObj "list" its.toArray.toList.toArray 0) := Heap.get?_push_size _ rfl
        have hi' : IntsAre its.toArray.toList l := by simpa using hi
        show wpAny _ _ _ _ _ { s with heap := h'.push (seqObj "list" its.toArray.toList.toArray 0) }
        refine wpAny_bind (wpAny_holding (wpAny_call_entry PyProof.Rows.slot_list_sort ⟨_, hoL, rfl⟩ PyProof.Rows.entry_list_sort
          (PyProof.Rows.list_sort_tree (s := { s with heap := h'.push (seqObj "list" its.toArray.toList.toArray 0) }) hoL hi' (by rw [List.toList_toArray, hl]; simpa using h64) fun out ns' g1 g2 g3 => ⟨_, rfl, ?_⟩) (PyProof.Rows.args_list_sort _)))
        obtain ⟨e', he'⟩ := PyProof.Rows.sortedHeap_at (vs := its.toArray.toList) (out := out) hoL
        have hq := sortI_is g2 g3
        subst hq
        have hlen : ((sortI l).map V.int).length ≤ sizeLine := by rw [List.length_map, (sortI_perm l).length_eq, line_eq]; simp at h64; omega
        refine wpAny_pure ⟨_, rfl, .ref h'.objs.size, upd H h'.objs.size (.lst ((sortI l).map V.int)), I1.laid (t' := s.toks) (fun b u e => ?_) (Nat.le_refl _)
          (show ObjOk X.prog X.w _ _ _ (.lst ((sortI l).map V.int)) from ⟨hlen, out.toList, e', vals_of_ints g1, he'⟩), rfl, q _ _ _ _ (New.lst sb (I1.hok.fresh (Nat.le_refl _)) Rps.ofInts)⟩
        have hbs : b < h'.objs.size := Heap.lt_size e
        rw [PyProof.Rows.sortedHeap_old (Nat.ne_of_lt hbs) (by rw [size_push']; exact Nat.lt_succ_of_lt hbs)]
        exact Heap.get?_push_of_some _ e
      · cases hb
  · simp [biV] at hv
  · obtain ⟨x1, rfl, h1⟩ := vw.one
    simp only [biV, Option.some.injEq, Prod.mk.injEq, reduceCtorEq, false_and, or_false] at hv; obtain ⟨-, rfl⟩ := hv
    split at hb
    · rename_i ok
      cases hb
      have rr := h1.rp sb
      obtain ⟨a, ws, rfl, _, _⟩ := rr.lstI
      rw [Vals.ref1 r]
      exact call_rep gu hu I rr ok fun o l => q _ _ _ _ (New.dat sb (.str _ o l))
    · cases hb
  · obtain ⟨x1, rfl, h1⟩ := vw.one
    simp only [biV, Option.some.injEq, Prod.mk.injEq, reduceCtorEq, false_and, or_false] at hv; obtain ⟨-, rfl⟩ := hv
    split at hb
    · rename_i ok
      cases hb
      have rr := h1.rp sb
      obtain ⟨a, ws, rfl, _, _⟩ := h1.tup
      rw [Vals.ref1 r]
      exact call_rep gu hu I rr ok fun o l => q _ _ _ _ (New.dat sb (.str _ o l))
    · cases hb
  · obtain ⟨x1, rfl, h1⟩ := vw.one
    simp only [biV, Option.some.injEq, Prod.mk.injEq, reduceCtorEq, false_and, or_false] at hv; obtain ⟨-, rfl⟩ := hv
    cases hb
    cases h1.non
    obtain ⟨u, rfl, rx⟩ := vals1 r
    cases rx
    exact call_repN hu I (q _ _ _ _ (New.dat sb (.str [78, 111, 110, 101] (by decide) (by decide))))
  · obtain ⟨x1, rfl, h1⟩ := vw.one
    simp only [biV, Option.some.injEq, Prod.mk.injEq, reduceCtorEq, false_and, or_false] at hv; obtain ⟨-, rfl⟩ := hv
    cases hb
    obtain ⟨a, kvs, rfl, hH, rfl, g, ok, rs⟩ := h1.dic sb
    exact call_dictD pins s σ H _ us Q I r ⟨a, kvs, rfl, .inl hH, fun p hp => q _ _ _ _ (New.dic sb hp g ok rs)⟩
  · obtain ⟨x1, rfl, h1⟩ := vw.one
    simp only [biV, Option.some.injEq, Prod.mk.injEq, reduceCtorEq, false_and, or_false] at hv; obtain ⟨-, rfl⟩ := hv
    rename_i ds
    cases e : pairsD ds with
    | none => rw [e] at hb; simp at hb
    | some p =>
      rw [e] at hb
      simp only [Option.bind_some] at hb
      split at hb
      · cases hb
        obtain ⟨a, vs, rfl, h1, rs⟩ := h1.lst sb
        obtain ⟨ps, kvs, rfl, g1, g2, g3, g4⟩ := pairsD_ok rs e
        obtain ⟨m1, m2, m3, m4⟩ := dMerge_ok (more := kvs) (kvs := []) (ds := []) (by simp) (by simp) g3 .nil g4
        simp only [List.map_nil] at m1 m2
        rw [g2, m1] at q
        exact call_dictP hc pins s σ H _ us Q I r ⟨a, ps, kvs, rfl, .inl h1, paired_mono sb g1, fun p' hp => q _ _ _ _ (New.dic sb hp m3 m4 m2)⟩
      · cases hb
  · obtain ⟨x1, rfl, h1⟩ := vw.one
    simp only [biV, Option.some.injEq, Prod.mk.injEq, reduceCtorEq, false_and, or_false] at hv; obtain ⟨-, rfl⟩ := hv
    rename_i ds
    cases e : pairsD ds with
    | none => rw [e] at hb; simp at hb
    | some p =>
      rw [e] at hb
      simp only [Option.bind_some] at hb
      split at hb
      · rename_i hl
        cases hb
        obtain ⟨a, vs, rfl, h1, rs⟩ := h1.tupX
        obtain ⟨ps, kvs, rfl, g1, g2, g3, g4⟩ := pairsD_ok rs e
        obtain ⟨m1, m2, m3, m4⟩ := dMerge_ok (more := kvs) (kvs := []) (ds := []) (by simp) (by simp) g3 .nil g4
        obtain ⟨o, its, n, ho, hcl, hdn, hdt, rv, hz⟩ := sqX_obj I (sqX_mono sb h1)
        rw [refs_at rv] at hdt
        obtain ⟨prs, rel, hlen, hpr⟩ := pairs_of I (paired_mono sb g1)
        rw [Vals.ref1 r]
        rw [List.length_map] at hz
        refine call_dict_tup (prs := prs) (I.ok.hd hc) ho hcl hdn hdt (by simp [hlen]) (by rw [hlen]; exact hz) (fun j q' e => ?_) fun h' tk hd' k => ?_
        · obtain ⟨b, u, e1, e2, e3⟩ := hpr j q' e
          exact ⟨b, u, by simp [e1], e2, e3⟩
        · have hm : (s.heap.objs.size == sysModules) = false := beq_eq_false_iff_ne.mpr (Nat.ne_of_gt I.big)
          have hl2 : (mergeK [] kvs).length ≤ sizeLine := by
            have := length_mergeK kvs []
            have := paired_len g1
            simp at *; omega
          simp only [List.map_nil] at m1 m2
          rw [g2, m1] at q
          exact ⟨.ref s.heap.objs.size, upd H s.heap.objs.size (.dK (mergeK [] kvs)), I.laid (t' := tk) k (Nat.le_refl _) (show ObjOk X.prog X.w _ _ _ (.dK (mergeK [] kvs)) from ⟨hl2, hm, merged [] prs, KV.merge rel .nil, hd'⟩), rfl, q _ _ _ _ (New.dic sb (I.hok.fresh (Nat.le_refl _)) m3 m4 m2)⟩
      · cases hb
  · cases hb
theorem call_biD (hc : X.calm = true) (hw : X.w = HasW.w) (hu : X.A.units + 64 < cLine) (gu : X.A.guards = some []) (f : Bi) {x : Str} {v : Value} (hv : biV f = some (x, v)) : CallR X v (rBi X.K f) := by
  intro pins s σ H xs us Q I r h
  obtain ⟨F, ds, z, sb, vw, hb, q⟩ := h
  have scal : ∀ {z : V} {k : D}, (∀ F, Rp X.K F z k) → New X.K F H z (.dat k) F H [] := fun h => New.dat sb (h F)
  unfold biD at hb
  split at hb
  · obtain ⟨x1, rfl, h1⟩ := vw.one
    simp only [biV, Option.some.injEq, Prod.mk.injEq] at hv; obtain ⟨-, rfl⟩ := hv
    cases hb
    exact call_len pins s σ H _ us Q I r ⟨x1, _, rfl, h1.len sb rfl, q _ _ _ _ (scal fun F => .int _)⟩
  · obtain ⟨x1, rfl, h1⟩ := vw.one
    simp only [biV, Option.some.injEq, Prod.mk.injEq] at hv; obtain ⟨-, rfl⟩ := hv
    cases hb
    exact call_len pins s σ H _ us Q I r ⟨x1, _, rfl, h1.len sb rfl, q _ _ _ _ (scal fun F => .int _)⟩
  · obtain ⟨x1, rfl, h1⟩ := vw.one
    simp only [biV, Option.some.injEq, Prod.mk.injEq] at hv; obtain ⟨-, rfl⟩ := hv
    cases hb
    exact call_len pins s σ H _ us Q I r ⟨x1, _, rfl, h1.len sb rfl, q _ _ _ _ (scal fun F => .int _)⟩
  · obtain ⟨x1, rfl, h1⟩ := vw.one
    simp only [biV, Option.some.injEq, Prod.mk.injEq] at hv; obtain ⟨-, rfl⟩ := hv
    cases hb
    exact call_len pins s σ H _ us Q I r ⟨x1, _, rfl, h1.len sb rfl, q _ _ _ _ (scal fun F => .int _)⟩
  · obtain ⟨x1, rfl, h1⟩ := vw.one
    simp only [biV, Option.some.injEq, Prod.mk.injEq] at hv; obtain ⟨-, rfl⟩ := hv
    cases hb
    obtain ⟨a, kvs, rfl, hH, rfl, _⟩ := h1.dic sb
    obtain ⟨u, rfl, rx⟩ := vals1 r
    cases rx
    refine d_len I (.inl hH) fun t s' I' => ⟨.int (kvs.length : Nat), H, I', ⟨t, rfl⟩, ?_⟩
    have := q (.int ((kvs.map fun p => kD p.1).length : Nat)) F H [] (scal fun F => .int _)
    rw [List.length_map] at this
    exact this
  · obtain ⟨x1, rfl, h1⟩ := vw.one
    simp only [biV, Option.some.injEq, Prod.mk.injEq] at hv; obtain ⟨-, rfl⟩ := hv
    rename_i xs
    cases e : asInts xs with
    | none => rw [e] at hb; simp at hb
    | some l =>
      rw [e] at hb
      simp only [Option.map_some, Option.some.injEq] at hb
      subst hb
      obtain ⟨a, vs, rfl, h1, rs⟩ := h1.lst sb
      have := rs.asInts e
      subst this
      exact cr_sum hc pins s σ H _ us Q I r ⟨a, l, rfl, .inl h1, q _ _ _ _ (scal fun F => .int _)⟩
  · obtain ⟨x1, rfl, h1⟩ := vw.one
    simp only [biV, Option.some.injEq, Prod.mk.injEq] at hv; obtain ⟨-, rfl⟩ := hv
    rename_i l
    cases hb
    obtain ⟨a, rfl, h2⟩ := h1.scr sb
    exact cr_sum hc pins s σ H _ us Q I r ⟨a, l, rfl, h2, q _ _ _ _ (scal fun F => .int _)⟩
  · obtain ⟨x1, rfl, h1⟩ := vw.one
    simp only [biV, Option.some.injEq, Prod.mk.injEq] at hv; obtain ⟨-, rfl⟩ := hv
    rename_i xs
    cases e : asInts xs with
    | none => rw [e] at hb; simp at hb
    | some l =>
      rw [e] at hb
      cases l with
      | nil => simp [maxL] at hb
      | cons i l =>
        simp only [maxL, Option.bind_some, Option.map_some, Option.some.injEq] at hb
        subst hb
        obtain ⟨a, vs, rfl, h1, rs⟩ := h1.lst sb
        have := rs.asInts e
        subst this
        obtain ⟨g1, g2⟩ := foldl_max l i
        refine cr_max hc pins s σ H _ us Q I r ⟨a, i :: l, rfl, .inl h1, by simp, fun m hm hy => ?_⟩
        have e2 : m = l.foldl max i := Int.le_antisymm (g2 m hm) (hy _ g1)
        subst e2
        exact q _ _ _ _ (scal fun F => .int _)
  · obtain ⟨x1, rfl, h1⟩ := vw.one
    simp only [biV, Option.some.injEq, Prod.mk.injEq] at hv; obtain ⟨-, rfl⟩ := hv
    rename_i xs
    cases e : asInts xs with
    | none => rw [e] at hb; simp at hb
    | some l =>
      rw [e] at hb
      cases l with
      | nil => simp [minL] at hb
      | cons i l =>
        simp only [minL, Option.bind_some, Option.map_some, Option.some.injEq] at hb
        subst hb
        obtain ⟨a, vs, rfl, h1, rs⟩ := h1.lst sb
        have := rs.asInts e
        subst this
        obtain ⟨g1, g2⟩ := foldl_min l i
        refine cr_min hc pins s σ H _ us Q I r ⟨a, i :: l, rfl, .inl h1, by simp, fun m hm hy => ?_⟩
        have e2 : m = l.foldl min i := Int.le_antisymm (hy _ g1) (g2 m hm)
        subst e2
        exact q _ _ _ _ (scal fun F => .int _)
  · obtain ⟨x1, x2, rfl, h1, h2⟩ := vw.two
    simp only [biV, Option.some.injEq, Prod.mk.injEq] at hv; obtain ⟨-, rfl⟩ := hv
    cases hb; cases h1.int; cases h2.int
    exact call_max2 hc pins s σ H _ us Q I r ⟨_, _, rfl, q _ _ _ _ (scal fun F => .int _)⟩
  · obtain ⟨x1, x2, rfl, h1, h2⟩ := vw.two
    simp only [biV, Option.some.injEq, Prod.mk.injEq] at hv; obtain ⟨-, rfl⟩ := hv
    cases hb; cases h1.int; cases h2.int
    exact call_min2 hc pins s σ H _ us Q I r ⟨_, _, rfl, q _ _ _ _ (scal fun F => .int _)⟩
  · obtain ⟨x1, rfl, h1⟩ := vw.one
    simp only [biV, Option.some.injEq, Prod.mk.injEq] at hv; obtain ⟨-, rfl⟩ := hv
    cases hb; cases h1.int
    exact call_abs pins s σ H _ us Q I r ⟨_, rfl, q _ _ _ _ (scal fun F => .int _)⟩
  · obtain ⟨x1, rfl, h1⟩ := vw.one
    simp only [biV, Option.some.injEq, Prod.mk.injEq] at hv; obtain ⟨-, rfl⟩ := hv
    rename_i xs
    cases e : asBls xs with
    | none => rw [e] at hb; simp at hb
    | some l =>
      rw [e] at hb
      simp only [Option.map_some, Option.some.injEq] at hb
      subst hb
      obtain ⟨a, vs, rfl, h1, rs⟩ := h1.lst sb
      have := rs.asBls e
      subst this
      exact cr_any hc pins s σ H _ us Q I r ⟨a, l, rfl, .inl h1, q _ _ _ _ (scal fun F => .bl _)⟩
  · obtain ⟨x1, rfl, h1⟩ := vw.one
    simp only [biV, Option.some.injEq, Prod.mk.injEq] at hv; obtain ⟨-, rfl⟩ := hv
    rename_i xs
    cases e : asBls xs with
    | none => rw [e] at hb; simp at hb
    | some l =>
      rw [e] at hb
      simp only [Option.map_some, Option.some.injEq] at hb
      subst hb
      obtain ⟨a, vs, rfl, h1, rs⟩ := h1.lst sb
      have := rs.asBls e
      subst this
      exact cr_all hc pins s σ H _ us Q I r ⟨a, l, rfl, .inl h1, q _ _ _ _ (scal fun F => .bl _)⟩
  · obtain ⟨x1, rfl, h1⟩ := vw.one
    simp only [biV, Option.some.injEq, Prod.mk.injEq] at hv; obtain ⟨-, rfl⟩ := hv
    cases hb
    obtain ⟨a, vs, rfl, h1, rs⟩ := h1.lst sb
    exact call_list_of pins s σ H _ us Q I r ⟨a, vs, rfl, .inl (.inl h1), fun p hp => q _ _ _ _ (New.lst sb hp rs)⟩
  · obtain ⟨x1, rfl, h1⟩ := vw.one
    simp only [biV, Option.some.injEq, Prod.mk.injEq] at hv; obtain ⟨-, rfl⟩ := hv
    cases hb
    obtain ⟨a, vs, rfl, h1, rs⟩ := h1.tup
    exact call_list_of pins s σ H _ us Q I r ⟨a, vs, rfl, .inr (sqT_mono sb h1), fun p hp => q _ _ _ _ (New.lst sb hp rs)⟩
  · obtain ⟨x1, rfl, h1⟩ := vw.one
    simp only [biV, Option.some.injEq, Prod.mk.injEq] at hv; obtain ⟨-, rfl⟩ := hv
    cases hb
    obtain ⟨a, kvs, rfl, hH, rfl, g, ok, rs⟩ := h1.dic sb
    refine call_list_dK hc pins s σ H _ us Q I r ⟨a, kvs, rfl, hH, fun p hp => q _ _ _ _ (New.lst sb hp (keys_rps ok))⟩
  · obtain ⟨x1, rfl, h1⟩ := vw.one
    simp only [biV, Option.some.injEq, Prod.mk.injEq] at hv; obtain ⟨-, rfl⟩ := hv
    cases hb
    obtain ⟨rfl, o, l⟩ := h1.str
    rename_i x
    obtain ⟨u, rfl, rx⟩ := vals1 r
    obtain ⟨t, rfl⟩ := rx
    refine call_list_str (I.ok.hd hc) _ t (fun h' tk acc c' hk he hacc => ?_) (by rw [List.size_toArray, line_eq]; exact l)
    have hv : Vals (x.map fun c => V.str (SX [c])) acc.toList := by
      refine vals_of_at ?_ fun j v u h1 h2 => ?_
      · have h0 := hacc.1
        simp only [List.size_toArray] at h0
        rw [List.length_map]
        have h1 : acc.toList.length = acc.size := Array.length_toList
        rw [h1]; exact h0.symm
      · rw [List.getElem?_map] at h1
        obtain ⟨c, t', g1, rfl⟩ := hacc.2 j u (by rw [← Array.getElem?_toList]; exact h2)
        rw [List.getElem?_toArray] at g1
        rw [g1] at h1
        simp only [Option.map_some, Option.some.injEq] at h1
        subst h1
        exact ⟨t', rfl⟩
    exact ⟨.ref _, _, I.laid (t' := tk) hk (Nat.le_refl _) (show ObjOk X.prog X.w _ h' _ (.lst (x.map fun c => V.str (SX [c]))) from ⟨by rw [List.length_map, line_eq]; exact l, acc.toList, c', hv, by simpa using he⟩), rfl, q _ _ _ _ (New.lst sb I.fresh (signs_rps o))⟩
  · obtain ⟨x1, rfl, h1⟩ := vw.one
    simp only [biV, Option.some.injEq, Prod.mk.injEq] at hv; obtain ⟨-, rfl⟩ := hv
    cases hb
    obtain ⟨u, rfl, rx⟩ := vals1 r
    exact list_cd hc hw I sb h1 rx fun p zs hp rs => q _ _ _ _ (New.lst sb hp rs)
  · obtain ⟨x1, rfl, h1⟩ := vw.one
    simp only [biV, Option.some.injEq, Prod.mk.injEq] at hv; obtain ⟨-, rfl⟩ := hv
    cases hb
    obtain ⟨a, vs, rfl, h1, rs⟩ := h1.lst sb
    exact call_tupX I r rfl (.inl h1) fun p o ho hp => q _ _ _ _ (New.tup ho sb hp rs)
  · obtain ⟨x1, rfl, h1⟩ := vw.one
    simp only [biV, Option.some.injEq, Prod.mk.injEq] at hv; obtain ⟨-, rfl⟩ := hv
    cases hb
    obtain ⟨a, vs, rfl, h1, rs⟩ := h1.tupX
    exact call_tuple_of pins s σ H _ us Q I r ⟨a, vs, rfl, .inr ⟨sqT_mono sb (sqX_t h1), q _ _ _ _ (New.dat sb (.tup h1 rs))⟩⟩
  · obtain ⟨x1, rfl, h1⟩ := vw.one
    simp only [biV, Option.some.injEq, Prod.mk.injEq] at hv; obtain ⟨-, rfl⟩ := hv
    rename_i xs
    cases e : asStrs xs with
    | none =>
      rw [e] at hb
      exact call_biD2 hc hw hu gu .sortI (x := "sorted") (.inr ⟨rfl, rfl⟩) I r sb vw hb q
    | some l =>
      rw [e] at hb
      dsimp only at hb
      split at hb
      · rename_i h64
        cases hb
        obtain ⟨a, vs, rfl, h1, rs⟩ := h1.lst sb
        obtain ⟨rfl, ok⟩ := rs.asStrs e
        obtain ⟨u, rfl, rx⟩ := vals1 r
        cases rx
        obtain ⟨its, m, rv, e1, _⟩ := lstR I h1
        exact sorted_seq I (.inl rfl) e1 rfl rfl (strs_are rv) (by simpa using h64) fun p hp => q _ _ _ _ (New.lst sb hp (Rps.ofStrs (strs_ok_sorted ok)))
      · cases hb
  · obtain ⟨x1, rfl, h1⟩ := vw.one
    simp only [biV, Option.some.injEq, Prod.mk.injEq] at hv; obtain ⟨-, rfl⟩ := hv
    rename_i xs
    cases e : asStrs xs with
    | none =>
      rw [e] at hb
      exact call_biD2 hc hw hu gu .sortI (x := "sorted") (.inr ⟨rfl, rfl⟩) I r sb vw hb q
    | some l =>
      rw [e] at hb
      dsimp only at hb
      split at hb
      · rename_i h64
        cases hb
        obtain ⟨a, vs, rfl, h1, rs⟩ := h1.tup
        obtain ⟨rfl, ok⟩ := rs.asStrs e
        obtain ⟨u, rfl, rx⟩ := vals1 r
        cases rx
        obtain ⟨its, rv, ⟨o, ho, hc', m, hd⟩, _⟩ := I.tuple (sqT_mono sb h1)
        exact sorted_seq I (.inr rfl) ho hc' hd (strs_are rv) (by simpa using h64) fun p hp => q _ _ _ _ (New.lst sb hp (Rps.ofStrs (strs_ok_sorted ok)))
      · cases hb
  · exact call_biD2 hc hw hu gu f (.inl hv) I r sb vw hb q
end
end MP

namespace MP
open PySem PySem.Spec PyProof.Rows L2 RT
variable [HasW]
/-! t[::-1], t a tuple -/
theorem adj_back (n : Nat) : Builtin.Slice.sliceAdjust none none (-1) (n : Int) = ((n : Int) - 1, -1) := by
  unfold Builtin.Slice.sliceAdjust
  simp
theorem places_back (n : Nat) : Builtin.Slice.slicePlaces ((n : Int) - 1) (-1) (-1) = n := by
  unfold Builtin.Slice.slicePlaces
  simp
  split <;> omega
theorem pick_back (xs : List Value) : ((List.range xs.toArray.size).filterMap fun (k : Nat) => xs.toArray[(((xs.toArray.size : Nat) : Int) - 1 + (k : Int) * (-1)).toNat]?) = xs.reverse := by
  have e : (fun k : Nat => xs.toArray[(((xs.toArray.size : Nat) : Int) - 1 + (k : Int) * (-1)).toNat]?) = (fun i => xs.toArray[i]?) ∘ fun k => xs.toArray.size - 1 - k := by
    funext k
    show _ = xs.toArray[xs.toArray.size - 1 - k]?
    congr 1
    omega
  rw [e, ← List.filterMap_map, PySem.W.krv_range, List.filterMap_reverse, PySem.W.krv_all]
section
variable {prog : Program} {w : World} {A : Around} {E : Value → Shared → Prop} {s : Shared}
theorem getItem_tup_back {t sl : Addr} {xs : List Value} {vl vu vs : Value} {Q : Value → Shared → Prop} (ht : IsTup s.heap t xs.toArray) (hs : s.heap.IsSliceOf sl vl vu vs) (pl : IsPart vl none) (pu : IsPart vu none) (ps : IsPart vs (some (-1)))
    (h : Q (.ref s.heap.objs.size) { s with heap := s.heap.push { cls := .type "tuple", data := .seq xs.reverse.toArray } }) (hz : xs.length ≤ sizeLine) : wpAny (model prog w) A (getItem (.ref t) (.ref sl)) Q E s := by
  have fit : sizeOk (.seq xs.reverse.toArray) := by
    show xs.reverse.toArray.size ≤ sizeLine
    rw [List.size_toArray, List.length_reverse]; exact hz
  obtain ⟨os, hos, hcs, hds⟩ := id hs
  have ty : s.TypeIs (.ref sl) "slice" := ⟨os, hos, hcs⟩
  unfold getItem
  try with_reducible refine wpAny_holding ?_
  first | refine wpAny_bind (wpAny_pure ?_) | skip
  refine wpAny_bind (wpAny_sequenceKey ht.typeIs (by decide) ?_)
  refine wpAny_bind (wpAny_callSpecial?_slot (name := Str.ofString "__getitem__") ht.typeIs PyProof.Rows.slot_tuple_getitem (wpAny_call_entry PyProof.Rows.slot_tuple_getitem ht.typeIs entry_tuple_getitem ?_ (args_tuple_getitem _ _)))
  show wpAny _ _ (Builtin.Tuple.tupleItemsOf (.ref t) >>= fun _ => _) _ _ _
  refine wpAny_bind (PyProof.Rows.tupleItemsOf_ ht (wpAny_bind (wpAny_typeOf ty ?_)))
  rw [if_pos (by decide)]
  unfold Builtin.Slice.sliceApplied Builtin.Slice.sliceFields
  refine wpAny_bind (wpAny_bind (wpAny_bind (wpAny_field hos hds (x := vl) rfl (wpAny_bind (wpAny_field hos hds (x := vu) rfl (wpAny_bind (wpAny_field hos hds (x := vs) rfl (wpAny_pure ?_))))))))
  refine wpAny_bind (HT.slicePart_ ps ?_)
  show wpAny _ _ (if ((-1 : Int) == 0) = true then _ else _) _ _ _
  rw [if_neg (by decide)]
  refine wpAny_bind (HT.slicePart_ pl (wpAny_bind (HT.slicePart_ pu (wpAny_bind (wpAny_pure ?_)))))
  show wpAny _ _ (match Builtin.Slice.sliceAdjust none none (-1) ((xs.toArray.size : Nat) : Int) with | (lo, hi) => pure (lo, (-1 : Int), Builtin.Slice.slicePlaces lo hi (-1))) _ _ _
  rw [adj_back]
  show wpAny _ _ (pure (((xs.toArray.size : Nat) : Int) - 1, (-1 : Int), Builtin.Slice.slicePlaces (((xs.toArray.size : Nat) : Int) - 1) (-1) (-1))) _ _ _
  rw [places_back]
  refine wpAny_pure ?_
  show wpAny _ _ (if ((((xs.toArray.size : Nat) : Int) - 1) == 0 && (-1 : Int) == 1 && xs.toArray.size == xs.toArray.size) = true then _ else _) _ _ _
  rw [if_neg (by simp), pick_back]
  first
    | exact wpAny_bind (m := Builtin.Tuple.tupleExact _) (wpAny_newObj_type (wpAny_pure ⟨_, rfl, wpAny_pure h⟩) fit)
    | exact wpAny_bind (m := Builtin.Tuple.tupleExact _) (wpAny_newObj_type (wpAny_bind (wpAny_pure (wpAny_pure ⟨_, rfl, wpAny_pure h⟩))) fit)
    | exact wpAny_bind (wpAny_bind (m := Builtin.Tuple.tupleExact _) (wpAny_newObj_type (wpAny_pure (wpAny_pure ⟨_, rfl, wpAny_pure h⟩)) fit))
    | exact wpAny_bind (wpAny_bind (m := Builtin.Tuple.tupleExact _) (wpAny_newObj_type (wpAny_pure ⟨_, rfl, wpAny_pure h⟩) fit))
end
end MP

namespace MP
open PySem PySem.Spec PyProof.Rows L2
variable [HasW]

def mtN : Mt → Option (Str × String × String)
  | .append => some ("append", "list", "list.append")
  | .extend => some ("extend", "list", "list.extend")
  | .clear => some ("clear", "list", "list.clear")
  | .pop0 => some ("pop", "list", "list.pop")
  | .pop1 => some ("pop", "list", "list.pop")
  | .update => some ("update", "dict", "dict.update")
  | .get2 => some ("get", "dict", "dict.get")
  | .join => some ("join", "str", "str.join")
  | .split => some ("split", "str", "str.split")
  | .startswith => some ("startswith", "str", "str.startswith")
  | .endswith => some ("endswith", "str", "str.endswith")
  | .get1 => some ("get", "dict", "dict.get")
  | .index => some ("index", "list", "list.index")
  | .tindex => some ("index", "tuple", "tuple.index")
  | .count => some ("count", "list", "list.count")
  | _ => none
section
variable {X : Cx}
end
theorem mt_facts {m : Mt} {nm : Str} {T id : String} (h : mtN m = some (nm, T, id)) : PlainAttrs T ∧ Slot T nm id ∧ typeOf (.builtin id) = pure (.type "method_descriptor") := by
  cases m <;> simp only [mtN, Option.some.injEq, Prod.mk.injEq, reduceCtorEq] at h <;> obtain ⟨rfl, rfl, rfl⟩ := h
  · exact ⟨PySem.F.plainAttrs_list, PySem.F.slot_list_append, PySem.F.type_list_append⟩
  · exact ⟨PySem.F.plainAttrs_list, PySem.F.slot_list_extend, PySem.F.type_list_extend⟩
  · exact ⟨PySem.F.plainAttrs_list, PySem.F.slot_list_clear, PySem.F.type_list_clear⟩
  · exact ⟨PySem.F.plainAttrs_list, PySem.F.slot_list_pop, PySem.F.type_list_pop⟩
  · exact ⟨PySem.F.plainAttrs_list, PySem.F.slot_list_pop, PySem.F.type_list_pop⟩
  · exact ⟨PySem.F.plainAttrs_dict, PySem.F.slot_dict_update, PySem.F.type_dict_update⟩
  · exact ⟨PySem.F.plainAttrs_dict, PySem.F.slot_dict_get, PySem.F.type_dict_get⟩
  · exact ⟨PySem.F.plainAttrs_dict, PySem.F.slot_dict_get, PySem.F.type_dict_get⟩
  · exact ⟨PySem.F.plainAttrs_list, PySem.F.slot_list_index, PySem.F.type_list_index⟩
  · exact ⟨PySem.F.plainAttrs_tuple, PySem.F.slot_tuple_index, PySem.F.type_tuple_index⟩
  · exact ⟨PySem.F.plainAttrs_list, PySem.F.slot_list_count, PySem.F.type_list_count⟩
  · exact ⟨PySem.F.plainAttrs_str, PySem.F.slot_str_join, PySem.F.type_str_join⟩
  · exact ⟨PySem.F.plainAttrs_str, PySem.F.slot_str_split, PySem.F.type_str_split⟩
  · exact ⟨PySem.F.plainAttrs_str, PySem.F.slot_str_startswith, PySem.F.type_str_startswith⟩
  · exact ⟨PySem.F.plainAttrs_str, PySem.F.slot_str_endswith, PySem.F.type_str_endswith⟩
/-- a value of that built-in type, tuples too -/
def tyW (K : PySem.W.Frag) (T : String) (x : V) (H : Hp) : Prop := L2.tyV K T x H ∨ (T = "tuple" ∧ ∃ p vs, x = .ref p ∧ SqX K H p vs) ∨ (T = "dict" ∧ ∃ p o, x = .ref p ∧ H p = some (rawO p o) ∧ o.ExactDict)
theorem ty_of {K : PySem.W.Frag} {F H : Hp} {v : V} {d : D} {m : Mt} {nm : Str} {T id : String} (h : mtN m = some (nm, T, id)) (s : Same F H) (w : Vw K F H v d) (r : rtOk (mtTy m) d = true) : tyW K T v H := by
  have key : (T = "list" ∧ ∃ xs, d = .lst xs) ∨ (T = "dict" ∧ ∃ ks vs, d = .dic ks vs) ∨ (T = "str" ∧ ∃ x, d = .str x) ∨ (T = "tuple" ∧ ∃ xs, d = .tup xs) ∨ (T = "dict" ∧ ∃ ks vs, d = .tdic ks vs) := by
    cases m <;> simp only [mtN, Option.some.injEq, Prod.mk.injEq, reduceCtorEq] at h <;> obtain ⟨rfl, rfl, rfl⟩ := h <;> cases d <;> simp_all [rtOk, mtTy]
  rcases key with ⟨rfl, xs, rfl⟩ | ⟨rfl, ks, vs, rfl⟩ | ⟨rfl, x, rfl⟩ | ⟨rfl, xs, rfl⟩ | ⟨rfl, ks, vs, rfl⟩
  rotate_left 3
  · obtain ⟨a, vs, rfl, h1, _⟩ := w.tupX
    exact .inr (.inl ⟨rfl, a, vs, rfl, sqX_mono s h1⟩)
  · obtain ⟨a, o, es, ep, xs, rfl, h1, h2, _⟩ := w.tdic
    exact .inr (.inr ⟨rfl, a, o, rfl, s _ _ h1, h2⟩)
  all_goals left
  · obtain ⟨a, vs, rfl, h1, _⟩ := w.lst s
    exact .inl ⟨rfl, vs, .inl h1⟩
  · obtain ⟨a, kvs, rfl, h1, _⟩ := w.dic s
    exact .inr (.inr (.inl ⟨rfl, .inl ⟨kvs, h1⟩⟩))
  · obtain ⟨rfl, _, _⟩ := w.str
    rfl
/-- truths counted in a list of truths -/
def rCntB (K : PySem.W.Frag) : V → List V → Hp → VK → Prop := fun x xs H Q => ∃ (p : Addr) (l : List Bool) (b : Bool), x = .ref p ∧ xs = [.bl b] ∧ SqL K H p (l.map V.bl) ∧ Q (.int ((l.count b : Nat) : Int)) H
def isB (b : Bool) : Value → Bool
  | .bool c => c == b
  | _ => false
theorem bls_of {its : List Value} : ∀ {l : List Bool}, Vals (l.map V.bl) its → its = l.map Value.bool := by
  induction its with
  | nil => intro l h; cases l with
    | nil => rfl
    | cons c l => cases h
  | cons u its ih => intro l h; cases l with
    | nil => cases h
    | cons c l =>
      cases h with
      | cons r t =>
        cases (show u = Value.bool c from r)
        rw [ih t]
        rfl
theorem bcount {b : Bool} : ∀ l : List Bool, (l.map Value.bool).countP (isB b) = l.count b
  | [] => rfl
  | c :: l => by
    rw [List.map_cons, List.countP_cons, List.count_cons, bcount l]
    rfl
theorem mt_bcount {X : Cx} : MtR X "list.count" (rCntB X.K) := by
  intro pins s σ H x xs v us Q I rx rxs h
  obtain ⟨p, l, b, rfl, rfl, hs, q⟩ := h
  cases rx
  obtain ⟨u, rfl, ru⟩ := rxs.one
  cases (show u = Value.bool b from ru)
  obtain ⟨its, rel, ⟨ob, n, at_p, cl, dn, dt⟩, _⟩ := I.list hs
  obtain ⟨cl', od, data, sl⟩ := ob
  simp only at cl dt
  subst cl dt
  obtain rfl := bls_of rel
  refine call_meets PySem.F.slot_list_count ⟨_, at_p, rfl⟩ PySem.F.entry_list_count (PySem.F.args_list_count_2 _ _) (SeqAt.list_countAt p _ n od sl (.bool b) (isB b)) ⟨at_p, fun y hy => ?_, ?_⟩
  · obtain ⟨c, _, rfl⟩ := List.mem_map.mp (by simpa using hy : y ∈ l.map Value.bool)
    exact SeqAt.EqAt.bool_bool c b
  · refine ⟨.int ((l.count b : Nat) : Int), H, I.tok _, ⟨s.toks, ?_⟩, q⟩
    show Value.int (((l.map Value.bool).toArray.toList.countP (isB b) : Nat) : Int) s.toks = Value.int ((l.count b : Nat) : Int) s.toks
    rw [List.toList_toArray, bcount]
/-- behind a method that changes the thing -/
structure Chg (K : PySem.W.Frag) (F H : Hp) (x : V) (c : List Addr) (z : V) (v : Sl) (s' : Sl) (H' : Hp) : Prop where
  rep : RpS K F H' x s' c
  val : ∃ d, v = .dat d ∧ Rp K F z d
  keep : ∀ b o, H b = some o → b ∉ c → H' b = some o
  sub : Same F H'
def rMt (K : PySem.W.Frag) (m : Mt) : V → List V → Hp → VK → Prop := fun x vs H Q => ∃ F s c ds, Same F H ∧ RpS K F H x s c ∧ Rps K F vs ds ∧
  ((∃ v, mtD m s ds = some (v, none) ∧ ∀ z F' H' a, New K F H z v F' H' a → Q z H') ∨ (∃ v s', mtD m s ds = some (v, some s') ∧ ∀ z H', Chg K F H x c z v s' H' → Q z H'))
theorem chg_upd {K : PySem.W.Frag} {F H : Hp} {a : Addr} {o : HO} {s' : Sl} (sb : Same F H) (fn : F a = none) (r : RpS K F (upd H a o) (.ref a) s' [a]) : Chg K F H (.ref a) [a] .non (.dat .non) s' (upd H a o) where
  rep := r
  val := ⟨.non, rfl, .non⟩
  keep := fun b o h n => by rw [upd_ne (by simpa using n)]; exact h
  sub := fun b o h => by
    rw [upd_ne (fun z => by rw [z, fn] at h; cases h)]
    exact sb b o h
theorem chg_updV {K : PySem.W.Frag} {F H : Hp} {a : Addr} {o : HO} {s' : Sl} {z : V} {d : D} (sb : Same F H) (fn : F a = none) (r : RpS K F (upd H a o) (.ref a) s' [a]) (rz : Rp K F z d) : Chg K F H (.ref a) [a] z (.dat d) s' (upd H a o) where
  rep := r
  val := ⟨d, rfl, rz⟩
  keep := fun b o h n => by rw [upd_ne (by simpa using n)]; exact h
  sub := fun b o h => by
    rw [upd_ne (fun z => by rw [z, fn] at h; cases h)]
    exact sb b o h
theorem Rps.eraseIdx {K : PySem.W.Frag} {F : Hp} : ∀ {vs : List V} {ds : List D} (n : Nat), Rps K F vs ds → Rps K F (vs.eraseIdx n) (ds.eraseIdx n)
  | _, _, _, .nil => .nil
  | _, _, 0, .cons _ h => h
  | _, _, n + 1, .cons r h => .cons r (h.eraseIdx n)
theorem Rps.dropLast {K : PySem.W.Frag} {F : Hp} {vs : List V} {ds : List D} (h : Rps K F vs ds) : Rps K F vs.dropLast ds.dropLast := by
  rw [List.dropLast_eq_take, List.dropLast_eq_take, h.length]
  exact h.take _
theorem Rps.one {K : PySem.W.Frag} {F : Hp} {vs : List V} {d : D} (h : Rps K F vs [d]) : ∃ v, vs = [v] ∧ Rp K F v d := by
  cases h with
  | cons r t => cases t; exact ⟨_, rfl, r⟩
theorem Rps.two {K : PySem.W.Frag} {F : Hp} {vs : List V} {d e : D} (h : Rps K F vs [d, e]) : ∃ v u, vs = [v, u] ∧ Rp K F v d ∧ Rp K F u e := by
  cases h with
  | cons r t =>
    cases t with
    | cons r2 t => cases t; exact ⟨_, _, rfl, r, r2⟩
theorem Rps.zero {K : PySem.W.Frag} {F : Hp} {vs : List V} (h : Rps K F vs []) : vs = [] := by cases h; rfl
theorem RpS.lstI {K : PySem.W.Frag} {F H : Hp} {x : V} {ds : List D} {c : List Addr} (h : RpS K F H x (.lst ds) c) : ∃ a vs, x = .ref a ∧ c = [a] ∧ H a = some (.lst vs) ∧ F a = none ∧ Rps K F vs ds := by
  cases h with
  | lst e f r => exact ⟨_, _, rfl, rfl, e, f, r⟩
theorem join_ok {sep : List Nat} (o : strOkL sep = true) : ∀ {l : List (List Nat)}, (∀ x ∈ l, strOkL x = true ∧ x.length ≤ 16777216) → strOkL (TL.joinL sep l) = true
  | [], _ => rfl
  | [p], h => (h p List.mem_cons_self).1
  | p :: q :: r, h => by
    unfold TL.joinL
    exact strOk_app (h p List.mem_cons_self).1 (strOk_app o (join_ok o fun x hx => h x (List.mem_cons_of_mem _ hx)))
theorem join_len' {sep : List Nat} : ∀ {l : List (List Nat)}, (TL.joinL sep l).length ≤ (l.map (·.length)).sum + l.length * sep.length
  | [] => by simp [TL.joinL]
  | [p] => by simp [TL.joinL]
  | p :: q :: r => by
    unfold TL.joinL
    have := join_len' (sep := sep) (l := q :: r)
    simp only [List.length_append, List.map_cons, List.sum_cons, List.length_cons, Nat.add_mul, Nat.one_mul] at this ⊢
    omega
theorem join_len {sep : List Nat} {l : List (List Nat)} (h : (l.map (·.length)).sum + l.length * sep.length ≤ 16777216) : (TL.joinL sep l).length ≤ 16777216 := Nat.le_trans join_len' h
section
variable {X : Cx}
/-- THE METHODS -/
theorem idxD_ok {x : D} : ∀ {ys : List D} {i : Nat}, idxD x ys = some i → ∃ y, ys[i]? = some y ∧ D.eq y x = true ∧ ∀ m z, m < i → ys[m]? = some z → D.eq z x = false
  | [], _, h => by simp [idxD] at h
  | y :: ys, i, h => by
    unfold idxD at h
    split at h
    · rename_i e
      simp only [Option.some.injEq] at h; subst h
      exact ⟨y, rfl, e, fun m z hm => by omega⟩
    · rename_i e
      cases q : idxD x ys with
      | none => rw [q] at h; simp at h
      | some j =>
        rw [q] at h
        simp only [Option.map_some, Option.some.injEq] at h; subst h
        obtain ⟨z, h1, h2, h3⟩ := idxD_ok q
        refine ⟨z, by simpa using h1, h2, fun m w hm hw => ?_⟩
        cases m with
        | zero => simp at hw; subst hw; simpa using e
        | succ m => exact h3 m w (by omega) (by simpa using hw)
theorem idxS_ok {x : List Nat} : ∀ {ys : List (List Nat)} {i : Nat}, idxS x ys = some i → ys[i]? = some x ∧ ∀ m, m < i → ys[m]? ≠ some x
  | [], _, h => by simp [idxS] at h
  | y :: ys, i, h => by
    unfold idxS at h
    split at h
    · rename_i e
      simp only [Option.some.injEq] at h; subst h
      exact ⟨by rw [e]; rfl, fun m hm => by omega⟩
    · rename_i e
      cases q : idxS x ys with
      | none => rw [q] at h; simp at h
      | some j =>
        rw [q] at h
        simp only [Option.map_some, Option.some.injEq] at h; subst h
        obtain ⟨h1, h2⟩ := idxS_ok q
        refine ⟨by simpa using h1, fun m hm => ?_⟩
        cases m with
        | zero => simpa using e
        | succ m => simpa using h2 m (by omega)
theorem pys_get : ∀ {xs : List D} {i : Nat}, (D.pys xs)[i]? = (xs[i]?).map D.py
  | [], i => by simp [D.pys]
  | x :: xs, 0 => by simp [D.pys]
  | x :: xs, i + 1 => by simp only [D.pys, List.getElem?_cons_succ]; exact pys_get
theorem plains_get : ∀ {xs : List D} {i : Nat} {x : D}, D.plains xs = true → xs[i]? = some x → x.plain = true
  | [], i, x, _, h => by simp at h
  | y :: xs, 0, x, p, h => by simp only [D.plains, Bool.and_eq_true] at p; simp at h; subst h; exact p.1
  | y :: xs, i + 1, x, p, h => by simp only [D.plains, Bool.and_eq_true] at p; exact plains_get p.2 (by simpa using h)
theorem mt_data (hw : X.w = HasW.w) (hu : X.A.units + 100 < cLine) (m : Mt) {nm : Str} {T id : String} (hn : mtN m = some (nm, T, id)) : MtR X id (rMt X.K m) := by
  intro pins s σ H x vs v us Q I rx rv h
  obtain ⟨F, sl, c, ds, sb, r, rs, h⟩ := h
  have vw : Vw X.K F H x sl.cap := ⟨sl, c, r, rfl⟩
  rcases h with ⟨z, hz, q⟩ | ⟨z, s', hz, q⟩
  · replace hz := mtD_non hz
    unfold mtO at hz
    split at hz <;> simp only [mtN, Option.some.injEq, Prod.mk.injEq, reduceCtorEq] at hn
    · obtain ⟨-, -, rfl⟩ := hn
      rename_i sep xs he
      rw [he] at vw
      obtain ⟨rfl, o, l⟩ := vw.str
      obtain ⟨y, rfl, ry⟩ := rs.one
      obtain ⟨a, ws, rfl, h1, r1⟩ := ry.lstI
      cases e : asStrs xs with
      | none => rw [e] at hz; simp at hz
      | some l =>
        rw [e] at hz
        simp only [Option.bind_some] at hz
        split at hz
        · rename_i hf
          cases hz
          obtain ⟨rfl, ok⟩ := r1.asStrs e
          rw [fitsL_iff] at hf
          have e2 : (l.map fun x => V.str (SX x)) = (l.map SX).map V.str := by rw [List.map_map]; rfl
          rw [e2] at h1
          refine mt_join pins s σ H _ _ v us Q I rx rv ⟨_, a, l.map SX, rfl, rfl, .inl (.inl (rd_mono sb h1)), ?_, ?_⟩
          · rw [SX.lens, List.length_map, SX_len]; exact hf
          · rw [SX.join_S]
            exact q _ _ _ _ (New.dat sb (.str _ (join_ok o ok) (join_len hf)))
        · cases hz
    · obtain ⟨-, -, rfl⟩ := hn
      rename_i sep xs he
      rw [he] at vw
      obtain ⟨rfl, o, l⟩ := vw.str
      obtain ⟨y, rfl, ry⟩ := rs.one
      obtain ⟨a, ws, rfl, h1, r1⟩ := ry.tupI
      cases e : asStrs xs with
      | none => rw [e] at hz; simp at hz
      | some l =>
        rw [e] at hz
        simp only [Option.bind_some] at hz
        split at hz
        · rename_i hf
          cases hz
          obtain ⟨rfl, ok⟩ := r1.asStrs e
          rw [fitsL_iff] at hf
          have e2 : (l.map fun x => V.str (SX x)) = (l.map SX).map V.str := by rw [List.map_map]; rfl
          rw [e2] at h1
          refine mt_join pins s σ H _ _ v us Q I rx rv ⟨_, a, l.map SX, rfl, rfl, .inr (sqT_mono sb h1), ?_, ?_⟩
          · rw [SX.lens, List.length_map, SX_len]; exact hf
          · rw [SX.join_S]
            exact q _ _ _ _ (New.dat sb (.str _ (join_ok o ok) (join_len hf)))
        · cases hz
    · obtain ⟨-, -, rfl⟩ := hn
      rename_i ks ws k d he
      rw [he] at vw
      split at hz
      · rename_i hk
        cases hz
        obtain ⟨a, kvs, rfl, hH, rfl, g, ok, r1⟩ := vw.dic sb
        obtain ⟨y1, y2, rfl, ry1, ry2⟩ := rs.two
        obtain ⟨k', rfl, rfl, _⟩ := isKey_k (Vw.of (H := H) ry1) hk
        have hg := dGet_val k' r1
        cases rx
        cases rv with
        | cons ru1 rv =>
          cases rv with
          | cons ru2 rv =>
            cases rv
            refine d_get2 (by omega) I (DGet.k hH) ru1 ru2 fun w' s' I' rw' => ⟨_, H, I', rw', ?_⟩
            cases q2 : dGet (kvs.map fun p => kD p.1) ws (kD k') with
            | none =>
              rw [q2] at hg q
              simp only at hg
              rw [hg]
              exact q _ _ _ _ (New.dat sb ry2)
            | some d' =>
              rw [q2] at hg q
              obtain ⟨z, hz, rz⟩ := hg
              rw [hz]
              exact q _ _ _ _ (New.dat sb rz)
      · cases hz
    · obtain ⟨-, -, rfl⟩ := hn
      rename_i ks ws k d he
      rw [he] at vw
      split at hz
      · rename_i hk
        cases hz
        obtain ⟨y1, y2, rfl, ry1, ry2⟩ := rs.two
        cases rv with
        | cons ru1 rv =>
          cases rv with
          | cons ru2 rv =>
            cases rv
            exact td_getOr hw (by omega) I sb vw (Vw.of (H := H) ry1) ry2 hk rx ru1 ru2 fun z w' s' I' rw' rz => (⟨z, H, I', rw', q _ _ _ _ (New.dat sb rz)⟩ : EP X pins σ Q w' s')
      · cases hz
    · obtain ⟨-, -, rfl⟩ := hn
      rename_i ks ws k he
      rw [he] at vw
      split at hz
      · rename_i hk
        cases hz
        obtain ⟨a, kvs, rfl, hH, rfl, g, ok, r1⟩ := vw.dic sb
        obtain ⟨y1, rfl, ry1⟩ := rs.one
        obtain ⟨k', rfl, rfl, _⟩ := isKey_k (Vw.of (H := H) ry1) hk
        have hg := dGet_val k' r1
        cases rx
        obtain ⟨u, rfl, ru1⟩ := rv.one
        refine d_get1 (by omega) I (DGet.k hH) ru1 fun w' s' I' rw' => ⟨_, H, I', rw', ?_⟩
        cases q2 : dGet (kvs.map fun p => kD p.1) ws (kD k') with
        | none =>
          rw [q2] at hg q
          simp only at hg
          rw [hg]
          exact q _ _ _ _ (New.dat sb .non)
        | some d' =>
          rw [q2] at hg q
          obtain ⟨z, hz, rz⟩ := hg
          rw [hz]
          exact q _ _ _ _ (New.dat sb rz)
      · cases hz
    · obtain ⟨-, -, rfl⟩ := hn
      rename_i x0 y0 he
      rw [he] at vw
      obtain ⟨rfl, o, l⟩ := vw.str
      obtain ⟨y1, rfl, ry1⟩ := rs.one
      obtain ⟨rfl, o2, l2⟩ := (Vw.of (H := H) ry1).str
      split at hz
      · rename_i hf
        cases hz
        simp only [Bool.and_eq_true, Bool.not_eq_true', decide_eq_true_eq, List.all_eq_true] at hf
        obtain ⟨f1, f2, f3⟩ := hf
        refine mt_split pins s σ H _ _ v us Q I rx rv ⟨_, _, rfl, rfl, ?_, ?_, fun p hp => ?_⟩
        · rw [SX_len]
          cases y0 with
          | nil => simp at f1
          | cons _ _ => simp
        · rw [SX_len, line_eq]; omega
        · have e : (Txt.split (SX x0) (SX y0)).map V.str = (splitS x0 y0).map fun x => V.str (SX x) := by
            unfold splitS
            rw [List.map_map]
            apply List.map_congr_left
            intro z _
            show V.str z = V.str (SX z.cps.toList)
            rw [show SX z.cps.toList = z from SX.S_tl z]
          rw [e]
          exact q _ _ _ _ (New.lst sb hp (Rps.ofStrs f3))
      · cases hz
    · obtain ⟨-, -, rfl⟩ := hn
      rename_i x0 y0 he
      rw [he] at vw
      obtain ⟨rfl, o, l⟩ := vw.str
      obtain ⟨y1, rfl, ry1⟩ := rs.one
      obtain ⟨rfl, o2, l2⟩ := (Vw.of (H := H) ry1).str
      cases hz
      exact mt_startswith pins s σ H _ _ v us Q I rx rv ⟨_, _, rfl, rfl, q _ _ _ _ (New.dat sb (.bl _))⟩
    · obtain ⟨-, -, rfl⟩ := hn
      rename_i x0 y0 he
      rw [he] at vw
      obtain ⟨rfl, o, l⟩ := vw.str
      obtain ⟨y1, rfl, ry1⟩ := rs.one
      obtain ⟨rfl, o2, l2⟩ := (Vw.of (H := H) ry1).str
      cases hz
      exact mt_endswith pins s σ H _ _ v us Q I rx rv ⟨_, _, rfl, rfl, q _ _ _ _ (New.dat sb (.bl _))⟩
    · obtain ⟨-, -, rfl⟩ := hn
      rename_i xs y0 he
      rw [he] at vw
      split at hz
      · rename_i hf
        simp only [Bool.and_eq_true, decide_eq_true_eq] at hf
        obtain ⟨⟨f1, f2⟩, f3, f4⟩ := hf
        cases e : idxD y0 xs with
        | none => rw [e] at hz; simp at hz
        | some i =>
          rw [e] at hz
          simp only [Option.map_some, Option.some.injEq] at hz
          subst hz
          obtain ⟨z, g1, g2, g3⟩ := idxD_ok e
          obtain ⟨y1, rfl, ry1⟩ := rs.one
          have r1 := vw.rp sb
          have r2 := ry1.mono sb
          obtain ⟨a, ws, rfl, h1, _⟩ := r1.lstI
          have p1 : (D.lst xs).plain = true := f1
          have d1 := r1.dp p1
          have d2 := r2.dp f2
          have s1 : SeqAt.shaped (.list (D.pys xs)) = true := by
            have := r1.lay p1
            simp only [D.py] at this
            have e : (PyData.list (D.pys xs)).depth = D.deps xs + 1 := by simp only [PyData.depth]; rw [pys_dep xs f1]
            simp only [SeqAt.shaped, this, Bool.true_and, decide_eq_true_eq]
            rw [e]; omega
          have s2 : SeqAt.shaped y0.py = true := by
            simp only [SeqAt.shaped, r2.lay f2, Bool.true_and, decide_eq_true_eq]
            rw [py_dep y0 f2]; omega
          refine mt_indexD (by omega) pins s σ H _ _ v us Q I rx rv ⟨a, y1, y0.py, D.pys xs, i, z.py, rfl, rfl, by simpa only [D.py] using d1, d2, s1, s2, by rw [pys_get, g1]; rfl, by rw [py_eq _ _ (plains_get f1 g1) f2]; exact g2, fun m w hm hw => ?_, q _ _ _ _ (New.dat sb (.int _))⟩
          rw [pys_get] at hw
          cases e3 : xs[m]? with
          | none => rw [e3] at hw; simp at hw
          | some w' =>
            rw [e3] at hw
            simp only [Option.map_some, Option.some.injEq] at hw
            subst hw
            rw [py_eq _ _ (plains_get f1 e3) f2]
            exact g3 m w' hm e3
      · cases hz
    · obtain ⟨-, -, rfl⟩ := hn
      rename_i xs y0 he
      rw [he] at vw
      cases e : asStrs xs with
      | none => rw [e] at hz; simp at hz
      | some l =>
        rw [e] at hz
        simp only [Option.bind_some] at hz
        cases e2 : idxS y0 l with
        | none => rw [e2] at hz; simp at hz
        | some i =>
          rw [e2] at hz
          simp only [Option.map_some, Option.some.injEq] at hz
          subst hz
          obtain ⟨a, ws, rfl, h1, rr⟩ := vw.tup
          obtain ⟨rfl, ok⟩ := rr.asStrs e
          obtain ⟨y1, rfl, ry1⟩ := rs.one
          obtain ⟨rfl, o2, l2⟩ := (Vw.of (H := H) ry1).str
          obtain ⟨g1, g2⟩ := idxS_ok e2
          have e3 : (l.map fun x => V.str (SX x)) = (l.map SX).map V.str := by rw [List.map_map]; rfl
          rw [e3] at h1
          refine mt_tup_index pins s σ H _ _ v us Q I rx rv ⟨a, l.map SX, SX y0, i, rfl, rfl, sqT_mono sb h1, by rw [List.getElem?_map, g1]; rfl, fun m hm hw => ?_, q _ _ _ _ (New.dat sb (.int _))⟩
          rw [List.getElem?_map] at hw
          cases e4 : l[m]? with
          | none => rw [e4] at hw; simp at hw
          | some w =>
            rw [e4] at hw
            simp only [Option.map_some, Option.some.injEq] at hw
            have : w = y0 := by
              have := congrArg (fun z : PySem.Str => z.cps.toList) hw
              simpa using this
            subst this
            exact g2 m hm e4
    · obtain ⟨-, -, rfl⟩ := hn
      rename_i xs y0 he
      rw [he] at vw
      cases e : asBls xs with
      | none => rw [e] at hz; simp at hz
      | some l =>
        rw [e] at hz
        simp only [Option.map_some, Option.some.injEq] at hz
        subst hz
        obtain ⟨a, ws, rfl, h1, rr⟩ := (vw.rp sb).lstI
        have e2 := rr.asBls e
        obtain ⟨y1, rfl, ry1⟩ := rs.one
        cases ry1
        exact mt_bcount pins s σ H _ _ v us Q I rx rv ⟨a, l, _, rfl, rfl, by rw [← e2]; exact .inl h1, q _ _ _ _ (New.dat sb (.int _))⟩
    · cases hz
  · rcases mtD_some hz with ⟨xs, d, ys, rfl, hw, rfl, rfl⟩ | ⟨ks, ws, d, p, rfl, hw, rfl, rfl⟩
    · obtain ⟨a, us', rfl, rfl, e, fn, r'⟩ := r.lstI
      unfold mtL at hw
      split at hw <;> simp only [mtN, Option.some.injEq, Prod.mk.injEq, reduceCtorEq] at hn
      · obtain ⟨-, -, rfl⟩ := hn
        split at hw
        · rename_i hf
          cases hw
          rw [fitsL_iff] at hf
          obtain ⟨y, rfl, ry⟩ := rs.one
          exact mt_append pins s σ H _ _ v us Q I rx rv ⟨a, us', y, rfl, rfl, e, by rw [r'.length, line_eq]; omega, q _ _ (chg_upd sb fn (.lst upd_same fn (r'.append (.cons ry .nil))))⟩
        · cases hw
      · obtain ⟨-, -, rfl⟩ := hn
        split at hw
        · rename_i hf
          cases hw
          rw [fitsL_iff] at hf
          obtain ⟨y, rfl, ry⟩ := rs.one
          obtain ⟨b, ws, rfl, h1, r1⟩ := ry.lstI
          have hH := rd_mono sb h1
          obtain ⟨its, n, rv1, e1, l1⟩ := lstR I hH
          cases rx
          obtain ⟨u, rfl, ru⟩ := rv.one
          cases ru
          obtain ⟨zz, its0, n0, r0, hl, e0⟩ := I.lstM e
          have hl2 := rv1.length
          have h3 := r'.length
          have h4 := r1.length
          have hsz : its0.toArray.size + its.toArray.size ≤ sizeLine := by rw [List.size_toArray, List.size_toArray, line_eq]; omega
          have hlong : ¬ (!its0.toArray.isEmpty && Builtin.List.listTooLong (its0.toArray.size + its.toArray.size)) = true := by
            rw [notLongL hsz, Bool.and_false]
            exact Bool.false_ne_true
          refine call_meets PySem.F.slot_list_extend ⟨_, e0, rfl⟩ PySem.F.entry_list_extend (PySem.F.args_list_extend_2 _ _)
            (AutoSeq1.list_extend_list_list_0 a its0.toArray n0 b its.toArray n hlong (by rw [List.size_toArray, line_eq]; omega) (by rw [line_eq] at *; omega)) ⟨e0, e1, ?_⟩
          refine ⟨.non, _, I.lset (its' := its0 ++ its) e e0 (by simp) (r0.append rv1) (by rw [List.length_append, line_eq]; omega), rfl, q _ _ (chg_upd sb fn (.lst upd_same fn (r'.append r1)))⟩
        · cases hw
      · obtain ⟨-, -, rfl⟩ := hn
        cases hw
        cases rs
        exact mt_clear pins s σ H _ _ v us Q I rx rv ⟨a, us', rfl, rfl, e, q _ _ (chg_upd sb fn (.lst upd_same fn .nil))⟩
      · obtain ⟨-, -, rfl⟩ := hn
        split at hw
        · rename_i i h0
          simp only [Bool.and_eq_true, decide_eq_true_eq, fitsL_iff] at h0
          cases ey : xs[i.toNat]? with
          | none => rw [ey] at hw; simp at hw
          | some y =>
            rw [ey] at hw
            simp only [Option.map_some, Option.some.injEq, Prod.mk.injEq] at hw
            obtain ⟨rfl, rfl⟩ := hw
            obtain ⟨y1, rfl, ry1⟩ := rs.one
            cases ry1
            obtain ⟨w, hw1, rw1⟩ := r'.get ey
            have hl : i.toNat < us'.length := (List.getElem?_eq_some_iff.mp hw1).1
            refine mt_popAt pins s σ H _ _ v us Q I rx rv ⟨a, us', i, i.toNat, w, rfl, rfl, e, by omega, by omega, ?_, hw1, q _ _ (chg_updV sb fn (.lst upd_same fn (r'.eraseIdx i.toNat)) rw1)⟩
            have e1 : ¬ i < 0 := by omega
            have e2 : i < (us'.length : Int) := by omega
            simp [seqIndex?, h0.1, e1, e2]
        · cases hw
      · obtain ⟨-, -, rfl⟩ := hn
        cases ey : xs[xs.length - 1]? with
        | none => rw [ey] at hw; simp at hw
        | some y =>
          rw [ey] at hw
          simp only [Option.map_some, Option.some.injEq, Prod.mk.injEq] at hw
          obtain ⟨rfl, rfl⟩ := hw
          cases rs
          obtain ⟨w, hw1, rw1⟩ := r'.get ey
          exact mt_pop pins s σ H _ _ v us Q I rx rv ⟨a, us', w, rfl, rfl, e, by rw [r'.length]; exact hw1, q _ _ (chg_updV sb fn (.lst upd_same fn r'.dropLast) rw1)⟩
      · cases hw
    · unfold mtK at hw
      split at hw <;> simp only [mtN, Option.some.injEq, Prod.mk.injEq, reduceCtorEq] at hn
      · obtain ⟨-, -, rfl⟩ := hn
        split at hw
        · rename_i hf
          cases hw
          rw [fitsL_iff] at hf
          cases r with
          | @dic a kvs _ e fn g k r1 =>
            obtain ⟨y, rfl, ry⟩ := rs.one
            cases ry with
            | @dic b kvs2 _ e2 g2 k2 r2 =>
              have hne : a ≠ b := fun z => by rw [← z, fn] at e2; cases e2
              cases rx
              obtain ⟨u, rfl, ru⟩ := rv.one
              cases ru
              obtain ⟨z1, lo, vs1, rel1, dd1⟩ := dk_of I.hok e
              obtain ⟨z2, lo2, vs2, rel2, dd2⟩ := dk_of I.hok (sb _ _ e2)
              obtain ⟨m1, m2, m3, m4⟩ := dMerge_ok g k k2 r1 r2
              rw [List.length_map, List.length_map] at hf
              refine call_meetsIn PySem.F.slot_dict_update dd1.typeIs PySem.F.entry_dict_update (PySem.F.args_dict_update_2 _ _) (meets_dict_update (mixKind X.prog X.w) a b hne lo2)
                ⟨vs1, vs2, dd1, dd2, by rw [← rel1.length, ← rel2.length, line_eq]; exact hf, fun h' hd' _ hs => ?_⟩
              have hlen : (mergeK kvs kvs2).length ≤ sizeLine := by
                have := length_mergeK kvs2 kvs
                rw [line_eq]; omega
              obtain ⟨o', ho', _⟩ := Heap.dictOf_iff.mp hd'
              refine ⟨.non, upd H a (.dK (mergeK kvs kvs2)), d_write (t' := s.toks) I (by rw [e]; trivial) hs ⟨o', ho'⟩ (dk_new hlen lo (KV.merge rel2 rel1) hd'), rfl, q _ _ (chg_upd sb fn ?_)⟩
              rw [m1]
              exact .dic upd_same fn m3 m4 m2
        · cases hw
      · cases hw
end
end MP

namespace MP
open PySem PySem.Spec PyProof.Rows L2
variable [HasW]

theorem stars_no {env : PySem.Env} {pos : Pos} : ∀ {xs : List Expr}, xs.all noStar = true → (backTo pos (starEach xs env)).any (·.1) = false
  | [], _ => rfl
  | x :: xs, h => by
    simp only [List.all_cons, Bool.and_eq_true] at h
    rw [starEach_cons h.1]
    have := stars_no (env := env) (pos := pos) h.2
    unfold backTo at this ⊢
    rw [List.map_cons, List.any_cons, this]
    rfl
theorem stars_all {env : PySem.Env} {pos : Pos} : ∀ {xs : List Expr}, xs.all noStar = true → (backTo pos (starEach xs env)).all (fun x => !x.1) = true
  | [], _ => rfl
  | x :: xs, h => by
    simp only [List.all_cons, Bool.and_eq_true] at h
    rw [starEach_cons h.1]
    have := stars_all (env := env) (pos := pos) h.2
    unfold backTo at this ⊢
    rw [List.map_cons, List.all_cons, this]
    rfl
def atOk : Expr → Bool
  | .Call (.Name id _) [] [] _ => id != "super"
  | _ => true
theorem atOk_ok {o : Expr} {nm : Str} {env : PySem.Env} {whole : Sem Value} (h : atOk o = true) : attributeBase o nm env whole = whole := by
  unfold attributeBase
  unfold atOk at h
  split at h
  · simp only [h, Bool.true_or, if_true]
  · split <;> first | rfl | (exfalso; simp_all)
section
variable {X : Cx} {N : List Str} {sc : Scope} {cn : List Str} {W : WX} {n : Nat} {C : Ctx} {pos : Pos} {xa xb xc : Expr} {a b c : E} {xs : List Expr} {es : EL}
/-- a built-in of the operands' data -/
theorem snd_bi (G : Gd X N sc cn W n) (hu : X.A.units + 64 < cLine) {f : Bi} {x : Str} {v : Value} {p : Pos} (hf : biV f = some (x, v)) (hg : glC sc x = true) (hm : X.mg x = none) (ns : xs.all noStar = true) (h0 : xs ≠ [])
    (ha : SndA X cn W xs (evOps C es)) : SndE X cn W (.Call (.Name x p) xs [] pos) (evE C (.bi f es)) := by
  have hb : bootBuiltins x = some v ∧ nmOk x = true ∧ ((∃ id, v = .builtin id) ∨ ∃ T, v = .type T) := by
    cases f <;> simp only [biV, Option.some.injEq, Prod.mk.injEq, reduceCtorEq] at hf <;> obtain ⟨rfl, rfl⟩ := hf <;> refine ⟨by decide +kernel, by decide +kernel, ?_⟩ <;> simp
  obtain ⟨hb, hn, ht⟩ := hb
  cases xs with
  | nil => exact absurd rfl h0
  | cons e es' =>
    have ns2 := ns
    simp only [List.all_cons, Bool.and_eq_true] at ns2
    have pe : PE X (.Call (.Name x p) (e :: es') [] pos) (tCB (rBi X.K f) (WA X (e :: es'))) := by
      rcases ht with ⟨id, rfl⟩ | ⟨T, rfl⟩
      · exact pe_callB (call_biD G.calm G.hw (by have := G.room.un; omega) G.gu f hf) (G.gl hg) hm hb pa_w (nmOk_d hn).2.2 (nmOk_d hn).1 (starEach_cons ns2.1) (stars_no ns2.2)
      · exact pe_callTy (call_biD G.calm G.hw (by have := G.room.un; omega) G.gu f hf) (G.gl hg) hm hb pa_w (nmOk_d hn).2.2 (nmOk_d hn).1 (starEach_cons ns2.1) (stars_no ns2.2)
    intro ρ F H as σ Q e nd sub w
    simp only [evE, wp_bind] at w
    refine we_of pe ?_
    refine ha ρ F H as σ _ e nd sub (wp_mono w (fun bs ρ1 w1 vs F1 H1 a1 as1 t1 e1 r1 n1 s1 l1 => ?_) fun _ _ _ z => z)
    split at w1
    · rename_i ds hd
      obtain ⟨s, hs, w2⟩ := wp_ofO w1
      exact ⟨F1, ds, s, s1, views_ok r1 e1 hd, hs, fun z F' H' a' nw => OkP.new w2 (t1.sub sub_r) e1 (fun _ h => h) (nd_r n1) nw⟩
    · exact w1.elim
theorem Stp.chg {K : PySem.W.Frag} {F H H' : Hp} {x z : V} {c : List Addr} {v s' : Sl} (h : Chg K F H x c z v s' H') : Stp F H c F H' c := ⟨fun _ _ e => e, h.keep, fun _ hb => .inl hb, fun _ _ e => .inl e⟩
/-- a method of a built-in's data -/
theorem mt_fin {m : Mt} {F H F1 H1 : Hp} {as a1 a2 as2 : List Addr} {σ : L2.St} {Q : VK} {x : Bv} {v1 : V} {vs : List V} {bs : List Bv} {ρ ρ1 : Env} {ss : List Sl} (t : Stp F H as F1 H1 (a1 ++ (a2 ++ as2))) (e : EnvR X.K F1 H1 σ ρ as2) (r : RBv X.K F1 H1 σ v1 x a1) (rs : RBvs X.K F1 H1 σ vs bs a2)
    (nd : (a1 ++ (a2 ++ as2)).Nodup) (sub : Same F1 H1) (ht : takes bs ρ = some (ss, ρ1))
    (w : R.wp (match x with
      | .pl i => (match getS ρ1 i with
        | some s => (match mtD m s (ss.map Sl.cap) with
          | some (v, none) => R.ok v ρ1
          | some (v, some s') => .ok v (ρ1.set i s')
          | none => .stuck)
        | none => .stuck)
      | .tmp s => (match mtD m s (ss.map Sl.cap) with
        | some (v, _) => .ok v ρ1
        | none => .stuck)) (OkP X F H as σ Q) (ExP X cn W F H as σ)) : rMt X.K m v1 vs H1 Q := by
  obtain ⟨F2, as3, t2, e2, r2, n2, s2⟩ := OkP.cap (X := X) (F := F1) (H := H1) (as := a2 ++ as2) (s := .un) (Q := fun _ _ => True) Stp.refl e rs (nd_r nd) sub ht
  have t3 : Stp F H as F2 H1 (a1 ++ as3) := t.trans t2.frame
  have d3 : ∀ b ∈ a1, b ∉ as3 := t2.apart (fun b hb => (r.there b hb).1) (nd_dis nd)
  have r' := r.step t2 (nd_dis nd)
  cases r' with
  | @pl i v hi =>
    simp only at w
    cases q : getS ρ1 i with
    | none => rw [q] at w; exact w.elim
    | some s =>
      rw [q] at w
      obtain ⟨q1, q2⟩ := getS_some q
      obtain ⟨v', b, a', e1, rr, m', p⟩ := e2.out q1 q2
      rw [hi] at e1; cases e1
      cases q3 : mtD m s (ss.map Sl.cap) with
      | none => simp only [q3] at w; exact w.elim
      | some z =>
        obtain ⟨vv, o⟩ := z
        cases o with
        | none =>
          simp only [q3] at w
          exact ⟨F2, s, b, ss.map Sl.cap, s2, rr, r2, .inl ⟨vv, q3, fun z F' H' a'' nw => OkP.new w (t3.sub sub_r) e2 (fun _ h => h) n2 nw⟩⟩
        | some s' =>
          simp only [q3] at w
          refine ⟨F2, s, b, ss.map Sl.cap, s2, rr, r2, .inr ⟨vv, s', q3, fun z H' ch => ?_⟩⟩
          have nd' := p.nodup_iff.mp n2
          have m2 : EnvR X.K F2 H' σ (ρ1.set i .un) a' := m'.step (Stp.chg ch) fun x hx z => nd_dis nd' x z hx
          have hlt : i < ρ1.length := (List.getElem?_eq_some_iff.mp q1).1
          obtain ⟨a2', m3, p3⟩ := m2.fill (i := i) (s := s') (b := b) (by rw [List.getElem?_set_self hlt]) hi ch.rep
          rw [List.set_set] at m3
          obtain ⟨d, rfl, rd⟩ := ch.val
          have t4 : Stp F H as F2 H' a2' := (t3.sub sub_r).trans ⟨fun _ _ e => e, fun x o e nb => ch.keep x o e fun z => nb (p.mem_iff.mpr (List.mem_append_left _ z)), fun x hx => .inl (p.mem_iff.mpr (p3.mem_iff.mp hx)), fun _ _ e => .inl e⟩
          exact w z F2 H' [] a2' t4 m3 (.dat rd) (p3.nodup_iff.mpr nd') ch.sub
  | @tmp v s a rr =>
    simp only at w
    cases q3 : mtD m s (ss.map Sl.cap) with
    | none => simp only [q3] at w; exact w.elim
    | some z =>
      obtain ⟨vv, o⟩ := z
      simp only [q3] at w
      cases o with
      | none => exact ⟨F2, s, a1, ss.map Sl.cap, s2, rr, r2, .inl ⟨vv, q3, fun z F' H' a'' nw => OkP.new w (t3.sub sub_r) e2 (fun _ h => h) n2 nw⟩⟩
      | some s' =>
        refine ⟨F2, s, a1, ss.map Sl.cap, s2, rr, r2, .inr ⟨vv, s', q3, fun z H' ch => ?_⟩⟩
        have m2 : EnvR X.K F2 H' σ ρ1 as3 := e2.step (Stp.chg ch) fun x hx z => d3 x z hx
        obtain ⟨d, rfl, rd⟩ := ch.val
        refine w z F2 H' [] as3 ?_ m2 (.dat rd) n2 ch.sub
        exact ⟨t3.ff, fun b o e nb => ch.keep b o (t3.keep b o e nb) fun z => (t3.own b (List.mem_append_left _ z)).elim nb fun q => (by rw [q] at e; cases e), fun b hb => t3.own b (List.mem_append_right _ hb), t3.frz⟩
def tBMX0 (K : PySem.W.Frag) (T : String) (r : V → List V → Hp → VK → Prop) (to : TE) : TE := fun σ H Q => to σ H fun x H1 => tyW K T x H1 ∧ r x [] H1 Q
def tBMX (K : PySem.W.Frag) (T : String) (r : V → List V → Hp → VK → Prop) (to : TE) (t : TA) : TE := fun σ H Q => to σ H fun x H1 => tyW K T x H1 ∧ t σ H1 fun xs H2 => r x xs H2 Q
theorem tyW_is {pins : List (Addr × Obj)} {σ : L2.St} {H : Hp} {s : Shared} {T : String} {x : V} {v : Value} (I : Inv X pins σ H s) (r : RelV x v) (ty : tyW X.K T x H) : s.TypeIs v T ∧ ∀ a, v = .ref a → ∃ ob, s.heap.get? a = some ob ∧ ob.dict = none := by
  rcases ty with ty | ⟨rfl, p, vs, rfl, h⟩ | ⟨rfl, p, o, rfl, h, hx⟩
  · exact tyV_is I r ty
  rotate_left
  · cases r
    have x : ObjOk X.prog X.w H s.heap p (rawO p o) := I.hok p _ h
    exact ⟨⟨o, x.1, hx.1⟩, fun a e => by cases e; exact ⟨o, x.1, hx.2.1⟩⟩
  · cases r
    obtain ⟨o, its, n, ho, hc, hd, _⟩ := sqX_obj I h
    exact ⟨⟨o, ho, hc⟩, fun a e => by cases e; exact ⟨o, ho, hd⟩⟩
theorem pe_bmX0 {o : Expr} {to : TE} {name : Str} {apos cpos : Pos} {T id : String} {r : V → List V → Hp → VK → Prop} (pa : PlainAttrs T) (slot : Slot T name id) (hty : typeOf (.builtin id) = pure (.type "method_descriptor")) (hm : MtR X id r) (ho : PE X o to)
    (hb : attributeBase o name X.env (eval o X.env) = eval o X.env) (hl : (apos.endLine == cpos.line) = true) : PE X (.Call (.Attribute o name apos) [] [] cpos) (tBMX0 X.K T r to) := by
  constructor
  intro pins s σ H Q I h
  refine wpAny_Call_method0_late hb hl (thn (ho.run pins s σ H _ I h) fun v s1 ⟨x, H1, I1, r1, ty, q1⟩ => ?_)
  obtain ⟨g1, g2⟩ := tyW_is I1 r1 ty
  exact ⟨T, id, pa, slot, hty, g1, g2, Calls.callWith_builtin rfl (PySem.evalArgs_none (hm pins s1 σ H1 x [] v [] Q I1 r1 .nil q1))⟩
theorem pe_bmX {o e : Expr} {es : List Expr} {to : TE} {t : TA} {name : Str} {apos cpos : Pos} {T id : String} {r : V → List V → Hp → VK → Prop} (pa : PlainAttrs T) (slot : Slot T name id) (hty : typeOf (.builtin id) = pure (.type "method_descriptor")) (hm : MtR X id r) (ho : PE X o to) (ha : PA X (e :: es) t)
    (hb : attributeBase o name X.env (eval o X.env) = eval o X.env)
    (hf : ((backTo cpos (starEach (e :: es) X.env)).all (fun x => !x.1) && (backToKw cpos (keywordEach [] X.env)).all (fun x => x.1.isSome) && decide ((e :: es).length + ([] : List Keyword).length + (if ([] : List Keyword).isEmpty then 0 else 1) < 30)) = true)
    (hl : (apos.endLine == cpos.line) = true) (hs : starEach (e :: es) X.env = (false, eval e X.env) :: starEach es X.env) (hp : (backTo cpos (starEach es X.env)).any (·.1) = false) : PE X (.Call (.Attribute o name apos) (e :: es) [] cpos) (tBMX X.K T r to t) := by
  constructor
  intro pins s σ H Q I h
  refine wpAny_Call_method_late hb hf hl rfl (thn (ho.run pins s σ H _ I h) fun v s1 ⟨x, H1, I1, r1, ty, q1⟩ => ?_)
  obtain ⟨g1, g2⟩ := tyW_is I1 r1 ty
  refine ⟨T, id, pa, slot, hty, g1, g2, ?_⟩
  have hA := ha.run cpos pins s1 σ H1 _ I1 q1
  rw [hs] at hA ⊢
  refine Calls.callWith_builtin (by show (false || (backTo cpos (starEach es X.env)).any (·.1)) = false; rw [hp]; rfl) (Calls.evalArgs_plain ?_)
  exact thn hA fun us s2 ⟨vs, H2, I2, r2, q2⟩ => hm pins s2 σ H2 x vs v us Q I2 r1 r2 q2
theorem snd_mt (G : Gd X N sc cn W n) (hu : X.A.units + 100 < cLine) {m : Mt} {nm : Str} {T id : String} {apos : Pos} (hn : mtN m = some (nm, T, id)) (hat : atOk xa = true) (hl : (apos.endLine == pos.line) = true) (ns : xs.all noStar = true) (few : xs.length < 30)
    (h0 : xs = [] → es = .nil) (ha : SndB X cn W xa (bvOf a (evE C a))) (hb : SndA X cn W xs (evArgs C es)) : SndE X cn W (.Call (.Attribute xa nm apos) xs [] pos) (evE C (.mt m a es)) := by
  obtain ⟨pa, slot, hty⟩ := mt_facts hn
  have hm := mt_data (X := X) G.hw (by omega) m hn
  intro ρ F H as σ Q e nd sub w
  simp only [evE, wp_bind] at w
  cases xs with
  | nil =>
    cases h0 rfl
    refine we_of (pe_bmX0 pa slot hty hm pe_w (atOk_ok hat) hl) ?_
    refine ha ρ F H as σ _ e nd sub (wp_mono w (fun x ρ1 w1 v1 F1 H1 a1 as1 t1 e1 r1 n1 s1 => ?_) fun _ _ _ z => z)
    obtain ⟨d, hd, w2⟩ := wp_view w1
    split at w2
    · rename_i hr
      refine ⟨ty_of hn s1 (r1.vw e1 hd) hr, ?_⟩
      simp only [evArgs, R.bind, takes] at w2
      exact mt_fin (a2 := []) (bs := []) t1 e1 r1 .nil n1 s1 rfl w2
    · exact w2.elim
  | cons e' es' =>
    have ns2 := ns
    simp only [List.all_cons, Bool.and_eq_true] at ns2
    refine we_of (pe_bmX pa slot hty hm pe_w pa_w (atOk_ok hat) ?_ hl (starEach_cons ns2.1) (stars_no ns2.2)) ?_
    · rw [stars_all ns]
      simpa [keywordEach, backToKw] using few
    · refine ha ρ F H as σ _ e nd sub (wp_mono w (fun x ρ1 w1 v1 F1 H1 a1 as1 t1 e1 r1 n1 s1 => ?_) fun _ _ _ z => z)
      obtain ⟨d, hd, w2⟩ := wp_view w1
      split at w2
      · rename_i hr
        refine ⟨ty_of hn s1 (r1.vw e1 hd) hr, ?_⟩
        simp only [wp_bind] at w2
        have t1' : Stp F H as F1 H1 as1 := t1.sub sub_r
        refine hb ρ1 F1 H1 as1 σ _ e1 (nd_r n1) s1 (wp_mono w2 (fun bs ρ2 w3 vs F2 H2 a2 as2 t2 e2 r2 n2 s2 l2 => ?_) fun _ _ _ z => z.trans t1')
        have nd3 : (a1 ++ (a2 ++ as2)).Nodup := nodup_app.mpr ⟨(nodup_app.mp n1).1, n2, t2.apart (fun b hb => (r1.there b hb).1) (nd_dis n1)⟩
        split at w3
        · rename_i ss ρ3 ht
          exact mt_fin (t1.trans t2.frame) e2 (r1.step t2 (nd_dis n1)) r2 nd3 s2 ht w3
        · exact w3.elim
      · exact w2.elim

/-! ### dict displays -/
def allSome : List Expr → List (Option Expr)
  | [] => []
  | x :: xs => some x :: allSome xs
inductive SndP (X : Cx) (cn : List Str) (W : WX) (C : Ctx) : List Expr → List Expr → PL → Prop
  | nil : SndP X cn W C [] [] .nil
  | cons {k v : Expr} {ks vs : List Expr} {a b : E} {ps : PL} : SndE X cn W k (evE C a) → SndE X cn W v (evE C b) → SndP X cn W C ks vs ps → SndP X cn W C (k :: ks) (v :: vs) (.cons a b ps)
def trsW (X : Cx) : List Expr → List Expr → List (TE × TE)
  | k :: ks, v :: vs => (WE X k, WE X v) :: trsW X ks vs
  | _, _ => []
theorem pps_w {ks vs : List Expr} {ps : PL} (h : SndP X cn W C ks vs ps) : PPs X pos (allSome ks) vs (trsW X ks vs) := by
  induction h with
  | nil => exact pps_nil
  | cons _ _ _ ih => exact pps_cons pe_w pe_w ih
theorem allSome_len : ∀ ks : List Expr, (allSome ks).length = ks.length
  | [] => rfl
  | _ :: ks => by simp [allSome, allSome_len ks]
theorem allSome_all : ∀ ks : List Expr, (allSome ks).all (·.isSome) = true
  | [] => rfl
  | _ :: ks => by simp [allSome, allSome_all ks]
theorem SndP.len {ks vs : List Expr} {ps : PL} (h : SndP X cn W C ks vs ps) : ks.length = vs.length := by
  induction h with
  | nil => rfl
  | cons _ _ _ ih => simp [ih]
/-- the pairs, one behind another: as data -/
theorem pairs_ok {ks vs : List Expr} {ps : PL} (h : SndP X cn W C ks vs ps) : ∀ (ρ : Env) (F H : Hp) (as : List Addr) (σ : L2.St) (Q : List (V × V) → Hp → Prop) (p : Addr), EnvR X.K F H σ ρ as → as.Nodup → Same F H → H p ≠ none → p ∉ as → F p = none →
    (evPairs C ps ρ).wp (fun kv ρ' => ∀ (pv : List (V × V)) F' H' as', Stp F H as F' H' as' → EnvR X.K F' H' σ ρ' as' → as'.Nodup → Same F' H' → Rps X.K F' (pv.map (·.1)) kv.1 → Rps X.K F' (pv.map (·.2)) kv.2 → pv.length = ks.length → Q pv H') (ExP X cn W F H as σ) → tPairs (trsW X ks vs) σ H Q := by
  induction h with
  | nil =>
    intro ρ F H as σ Q p e nd sub hp ha hf w
    exact w [] F H as .refl e nd sub .nil .nil rfl
  | @cons k v ks vs a b ps hk hv hr ih =>
    intro ρ F H as σ Q p e nd sub hp ha hf w
    simp only [evPairs, wp_bind] at w
    refine hk ρ F H as σ _ e nd sub (wp_mono w (fun s1 ρ1 w1 v1 F1 H1 a1 as1 t1 e1 r1 n1 sb1 => ?_) fun _ _ _ z => z)
    -- the key is told as data from now on
    have c1 : Stp F1 H1 (a1 ++ as1) (frzH F1 H1 a1) H1 as1 := frzH_stp sb1 (fun b hb => List.mem_append_left _ hb) fun b hb => List.mem_append_right _ hb
    have e1' : EnvR X.K (frzH F1 H1 a1) H1 σ ρ1 as1 := e1.step (frzH_stp (as := a1) (as' := a1) sb1 (fun _ z => z) fun _ z => z) fun x hx z => nd_dis n1 x z hx
    have t1' := t1.trans c1
    refine hv ρ1 _ H1 as1 σ _ e1' (nd_r n1) (frzH_sub sb1) (wp_mono w1 (fun s2 ρ2 w2 v2 F2 H2 a2 as2 t2 e2 r2 n2 sb2 => ?_) fun _ _ _ z => z.trans t1')
    have c2 : Stp F2 H2 (a2 ++ as2) (frzH F2 H2 a2) H2 as2 := frzH_stp sb2 (fun b hb => List.mem_append_left _ hb) fun b hb => List.mem_append_right _ hb
    have e2' : EnvR X.K (frzH F2 H2 a2) H2 σ ρ2 as2 := e2.step (frzH_stp (as := a2) (as' := a2) sb2 (fun _ z => z) fun _ z => z) fun x hx z => nd_dis n2 x z hx
    have t2' := t1'.trans (t2.trans c2)
    have k1 := (r1.capture sb1).mono (t2.trans c2).ff
    have k2 := r2.capture sb2
    have hp2 : ∃ o, H2 p = some o := by
      cases q : H p with
      | none => exact absurd q hp
      | some o => exact ⟨o, t2'.keep p o q ha⟩
    refine ih ρ2 _ H2 as2 σ _ p e2' (nd_r n2) (frzH_sub sb2) (by obtain ⟨o, ho⟩ := hp2; rw [ho]; simp) ?_ ?_ (wp_mono w2 (fun kv ρ3 w3 pv F3 H3 as3 t3 e3 n3 sb3 r3 r4 l3 => ?_) fun _ _ _ z => z.trans t2')
    · exact t2'.apart (a := [p]) (fun b hb => by simp at hb; subst hb; cases q : H b with | none => exact absurd q hp | some o => exact ⟨o, rfl⟩) (fun b hb => by simp at hb; subst hb; exact ha) p (by simp)
    · refine t2'.fnone hf ?_ ha
      cases q : H p with
      | none => exact absurd q hp
      | some o => exact ⟨o, rfl⟩
    · exact w3 ((v1, v2) :: pv) F3 H3 as3 (t2'.trans t3) e3 n3 sb3 (.cons (k1.mono t3.ff) r3) (.cons (k2.mono t3.ff) r4) (by simp [l3])
theorem keys_ok {K : PySem.W.Frag} {F : Hp} : ∀ {pv : List (V × V)} {ks : List D}, Rps K F (pv.map (·.1)) ks → ks.all isKey = true → ∃ kvs : List (Key × V), pv = kvs.map (fun kv => (kV kv.1, kv.2)) ∧ ks = kvs.map (fun p => kD p.1) ∧ ∀ k ∈ kvs.map (·.1), keyOk k = true
  | [], _, h, _ => by cases h; exact ⟨[], rfl, rfl, by simp⟩
  | (v, u) :: pv, _, .cons (d := d) (ds := ds) r t, h => by
    simp only [List.all_cons, Bool.and_eq_true] at h
    obtain ⟨kvs, h1, h2, h3⟩ := keys_ok t h.2
    obtain ⟨k, rfl, rfl, ok⟩ := isKey_k (Vw.of (H := F) r) h.1
    refine ⟨(k, u) :: kvs, by rw [h1]; rfl, by rw [h2]; rfl, fun z hz => ?_⟩
    rcases List.mem_cons.mp hz with rfl | hz
    · exact ok
    · exact h3 z hz
/-- a display, its keys texts and numbers, or tuples: which is seen behind the walk over the pairs -/
theorem dict_either {prog : Program} {w : World} {A : Around} {E : Value → Shared → Prop} {s : Shared} {env : PySem.Env} {keys : List (Option Expr)} {values : List Expr} {pos : Pos} {Q : Value → Shared → Prop} (hu : (nestedKind prog w).room A)
    (hall : keys.all (·.isSome) = true) (hl : keys.length = values.length) (h0 : keys ≠ []) (hlen : keys.length ≤ 15)
    (h : wpAny (model prog w) A (evalPairs (pairTrees keys values env pos)) (fun vs s₁ =>
      (∃ kvs, Carries (mixKind prog w) vs kvs ∧ s₁.heap.DictOf (mixKind prog w) s.heap.objs.size [] ∧
        ∀ h', h'.DictOf (mixKind prog w) s.heap.objs.size (merged [] kvs) → Heap.SameBut s.heap.objs.size s₁.heap h' → Q (.ref s.heap.objs.size) { s₁ with heap := h', toks := s₁.toks + vs.length }) ∨
      ∃ ps, CarriesH (nestedKind prog w) s₁.heap vs ps ∧ s₁.heap.DictOfH (nestedKind prog w) s.heap.objs.size [] ∧
        ∀ h' tk, h'.DictOfH (nestedKind prog w) s.heap.objs.size (storedAllH [] ps) → Heap.SameBut s.heap.objs.size s₁.heap h' → Q (.ref s.heap.objs.size) { s₁ with heap := h', toks := tk }) E
      { s with heap := s.heap.push { cls := .type "dict", data := .dict #[] } }) : wpAny (model prog w) A (eval (.Dict keys values pos) env) Q E s := by
  have hn := pairTrees_length keys values env pos hall hl
  have h0' : pairTrees keys values env pos ≠ [] := fun he => by
    rw [he] at hn
    exact h0 (List.length_eq_zero_iff.mp hn.symm)
  rw [arm_eval_Dict, zip_pairTrees keys values env pos hall hl, dictDisplay_pairs _ h0' (by omega)]
  refine wpAny_bind (wpAny_standAt (wpAny_bind ?_))
  unfold subDict
  refine wpAny_bind (wpAny_alloc ?_)
  refine wpAny_bind (wpAny_holding ?_)
  rw [if_pos (by rw [hn]; exact hlen)]
  refine wpAny_bind (wpAny_mono (wpAny_evalPairs_len h) (fun vs s₁ h₁ => ?_) fun _ _ e => e)
  obtain ⟨hvl, h₁⟩ := h₁
  refine wpAny_holding ?_
  rcases h₁ with ⟨kvs, hc, hm, hQ⟩ | ⟨ps, hc, hm, hQ⟩
  · have hsz : ([] : List (L2.Key × Value)).length + kvs.length ≤ sizeLine := by
      have e := hc.length
      rw [sizeLine_eq, List.length_nil]; omega
    exact wpAny_bind (wpAny_storeAll (knd := mixKind prog w) vs kvs [] s₁ _ hc hm hsz fun h' hm' hs' => wpAny_pure (wpAny_pure (wpAny_pure (hQ h' hm' hs'))))
  · have hsz : ([] : List (NestedKey × Addr × Value)).length + ps.length ≤ sizeLine := by
      have e := hc.length
      rw [sizeLine_eq, List.length_nil]; omega
    exact wpAny_bind (wpAny_storeAllH hu vs ps [] s₁ _ hc hm hsz fun h' tk hm' hs' => wpAny_pure (wpAny_pure (wpAny_pure (hQ h' tk hm' hs'))))
theorem carriesT {K : PySem.W.Frag} {F : Hp} {P : Program} {w : World} {h : Heap} : ∀ {pv : List (V × V)} {ws : List (Value × Value)} {ks ds : List D}, VV pv ws → Rps K F (pv.map (·.1)) ks → Rps K F (pv.map (·.2)) ds → ks.all isTK = true →
    (∀ (d : D) (b : Addr), Rp K F (.ref b) d → isTK d = true → (nestedKind P w).is h d.nk b) → ∃ ps, CarriesH (nestedKind P w) h ws ps ∧ Rpt K F ps ks ds
  | [], _, _, _, r, r1, r2, _, _ => by
    cases r; cases r1; cases r2
    exact ⟨[], True.intro, .nil⟩
  | p :: pv, _, _, _, r, r1, r2, hk, hi => by
    cases r with
    | @cons a b as bs hh t =>
      rw [List.map_cons] at r1 r2
      cases r1 with
      | cons q1 r1 =>
        cases r2 with
        | cons q2 r2 =>
          simp only [List.all_cons, Bool.and_eq_true] at hk
          obtain ⟨ps, c, m⟩ := carriesT t r1 r2 hk.2 hi
          obtain ⟨b1, b2⟩ := b
          obtain ⟨⟨ts, rfl⟩, _⟩ := isTK_tup hk.1
          obtain ⟨p1, p2⟩ := p
          simp only at q1 q2 hh
          cases q1 with
          | @tup a vs _ t1 t2 =>
            have e1 : b1 = Value.ref a := hh.1
            exact ⟨((D.tup ts).nk, a, b2) :: ps, ⟨e1, rfl, hi _ _ (.tup t1 t2) hk.1, c⟩, .cons hk.1 (.tup t1 t2) hh.2 q2 m⟩
def tDisp2 (K : PySem.W.Frag) (trs : List (TE × TE)) : TE := fun σ H Q => ∀ p, H p = none → (p == sysModules) = false → tPairs trs σ (upd H p (.dK [])) fun ps H2 => H2 p = some (.dK []) ∧ ps.length ≤ 15 ∧
  ((∃ kvs : List (L2.Key × V), ps = kvs.map (fun kv => (kV kv.1, kv.2)) ∧ Q (.ref p) (upd H2 p (.dK (mergeK [] kvs)))) ∨
    ∃ F ks ds, Same F H2 ∧ Rps K F (ps.map (·.1)) ks ∧ Rps K F (ps.map (·.2)) ds ∧ ks.all isTK = true ∧
      ∀ o es ep xs, o.ExactDict → o.data = .dict es ep → es.toList = xs.map entT → (xs.map (·.1)).Nodup → Rpt K F xs (dMerge [] [] ks ds).1 (dMerge [] [] ks ds).2 → Q (.ref p) (upd H2 p (rawO p o)))
theorem pe_disp2 (hw : X.w = HasW.w) (hu : X.A.units + 12 < cLine) {keys : List (Option Expr)} {values : List Expr} {trs : List (TE × TE)} (h : PPs X pos keys values trs) (hall : keys.all (·.isSome) = true) (hl : keys.length = values.length) (h0 : keys ≠ [])
    (h15 : keys.length ≤ 15) : PE X (.Dict keys values pos) (tDisp2 X.K trs) := by
  refine ⟨fun pins s σ H Q I q => ?_⟩
  have hn := I.hok.fresh (Nat.le_refl s.heap.objs.size)
  have hm : (s.heap.objs.size == sysModules) = false := beq_eq_false_iff_ne.mpr (Nat.ne_of_gt I.big)
  have I1 := I.laid (a := s.heap.objs.size) (o := .dK []) (h' := s.heap.push { cls := .type "dict", data := .dict #[] }) (t' := s.toks) (fun _ _ q => Heap.get?_push_of_some _ q) (Nat.le_refl _) (dk_empty s.heap I.big)
  refine dict_either (show X.A.units + 8 < cLine by omega) hall hl h0 h15 (thn (h.run pins _ σ _ _ I1 (q _ hn hm)) fun ws s2 ⟨ps, H2, I2, rel, e, lk, q2⟩ => ?_)
  obtain ⟨z, hd, vs0, r0, dd⟩ := dk_of I2.hok e
  cases r0
  rcases q2 with ⟨kvs, rfl, q2⟩ | ⟨F, ks, ds, sb, r1, r2, hk, q2⟩
  · obtain ⟨rs, c, rk⟩ := carries_of (P := X.prog) (w := X.w) rel
    refine .inl ⟨rs, c, dd, fun h' dd' hs => ⟨.ref s.heap.objs.size, _, ?_, rfl, q2⟩⟩
    have hz : (mergeK [] kvs).length ≤ sizeLine := by
      have h1 := length_mergeK kvs []
      rw [List.length_nil] at h1
      rw [List.length_map] at lk
      rw [sizeLine_eq]; omega
    have he : ∃ q, h'.get? s.heap.objs.size = some q := let ⟨q, _, _, hq, _⟩ := dd'; ⟨q, hq⟩
    exact d_write I2 (by rw [e]; exact True.intro) hs he (dk_new hz hd (rk.merge .nil) dd')
  · obtain ⟨prs, c, rp⟩ := carriesT (P := X.prog) (w := X.w) (h := s2.heap) rel r1 r2 hk fun d b r t => tk_is I2 sb r t
    have dh : s2.heap.DictOfH (nestedKind X.prog X.w) s.heap.objs.size [] := by
      obtain ⟨o, es, ep, g1, g2, g3, g4, g5, g6⟩ := dd
      have e0 : es.toList = [] := by
        revert g5
        generalize es.toList = l
        intro g5
        cases g5; rfl
      exact ⟨o, es, ep, g1, g2, g3, by rw [e0]; rfl, fun _ hx => (by cases hx), by simp⟩
    refine .inr ⟨prs, c, dh, fun h' tk dd' hs => ?_⟩
    obtain ⟨o, es, ep, ho, hx, hdd, he, nd⟩ := dictH_raw hw dd'
    refine ⟨.ref s.heap.objs.size, _, d_write (t' := tk) I2 (by rw [e]; exact True.intro) hs ⟨o, ho⟩ (raw_ok ho), rfl, q2 o es ep _ hx hdd he nd (rpt_merge (.nil : Rpt X.K F [] [] []) (by simp) rp).1⟩
theorem snd_dic (hw : X.w = HasW.w) (hu : X.A.units + 12 < cLine) {ks vs : List Expr} {ps : PL} (h : SndP X cn W C ks vs ps) (h15 : ks.length ≤ 15) : SndE X cn W (.Dict (allSome ks) vs pos) (evE C (.dic ps)) := by
  intro ρ F H as σ Q e nd sub w
  cases h with
  | nil =>
    simp only [evE, evPairs, R.bind, List.all_nil, if_true, dMerge] at w
    refine we_of pe_dnewK fun p hp => ?_
    exact OkP.new w Stp.refl e (fun _ h => h) nd (New.dic (kvs := []) sub hp (by simp) (by simp) .nil)
  | @cons k v ks vs a b ps hk hv hr =>
    have h : SndP X cn W C (k :: ks) (v :: vs) (.cons a b ps) := .cons hk hv hr
    simp only [evE, wp_bind] at w
    refine we_of (pe_disp2 hw hu (pps_w h) (allSome_all _) (by rw [allSome_len, h.len]) (by simp [allSome]) (by rw [allSome_len]; exact h15)) fun p hp hsm => ?_
    have st : Stp F H as F (upd H p (.dK [])) as := ⟨fun _ _ e => e, fun b o e _ => same_upd hp b o e, fun b hb => .inl hb, fun _ _ e => .inl e⟩
    have st0 : Stp F H [] F (upd H p (.dK [])) [] := ⟨fun _ _ e => e, fun b o e _ => same_upd hp b o e, fun b hb => (by cases hb), fun _ _ e => .inl e⟩
    have hpa : p ∉ as := fun z => by obtain ⟨⟨o, q⟩, _⟩ := e.there p z; rw [hp] at q; cases q
    refine pairs_ok h ρ F (upd H p (.dK [])) as σ _ p (e.step st0 fun _ _ z => by cases z) nd (fun b o q => same_upd hp b o (sub b o q)) (by rw [upd_same]; simp) hpa (fnone_of sub hp) (wp_mono w (fun kv ρ1 w1 pv F1 H1 as1 t1 e1 n1 s1 r1 r2 l1 => ?_) fun _ _ _ z => z.trans st)
    have hp1 : H1 p = some (.dK []) := t1.keep p _ upd_same hpa
    have hf1 : F1 p = none := t1.fnone (fnone_of sub hp) ⟨_, upd_same⟩ hpa
    have hpa1 : p ∉ as1 := t1.apart (a := [p]) (fun b hb => by simp at hb; subst hb; exact ⟨_, upd_same⟩) (fun b hb => by simp at hb; subst hb; exact hpa) p (by simp)
    split at w1
    · rename_i hk
      obtain ⟨kvs, rfl, hks, ok⟩ := keys_ok r1 hk
      refine ⟨hp1, by simp at l1; simp at h15; simp; omega, .inl ⟨kvs, rfl, ?_⟩⟩
      have r2' : Rps X.K F1 (kvs.map (·.2)) kv.2 := by
        rw [List.map_map] at r2
        exact r2
      obtain ⟨m1, m2, m3, m4⟩ := dMerge_ok (more := kvs) (kvs := []) (ds := []) (by simp) (by simp) ok .nil r2'
      have kp : ∀ b o, H1 b = some o → b ∉ [p] → upd H1 p (.dK (mergeK [] kvs)) b = some o := fun b o e nb => by rw [upd_ne (by simpa using nb)]; exact e
      have t2 : Stp F1 H1 [p] F1 (upd H1 p (.dK (mergeK [] kvs))) [p] := ⟨fun _ _ e => e, kp, fun _ hb => .inl hb, fun _ _ e => .inl e⟩
      have rep : RpS X.K F1 (upd H1 p (.dK (mergeK [] kvs))) (.ref p) (.dic (dMerge [] [] kv.1 kv.2).1 (dMerge [] [] kv.1 kv.2).2) [p] := by
        rw [hks]
        simp only [List.map_nil] at m1 m2
        rw [m1]
        exact .dic upd_same hf1 m3 m4 m2
      refine w1 (.ref p) F1 _ [p] as1 ?_ (e1.step t2 fun x hx z => by simp at z; subst z; exact hpa1 hx) rep ?_ fun b o q => kp b o (s1 b o q) fun z => by simp at z; subst z; rw [hf1] at q; cases q
      · refine ⟨t1.ff, fun b o q nb => kp b o (t1.keep b o (same_upd hp b o q) nb) fun z => (by simp at z; subst z; rw [hp] at q; cases q), fun b hb => ?_, fun b o q => ?_⟩
        · rcases List.mem_append.mp hb with z | z
          · simp at z; subst z; exact .inr hp
          · rcases t1.own b z with z | z
            · exact .inl z
            · right
              cases q : H b with
              | none => rfl
              | some o => rw [same_upd hp b o q] at z; cases z
        · rcases t1.frz b o q with z | z | z
          · exact .inl z
          · exact .inr (.inl z)
          · right; right
            cases q : H b with
            | none => rfl
            | some o => rw [same_upd hp b o q] at z; cases z
      · exact nodup_app.mpr ⟨by simp, n1, fun b hb => by simp at hb; subst hb; exact hpa1⟩
    · split at w1
      · rename_i hk
        refine ⟨hp1, by rw [l1]; exact h15, .inr ⟨F1, kv.1, kv.2, s1, r1, r2, hk, fun o es ep xs x1 x2 x3 x4 x5 => ?_⟩⟩
        have kp : ∀ b o', H1 b = some o' → b ≠ p → upd H1 p (rawO p o) b = some o' := fun b o' e nb => by rw [upd_ne nb]; exact e
        have up : Same F1 (upd F1 p (rawO p o)) := same_upd hf1
        have sb2 : Same (upd F1 p (rawO p o)) (upd H1 p (rawO p o)) := fun b o' q => by
          by_cases z : b = p
          · subst z; rw [upd_same] at q ⊢; exact q
          · rw [upd_ne z] at q ⊢; exact s1 b o' q
        have t2 : Stp F1 H1 [p] (upd F1 p (rawO p o)) (upd H1 p (rawO p o)) [] := ⟨up, fun b o' q nb => kp b o' q (by simpa using nb), fun b hb => (by cases hb), fun b o' q => by
          by_cases z : b = p
          · exact .inr (.inl (by simp [z]))
          · rw [upd_ne z] at q; exact .inl q⟩
        have rep : RpS X.K (upd F1 p (rawO p o)) (upd H1 p (rawO p o)) (.ref p) (.dat (.tdic (dMerge [] [] kv.1 kv.2).1 (dMerge [] [] kv.1 kv.2).2)) [] := .dat (.tdic upd_same x1 x2 x3 x4 hsm (x5.mono up))
        refine w1 (.ref p) _ _ [] as1 ?_ (e1.step t2 fun x hx z => by simp at z; subst z; exact hpa1 hx) rep (by simpa using n1) sb2
        refine ⟨t1.ff.trans up, fun b o' q nb => kp b o' (t1.keep b o' (same_upd hp b o' q) nb) fun z => (by subst z; rw [hp] at q; cases q), fun b hb => ?_, fun b o' q => ?_⟩
        · have hb' : b ∈ as1 := by simpa using hb
          rcases t1.own b hb' with z | z
          · exact .inl z
          · right
            cases q : H b with
            | none => rfl
            | some o' => rw [same_upd hp b o' q] at z; cases z
        · by_cases zp : b = p
          · subst zp; exact .inr (.inr hp)
          · rw [upd_ne zp] at q
            rcases t1.frz b o' q with z | z | z
            · exact .inl z
            · exact .inr (.inl z)
            · right; right
              cases q : H b with
              | none => rfl
              | some o' => rw [same_upd hp b o' q] at z; cases z
      · exact w1.elim

end
end MP

namespace MP
open PySem PySem.Spec PyProof.Rows L2
variable [HasW]

def CR.wp (r : CR) (ok : Sl → List Sl → Prop) (ex : Nat → List D → List Sl → Prop) : Prop := match r with
  | .ok v fin => ok v fin
  | .exc c ps fin => ex c ps fin
  | .stuck => False
/-- what a def promises, by what its evaluation comes to -/
def spOf (mg : Str → Option Value) (K : PySem.W.Frag) (cn : List Str) (np : Nat) (call : List Sl → CR) : Sp := fun vs H Q E => vs.length = np ∧ ∃ F ss as, RpSs K F H vs ss as ∧ as.Nodup ∧ Same F H ∧
  (call ss).wp (fun v fin => ∀ z F' H' a as', Stp F H as F' H' (a ++ as') → EnvR K F' H' (vs.map some) fin as' → RpS K F' H' z v a → (a ++ as').Nodup → Same F' H' → Q z H')
    (fun c ps fin => ∀ cls d F' H' as', Stp F H as F' H' as' → EnvR K F' H' (vs.map some) fin as' → as'.Nodup → Same F' H' → Exc mg cn c ps H' cls d → E cls d H')
/-! places -/
def places : List Bv → List Nat
  | [] => []
  | .pl i :: r => i :: places r
  | .tmp _ :: r => places r
theorem takes_un : ∀ {bs : List Bv} {ρ ρ' : Env} {ss : List Sl}, takes bs ρ = some (ss, ρ') → ((places bs).Nodup ∧ ∀ i ∈ places bs, ρ[i]? ≠ some .un ∧ ρ'[i]? = some .un) ∧ ∀ j : Nat, ρ[j]? = some .un → ρ'[j]? = some .un
  | [], ρ, ρ', ss, h => by
    simp only [takes, Option.some.injEq, Prod.mk.injEq] at h
    obtain ⟨_, rfl⟩ := h
    exact ⟨⟨.nil, fun i hi => by cases hi⟩, fun j h => h⟩
  | .pl i :: r, ρ, ρ', ss, h => by
    simp only [takes] at h
    cases q : getS ρ i with
    | none => rw [q] at h; simp at h
    | some s =>
      rw [q] at h
      simp only [Option.bind_some] at h
      cases q2 : takes r (ρ.set i .un) with
      | none => rw [q2] at h; simp at h
      | some p =>
        rw [q2] at h
        simp only [Option.map_some, Option.some.injEq, Prod.mk.injEq] at h
        obtain ⟨rfl, rfl⟩ := h
        obtain ⟨⟨i1, i2⟩, i3⟩ := takes_un q2
        obtain ⟨g1, g2⟩ := getS_some q
        have hlt : i < ρ.length := (List.getElem?_eq_some_iff.mp g1).1
        have hi : (ρ.set i Sl.un)[i]? = some .un := by rw [List.getElem?_set_self hlt]
        have hni : i ∉ places r := fun z => (i2 i z).1 hi
        refine ⟨⟨List.nodup_cons.mpr ⟨hni, i1⟩, fun j hj => ?_⟩, fun j hj => i3 j ?_⟩
        · rcases List.mem_cons.mp hj with rfl | hj
          · exact ⟨by rw [g1]; intro z; exact g2 (Option.some.inj z), i3 _ hi⟩
          · refine ⟨fun z => (i2 j hj).1 ?_, (i2 j hj).2⟩
            rw [List.getElem?_set_ne (by rintro rfl; exact hni hj)]; exact z
        · by_cases e : i = j
          · subst e; exact hi
          · rw [List.getElem?_set_ne e]; exact hj
  | .tmp s :: r, ρ, ρ', ss, h => by
    simp only [takes] at h
    cases q2 : takes r ρ with
    | none => rw [q2] at h; simp at h
    | some p =>
      rw [q2] at h
      simp only [Option.map_some, Option.some.injEq, Prod.mk.injEq] at h
      obtain ⟨rfl, rfl⟩ := h
      have z := takes_un q2
      exact z
/-- behind the call -/
theorem putBack_ok {K : PySem.W.Frag} {F H F0 H0 : Hp} {σ : L2.St} : ∀ {bs : List Bv} {vs : List V} {a : List Addr} {ρ : Env} {fin : List Sl} {as as2 : List Addr}, RBvs K F0 H0 σ vs bs a → (places bs).Nodup → (∀ i ∈ places bs, ρ[i]? = some .un) →
    EnvR K F H σ ρ as → EnvR K F H (vs.map some) fin as2 → (as2 ++ as).Nodup → ∃ as3, EnvR K F H σ (putBack bs fin ρ) as3 ∧ (∀ b ∈ as3, b ∈ as2 ++ as) ∧ as3.Nodup
  | [], _, _, ρ, fin, as, as2, r, _, _, e, f, nd => by
    cases r
    exact ⟨as, by cases fin <;> exact e, sub_r, nd_r nd⟩
  | b :: bs, v :: vs', _, ρ, fin, as, as2, .cons r rr, np, un, e, f, nd => by
    cases f with
    | un f =>
      cases r with
      | pl hi =>
        rename_i i
        simp only [places, List.nodup_cons] at np
        have hset : ρ.set i .un = ρ := by
          have := un i List.mem_cons_self
          apply List.ext_getElem?
          intro j
          by_cases e : i = j
          · subst e; rw [List.getElem?_set_self (List.getElem?_eq_some_iff.mp this).1, this]
          · rw [List.getElem?_set_ne e]
        obtain ⟨as3, h1, h2, h3⟩ := putBack_ok rr np.2 (fun j hj => un j (List.mem_cons_of_mem _ hj)) e f nd
        exact ⟨as3, by simp only [putBack]; rw [hset]; exact h1, h2, h3⟩
      | tmp _ =>
        obtain ⟨as3, h1, h2, h3⟩ := putBack_ok rr np un e f nd
        exact ⟨as3, h1, h2, h3⟩
    | @cons _ s a0 as0 _ ρ0 q f =>
      cases r with
      | pl hi =>
        rename_i i
        simp only [places, List.nodup_cons] at np
        obtain ⟨a', m, p⟩ := e.fill (un i List.mem_cons_self) hi q
        have nd' : (as0 ++ a').Nodup := by
          refine (List.Perm.append_left as0 p).nodup_iff.mpr ?_
          rw [← List.append_assoc]
          exact (List.Perm.append_right as List.perm_append_comm).nodup_iff.mpr nd
        obtain ⟨as3, h1, h2, h3⟩ := putBack_ok rr np.2 (ρ := ρ.set i s) (fun j hj => by
          rw [List.getElem?_set_ne (by rintro rfl; exact np.1 hj)]
          exact un j (List.mem_cons_of_mem _ hj)) m f nd'
        refine ⟨as3, h1, fun b hb => ?_, h3⟩
        rcases List.mem_append.mp (h2 b hb) with z | z
        · exact List.mem_append_left _ (List.mem_append_right _ z)
        · rcases List.mem_append.mp (p.mem_iff.mp z) with z | z
          · exact List.mem_append_left _ (List.mem_append_left _ z)
          · exact List.mem_append_right _ z
      | tmp _ =>
        rw [List.append_assoc] at nd
        obtain ⟨as3, h1, h2, h3⟩ := putBack_ok rr np un e f (nd_r nd)
        refine ⟨as3, h1, fun b hb => ?_, h3⟩
        rw [List.append_assoc]
        exact List.mem_append_right _ (h2 b hb)
section
variable {X : Cx} {N : List Str} {sc : Scope} {cn : List Str} {W : WX} {n : Nat} {C : Ctx} {pos : Pos} {xa xb xc : Expr} {a b c : E} {xs : List Expr} {es : EL}
theorem call_fin {F H F1 H1 : Hp} {as a1 as1 : List Addr} {σ : L2.St} {Q : VK} {vs : List V} {bs : List Bv} {ρ ρ1 : Env} {ss : List Sl} {np : Nat} {call : List Sl → CR} (t : Stp F H as F1 H1 (a1 ++ as1)) (e : EnvR X.K F1 H1 σ ρ as1) (rs : RBvs X.K F1 H1 σ vs bs a1)
    (nd : (a1 ++ as1).Nodup) (sub : Same F1 H1) (ht : takes bs ρ = some (ss, ρ1)) (hl : vs.length = np)
    (w : R.wp (match call ss with
      | .ok v fin => R.ok v (putBack bs fin ρ1)
      | .exc c ps fin => .exc c ps (putBack bs fin ρ1)
      | .stuck => .stuck) (OkP X F H as σ Q) (ExP X cn W F H as σ)) : spOf X.mg X.K cn np call vs H1 Q (L2.WE W σ) := by
  obtain ⟨a', as', rs', e', p⟩ := takes_ok rs e ht
  obtain ⟨⟨u1, u2⟩, _⟩ := takes_un ht
  have nd' := p.nodup_iff.mp nd
  have key : ∀ {F2 H2 : Hp} {a2 as2 : List Addr} {fin : List Sl}, Stp F1 H1 a' F2 H2 (a2 ++ as2) → EnvR X.K F2 H2 (vs.map some) fin as2 → (a2 ++ as2).Nodup → ∃ as3, EnvR X.K F2 H2 σ (putBack bs fin ρ1) as3 ∧ Stp F H as F2 H2 (a2 ++ as3) ∧ (a2 ++ as3).Nodup := by
    intro F2 H2 a2 as2 fin t2 f n2
    have d : ∀ b ∈ as', b ∉ a' := fun b hb z => nd_dis nd' b z hb
    have d2 := t2.apart (fun b hb => (e'.there b hb).1) d
    have e2 := e'.step t2 d
    have ndA : (as2 ++ as').Nodup := nodup_app.mpr ⟨nd_r n2, nd_r nd', fun b hb z => d2 b z (List.mem_append_right _ hb)⟩
    obtain ⟨as3, h1, h2, h3⟩ := putBack_ok rs u1 (fun i hi => (u2 i hi).2) e2 f ndA
    refine ⟨as3, h1, ?_, nodup_app.mpr ⟨(nodup_app.mp n2).1, h3, fun b hb z => ?_⟩⟩
    · have t3 : Stp F1 H1 (as' ++ a') F2 H2 (as' ++ (a2 ++ as2)) := t2.frame
      have t4 : Stp F1 H1 (a1 ++ as1) F2 H2 (as' ++ (a2 ++ as2)) := t3.pre fun b hb => p.mem_iff.mpr ((List.mem_append.mp hb).elim (fun z => List.mem_append_right _ z) fun z => List.mem_append_left _ z)
      refine (t.trans t4).sub fun b hb => ?_
      rcases List.mem_append.mp hb with z | z
      · exact List.mem_append_right _ (List.mem_append_left _ z)
      · rcases List.mem_append.mp (h2 b z) with z | z
        · exact List.mem_append_right _ (List.mem_append_right _ z)
        · exact List.mem_append_left _ z
    · rcases List.mem_append.mp (h2 b z) with z | z
      · exact nd_dis n2 b hb z
      · exact d2 b z (List.mem_append_left _ hb)
  refine ⟨hl, F1, ss, a', rs', (nodup_app.mp nd').1, sub, ?_⟩
  cases q : call ss with
  | ok v fin =>
    rw [q] at w
    intro z F2 H2 a2 as2 t2 f r2 n2 s2
    obtain ⟨as3, h1, h2, h3⟩ := key t2 f n2
    exact w z F2 H2 a2 as3 h2 h1 r2 h3 s2
  | exc c ps fin =>
    rw [q] at w
    intro cls d F2 H2 as2 t2 f n2 s2 x
    obtain ⟨as3, h1, h2, h3⟩ := key (a2 := []) t2 f n2
    exact w cls d F2 H2 as3 h2 h1 h3 s2 x
  | stuck => rw [q] at w; exact w.elim
/-- a call of a def -/
theorem snd_call (G : Gd X N sc cn W n) {f : Nat} {k : Nat} {fa : Addr} {fd : FuncData} {ps : List Str} {x : Str} {p : Pos} (F : FnG X.prog X.w X.K X.mg X.base (L2.CX X.prog X.w) k fa fd ps (spOf X.mg X.K cn ps.length (C.call f))) (hr : k ≤ n) (hg : glC sc x = true) (hn : nmOk x = true) (hm : X.mg x = some (.ref fa)) (hk : PySem.W.keepIn X.K (.ref fa) = true) (hb : Binds X.K fd ps [])
    (ns : xs.all noStar = true) (hl : xs.length = ps.length) (h0 : xs = [] → es = .nil) (ha : SndA X cn W xs (evArgs C es)) : SndE X cn W (.Call (.Name x p) xs [] pos) (evE C (.call f es)) := by
  intro ρ F0 H as σ Q e nd sub w
  simp only [evE, wp_bind] at w
  have F' := F.mono hr
  cases xs with
  | nil =>
    cases h0 rfl
    refine we_of (pe_callG0 (E := L2.WE W) F' G.room G.gu (G.gl hg) hm hk hb (fun σ => L2.passAt G.tk σ) (nmOk_d hn).1) ?_
    simp only [evArgs, takes] at w
    exact call_fin (a1 := []) (bs := []) Stp.refl e .nil nd sub rfl hl w
  | cons e' es' =>
    have ns2 := ns
    simp only [List.all_cons, Bool.and_eq_true] at ns2
    refine we_of (pe_callG (E := L2.WE W) F' G.room G.gu (G.gl hg) hm hk hb (fun σ => L2.passAt G.tk σ) pa_w (nmOk_d hn).1 (starEach_cons ns2.1) (stars_no ns2.2)) ?_
    refine ha ρ F0 H as σ _ e nd sub (wp_mono w (fun bs ρ1 w1 vs F1 H1 a1 as1 t1 e1 r1 n1 s1 l1 => ?_) fun _ _ _ z => z)
    split at w1
    · rename_i ss ρ2 ht
      exact call_fin t1 e1 r1 n1 s1 ht (l1.trans hl) w1
    · exact w1.elim
end
end MP

namespace MP
open PySem PySem.Spec PyProof.Rows L2
variable [HasW]

def WG (X : Cx) (tg : Expr) : TG := fun v σ H Q => ∀ pins s u, Inv X pins σ H s → RelV v u → wpAny (model X.prog X.w) X.A (assign tg X.env u) (fun _ s' => ∃ σ' H', Inv X pins σ' H' s' ∧ Q σ' H') X.xe s
theorem pg_w {X : Cx} {tg : Expr} : PG X tg (WG X tg) := ⟨fun pins s σ H v u Q I r h => h pins s u I r⟩
theorem wg_of {X : Cx} {tg : Expr} {t : TG} (p : PG X tg t) {v : V} {σ : L2.St} {H : Hp} {Q : L2.St → Hp → Prop} (h : t v σ H Q) : WG X tg v σ H Q := fun pins s u I r => p.run pins s σ H v u Q I r h
def WGs (X : Cx) (tg : List Expr) : TGs := fun vs σ H Q => ∀ pins s us, Inv X pins σ H s → Vals vs us → wpAny (model X.prog X.w) X.A (assignInOrder ((assignEach tg X.env).map (·.2)) us) (fun _ s' => ∃ σ' H', Inv X pins σ' H' s' ∧ Q σ' H') X.xe s
theorem pgs_w {X : Cx} {tg : List Expr} : PGs X tg (WGs X tg) := ⟨fun pins s σ H v u Q I r h => h pins s u I r⟩
theorem wgs_of {X : Cx} {tg : List Expr} {t : TGs} (p : PGs X tg t) {v : List V} {σ : L2.St} {H : Hp} {Q : L2.St → Hp → Prop} (h : t v σ H Q) : WGs X tg v σ H Q := fun pins s u I r => p.run pins s σ H v u Q I r h

/-- the values of owned parameters stand -/
def OwnEq (own : List Bool) (σ σ' : L2.St) : Prop := σ'.length = σ.length ∧ ∀ i, own.getD i false = true → σ'[i]? = σ[i]?
theorem OwnEq.refl {own : List Bool} {σ : L2.St} : OwnEq own σ σ := ⟨rfl, fun _ _ => rfl⟩
theorem OwnEq.trans {own : List Bool} {σ σ' σ'' : L2.St} (a : OwnEq own σ σ') (b : OwnEq own σ' σ'') : OwnEq own σ σ'' := ⟨b.1.trans a.1, fun i h => (b.2 i h).trans (a.2 i h)⟩
/-- the wish behind an exception, of statements -/
def ExS (X : Cx) (cn : List Str) (W : WX) (own : List Bool) (F H : Hp) (as : List Addr) (σ : L2.St) : Nat → List D → Env → Prop := fun c ps ρ' =>
  ∀ cls d σ' F' H' as', Stp F H as F' H' as' → EnvR X.K F' H' σ' ρ' as' → OwnEq own σ σ' → as'.Nodup → Same F' H' → Exc X.mg cn c ps H' cls d → W cls d σ' H'
section
variable {X : Cx} {cn : List Str} {W : WX} {own : List Bool} {F F1 H H1 : Hp} {as as1 : List Addr} {σ σ1 : L2.St} {c : Nat} {ps : List D} {ρ : Env}
theorem ExS.exp (h : ExS X cn W own F H as σ c ps ρ) (t : Stp F H as F1 H1 as1) (o : OwnEq own σ σ1) : ExP X cn W F1 H1 as1 σ1 c ps ρ := fun cls d F' H' as' t' e n s x => h cls d σ1 F' H' as' (t.trans t') e o n s x
theorem ExS.trans (h : ExS X cn W own F H as σ c ps ρ) (t : Stp F H as F1 H1 as1) (o : OwnEq own σ σ1) : ExS X cn W own F1 H1 as1 σ1 c ps ρ := fun cls d σ' F' H' as' t' e o' n s x => h cls d σ' F' H' as' (t.trans t') e (o.trans o') n s x
end
def OkG (X : Cx) (own : List Bool) (F H : Hp) (as : List Addr) (σ : L2.St) (Q : L2.St → Hp → Prop) : Env → Prop := fun ρ' =>
  ∀ σ' F' H' as', Stp F H as F' H' as' → EnvR X.K F' H' σ' ρ' as' → OwnEq own σ σ' → as'.Nodup → Same F' H' → Q σ' H'
def SndG (X : Cx) (cn : List Str) (W : WX) (own : List Bool) (tg : Expr) (g : Sl → Env → R Unit) : Prop :=
  ∀ (ρ : Env) (F H : Hp) (a as : List Addr) (σ : L2.St) (v : V) (s : Sl) (Q : L2.St → Hp → Prop), EnvR X.K F H σ ρ as → RpS X.K F H v s a → (a ++ as).Nodup → Same F H →
    (g s ρ).wp (fun _ ρ' => OkG X own F H (a ++ as) σ Q ρ') (ExS X cn W own F H (a ++ as) σ) → WG X tg v σ H Q
def SndGs (X : Cx) (cn : List Str) (W : WX) (own : List Bool) (tgs : List Expr) (g : List D → Env → R Unit) : Prop :=
  ∀ (ρ : Env) (F H : Hp) (as : List Addr) (σ : L2.St) (vs : List V) (ds : List D) (Q : L2.St → Hp → Prop), EnvR X.K F H σ ρ as → Rps X.K F vs ds → as.Nodup → Same F H →
    (g ds ρ).wp (fun _ ρ' => OkG X own F H as σ Q ρ') (ExS X cn W own F H as σ) → WGs X tgs vs σ H Q
theorem assignEach_len {env : PySem.Env} : ∀ es : List Expr, (assignEach es env).length = es.length
  | [] => rfl
  | e :: es => by
    have := assignEach_len (env := env) es
    cases e <;> simp [assignEach, this]
theorem assignEach_find {env : PySem.Env} : ∀ es : List Expr, es.all noStar = true → (assignEach es env).findIdx? (·.1) = none
  | [], _ => rfl
  | e :: es, h => by
    simp only [List.all_cons, Bool.and_eq_true] at h
    have ih := assignEach_find (env := env) es h.2
    have : assignEach (e :: es) env = (false, assign e env) :: assignEach es env := by
      cases e <;> first | rfl | (simp [noStar] at h)
    rw [this, List.findIdx?_cons, ih]
    rfl
theorem assignEach_cons {env : PySem.Env} {e : Expr} {es : List Expr} (h : noStar e = true) : assignEach (e :: es) env = (false, assign e env) :: assignEach es env := by
  cases e <;> first | rfl | (simp [noStar] at h)
section
variable {X : Cx} {N : List Str} {sc : Scope} {cn : List Str} {W : WX} {n : Nat} {C : Ctx} {pos : Pos} {xa xb xc : Expr} {a b c : E} {xs : List Expr} {es : EL}
theorem sndg_var (G : Gd X N sc cn W n) {i : Nat} {x : Str} (hi : N[i]? = some x) (hl : locC sc x = true) : SndG X cn W C.own (.Name x pos) (evT C (.var i)) := by
  intro ρ F H a as σ v s Q e r nd sub w
  simp only [evT] at w
  split at w
  · rename_i ρ1 hs
    unfold setSlot at hs
    split at hs
    · rename_i s0 h0
      split at hs
      · cases hs
      · rename_i ho
        cases hs
        obtain ⟨a', c, a0, m, p1, p2⟩ := e.store (i := i) (List.getElem?_eq_some_iff.mp h0).1 r
        have nd2 : (a ++ (c ++ a0)).Nodup := (List.Perm.append_left a p1).nodup_iff.mp nd
        refine wg_of (pg_name (by rw [G.hN]; exact G.nd) (by rw [G.hN]; exact hi) (G.loc hl).1 (G.loc hl).2) ?_
        refine w _ F H a' (Stp.refl.sub fun b hb => ?_) m ⟨List.length_set .., fun j hj => ?_⟩ ?_ sub
        · rcases List.mem_append.mp (p2.mem_iff.mp hb) with z | z
          · exact List.mem_append_left _ z
          · exact List.mem_append_right _ (p1.mem_iff.mpr (List.mem_append_right _ z))
        · have hne : i ≠ j := fun z => by subst z; exact ho hj
          rw [List.getElem?_set_ne hne]
        · refine p2.nodup_iff.mpr (nodup_app.mpr ⟨(nodup_app.mp nd2).1, nd_r (nd_r nd2), fun b hb z => nd_dis nd2 b hb (List.mem_append_right _ z)⟩)
    · cases hs
  · exact w.elim
theorem sndgs_nil : SndGs X cn W C.own [] (evTs C .nil) := by
  intro ρ F H as σ vs ds Q e r nd sub w
  cases r with
  | nil =>
    simp only [evTs] at w
    exact wgs_of pgs_nil ⟨rfl, w σ F H as Stp.refl e OwnEq.refl nd sub⟩
  | cons _ _ => simp only [evTs] at w; exact w.elim
theorem pgs_cons' {X : Cx} {e : Expr} {es : List Expr} {t : TG} {u : TGs} (hs : noStar e = true) (h1 : PG X e t) (h2 : PGs X es u) : PGs X (e :: es) (gCons t u) := pgs_cons h1 h2 (by rw [assignEach_cons hs]; rfl)
theorem sndgs_cons {t : T} {ts : TL} {tgs : List Expr} (hs : noStar xa = true) (ht : SndG X cn W C.own xa (evT C t)) (hts : SndGs X cn W C.own tgs (evTs C ts)) : SndGs X cn W C.own (xa :: tgs) (evTs C (.cons t ts)) := by
  intro ρ F H as σ vs ds Q e r nd sub w
  cases r with
  | nil => simp only [evTs] at w; exact w.elim
  | @cons v vs d ds rv rvs =>
    simp only [evTs, wp_bind] at w
    refine wgs_of (pgs_cons' hs pg_w pgs_w) ⟨v, vs, rfl, ?_⟩
    refine ht ρ F H [] as σ v (.dat d) _ e (.dat rv) nd sub (wp_mono w (fun _ ρ1 w1 σ1 F1 H1 as1 t1 e1 o1 n1 s1 => ?_) fun _ _ _ z => z)
    refine hts ρ1 F1 H1 as1 σ1 vs ds _ e1 (rvs.mono t1.ff) n1 s1 (wp_mono w1 (fun _ ρ2 w2 σ2 F2 H2 as2 t2 e2 o2 n2 s2 => ?_) fun _ _ _ z => z.trans t1 o1)
    exact w2 σ2 F2 H2 as2 (t1.trans t2) e2 (o1.trans o2) n2 s2
/-- a thing told as data from now on -/
theorem freeze {K : PySem.W.Frag} {F H : Hp} {a as : List Addr} {σ : L2.St} {ρ : Env} {v : V} {s : Sl} (e : EnvR K F H σ ρ as) (r : RpS K F H v s a) (nd : (a ++ as).Nodup) (sub : Same F H) :
    ∃ F1, Stp F H (a ++ as) F1 H as ∧ EnvR K F1 H σ ρ as ∧ Rp K F1 v s.cap ∧ Same F1 H :=
  ⟨frzH F H a, frzH_stp sub (fun b hb => List.mem_append_left _ hb) (fun b hb => List.mem_append_right _ hb), e.step (frzH_stp (as := a) (as' := a) sub (fun _ z => z) fun _ z => z) fun x hx z => nd_dis nd x z hx, r.capture sub, frzH_sub sub⟩
theorem sndg_tup (G : Gd X N sc cn W n) {ts : TL} {tgs : List Expr} {j : Nat} (ns : tgs.all noStar = true) (hl : ts.len = tgs.length) (h : SndGs X cn W C.own tgs (evTs C ts)) : SndG X cn W C.own (.Tuple tgs j pos) (evT C (.tup ts)) := by
  intro ρ F H a as σ v s Q e r nd sub w
  simp only [evT] at w
  obtain ⟨F1, t1, e1, r1, s1⟩ := freeze e r nd sub
  split at w
  · rename_i xs hx
    split at w
    · rename_i hlen
      have key : ∀ vs, Rps X.K F1 vs xs → WGs X tgs vs σ H Q := fun vs rs => h ρ F1 H as σ vs xs Q e1 rs (nd_r nd) s1 (wp_mono w (fun _ ρ2 w2 σ2 F2 H2 as2 t2 e2 o2 n2 s2 => w2 σ2 F2 H2 as2 (t1.trans t2) e2 o2 n2 s2) fun _ _ _ z => z.trans t1 OwnEq.refl)
      generalize s.cap = d at hx r1
      unfold seqOf at hx
      split at hx
      · cases hx
        obtain ⟨p, vs, rfl, h1, rs⟩ := r1.lstI
        exact wg_of (pg_unl (n := tgs.length) G.calm pgs_w (assignEach_len _) (assignEach_find _ ns)) ⟨p, vs, rfl, .inl (rd_mono s1 h1), by rw [rs.length, hlen, hl], key vs rs⟩
      · cases hx
        cases r1 with
        | @scr p xs h1 => exact wg_of (pg_unl (n := tgs.length) G.calm pgs_w (assignEach_len _) (assignEach_find _ ns)) ⟨p, _, rfl, sqL_mono0 s1 h1, by rw [List.length_map]; rw [List.length_map] at hlen; rw [hlen, hl], key _ Rps.ofInts⟩
      · cases hx
        obtain ⟨p, vs, rfl, h1, rs⟩ := r1.tupI
        exact wg_of (pg_tup (n := tgs.length) G.calm pgs_w (assignEach_len _) (assignEach_find _ ns)) ⟨p, vs, rfl, sqT_mono s1 h1, by rw [rs.length, hlen, hl], key vs rs⟩
      · cases hx
        cases r1 with
        | @pr p vs _ h1 rs => exact wg_of (pg_tup (n := tgs.length) G.calm pgs_w (assignEach_len _) (assignEach_find _ ns)) ⟨p, vs, rfl, sqT_mono s1 h1, by rw [rs.length, hlen, hl], key vs rs⟩
      · cases hx
    · exact w.elim
  · exact w.elim
/-! stores into lists and dicts -/
def rSetA : TSet := fun o i v H Q => rSetD o i v H Q ∨ rSetL o i v H Q
theorem set_a (hu : X.A.units + 1 < cLine) : PSet X rSetA := by
  intro pins s σ H o i v ov iv u Q I ro ri rv h
  rcases h with h | h
  · exact set_dict hu pins s σ H o i v ov iv u Q I ro ri rv h
  · exact set_list pins s σ H o i v ov iv u Q I ro ri rv h
/-- the thing at a place is changed -/
theorem place_upd {K : PySem.W.Frag} {F H H' : Hp} {σ : L2.St} {ρ : Env} {as : List Addr} {i : Nat} {s : Sl} (e : EnvR K F H σ ρ as) (nd : as.Nodup) (h : getS ρ i = some s) :
    ∃ v b, σ[i]? = some (some v) ∧ RpS K F H v s b ∧ ∀ (H' : Hp) s', RpS K F H' v s' b → (∀ b' o, H b' = some o → b' ∉ b → H' b' = some o) → ∃ as', EnvR K F H' σ (ρ.set i s') as' ∧ Stp F H as F H' as' ∧ as'.Nodup := by
  obtain ⟨q1, q2⟩ := getS_some h
  obtain ⟨v, b, a', e1, r, m, p⟩ := e.out q1 q2
  refine ⟨v, b, e1, r, fun H' s' r' k => ?_⟩
  have nd' := p.nodup_iff.mp nd
  have st : Stp F H b F H' b := ⟨fun _ _ e => e, k, fun _ hb => .inl hb, fun _ _ e => .inl e⟩
  have hlt : i < ρ.length := (List.getElem?_eq_some_iff.mp q1).1
  obtain ⟨a2, m2, p2⟩ := (m.step st fun x hx z => nd_dis nd' x z hx).fill (i := i) (s := s') (b := b) (by rw [List.getElem?_set_self hlt]) e1 r'
  rw [List.set_set] at m2
  exact ⟨a2, m2, ⟨fun _ _ e => e, fun x o e nb => k x o e fun z => nb (p.mem_iff.mpr (List.mem_append_left _ z)), fun x hx => .inl (p.mem_iff.mpr (p2.mem_iff.mp hx)), fun _ _ e => .inl e⟩, p2.nodup_iff.mpr nd'⟩
theorem RpS.dicI {K : PySem.W.Frag} {F H : Hp} {x : V} {ks ds : List D} {c : List Addr} (h : RpS K F H x (.dic ks ds) c) : ∃ a kvs, x = .ref a ∧ c = [a] ∧ H a = some (.dK kvs) ∧ F a = none ∧ ks = kvs.map (fun p => kD p.1) ∧ (kvs.map (·.1)).Nodup ∧ (∀ k ∈ kvs.map (·.1), keyOk k = true) ∧ Rps K F (kvs.map (·.2)) ds := by
  cases h with
  | dic e f g k r => exact ⟨_, _, rfl, rfl, e, f, rfl, g, k, r⟩
theorem upd_sub {F H : Hp} {a : Addr} {o : HO} (s : Same F H) (h : F a = none) : Same F (upd H a o) := fun b x e => by
  rw [upd_ne (fun z => by rw [z, h] at e; cases e)]
  exact s b x e
theorem upd_keep {H : Hp} {a : Addr} {o : HO} : ∀ b' x, H b' = some x → b' ∉ [a] → upd H a o b' = some x := fun b' x e n => by
  rw [upd_ne (by simpa using n)]; exact e
theorem sndg_ix (G : Gd X N sc cn W n) (hu : X.A.units + 1 < cLine) {j : Nat} {x : Str} {p : Pos} (hv : VarOk N sc j x) (hs : noSl xb = true) (hb : SndB X cn W xb (bvOf b (evE C b))) : SndG X cn W C.own (.Subscript (.Name x p) xb pos) (evT C (.ix (.var j) b)) := by
  intro ρ F H a as σ v s Q e r nd sub w
  simp only [evT, wp_bind] at w
  obtain ⟨F1, t1, e1, r1, s1⟩ := freeze e r nd sub
  have ha : ∀ v, assign (.Subscript (.Name x p) xb pos) X.env v = (do
      let ov ← holding [v] (eval (.Name x p) X.env)
      let iv ← holding [v, ov] (eval xb X.env)
      standAt pos
      holding [v, ov, iv] (setItem ov iv v)
      release [v, ov, iv] []) := by
    intro v
    cases xb <;> first | rfl | (simp [noSl] at hs)
  refine wg_of (pg_sub pe_w pe_w (set_a hu) ha) ?_
  show WE X (.Name x p) σ H _
  split at w
  · rename_i hj
    obtain ⟨s0, hs0⟩ := Option.isSome_iff_exists.mp hj
    obtain ⟨q1, q2⟩ := getS_some hs0
    obtain ⟨vj, bj, ej, rj, _⟩ := e1.get q1 q2
    refine we_var G hv ej ?_
    simp only [wp_bind] at w
    refine hb ρ F1 H as σ _ e1 (nd_r nd) s1 (wp_mono w (fun y ρ2 w2 v2 F2 H2 a2 as2 t2 e2 r2 n2 s2 => ?_) fun _ _ _ z => z.exp t1 OwnEq.refl)
    obtain ⟨k, hk, w2⟩ := wp_view w2
    have vk := r2.vw e2 hk
    have rv := r1.mono t2.ff
    have t3 : Stp F H (a ++ as) F2 H2 as2 := (t1.trans t2).sub sub_r
    split at w2
    · rename_i ks vs hg
      split at w2
      · rename_i hc
        simp only [Bool.and_eq_true] at hc
        obtain ⟨hc1, hc2⟩ := hc
        rw [fitsL_iff] at hc2
        obtain ⟨vj', b', ej', rj', up⟩ := place_upd (H' := H2) e2 (nd_r n2) hg
        rw [ej] at ej'; cases ej'
        obtain ⟨p, kvs, rfl, rfl, h1, f1, rfl, g, ok, rs⟩ := rj'.dicI
        obtain ⟨k', rfl, rfl, ok'⟩ := isKey_k vk hc1
        rw [List.length_map] at hc2
        refine .inl ⟨p, _, rfl, DPut.k h1 (by rw [line_eq]; omega), ?_⟩
        obtain ⟨m1, m2⟩ := dPut_ok k' rv g rs
        have rep : RpS X.K F2 (upd H2 p (.dK (putK kvs k' v))) (.ref p) (.dic (dPut (kvs.map fun p => kD p.1) vs (kD k') s.cap).1 (dPut (kvs.map fun p => kD p.1) vs (kD k') s.cap).2) [p] := by
          rw [m1]
          exact .dic upd_same f1 (putK_nd g) (fun z hz => by
            rcases (putK_mem z g).mp hz with rfl | hz
            · exact ok'
            · exact ok z hz) m2
        obtain ⟨as3, e3, t4, n3⟩ := up _ _ rep upd_keep
        exact w2 σ F2 _ as3 (t3.trans t4) e3 OwnEq.refl n3 (upd_sub s2 f1)
      · exact w2.elim
    · rename_i xs hg
      split at w2
      · split at w2
        · rename_i m hm
          obtain ⟨vj', b', ej', rj', up⟩ := place_upd (H' := H2) e2 (nd_r n2) hg
          rw [ej] at ej'; cases ej'
          obtain ⟨p, vs, rfl, rfl, h1, f1, rs⟩ := rj'.lstI
          cases vk.int
          refine .inr ⟨p, vs, _, m, rfl, rfl, h1, by rw [rs.length]; exact hm, ?_⟩
          obtain ⟨as3, e3, t4, n3⟩ := up (upd H2 p (.lst (vs.set m v))) (.lst (xs.set m s.cap)) (.lst upd_same f1 (rs.set m rv)) upd_keep
          exact w2 σ F2 _ as3 (t3.trans t4) e3 OwnEq.refl n3 (upd_sub s2 f1)
        · exact w2.elim
      · exact w2.elim
    · exact w2.elim
  · exact w.elim
end
end MP

/-! zip of two rows, each a list or a tuple -/
namespace MP
open PySem PySem.Spec PyProof.Rows L2
/-- a row: true a tuple, false a list -/
def SqG (t : Bool) (K : PySem.W.Frag) (H : Hp) (a : Addr) (xs : List V) : Prop := match t with
  | true => SqT K H a xs
  | false => SqL K H a xs
def rowIs (t : Bool) (h : Heap) (a : Addr) (us : Array Value) : Prop := match t with
  | true => h.IsTuple a us
  | false => h.IsList a us
def rowIt (t : Bool) (h : Heap) (it a : Addr) (i : Nat) : Prop := match t with
  | true => h.IsTupleIter it a i
  | false => h.IsListIter it a i
def rowO (t : Bool) (a : Addr) : Obj := match t with
  | true => { cls := .type "tuple_iterator", data := .fields #[.ref a, .int 0 0] }
  | false => { cls := .type "list_iterator", data := .fields #[.ref a, .int 0 0] }
theorem rowDraws (t : Bool) {prog : Program} {w : World} {A : Around} (hh : A.handled = none) (it a : Addr) (hne : a ≠ it) (us : Array Value) : Draws prog w A it [it, a] us.size (fun i v => us[i]? = some v) (fun i h => rowIt t h it a i ∧ rowIs t h a us) := by
  cases t with
  | true => exact Draws.tuple hh it a hne us
  | false => exact Draws.list hh it a hne us
theorem rowBegins (t : Bool) (a : Addr) (us : Array Value) : Begins (.ref a) (rowO t a) fun h => rowIs t h a us := by
  cases t with
  | true => exact begins_tuple a us
  | false => exact begins_list a us
theorem rowIt_of {t : Bool} {h : Heap} {it a : Addr} (e : h.get? it = some (rowO t a)) : rowIt t h it a 0 := by
  cases t <;> exact ⟨_, e, rfl, rfl⟩
theorem rowIt_obj {t : Bool} {h : Heap} {it a : Addr} {i : Nat} (e : rowIt t h it a i) : ∃ o, h.get? it = some o ∧ ∀ v, o.data ≠ .cell v := by
  cases t <;> exact ⟨e.choose, e.choose_spec.1, fun v q => by rw [e.choose_spec.2.2] at q; cases q⟩
theorem rowIt_keep {t : Bool} {h h' : Heap} {it a : Addr} {i : Nat} (e : rowIt t h it a i) (k : ∀ o, h.get? it = some o → h'.get? it = some o) : rowIt t h' it a i := by
  cases t <;> exact ⟨e.choose, k _ e.choose_spec.1, e.choose_spec.2⟩
theorem inv_row {X : Cx} {pins : List (Addr × Obj)} {σ : L2.St} {H : Hp} {s : Shared} {t : Bool} {a : Addr} {xs : List V} (I : Inv X pins σ H s) (h : SqG t X.K H a xs) : ∃ its : List Value, Vals xs its ∧ rowIs t s.heap a its.toArray := by
  cases t with
  | true =>
    obtain ⟨its, r, p, _⟩ := I.tuple h
    exact ⟨its, r, p⟩
  | false =>
    obtain ⟨its, r, p, _⟩ := I.list h
    exact ⟨its, r, p.isList⟩
theorem row_lt {t : Bool} {h : Heap} {a : Addr} {us : Array Value} (e : rowIs t h a us) : a < h.objs.size := by
  cases t <;> exact Heap.lt_size e.choose_spec.1
/-- the two rows as they stood, their things in new pairs -/
def ItzF (t u : Bool) (K : PySem.W.Frag) (a b : Addr) (xs ys : List V) : L2.It :=
  ⟨fun i H => SqG t K H a xs ∧ SqG u K H b ys ∧ i < xs.length ∧ i < ys.length,
    fun i H v H' => ∃ T x y, v = .ref T ∧ H T = none ∧ H' = upd H T (.tup [x, y]) ∧ xs[i]? = some x ∧ ys[i]? = some y,
    fun i H => SqG t K H a xs ∧ SqG u K H b ys ∧ (xs.length ≤ i ∨ ys.length ≤ i)⟩
/-- its state -/
def zfSt (t u : Bool) (a b : Addr) (n m : Nat) (z TI TO i1 i2 : Addr) (i : Nat) (h : Heap) : Prop :=
  (IsZip h z TI TO .none ∧ IsTupOf2 h TI (.ref i1) (.ref i2) ∧ ∃ x y, IsTupOf2 h TO x y) ∧ (rowIt t h i1 a i ∧ rowIt u h i2 b i) ∧ i ≤ n ∧ i ≤ m
theorem five {c z TI TO i1 i2 : Addr} (h : c ∈ [z, TI, TO, i1, i2]) : c = z ∨ c = TI ∨ c = TO ∨ c = i1 ∨ c = i2 := by simpa using h
theorem sep_of {z TI TO i1 i2 a b : Addr} (D : ZipApart z TI TO i1 i2 a b) : ZipSep2 z TI TO i1 i2 [i1, a] [i2, b] where
  TIz := D.TIz
  TOz := D.TOz
  TITO := D.TITO
  TIi1 := D.TIi1
  mem1 := by simp
  zf1 := by simp [D.i1z.symm, D.l1z.symm]
  Tf1 := by simp [D.TOi1, D.l1TO.symm]
  TIi2 := D.TIi2
  mem2 := by simp
  zf2 := by simp [D.i2z.symm, D.l2z.symm]
  Tf2 := by simp [D.TOi2, D.l2TO.symm]
  sep1_2 := by simp [D.i12, D.l2i1.symm]
  sep2_1 := by simp [D.i12.symm, D.l1i2.symm]
theorem turn_zf {P : Program} {w : World} {K : PySem.W.Frag} {elts : List Expr} {kk : Nat} {tpos : Pos} {a b z TI TO i1 i2 : Addr} {t u : Bool} {xs ys : List V} (D : ZipApart z TI TO i1 i2 a b) :
    Turn P w K (.Tuple elts kk tpos) (ItzF t u K a b xs ys) [z, TI, TO, i1, i2] z (zfSt t u a b xs.length ys.length z TI TO i1 i2) where
  mem := List.mem_cons_self
  obj := fun i h st c hc => by
    obtain ⟨⟨hz, hTI, x, y, hTO⟩, ⟨h1, h2⟩, _⟩ := st
    rcases five hc with rfl | rfl | rfl | rfl | rfl
    · exact ⟨_, hz, fun v => nofun⟩
    · exact ⟨_, hTI, fun v => nofun⟩
    · exact ⟨_, hTO, fun v => nofun⟩
    · exact rowIt_obj h1
    · exact rowIt_obj h2
  keep := fun i h h' st k => by
    obtain ⟨⟨hz, hTI, x, y, hTO⟩, ⟨h1, h2⟩, l⟩ := st
    exact ⟨⟨k z (by simp) _ hz, k TI (by simp) _ hTI, x, y, k TO (by simp) _ hTO⟩, ⟨rowIt_keep h1 (k i1 (by simp)), rowIt_keep h2 (k i2 (by simp))⟩, l⟩
  item := by
    intro X hP hw hK hc i pins s σ H E I hf st hg
    subst hP hw hK
    obtain ⟨⟨hz, hTI, a1, a2, hTO⟩, ⟨h1, h2⟩, _⟩ := st
    obtain ⟨hqx, hqy, lx, ly⟩ := hg
    obtain ⟨us, rx, px⟩ := inv_row I hqx
    obtain ⟨ws, ry, py⟩ := inv_row I hqy
    have hx : xs[i]? = some xs[i] := List.getElem?_eq_getElem lx
    have hy : ys[i]? = some ys[i] := List.getElem?_eq_getElem ly
    obtain ⟨v1, e1, r1⟩ := rx.get hx
    obtain ⟨v2, e2, r2⟩ := ry.get hy
    have lz := Heap.lt_size hz
    have q1 : i < us.toArray.size := by have := rx.length; simp; omega
    have q2 : i < ws.toArray.size := by have := ry.length; simp; omega
    have hh := I.ok.hd hc
    refine wpAny_pyNext_zipD2_item (sep_of D) (rowDraws t (A := X.A.in1) hh i1 a D.l1i1 us.toArray) (rowDraws u (A := X.A.in1) hh i2 b D.l2i2 ws.toArray) hz hTI hTO ⟨h1, px⟩ ⟨h2, py⟩ q1 q2 ?_
    intro x1 x2 h' tk p1 p2 z' TO' st1 st2 T' sz k
    have w1 : x1 = v1 := by
      have p1' : us.toArray[i]? = some x1 := p1
      rw [List.getElem?_toArray, e1] at p1'
      exact (Option.some.inj p1').symm
    have w2 : x2 = v2 := by
      have p2' : ws.toArray[i]? = some x2 := p2
      rw [List.getElem?_toArray, e2] at p2'
      exact (Option.some.inj p2').symm
    subst w1 w2
    refine ⟨_, rfl, wpAny_letOwnedTupleGo_zip (s := { s with heap := h', toks := tk }) z' fun h'' z'' sb => ?_⟩
    have T'' : h''.get? s.heap.objs.size = some { cls := .type "tuple", data := .seq #[x1, x2] } := (sb.2 _ (Nat.ne_of_gt lz)).trans T'
    have ok : ObjOk X.prog X.w (upd H s.heap.objs.size (.tup [xs[i], ys[i]])) h'' s.heap.objs.size (.tup [xs[i], ys[i]]) :=
      ⟨by show 2 ≤ sizeLine; decide, [x1, x2], .cons r1 (.cons r2 .nil), ⟨_, T'', rfl, _, rfl⟩⟩
    have kk2 : ∀ c o, c ∉ [z, TI, TO, i1, i2] → s.heap.get? c = some o → h''.get? c = some o := by
      intro c o n e
      simp only [List.mem_cons, List.not_mem_nil, or_false, not_or] at n
      exact (sb.2 c n.1).trans (k c o n.1 n.2.2.1 n.2.2.2.1 n.2.2.2.2 e)
    have I1 : Inv X pins σ (upd H s.heap.objs.size (.tup [xs[i], ys[i]])) { s with heap := h'', toks := tk } := I.turnedNew (t' := tk) (ch := [z, TI, TO, i1, i2]) kk2 hf (Nat.le_refl _) ok
    refine ⟨.ref s.heap.objs.size, _, I1, rfl, ⟨_, _, _, rfl, I.hok.fresh (Nat.le_refl _), rfl, hx, hy⟩, ⟨⟨z'', ?_, _, _, (sb.2 _ D.TOz).trans TO'⟩, ⟨rowIt_keep st1.1 fun o e => (sb.2 _ D.i1z).trans e, rowIt_keep st2.1 fun o e => (sb.2 _ D.i2z).trans e⟩, lx, ly⟩, fun c hcm => ?_⟩
    · exact (sb.2 _ D.TIz).trans (k _ _ D.TIz D.TITO D.TIi1 D.TIi2 hTI)
    · have hlt : c < s.heap.objs.size := by
        rcases five hcm with rfl | rfl | rfl | rfl | rfl
        · exact lz
        · exact Heap.lt_size hTI
        · exact Heap.lt_size hTO
        · exact Heap.lt_size (rowIt_obj h1).choose_spec.1
        · exact Heap.lt_size (rowIt_obj h2).choose_spec.1
      rw [upd_ne (Nat.ne_of_lt hlt)]
      exact (hf c hcm).1
  done := by
    intro X hP hw hK hc i pins s σ H E I hf st hg
    subst hP hw hK
    obtain ⟨⟨hz, hTI, a1, a2, hTO⟩, ⟨h1, h2⟩, ln, lm⟩ := st
    obtain ⟨hqx, hqy, hend⟩ := hg
    obtain ⟨us, rx, px⟩ := inv_row I hqx
    obtain ⟨ws, ry, py⟩ := inv_row I hqy
    have l1 := rx.length
    have l2 := ry.length
    have hh := I.ok.hd hc
    refine wpAny_pyNext_zipD2_end (sep_of D) (rowDraws t (A := X.A.in1) hh i1 a D.l1i1 us.toArray) (rowDraws u (A := X.A.in1) hh i2 b D.l2i2 ws.toArray) hz hTI hTO ⟨h1, px⟩ ⟨h2, py⟩ (by simp; omega) (by simp; omega) (by simp; omega) ?_
    intro h' tk k
    refine ⟨rfl, I.turnedL (t' := tk) (ch := [z, TI, TO, i1, i2]) (fun c o n e => ?_) hf⟩
    simp only [List.mem_cons, List.not_mem_nil, or_false, not_or] at n
    exact k c o n.1 n.2.2.1 n.2.2.2.1 n.2.2.2.2 e
  self := fun A i s Q E st h => wpAny_pyIter_zip st.1.1 h
def iZipF (K : PySem.W.Frag) (ta : TA) : TI := fun σ H R => ta σ H fun vs H1 => ∃ t u a b xs ys, vs = [.ref a, .ref b] ∧ SqG t K H1 a xs ∧ SqG u K H1 b ys ∧ R (ItzF t u K a b xs ys) H1
theorem pi_zipF {X : Cx} {e e2 : Expr} {ta : TA} {p pos tpos : Pos} {elts : List Expr} {kk : Nat} (hg : Gl X "zip") (hm : X.mg "zip" = none) (ha : PA X [e, e2] ta)
    (hs : starEach [e, e2] X.env = (false, eval e X.env) :: starEach [e2] X.env := by rfl) (hpl : (backTo pos (starEach [e2] X.env)).any (·.1) = false := by rfl) :
    PI X (.Tuple elts kk tpos) (.Call (.Name "zip" p) [e, e2] [] pos) (iZipF X.K ta) := by
  refine ⟨fun pins s σ H R I h => ?_⟩
  refine Call_ (ld_blt I hg hm PyProof.Rows.boot_zip (PyProof.Rows.callWith_type1 (thn (ha.run pos pins s σ H _ I h) ?_) hs hpl))
  rintro us s1 ⟨vs, H1, I1, r1, t, u, a, b, xs, ys, rfl, hqx, hqy, q⟩
  have ra : us = [Value.ref a, Value.ref b] := by
    cases r1 with
    | cons r rr => cases rr with
      | cons r' rr =>
        cases rr
        cases r
        cases r'
        rfl
  subst ra
  obtain ⟨k1, rx, px⟩ := inv_row I1 hqx
  obtain ⟨k2, ry, py⟩ := inv_row I1 hqy
  refine zip_begins2 (rowBegins t a k1.toArray) (rowBegins u b k2.toArray) px py ?_
  intro h' hz hTI hTO o1 o2 sz k
  refine wpAny_pyIter_zip hz ?_
  have I2 : Inv X pins σ H1 { s1 with heap := h' } := I1.kept (t' := s1.toks) k
  refine ⟨s1.heap.objs.size + 4, [s1.heap.objs.size + 4, s1.heap.objs.size + 2, s1.heap.objs.size + 3, s1.heap.objs.size, s1.heap.objs.size + 1], _, _, H1, rfl, I2, turn_zf (PySem.W.ktu_apart s1.heap.objs.size a b (row_lt px) (row_lt py)), ⟨⟨hz, hTI, _, _, hTO⟩, ⟨rowIt_of o1, rowIt_of o2⟩, Nat.zero_le _, Nat.zero_le _⟩, fun c hc => ?_, q⟩
  have hle : s1.heap.objs.size ≤ c := by
    rcases five hc with rfl | rfl | rfl | rfl | rfl
    · exact Nat.le_add_right _ _
    · exact Nat.le_add_right _ _
    · exact Nat.le_add_right _ _
    · exact Nat.le_refl _
    · exact Nat.le_add_right _ _
  exact I1.fpOk hle (I1.hok.fresh hle)
end MP

/-! enumerate of a row, a list or a tuple -/
namespace MP
open PySem PySem.Spec PyProof.Rows L2
open Sem (wp)
theorem enu_new {v : Value} {o : Obj} {H : Heap → Prop} (B : Begins v o H) :
    Meets (Builtin.«enumerate.__new__» ⟨[.type "enumerate", v], []⟩) (fun _ R s => H s.heap ∧
      R (.ok (.ret (.ref (s.heap.push o).objs.size))) { s with heap := (s.heap.push o).push { cls := .type "enumerate", data := .fields #[.none, .bool false, .ref s.heap.objs.size, rawInt 0, .none, .none] } }) :=
  .of_wp fun prog w A R s h => by
    obtain ⟨hp, g, d, tk, os⟩ := s; obtain ⟨h1, h⟩ := h
    have hsub := sub_enumerate
    have q1 : ∀ {A' : Around} {E : Value → Shared → Prop} {Q : Value → Shared → Prop}, Q (.ref hp.objs.size) ⟨hp.push o, g, d, tk, os⟩ → wpAny (model prog w) A' (pyIter v) Q E ⟨hp, g, d, tk, os⟩ :=
      fun q => B.iter prog w _ _ ⟨hp, g, d, tk, os⟩ _ h1 q
    wp_walk using q1
    refine wpAny_stack_any fun st => wpAny_pure ?_
    split
    · rename_i c _ _ _ _ _
      cases (c == Value.type "enumerate")
      · wp_walk using q1
        exact ⟨_, rfl, h⟩
      · wp_walk using q1
        exact ⟨_, rfl, h⟩
    · wp_walk using q1
      exact ⟨_, rfl, h⟩
section
variable {prog : Program} {w : World} {A : Around} {E : Value → Shared → Prop} {s : Shared}
theorem enu_begins {v : Value} {o : Obj} {H : Heap → Prop} {Q : Value → Shared → Prop} (B : Begins v o H) (h1 : H s.heap)
    (h : ∀ h', IsEnum h' (s.heap.objs.size + 1) s.heap.objs.size 0 .none → h'.get? s.heap.objs.size = some o → h'.objs.size = s.heap.objs.size + 2 →
      (∀ b o, s.heap.get? b = some o → h'.get? b = some o) → Q (.ref (s.heap.objs.size + 1)) { s with heap := h' }) :
    wpAny (model prog w) A (call (.type "enumerate") [v]) Q E s := by
  refine callType_new F.called_enumerate (by decide) (F.typeCall_enumerate_1 _) (F.newCall_enumerate_1 _) (fun obj => F.args_object_init_2 obj _) F.entry_enumerate_new
    (enu_new B) ⟨h1, ?_⟩
  have hz : (s.heap.push o).objs.size = s.heap.objs.size + 1 := Heap.size_push ..
  show _ ∧ _
  rw [hz]
  have he : IsEnum ((s.heap.push o).push { cls := .type "enumerate", data := .fields #[.none, .bool false, .ref s.heap.objs.size, rawInt 0, .none, .none] }) (s.heap.objs.size + 1) s.heap.objs.size 0 .none := by
    have := Heap.get?_push_size (s.heap.push o) (o := { cls := .type "enumerate", data := .fields #[.none, .bool false, .ref s.heap.objs.size, rawInt 0, .none, .none] }) rfl
    rw [hz] at this; exact this
  refine ⟨⟨_, he, rfl⟩, h _ he (Heap.get?_push_of_some _ (Heap.get?_push_size _ B.free)) (by rw [Heap.size_push, hz]) fun b o x => Heap.get?_push_of_some _ (Heap.get?_push_of_some _ x)⟩
end
/-- the row as it stood, its things in new pairs behind their numbers -/
def IteF (t : Bool) (K : PySem.W.Frag) (a : Addr) (xs : List V) : L2.It :=
  ⟨fun i H => SqG t K H a xs ∧ i < xs.length,
    fun i H v H' => ∃ T x, v = .ref T ∧ H T = none ∧ H' = upd H T (.tup [.int (i : Nat), x]) ∧ xs[i]? = some x,
    fun i H => SqG t K H a xs ∧ xs.length ≤ i⟩
def enSt (t : Bool) (a : Addr) (n : Nat) (e it : Addr) (i : Nat) (h : Heap) : Prop := (∃ old, IsEnum h e it ((i : Nat) : Int) old) ∧ rowIt t h it a i ∧ e ≠ it ∧ a ≠ e ∧ a ≠ it ∧ i ≤ n
theorem turn_enF {P : Program} {w : World} {K : PySem.W.Frag} {elts : List Expr} {kk : Nat} {tpos : Pos} {a e it : Addr} {t : Bool} {xs : List V} :
    Turn P w K (.Tuple elts kk tpos) (IteF t K a xs) [e, it] e (enSt t a xs.length e it) where
  mem := List.mem_cons_self
  obj := fun i h st c hc => by
    obtain ⟨⟨old, he⟩, hi, _⟩ := st
    have e' : c = e ∨ c = it := by simpa using hc
    rcases e' with rfl | rfl
    · exact ⟨_, he, fun v => nofun⟩
    · exact rowIt_obj hi
  keep := fun i h h' st k => by
    obtain ⟨⟨old, he⟩, hi, r⟩ := st
    exact ⟨⟨old, k e (by simp) _ he⟩, rowIt_keep hi (k it (by simp)), r⟩
  item := by
    intro X hP hw hK hc i pins s σ H E I hf st hg
    subst hP hw hK
    obtain ⟨⟨old, he⟩, hit, hne, n1, n2, _⟩ := st
    obtain ⟨hq, lx⟩ := hg
    obtain ⟨us, rx, px⟩ := inv_row I hq
    have hx : xs[i]? = some xs[i] := List.getElem?_eq_getElem lx
    obtain ⟨v1, e1, r1⟩ := rx.get hx
    have q1 : i < us.toArray.size := by have := rx.length; simp; omega
    have hh := I.ok.hd hc
    have hel : e < s.heap.objs.size := Heap.lt_size he
    refine wpAny_pyNext_enum_itemD (rowDraws t (A := X.A.in1) hh it a n2 us.toArray) he ⟨hit, px⟩ q1 hne (by simp [hne, n1.symm]) fun x h' tk hP ho hs' hT hsz hk => ?_
    have w1 : x = v1 := by
      have p1' : us.toArray[i]? = some x := hP
      rw [List.getElem?_toArray, e1] at p1'
      exact (Option.some.inj p1').symm
    subst w1
    refine ⟨_, rfl, wpAny_letOwnedTupleGo_enum (s := { s with heap := h', toks := tk + 1 }) ho fun h'' he' sb => ?_⟩
    have hT2 : h''.get? s.heap.objs.size = some { cls := .type "tuple", data := .seq #[.int i tk, x] } := (sb.2 _ (Nat.ne_of_gt hel)).trans hT
    have new : ObjOk X.prog X.w (upd H s.heap.objs.size (.tup [.int (i : Nat), xs[i]])) h'' s.heap.objs.size (.tup [.int (i : Nat), xs[i]]) :=
      ⟨by show 2 ≤ sizeLine; decide, [.int i tk, x], .cons ⟨_, rfl⟩ (.cons r1 .nil), ⟨_, hT2, rfl, _, rfl⟩⟩
    have I1 : Inv X pins σ (upd H s.heap.objs.size (.tup [.int (i : Nat), xs[i]])) { s with heap := h'', toks := tk + 1 } :=
      I.turnedNew (t' := tk + 1) (ch := [e, it]) (fun b ob hb q => (sb.2 b (fun z => hb (by simp [z]))).trans (hk b ob (fun z => hb (by simp [z])) (fun z => hb (by simp [z])) q)) hf (Nat.le_refl _) new
    refine ⟨.ref s.heap.objs.size, _, I1, rfl, ⟨_, _, rfl, I.hok.fresh (Nat.le_refl _), rfl, hx⟩, ⟨⟨x, ?_⟩, rowIt_keep hs'.1 fun o q => (sb.2 it (Ne.symm hne)).trans q, hne, n1, n2, lx⟩, fun b hb => ?_⟩
    · have e1 : ((i + 1 : Nat) : Int) = (i : Int) + 1 := by omega
      rw [e1]; exact he'
    · have hb' : b < s.heap.objs.size := by
        have e' : b = e ∨ b = it := by simpa using hb
        rcases e' with z | z
        · rw [z]; exact hel
        · rw [z]; exact Heap.lt_size (rowIt_obj hit).choose_spec.1
      rw [upd_ne (Nat.ne_of_lt hb')]
      exact (hf b hb).1
  done := by
    intro X hP hw hK hc i pins s σ H E I hf st hg
    subst hP hw hK
    obtain ⟨⟨old, he⟩, hit, hne, n1, n2, ln⟩ := st
    obtain ⟨hq, hend⟩ := hg
    obtain ⟨us, rx, px⟩ := inv_row I hq
    have l1 := rx.length
    have hh := I.ok.hd hc
    have ei : i = us.toArray.size := by simp; omega
    subst ei
    refine wpAny_pyNext_enum_endD (rowDraws t (A := X.A.in1) hh it a n2 us.toArray) he ⟨hit, px⟩ fun h' hx => ?_
    obtain ⟨f0, f1, f2, f3, f4, f5⟩ := hf it (by simp)
    exact ⟨rfl, I.turned (t' := s.toks) (fun b o hb q => hx b o hb q) f0 f1 f3 f4 f5⟩
  self := fun A i s Q E st h => let ⟨⟨_, he⟩, _⟩ := st; wpAny_pyIter_enum he h
def iEnumF (K : PySem.W.Frag) (ta : TA) : TI := fun σ H R => ta σ H fun vs H1 => ∃ t a xs, vs = [.ref a] ∧ SqG t K H1 a xs ∧ R (IteF t K a xs) H1
theorem pi_enumF {X : Cx} {e : Expr} {ta : TA} {p pos tpos : Pos} {elts : List Expr} {kk : Nat} (hg : Gl X "enumerate") (hm : X.mg "enumerate" = none) (ha : PA X [e] ta) (hs : starEach [e] X.env = [(false, eval e X.env)] := by rfl) :
    PI X (.Tuple elts kk tpos) (.Call (.Name "enumerate" p) [e] [] pos) (iEnumF X.K ta) := by
  refine ⟨fun pins s σ H R I h => ?_⟩
  refine Call_ (ld_blt I hg hm boot_enumerate (PyProof.Rows.callWith_type1 (thn (ha.run pos pins s σ H _ I h) fun us s1 ⟨vs, H1, I1, r1, q1⟩ => ?_) hs rfl))
  obtain ⟨t, a, xs, ex, hq, q⟩ := q1
  subst ex
  cases r1 with
  | cons r rr =>
    cases rr
    cases r
    obtain ⟨its, rv, px⟩ := inv_row I1 hq
    refine enu_begins (rowBegins t a its.toArray) px fun h' he hit hsz hk => wpAny_pyIter_enum he ?_
    have I2 : Inv X pins σ H1 { s1 with heap := h' } := I1.kept (t' := s1.toks) hk
    have la := row_lt px
    refine ⟨s1.heap.objs.size + 1, [s1.heap.objs.size + 1, s1.heap.objs.size], _, _, H1, rfl, I2, turn_enF, ⟨⟨.none, he⟩, rowIt_of hit, Nat.succ_ne_self _, Nat.ne_of_lt (Nat.lt_succ_of_lt la), Nat.ne_of_lt la, Nat.zero_le _⟩, fun b hb => ?_, q⟩
    have e' : b = s1.heap.objs.size + 1 ∨ b = s1.heap.objs.size := by simpa using hb
    have hle : s1.heap.objs.size ≤ b := by
      rcases e' with z | z
      · rw [z]; exact Nat.le_add_right _ _
      · rw [z]; exact Nat.le_refl _
    exact I1.fpOk hle (I1.hok.fresh hle)
end MP

namespace MP
open PySem PySem.Spec PyProof.Rows L2
variable [HasW]

def WI (X : Cx) (tg it : Expr) : TI := fun σ H R => ∀ pins s, Inv X pins σ H s → wpAny (model X.prog X.w) X.A (eval it X.env) (fun v s1 => wpAny (model X.prog X.w) X.A (pyIter v) (PIE X pins σ tg R) X.xe s1) X.xe s
theorem pi_w {X : Cx} {tg it : Expr} : PI X tg it (WI X tg it) := ⟨fun pins s σ H R I h => h pins s I⟩
theorem wi_of {X : Cx} {tg it : Expr} {t : TI} (p : PI X tg it t) {σ : L2.St} {H : Hp} {R : L2.It → Hp → Prop} (h : t σ H R) : WI X tg it σ H R := fun pins s I => p.run pins s σ H R I h
/-- an iterator that yields these data -/
structure Yl (K : PySem.W.Frag) (F : Hp) (J : L2.It) (xs : List D) : Prop where
  go : ∀ (i : Nat) (F' H' : Hp) (d : D), Same F F' → Same F' H' → xs[i]? = some d → J.go i H' ∧ ∀ x H'', J.yld i H' x H'' → ∃ F'', Stp F' H' [] F'' H'' [] ∧ Same F'' H'' ∧ Rp K F'' x d
  stop : ∀ (i : Nat) (F' H' : Hp), Same F F' → Same F' H' → xs.length ≤ i → J.stop i H'
def SndI (X : Cx) (cn : List Str) (W : WX) (tg it : Expr) (r : Env → R (List D)) : Prop :=
  ∀ (ρ : Env) (F H : Hp) (as : List Addr) (σ : L2.St) (Rr : L2.It → Hp → Prop), EnvR X.K F H σ ρ as → as.Nodup → Same F H →
    (r ρ).wp (fun xs ρ' => ∀ J F' H' as', Stp F H as F' H' as' → EnvR X.K F' H' σ ρ' as' → as'.Nodup → Same F' H' → Yl X.K F' J xs → Rr J H') (ExP X cn W F H as σ) → WI X tg it σ H Rr
section
variable {K : PySem.W.Frag} {F H : Hp}
theorem sqL_fun {K : PySem.W.Frag} {H : Hp} {a : Addr} {xs : List V} (h : SqL K H a xs) : True := trivial
theorem yl_list {a : Addr} {vs : List V} {xs : List D} (h : SqL K F a vs) (r : Rps K F vs xs) : Yl K F (Itl K a) xs where
  go := fun i F' H' d s1 s2 hd => by
    obtain ⟨v, hv, rv⟩ := r.get hd
    refine ⟨⟨vs, v, sqL_mono0 s2 (sqL_mono0 s1 h), hv⟩, fun x H'' hy => ?_⟩
    obtain ⟨rfl, hy⟩ := hy
    have := hy vs (sqL_mono0 s2 (sqL_mono0 s1 h))
    rw [hv] at this; cases this
    exact ⟨F', Stp.refl, s2, rv.mono s1⟩
  stop := fun i F' H' s1 s2 hl => ⟨vs, sqL_mono0 s2 (sqL_mono0 s1 h), by rw [r.length]; exact hl⟩
theorem yl_tup {a : Addr} {vs : List V} {xs : List D} (h : SqT K F a vs) (r : Rps K F vs xs) : Yl K F (Itt K a) xs where
  go := fun i F' H' d s1 s2 hd => by
    obtain ⟨v, hv, rv⟩ := r.get hd
    refine ⟨⟨vs, v, sqT_mono s2 (sqT_mono s1 h), hv⟩, fun x H'' hy => ?_⟩
    obtain ⟨rfl, hy⟩ := hy
    have := hy vs (sqT_mono s2 (sqT_mono s1 h))
    rw [hv] at this; cases this
    exact ⟨F', Stp.refl, s2, rv.mono s1⟩
  stop := fun i F' H' s1 s2 hl => ⟨vs, sqT_mono s2 (sqT_mono s1 h), by rw [r.length]; exact hl⟩
theorem yl_rng {lo : Int} {n : Nat} : Yl K F (Itr lo n) (rngL lo n) where
  go := fun i F' H' d s1 s2 hd => by
    unfold rngL at hd
    rw [List.getElem?_map] at hd
    have hlt : i < n := by
      apply Classical.byContradiction
      intro z
      rw [List.getElem?_eq_none (by rw [List.length_range]; omega)] at hd
      simp at hd
    rw [List.getElem?_range hlt] at hd
    simp only [Option.map_some, Option.some.injEq] at hd
    subst hd
    refine ⟨hlt, fun x H'' hy => ?_⟩
    obtain ⟨rfl, rfl⟩ := hy
    exact ⟨F', Stp.refl, s2, .int _⟩
  stop := fun i F' H' s1 s2 hl => by
    unfold rngL at hl
    rw [List.length_map, List.length_range] at hl
    exact hl
theorem yl_str {x : List Nat} (o : strOkL x = true) : Yl K F (Its (SX x)) (x.map fun c => .str [c]) where
  go := fun i F' H' d s1 s2 hd => by
    rw [List.getElem?_map] at hd
    cases hc : x[i]? with
    | none => rw [hc] at hd; simp at hd
    | some c =>
      rw [hc] at hd
      simp only [Option.map_some, Option.some.injEq] at hd
      subst hd
      refine ⟨by show i < (SX x).cps.size; rw [List.size_toArray]; exact (List.getElem?_eq_some_iff.mp hc).1, fun v H'' hy => ?_⟩
      obtain ⟨rfl, c', h1, rfl⟩ := hy
      have e : (SX x).cps[i]? = x[i]? := by simp
      rw [e, hc] at h1
      cases h1
      refine ⟨F', Stp.refl, s2, .str [c] ?_ (by simp)⟩
      have hm := List.mem_of_getElem? hc
      unfold strOkL at o ⊢
      rw [List.all_eq_true] at o
      simp only [List.all_cons, List.all_nil, Bool.and_true]
      exact o c hm
  stop := fun i F' H' s1 s2 hl => by
    rw [List.length_map] at hl
    show (SX x).cps.size ≤ i
    rw [List.size_toArray]; exact hl
theorem enumL_get : ∀ (k : Nat) (xs : List D) (i : Nat), (enumL k xs)[i]? = (xs[i]?).map fun d => .pr [.int ((k + i : Nat) : Int), d]
  | k, [], i => by simp [enumL]
  | k, x :: xs, 0 => by simp [enumL]
  | k, x :: xs, i + 1 => by
    simp only [enumL, List.getElem?_cons_succ]
    rw [enumL_get (k + 1) xs i]
    congr 2
    funext d
    congr 3
    omega
theorem enumL_len : ∀ (k : Nat) (xs : List D), (enumL k xs).length = xs.length
  | _, [] => rfl
  | k, _ :: xs => by simp [enumL, enumL_len (k + 1) xs]
theorem yl_enum {a : Addr} {vs : List V} {xs : List D} (h : SqL K F a vs) (r : Rps K F vs xs) : Yl K F (Ite K a) (enumL 0 xs) where
  go := fun i F' H' d s1 s2 hd => by
    rw [enumL_get] at hd
    cases hx : xs[i]? with
    | none => rw [hx] at hd; simp at hd
    | some d' =>
      rw [hx] at hd
      simp only [Option.map_some, Option.some.injEq, Nat.zero_add] at hd
      subst hd
      obtain ⟨v, hv, rv⟩ := r.get hx
      refine ⟨⟨vs, v, sqL_mono0 s2 (sqL_mono0 s1 h), hv⟩, fun x H'' hy => ?_⟩
      obtain ⟨T, y, rfl, hT, rfl, hy⟩ := hy
      have := hy vs (sqL_mono0 s2 (sqL_mono0 s1 h))
      rw [hv] at this; cases this
      have nw := New.pr (K := K) s2 hT (Rps.cons (.int (i : Nat)) (.cons (rv.mono s1) .nil))
      cases nw.rep with
      | dat rr => exact ⟨_, nw.stp, nw.sub, rr⟩
  stop := fun i F' H' s1 s2 hl => ⟨vs, sqL_mono0 s2 (sqL_mono0 s1 h), by rw [r.length]; rw [enumL_len] at hl; exact hl⟩
theorem zipL_get : ∀ (xs ys : List D) (i : Nat), (zipL xs ys)[i]? = (xs[i]?).bind fun d => (ys[i]?).map fun e => .pr [d, e]
  | [], ys, i => by simp [zipL]
  | x :: xs, [], i => by simp [zipL]
  | x :: xs, y :: ys, 0 => by simp [zipL]
  | x :: xs, y :: ys, i + 1 => by simp only [zipL, List.getElem?_cons_succ]; exact zipL_get xs ys i
theorem zipL_len : ∀ (xs ys : List D), (zipL xs ys).length = min xs.length ys.length
  | [], ys => by simp [zipL]
  | x :: xs, [] => by simp [zipL]
  | x :: xs, y :: ys => by simp [zipL, zipL_len xs ys]
theorem zip_go {xs ys : List D} {i : Nat} {d : D} (h : (zipL xs ys)[i]? = some d) : ∃ x y, xs[i]? = some x ∧ ys[i]? = some y ∧ d = .pr [x, y] := by
  rw [zipL_get] at h
  cases hx : xs[i]? with
  | none => rw [hx] at h; simp at h
  | some x =>
    cases hy : ys[i]? with
    | none => rw [hx, hy] at h; simp at h
    | some y => rw [hx, hy] at h; simp at h; exact ⟨x, y, rfl, rfl, h.symm⟩
theorem sqG_mono0 {K : PySem.W.Frag} {F H : Hp} {t : Bool} {a : Addr} {vs : List V} (s : Same F H) (h : SqG t K F a vs) : SqG t K H a vs := by
  cases t with
  | true => exact sqT_mono s h
  | false => exact sqL_mono0 s h
theorem yl_zipF {t u : Bool} {a b : Addr} {vs us : List V} {xs ys : List D} (h : SqG t K F a vs) (r : Rps K F vs xs) (h2 : SqG u K F b us) (r2 : Rps K F us ys) : Yl K F (ItzF t u K a b vs us) (zipL xs ys) where
  go := fun i F' H' d s1 s2 hd => by
    obtain ⟨dx, dy, e1, e2, rfl⟩ := zip_go hd
    obtain ⟨v, hv, rv⟩ := r.get e1
    obtain ⟨w, hw, rw⟩ := r2.get e2
    have l1 : i < vs.length := by
      apply Classical.byContradiction; intro z
      rw [List.getElem?_eq_none (by omega)] at hv; cases hv
    have l2 : i < us.length := by
      apply Classical.byContradiction; intro z
      rw [List.getElem?_eq_none (by omega)] at hw; cases hw
    refine ⟨⟨sqG_mono0 s2 (sqG_mono0 s1 h), sqG_mono0 s2 (sqG_mono0 s1 h2), l1, l2⟩, fun x H'' hy => ?_⟩
    obtain ⟨T, y1, y2, rfl, hT, rfl, hy1, hy2⟩ := hy
    rw [hv] at hy1; cases hy1
    rw [hw] at hy2; cases hy2
    have nw := New.pr (K := K) s2 hT (Rps.cons (rv.mono s1) (.cons (rw.mono s1) .nil))
    cases nw.rep with
    | dat rr => exact ⟨_, nw.stp, nw.sub, rr⟩
  stop := fun i F' H' s1 s2 hl => ⟨sqG_mono0 s2 (sqG_mono0 s1 h), sqG_mono0 s2 (sqG_mono0 s1 h2), by rw [r.length, r2.length]; rw [zipL_len] at hl; omega⟩
theorem yl_enumF {t : Bool} {a : Addr} {vs : List V} {xs : List D} (h : SqG t K F a vs) (r : Rps K F vs xs) : Yl K F (IteF t K a vs) (enumL 0 xs) where
  go := fun i F' H' d s1 s2 hd => by
    rw [enumL_get] at hd
    cases hx : xs[i]? with
    | none => rw [hx] at hd; simp at hd
    | some d' =>
      rw [hx] at hd
      simp only [Option.map_some, Option.some.injEq, Nat.zero_add] at hd
      subst hd
      obtain ⟨v, hv, rv⟩ := r.get hx
      have l1 : i < vs.length := by
        apply Classical.byContradiction; intro z
        rw [List.getElem?_eq_none (by omega)] at hv; cases hv
      refine ⟨⟨sqG_mono0 s2 (sqG_mono0 s1 h), l1⟩, fun x H'' hy => ?_⟩
      obtain ⟨T, y, rfl, hT, rfl, hy⟩ := hy
      rw [hv] at hy; cases hy
      have nw := New.pr (K := K) s2 hT (Rps.cons (.int (i : Nat)) (.cons (rv.mono s1) .nil))
      cases nw.rep with
      | dat rr => exact ⟨_, nw.stp, nw.sub, rr⟩
  stop := fun i F' H' s1 s2 hl => ⟨sqG_mono0 s2 (sqG_mono0 s1 h), by rw [r.length]; rw [enumL_len] at hl; exact hl⟩
/-- a list's or the script's items, as the heap has them -/
theorem lstOf_ok {v : V} {d : D} {xs : List D} (r : Rp K F v d) (h : lstOf d = some xs) : ∃ a vs, v = .ref a ∧ SqL K F a vs ∧ Rps K F vs xs := by
  cases r <;> simp only [lstOf, reduceCtorEq, Option.some.injEq] at h
  · subst h; exact ⟨_, _, rfl, .inl (by assumption), by assumption⟩
  · subst h; exact ⟨_, _, rfl, by assumption, Rps.ofInts⟩
theorem rowL_ok {v : V} {d : D} {xs : List D} (r : Rp K F v d) (h : rowL d = some xs) : ∃ t a vs, v = .ref a ∧ SqG t K F a vs ∧ Rps K F vs xs := by
  cases d with
  | tup ys =>
    simp only [rowL, Option.some.injEq] at h
    subst h
    obtain ⟨a, vs, e, h1, rs⟩ := r.tupI
    exact ⟨true, a, vs, e, h1, rs⟩
  | lst ys =>
    obtain ⟨a, vs, e, h1, rs⟩ := lstOf_ok r (xs := xs) h
    exact ⟨false, a, vs, e, h1, rs⟩
  | scr ys =>
    obtain ⟨a, vs, e, h1, rs⟩ := lstOf_ok r (xs := xs) h
    exact ⟨false, a, vs, e, h1, rs⟩
  | _ => simp [rowL] at h
end
section
variable {X : Cx} {N : List Str} {sc : Scope} {cn : List Str} {W : WX} {n : Nat} {C : Ctx} {pos : Pos} {tg xa xb xc : Expr} {a b c : E} {xs : List Expr} {es : EL}
theorem sndi_e (ha : SndE X cn W xa (evE C a)) : SndI X cn W tg xa (evIt C (.e a)) := by
  intro ρ F H as σ Rr e nd sub w
  simp only [evIt] at w
  cases hr : evE C a ρ with
  | stuck => rw [hr] at w; exact w.elim
  | exc c ps ρ' =>
    rw [hr] at w
    exact wi_of (pi_list pe_w) (ha ρ F H as σ _ e nd sub (by rw [hr]; exact w))
  | ok s ρ1 =>
    rw [hr] at w
    obtain ⟨xs, hx, w⟩ := wp_ofO w
    have key : ∀ (P : VK), (∀ v F1 H1 as1, Stp F H as F1 H1 as1 → EnvR X.K F1 H1 σ ρ1 as1 → as1.Nodup → Same F1 H1 → Rp X.K F1 v s.cap → P v H1) → WE X xa σ H P := fun P h => by
      refine ha ρ F H as σ P e nd sub ?_
      rw [hr]
      intro v F1 H1 a1 as1 t1 e1 r1 n1 s1
      obtain ⟨F2, t2, e2, r2, s2⟩ := freeze e1 r1 n1 s1
      exact h v F2 H1 as1 (t1.trans t2) e2 (nd_r n1) s2 r2
    generalize s.cap = d at hx key
    unfold itemsOf at hx
    split at hx
    · cases hx
      refine wi_of (pi_list pe_w) (key _ fun v F1 H1 as1 t1 e1 n1 s1 r1 => ?_)
      obtain ⟨p, vs, rfl, h1, rs⟩ := r1.lstI
      exact ⟨p, rfl, ⟨vs, .inl (rd_mono s1 h1)⟩, w _ F1 H1 as1 t1 e1 n1 s1 (yl_list (.inl h1) rs)⟩
    · cases hx
      refine wi_of (pi_list pe_w) (key _ fun v F1 H1 as1 t1 e1 n1 s1 r1 => ?_)
      cases r1 with
      | scr h1 => exact ⟨_, rfl, ⟨_, sqL_mono0 s1 h1⟩, w _ F1 H1 as1 t1 e1 n1 s1 (yl_list h1 Rps.ofInts)⟩
    · cases hx
      refine wi_of (pi_tup pe_w) (key _ fun v F1 H1 as1 t1 e1 n1 s1 r1 => ?_)
      obtain ⟨p, vs, rfl, h1, rs⟩ := r1.tupI
      exact ⟨p, rfl, ⟨vs, sqT_mono s1 h1⟩, w _ F1 H1 as1 t1 e1 n1 s1 (yl_tup h1 rs)⟩
    · cases hx
      refine wi_of (pi_str pe_w) (key _ fun v F1 H1 as1 t1 e1 n1 s1 r1 => ?_)
      cases r1 with
      | str x o l => exact ⟨_, rfl, w _ F1 H1 as1 t1 e1 n1 s1 (yl_str o)⟩
    · cases hx
theorem capInt {K : PySem.W.Frag} {F H : Hp} {v : V} {s : Sl} {a : List Addr} {i : Int} (r : RpS K F H v s a) (h : s.cap = .int i) : v = .int i := by
  cases r <;> simp only [Sl.cap, reduceCtorEq] at h
  subst h; rename_i r; cases r; rfl
theorem rngOk_iff {m n : Int} (h : rngOk m n = true) : -(2 ^ 62) ≤ m ∧ m < 2 ^ 62 ∧ -(2 ^ 62) ≤ n ∧ n < 2 ^ 62 := by
  unfold rngOk at h
  simp only [Bool.and_eq_true, decide_eq_true_eq] at h
  have e : (2 : Int) ^ 62 = 4611686018427387904 := by decide
  rw [e]
  omega
theorem star1 {env : PySem.Env} (h : noStar xa = true) : starEach [xa] env = [(false, eval xa env)] := starEach_cons h
theorem sndi_rng1 (G : Gd X N sc cn W n) {p : Pos} (hs : noStar xa = true) (hg : glC sc "range" = true) (hm : X.mg "range" = none) (ha : SndE X cn W xa (evE C a)) : SndI X cn W tg (.Call (.Name "range" p) [xa] [] pos) (evIt C (.rng1 a)) := by
  intro ρ F H as σ Rr e nd sub w
  simp only [evIt, wp_bind] at w
  refine wi_of (pi_range1 (G.gl hg) hm (pa_cons pe_w pa_nil (starEach_cons hs)) (star1 hs)) ?_
  refine ha ρ F H as σ _ e nd sub (wp_mono w (fun s ρ1 w1 v1 F1 H1 a1 as1 t1 e1 r1 n1 s1 => ?_) fun _ _ _ z => z)
  split at w1
  · rename_i m hc
    split at w1
    · rename_i ho
      have := rngOk_iff ho
      exact ⟨m, by rw [capInt r1 hc], this.2.2.1, this.2.2.2, w1 _ F1 H1 as1 (t1.sub sub_r) e1 (nd_r n1) s1 yl_rng⟩
    · exact w1.elim
  · exact w1.elim
theorem sndi_rng2 (G : Gd X N sc cn W n) {p : Pos} (hs : noStar xa = true) (hs2 : noStar xb = true) (hg : glC sc "range" = true) (hm : X.mg "range" = none) (ha : SndE X cn W xa (evE C a)) (hb : SndE X cn W xb (evE C b)) : SndI X cn W tg (.Call (.Name "range" p) [xa, xb] [] pos) (evIt C (.rng2 a b)) := by
  intro ρ F H as σ Rr e nd sub w
  simp only [evIt, wp_bind] at w
  refine wi_of (pi_range2 (G.gl hg) hm (pa_cons pe_w (pa_cons pe_w pa_nil (starEach_cons hs2)) (starEach_cons hs)) (by rw [starEach_cons hs, star1 hs2]) (star1 hs2)) ?_
  refine ha ρ F H as σ _ e nd sub (wp_mono w (fun s ρ1 w1 v1 F1 H1 a1 as1 t1 e1 r1 n1 s1 => ?_) fun _ _ _ z => z)
  have t1' : Stp F H as F1 H1 as1 := t1.sub sub_r
  refine hb ρ1 F1 H1 as1 σ _ e1 (nd_r n1) s1 (wp_mono w1 (fun u ρ2 w2 v2 F2 H2 a2 as2 t2 e2 r2 n2 s2 => ?_) fun _ _ _ z => z.trans t1')
  split at w2
  · rename_i i j hc1 hc2
    split at w2
    · rename_i ho
      exact ⟨i, j, by rw [capInt r1 hc1, capInt r2 hc2], rngOk_iff ho, w2 _ F2 H2 as2 (t1'.trans (t2.sub sub_r)) e2 (nd_r n2) s2 yl_rng⟩
    · exact w2.elim
  · exact w2.elim
theorem sndi_enum (G : Gd X N sc cn W n) {p p3 : Pos} {elts : List Expr} {kk : Nat} (hs : noStar xa = true) (hg : glC sc "enumerate" = true) (hm : X.mg "enumerate" = none) (ha : SndE X cn W xa (evE C a)) : SndI X cn W (.Tuple elts kk p3) (.Call (.Name "enumerate" p) [xa] [] pos) (evIt C (.enum a)) := by
  intro ρ F H as σ Rr e nd sub w
  simp only [evIt, wp_bind] at w
  refine wi_of (pi_enumF (G.gl hg) hm (pa_cons pe_w pa_nil (starEach_cons hs)) (star1 hs)) ?_
  refine ha ρ F H as σ _ e nd sub (wp_mono w (fun s ρ1 w1 v1 F1 H1 a1 as1 t1 e1 r1 n1 s1 => ?_) fun _ _ _ z => z)
  split at w1
  · rename_i xs hx
    obtain ⟨F2, t2, e2, r2, s2⟩ := freeze e1 r1 n1 s1
    obtain ⟨k, p, vs, rfl, h1, rs⟩ := rowL_ok r2 hx
    exact ⟨k, p, vs, rfl, sqG_mono0 s2 h1, w1 _ F2 H1 as1 (t1.trans t2) e2 (nd_r n1) s2 (yl_enumF h1 rs)⟩
  · exact w1.elim
theorem sndi_zip (G : Gd X N sc cn W n) {p p3 : Pos} {elts : List Expr} {kk : Nat} (hs : noStar xa = true) (hs2 : noStar xb = true) (hg : glC sc "zip" = true) (hm : X.mg "zip" = none) (ha : SndE X cn W xa (evE C a)) (hb : SndE X cn W xb (evE C b)) : SndI X cn W (.Tuple elts kk p3) (.Call (.Name "zip" p) [xa, xb] [] pos) (evIt C (.zip a b)) := by
  intro ρ F H as σ Rr e nd sub w
  simp only [evIt, wp_bind] at w
  refine wi_of (pi_zipF (G.gl hg) hm (pa_cons pe_w (pa_cons pe_w pa_nil (starEach_cons hs2)) (starEach_cons hs)) (starEach_cons hs) (stars_no (by simp [hs2]))) ?_
  refine ha ρ F H as σ _ e nd sub (wp_mono w (fun s ρ1 w1 v1 F1 H1 a1 as1 t1 e1 r1 n1 s1 => ?_) fun _ _ _ z => z)
  obtain ⟨F1', t1b, e1', r1', s1'⟩ := freeze e1 r1 n1 s1
  have t1' := t1.trans t1b
  refine hb ρ1 F1' H1 as1 σ _ e1' (nd_r n1) s1' (wp_mono w1 (fun u ρ2 w2 v2 F2 H2 a2 as2 t2 e2 r2 n2 s2 => ?_) fun _ _ _ z => z.trans t1')
  obtain ⟨F2', t2b, e2', r2', s2'⟩ := freeze e2 r2 n2 s2
  have rx := r1'.mono (t2.ff.trans t2b.ff)
  have t3 := t1'.trans (t2.trans t2b)
  split at w2
  · rename_i q hq
    unfold seqP at hq
    cases hq1 : rowL s.cap with
    | none => rw [hq1] at hq; simp at hq
    | some xs =>
      cases hq2 : rowL u.cap with
      | none => rw [hq1, hq2] at hq; simp at hq
      | some ys =>
        rw [hq1, hq2] at hq
        simp only [Option.bind_some, Option.map_some, Option.some.injEq] at hq
        subst hq
        obtain ⟨k1, p1, vs, rfl, h1, rs⟩ := rowL_ok rx hq1
        obtain ⟨k2, p2, us, rfl, h2, rs2⟩ := rowL_ok r2' hq2
        exact ⟨k1, k2, p1, p2, vs, us, rfl, sqG_mono0 s2' h1, sqG_mono0 s2' h2, w2 _ F2' H2 as2 t3 e2' (nd_r n2) s2' (yl_zipF h1 rs h2 rs2)⟩
  · exact w2.elim
end
end MP

namespace MP
open PySem PySem.Spec PyProof.Rows L2
variable [HasW]

def WS (X : Cx) (st : Stmt) : TS := fun D σ H => ∀ pins s, Inv X pins σ H s → wpAny (model X.prog X.w) X.A (exec st X.env) (SP X pins D) X.xe s
theorem ps_w {X : Cx} {st : Stmt} : PS X st (WS X st) := ⟨fun pins s σ H D I h => h pins s I⟩
theorem ws_of {X : Cx} {st : Stmt} {t : TS} (p : PS X st t) {D : Ends} {σ : L2.St} {H : Hp} (h : t D σ H) : WS X st D σ H := fun pins s I => p.run pins s σ H D I h
def WSs (X : Cx) (st : List Stmt) : TS := fun D σ H => ∀ pins s, Inv X pins σ H s → wpAny (model X.prog X.w) X.A (execs st X.env) (SP X pins D) X.xe s
theorem pss_w {X : Cx} {st : List Stmt} : PSs X st (WSs X st) := ⟨fun pins s σ H D I h => h pins s I⟩
theorem wss_of {X : Cx} {st : List Stmt} {t : TS} (p : PSs X st t) {D : Ends} {σ : L2.St} {H : Hp} (h : t D σ H) : WSs X st D σ H := fun pins s I => p.run pins s σ H D I h
/-- the wish behind a statement -/
def FlP (X : Cx) (own : List Bool) (F H : Hp) (as : List Addr) (σ : L2.St) (D : Ends) : Fl → Env → Prop := fun fl ρ' => match fl with
  | .nx => OkG X own F H as σ D.nx ρ'
  | .brk => OkG X own F H as σ D.bk ρ'
  | .cnt => OkG X own F H as σ D.ct ρ'
  | .ret s => ∀ v σ' F' H' a as', Stp F H as F' H' (a ++ as') → EnvR X.K F' H' σ' ρ' as' → OwnEq own σ σ' → RpS X.K F' H' v s a → (a ++ as').Nodup → Same F' H' → D.rt v H'
def SndS (X : Cx) (cn : List Str) (W : WX) (own : List Bool) (st : Stmt) (r : Env → R Fl) : Prop :=
  ∀ (ρ : Env) (F H : Hp) (as : List Addr) (σ : L2.St) (D : Ends), EnvR X.K F H σ ρ as → as.Nodup → Same F H → (r ρ).wp (FlP X own F H as σ D) (ExS X cn W own F H as σ) → WS X st D σ H
def SndSs (X : Cx) (cn : List Str) (W : WX) (own : List Bool) (st : List Stmt) (r : Env → R Fl) : Prop :=
  ∀ (ρ : Env) (F H : Hp) (as : List Addr) (σ : L2.St) (D : Ends), EnvR X.K F H σ ρ as → as.Nodup → Same F H → (r ρ).wp (FlP X own F H as σ D) (ExS X cn W own F H as σ) → WSs X st D σ H
section
variable {X : Cx} {cn : List Str} {W : WX} {own : List Bool} {F F1 H H1 : Hp} {as as1 : List Addr} {σ σ1 : L2.St} {ρ : Env}
theorem OkG.trans {Q : L2.St → Hp → Prop} (h : OkG X own F H as σ Q ρ) (t : Stp F H as F1 H1 as1) (o : OwnEq own σ σ1) : OkG X own F1 H1 as1 σ1 Q ρ := fun σ' F' H' as' t' e o' n s => h σ' F' H' as' (t.trans t') e (o.trans o') n s
theorem FlP.trans {D : Ends} {fl : Fl} (h : FlP X own F H as σ D fl ρ) (t : Stp F H as F1 H1 as1) (o : OwnEq own σ σ1) : FlP X own F1 H1 as1 σ1 D fl ρ := by
  cases fl with
  | nx => exact OkG.trans h t o
  | brk => exact OkG.trans h t o
  | cnt => exact OkG.trans h t o
  | ret s => exact fun v σ' F' H' a as' t' e o' r n sb => h v σ' F' H' a as' (t.trans t') e (o.trans o') r n sb
end
section
variable {X : Cx} {N : List Str} {sc : Scope} {cn : List Str} {W : WX} {n : Nat} {C : Ctx} {pos : Pos} {tg xa xb xc : Expr} {a b c : E} {xs : List Expr} {es : EL} {st : Stmt} {sts : List Stmt} {s : S} {ss : SL}
theorem snds_nil : SndSs X cn W C.own [] (evSs C .nil) := by
  intro ρ F H as σ D e nd sub w
  exact wss_of pss_nil (w σ F H as Stp.refl e OwnEq.refl nd sub)
theorem snds_cons (h1 : SndS X cn W C.own st (evS C s)) (h2 : SndSs X cn W C.own sts (evSs C ss)) : SndSs X cn W C.own (st :: sts) (evSs C (.cons s ss)) := by
  intro ρ F H as σ D e nd sub w
  simp only [evSs, wp_bind] at w
  refine wss_of (pss_cons ps_w pss_w) (h1 ρ F H as σ _ e nd sub (wp_mono w (fun fl ρ1 w1 => ?_) fun _ _ _ z => z))
  cases fl with
  | nx =>
    intro σ1 F1 H1 as1 t1 e1 o1 n1 s1
    exact h2 ρ1 F1 H1 as1 σ1 D e1 n1 s1 (wp_mono w1 (fun _ _ z => z.trans t1 o1) fun _ _ _ z => z.trans t1 o1)
  | brk => exact w1
  | cnt => exact w1
  | ret s => exact w1
theorem snd_pass : SndS X cn W C.own (.Pass pos) (evS C .pass) := fun ρ F H as σ D e nd sub w => ws_of ps_pass (w σ F H as Stp.refl e OwnEq.refl nd sub)
theorem snd_break : SndS X cn W C.own (.Break pos) (evS C .brk) := fun ρ F H as σ D e nd sub w => ws_of ps_break (w σ F H as Stp.refl e OwnEq.refl nd sub)
theorem snd_cont : SndS X cn W C.own (.Continue pos) (evS C .cnt) := fun ρ F H as σ D e nd sub w => ws_of ps_continue (w σ F H as Stp.refl e OwnEq.refl nd sub)
theorem snd_doc {x : Str} {j : Option Str} {p2 : Pos} {k : _} : SndS X cn W C.own (.Expr (.Constant (.str x) k p2) pos) (evS C .pass) := fun ρ F H as σ D e nd sub w => ws_of ps_doc (w σ F H as Stp.refl e OwnEq.refl nd sub)
theorem snd_ret (ha : SndE X cn W xa (evE C a)) : SndS X cn W C.own (.Return (some xa) pos) (evS C (.ret a)) := by
  intro ρ F H as σ D e nd sub w
  simp only [evS, wp_bind] at w
  refine ws_of (ps_ret pe_w) (ha ρ F H as σ _ e nd sub (wp_mono w (fun s ρ1 w1 v F1 H1 a1 as1 t1 e1 r1 n1 s1 => ?_) fun _ _ _ z => z.exp Stp.refl OwnEq.refl))
  exact w1 v σ F1 H1 a1 as1 t1 e1 OwnEq.refl r1 n1 s1
theorem snd_retN : SndS X cn W C.own (.Return none pos) (evS C .retN) := fun ρ F H as σ D e nd sub w => ws_of ps_retN (w .non σ F H [] as Stp.refl e OwnEq.refl (.dat .non) nd sub)
def noLc : Expr → Bool
  | .ListComp _ _ _ _ => false
  | .SetComp _ _ _ _ => false
  | .DictComp _ _ _ _ _ => false
  | _ => true
theorem noLc_ok {x : Expr} {t : Option Expr} {l : Nat} {env : PySem.Env} (h : noLc x = true) : swapsWith x t l env = pure false := by
  cases x <;> first | rfl | (simp [noLc] at h)
def isNm : Expr → Bool
  | .Name _ _ => true
  | _ => false
theorem sw_ok {x tg : Expr} {l : Nat} {env : PySem.Env} (h : (noLc x || !isNm tg) = true) : swapsWith x (some tg) l env = pure false := by
  cases hx : noLc x with
  | true => exact noLc_ok hx
  | false =>
    rw [hx] at h
    cases tg with
    | Name _ _ => simp [isNm] at h
    | _ => cases x <;> first | rfl | (simp [noLc] at hx)
theorem snd_expr (hl : noLc xa = true) (ha : SndE X cn W xa (evE C a)) : SndS X cn W C.own (.Expr xa pos) (evS C (.expr a)) := by
  intro ρ F H as σ D e nd sub w
  simp only [evS, wp_bind] at w
  refine ws_of (ps_expr pe_w (noLc_ok hl)) (ha ρ F H as σ _ e nd sub (wp_mono w (fun s ρ1 w1 v F1 H1 a1 as1 t1 e1 r1 n1 s1 => ?_) fun _ _ _ z => z.exp Stp.refl OwnEq.refl))
  exact w1 σ F1 H1 as1 (t1.sub sub_r) e1 OwnEq.refl (nd_r n1) s1
/-! an assignment to one target -/
def notTT : Expr → Expr → Bool
  | .Tuple ts _ _, .Tuple _ _ _ => !(ts.length == 2 || ts.length == 3)
  | .List _ _, .Tuple _ _ _ => false
  | _, _ => true
omit [HasW] in
theorem notTT_ok {t v : Expr} {env : PySem.Env} (h : notTT t v = true) : swappedStores [t] v env = pure none := by
  cases t with
  | Tuple ts k p =>
    cases v with
    | Tuple vs k2 p2 =>
      have h2 : (!(ts.length == 2 || ts.length == 3)) = true := h
      have h3 : (!(ts.length == 2 || ts.length == 3) || vs.length != ts.length || env.blockKind != .function) = true := by rw [h2]; rfl
      show (if (!(ts.length == 2 || ts.length == 3) || vs.length != ts.length || env.blockKind != .function) = true then _ else _) = _
      rw [if_pos h3]
    | _ => rfl
  | List ts p => cases v <;> first | rfl | (simp [notTT] at h)
  | _ => rfl
theorem snd_asg {t : T} (hl : (noLc xa || !isNm tg) = true) (hs : noStar tg = true) (ht : notTT tg xa = true) (hg : SndG X cn W C.own tg (evT C t)) (ha : SndE X cn W xa (evE C a)) : SndS X cn W C.own (.Assign [tg] xa pos) (evS C (.asg t a)) := by
  intro ρ F H as σ D e nd sub w
  simp only [evS, wp_bind] at w
  refine ws_of (ps_asg pe_w pg_w (sw_ok hl) (notTT_ok ht) (by rw [assignEach_cons hs]; rfl)) (ha ρ F H as σ _ e nd sub (wp_mono w (fun s ρ1 w1 v F1 H1 a1 as1 t1 e1 r1 n1 s1 => ?_) fun _ _ _ z => z.exp Stp.refl OwnEq.refl))
  refine hg ρ1 F1 H1 a1 as1 σ v s _ e1 r1 n1 s1 (wp_mono w1 (fun _ ρ2 w2 => ?_) fun _ _ _ z => z.trans t1 OwnEq.refl)
  exact OkG.trans w2 t1 OwnEq.refl
theorem swapped_two {y z : Str} {py pz pt pt2 : Pos} {kt k2} {ea eb : Expr} {env : PySem.Env} (hk : env.scope.kind = .function) (hy : env.scope.names.lookup y = some .local) (hz : env.scope.names.lookup z = some .local) (hl : pz.line = py.line) (hyz : y ≠ z) (n1 : noStar ea = true) (n2 : noStar eb = true) (h1 : (foldedForSure 8 ea && foldedForSure 8 eb) = false) (h2 : (constantsAlone 8 ea && constantsAlone 8 eb) = false) :
    swappedStores [.Tuple [.Name y py, .Name z pz] kt pt] (.Tuple [ea, eb] k2 pt2) env = pure (some [y, z]) := by
  have hb : env.blockKind = .function := by unfold PySem.Env.blockKind; rw [hk]; rfl
  have ky : env.kindOf y = some .local := hy
  have kz : env.kindOf z = some .local := hz
  have a1 : ([ea, eb].all (foldedForSure 8)) = false := by simpa using h1
  have a2 : ([ea, eb].all (constantsAlone 8)) = false := by simpa using h2
  have pl : (Expr.Name y py).pos.line = py.line := rfl
  have er : ([y, z] : List Str).eraseDups.length = 2 := by
    simp [List.eraseDups_cons, hyz, Ne.symm hyz]
  unfold swappedStores
  simp [hb, ky, kz, a1, a2, pl, hl, er]
  rintro (h | h)
  · cases ea <;> first | (simp [noStar] at n1; done) | cases h
  · cases eb <;> first | (simp [noStar] at n2; done) | cases h
/-- a, b = x, y: stored, the first is data -/
theorem snd_par (G : Gd X N sc cn W n) {i j : Nat} {y z : Str} {py pz pt pt2 : Pos} {kt k2} {ea eb : Expr} (hi : N[i]? = some y) (hj : N[j]? = some z) (hij : i ≠ j) (hyz : y ≠ z) (hy : sc.names.lookup y = some .local) (hz : sc.names.lookup z = some .local) (hl : pz.line = py.line) (n1 : noStar ea = true) (n2 : noStar eb = true) (h1 : (foldedForSure 8 ea && foldedForSure 8 eb) = false) (h2 : (constantsAlone 8 ea && constantsAlone 8 eb) = false)
    (ha : SndA X cn W [ea, eb] (evArgs C (.cons a (.cons b .nil)))) : SndS X cn W C.own (.Assign [.Tuple [.Name y py, .Name z pz] kt pt] (.Tuple [ea, eb] k2 pt2) pos) (evS C (.par i j a b)) := by
  intro ρ F H as σ D e nd sub w
  have ly := G.look y .local hy (by decide)
  have lz := G.look z .local hz (by decide)
  intro pins s I
  refine (ps_par (i := i) (j := j) (ta := WA X [ea, eb]) G.calm (by rw [G.hN]; exact G.nd) (by rw [G.hN]; exact hi) (by rw [G.hN]; exact hj) hij ly lz pa_w (swapped_two I.ok.kind ly lz hl hyz n1 n2 h1 h2)).run pins s σ H D I ?_
  simp only [evS, wp_bind] at w
  refine ha ρ F H as σ _ e nd sub (wp_mono w (fun bs ρ1 w1 vs F1 H1 a1 as1 t1 e1 r1 nd1 s1 l1 => ?_) fun _ _ _ z => z.exp Stp.refl OwnEq.refl)
  split at w1
  · rename_i d u
    cases r1 with
    | @cons v _ b1 as2 _ _ q1 q2 =>
      cases q2 with
      | @cons w' _ b2 as3 _ _ q3 q4 =>
        cases q4
        cases q1 with
        | tmp q1 =>
          cases q3 with
          | tmp q3 =>
            split at w1
            · rename_i ρ2 hs
              split at w1
              · rename_i ρ3 hs2
                refine ⟨v, w', rfl, ?_⟩
                unfold setSlot at hs hs2
                split at hs
                · rename_i s0 h0
                  split at hs
                  · cases hs
                  · rename_i ho
                    cases hs
                    split at hs2
                    · rename_i s9 h9
                      split at hs2
                      · cases hs2
                      · rename_i ho2
                        cases hs2
                        cases q1
                        simp only [List.nil_append, List.append_nil] at t1 nd1
                        rename_i rd
                        obtain ⟨a', c, a0, m, p1, p2⟩ := e1.store (i := i) (List.getElem?_eq_some_iff.mp h0).1 (RpS.dat (H := H1) rd)
                        obtain ⟨a'', c', a0', m', p1', p2'⟩ := m.store (i := j) (List.getElem?_eq_some_iff.mp h9).1 q3
                        simp only [List.nil_append] at p2
                        refine w1 _ F1 H1 a'' (t1.sub fun x hx => ?_) m' ⟨by rw [List.length_set, List.length_set], fun k hk => ?_⟩ ?_ s1
                        · rcases List.mem_append.mp (p2'.mem_iff.mp hx) with q | q
                          · exact List.mem_append_left _ q
                          · exact List.mem_append_right _ (p1.mem_iff.mpr (List.mem_append_right _ (p2.mem_iff.mp (p1'.mem_iff.mpr (List.mem_append_right _ q)))))
                        · have hk1 : i ≠ k := fun z => by subst z; exact ho hk
                          have hk2 : j ≠ k := fun z => by subst z; exact ho2 hk
                          rw [List.getElem?_set_ne hk2, List.getElem?_set_ne hk1]
                        · have na := nodup_app.mp nd1
                          have n0 : (c ++ a0).Nodup := p1.nodup_iff.mp na.2.1
                          have n3 : a'.Nodup := p2.nodup_iff.mpr (nd_r n0)
                          have n4 : (c' ++ a0').Nodup := p1'.nodup_iff.mp n3
                          refine p2'.nodup_iff.mpr (nodup_app.mpr ⟨na.1, nd_r n4, fun x hx hz => na.2.2 x hx (p1.mem_iff.mpr (List.mem_append_right _ (p2.mem_iff.mp (p1'.mem_iff.mpr (List.mem_append_right _ hz)))))⟩)
                    · cases hs2
                · cases hs
              · exact w1.elim
            · exact w1.elim
  · exact w1.elim
theorem swapped_none {y z : Str} {py pz pt pt2 : Pos} {kt k2} {ea eb : Expr} {env : PySem.Env} (h : (env.kindOf y == some NameKind.local) = false ∨ (env.kindOf z == some NameKind.local) = false) :
    swappedStores [.Tuple [.Name y py, .Name z pz] kt pt] (.Tuple [ea, eb] k2 pt2) env = pure none := by
  unfold swappedStores
  rcases h with h | h
  · cases h2 : (env.kindOf z == some NameKind.local) <;> simp only [List.filterMap, h, h2, Bool.false_and, Bool.true_and, Bool.false_eq_true, if_false] <;> (repeat' split) <;> first | rfl | (simp_all; done)
  · cases h2 : (env.kindOf y == some NameKind.local) <;> simp only [List.filterMap, h, h2, Bool.false_and, Bool.true_and, Bool.false_eq_true, if_false] <;> (repeat' split) <;> first | rfl | (simp_all; done)
/-- .. by way of the pair: one of the names is a cell -/
theorem snd_par2 (G : Gd X N sc cn W n) {i j : Nat} {y z : Str} {py pz pt pt2 : Pos} {kt k2} {ea eb : Expr} (hi : N[i]? = some y) (hj : N[j]? = some z) (hij : i ≠ j) (ly : locC sc y = true) (lz : locC sc z = true) (hc : sc.names.lookup y = some .cell ∨ sc.names.lookup z = some .cell)
    (ha : SndA X cn W [ea, eb] (evArgs C (.cons a (.cons b .nil)))) : SndS X cn W C.own (.Assign [.Tuple [.Name y py, .Name z pz] kt pt] (.Tuple [ea, eb] k2 pt2) pos) (evS C (.par i j a b)) := by
  intro ρ F H as σ D e nd sub w
  have hk : (X.env.kindOf y == some NameKind.local) = false ∨ (X.env.kindOf z == some NameKind.local) = false := by
    rcases hc with hc | hc
    · have e1 : X.env.kindOf y = some .cell := G.look y .cell hc (by decide)
      exact .inl (by rw [e1]; rfl)
    · have e1 : X.env.kindOf z = some .cell := G.look z .cell hc (by decide)
      exact .inr (by rw [e1]; rfl)
  refine ws_of (ps_asg (pe_tupX pa_w) (pg_tup (n := 2) G.calm (pgs_cons' rfl pg_w (pgs_cons' rfl pg_w pgs_nil)) (assignEach_len _) (assignEach_find _ rfl)) (by rfl) (swapped_none hk) (by rw [assignEach_cons rfl]; rfl)) ?_
  simp only [evS, wp_bind] at w
  refine ha ρ F H as σ _ e nd sub (wp_mono w (fun bs ρ1 w1 vs F1 H1 a1 as1 t1 e1 r1 nd1 s1 l1 => ?_) fun _ _ _ z => z.exp Stp.refl OwnEq.refl)
  split at w1
  · rename_i d u
    cases r1 with
    | @cons v _ b1 as2 _ _ q1 q2 =>
      cases q2 with
      | @cons w' _ b2 as3 _ _ q3 q4 =>
        cases q4
        cases q1 with
        | tmp q1 =>
          cases q3 with
          | tmp q3 =>
            split at w1
            · rename_i ρ2 hs
              split at w1
              · rename_i ρ3 hs2
                refine ⟨by simp [line_eq], fun p o ho hp => ?_⟩
                refine ⟨p, [v, w'], rfl, .inl (.inr ⟨o, upd_same⟩), rfl, v, [w'], rfl, ?_⟩
                refine wg_of (pg_name (by rw [G.hN]; exact G.nd) (by rw [G.hN]; exact hi) (G.loc ly).1 (G.loc ly).2) ?_
                refine ⟨w', [], rfl, ?_⟩
                refine wg_of (pg_name (by rw [G.hN]; exact G.nd) (by rw [G.hN]; exact hj) (G.loc lz).1 (G.loc lz).2) ?_
                refine ⟨rfl, ?_⟩
                unfold setSlot at hs hs2
                split at hs
                · rename_i s0 h0
                  split at hs
                  · cases hs
                  · rename_i ho1
                    cases hs
                    split at hs2
                    · rename_i s9 h9
                      split at hs2
                      · cases hs2
                      · rename_i ho2
                        cases hs2
                        cases q1
                        simp only [List.nil_append, List.append_nil] at t1 nd1
                        rename_i rd
                        obtain ⟨a', c, a0, m, p1, p2⟩ := e1.store (i := i) (List.getElem?_eq_some_iff.mp h0).1 (RpS.dat (H := H1) rd)
                        obtain ⟨a'', c', a0', m', p1', p2'⟩ := m.store (i := j) (List.getElem?_eq_some_iff.mp h9).1 q3
                        simp only [List.nil_append] at p2
                        have st : Stp F1 H1 a'' F1 (upd H1 p (HO.frz o (HO.tup [v, w']))) a'' := ⟨fun _ _ e => e, fun b x e _ => same_upd hp b x e, fun b hb => .inl hb, fun _ _ e => .inl e⟩
                        have st0 : Stp F1 H1 [] F1 (upd H1 p (HO.frz o (HO.tup [v, w']))) [] := ⟨fun _ _ e => e, fun b x e _ => same_upd hp b x e, fun b hb => (by cases hb), fun _ _ e => .inl e⟩
                        refine w1 _ F1 (upd H1 p (HO.frz o (HO.tup [v, w']))) a'' ((t1.sub fun x hx => ?_).trans st) (m'.step st0 fun _ _ z => by cases z) ⟨by rw [List.length_set, List.length_set], fun k hk => ?_⟩ ?_ fun b x e => same_upd hp b x (s1 b x e)
                        · rcases List.mem_append.mp (p2'.mem_iff.mp hx) with q | q
                          · exact List.mem_append_left _ q
                          · exact List.mem_append_right _ (p1.mem_iff.mpr (List.mem_append_right _ (p2.mem_iff.mp (p1'.mem_iff.mpr (List.mem_append_right _ q)))))
                        · have hk1 : i ≠ k := fun z => by subst z; exact ho1 hk
                          have hk2 : j ≠ k := fun z => by subst z; exact ho2 hk
                          rw [List.getElem?_set_ne hk2, List.getElem?_set_ne hk1]
                        · have na := nodup_app.mp nd1
                          have n0 : (c ++ a0).Nodup := p1.nodup_iff.mp na.2.1
                          have n3 : a'.Nodup := p2.nodup_iff.mpr (nd_r n0)
                          have n4 : (c' ++ a0').Nodup := p1'.nodup_iff.mp n3
                          refine p2'.nodup_iff.mpr (nodup_app.mpr ⟨na.1, nd_r n4, fun x hx hz => na.2.2 x hx (p1.mem_iff.mpr (List.mem_append_right _ (p2.mem_iff.mp (p1'.mem_iff.mpr (List.mem_append_right _ hz)))))⟩)
                    · cases hs2
                · cases hs
              · exact w1.elim
            · exact w1.elim
  · exact w1.elim
theorem snd_if {sa sb : SL} {as' bs' : List Stmt} (hc : SndT X cn W xc (testE C c)) (ha : SndSs X cn W C.own as' (evSs C sa)) (hb : SndSs X cn W C.own bs' (evSs C sb)) : SndS X cn W C.own (.If xc as' bs' pos) (evS C (.ifs c sa sb)) := by
  intro ρ F H as σ D e nd sub w
  simp only [evS, wp_bind] at w
  refine ws_of (ps_if pt_w pss_w pss_w) (hc ρ F H as σ _ e nd sub (wp_mono w (fun t ρ1 w1 F1 H1 as1 t1 e1 n1 s1 => ?_) fun _ _ _ z => z.exp Stp.refl OwnEq.refl))
  cases t with
  | true => exact ha ρ1 F1 H1 as1 σ D e1 n1 s1 (wp_mono w1 (fun _ _ z => z.trans t1 OwnEq.refl) fun _ _ _ z => z.trans t1 OwnEq.refl)
  | false => exact hb ρ1 F1 H1 as1 σ D e1 n1 s1 (wp_mono w1 (fun _ _ z => z.trans t1 OwnEq.refl) fun _ _ _ z => z.trans t1 OwnEq.refl)
/-! loops -/
def plainIt : Expr → Bool
  | .Set _ _ _ => false
  | _ => true
theorem plainIt_ok {x : Expr} {env : PySem.Env} (h : plainIt x = true) : ∀ v, foldedSetIterable x env v = pure v := by
  intro v
  cases x <;> first | rfl | (simp [plainIt] at h)
theorem snd_for (G : Gd X N sc cn W n) {t : T} {it : It} {xi : Expr} {sb : SL} {bs : List Stmt} (hp : plainIt xi = true) (hi : SndI X cn W tg xi (evIt C it)) (hg : SndG X cn W C.own tg (evT C t)) (hb : SndSs X cn W C.own bs (evSs C sb)) : SndS X cn W C.own (.For tg xi bs [] pos) (evS C (.forS t it sb)) := by
  intro ρ F H as σ D e nd sub w
  simp only [evS, wp_bind] at w
  refine ws_of (ps_for G.po G.calm pi_w pg_w pss_w (plainIt_ok hp)) (hi ρ F H as σ _ e nd sub (wp_mono w (fun xs ρ1 w1 J F1 H1 as1 t1 e1 n1 s1 y1 => ?_) fun _ _ _ z => z.exp Stp.refl OwnEq.refl))
  refine ⟨fun i m σ' H' => m = xs.length - i ∧ ∃ ρ' F' as', Same F1 F' ∧ Stp F H as F' H' as' ∧ EnvR X.K F' H' σ' ρ' as' ∧ OwnEq C.own σ σ' ∧ as'.Nodup ∧ Same F' H' ∧
    (forL (fun x ρ => (evT C t (.dat x) ρ).bind fun _ ρ => evSs C sb ρ) (xs.drop i) ρ').wp (FlP X C.own F H as σ D) (ExS X cn W C.own F H as σ), ⟨_, rfl, ρ1, F1, as1, fun _ _ h => h, t1, e1, OwnEq.refl, n1, s1, w1⟩, ?_⟩
  rintro i m σ2 H2 ⟨rfl, ρ2, F2, as2, f2, t2, e2, o2, n2, s2, w2⟩
  by_cases hlt : i < xs.length
  · right
    have hd : xs.drop i = xs[i] :: xs.drop (i + 1) := List.drop_eq_getElem_cons hlt
    rw [hd] at w2
    simp only [forL, wp_bind] at w2
    obtain ⟨hgo, hy⟩ := y1.go i F2 H2 xs[i] f2 s2 (by rw [List.getElem?_eq_getElem hlt])
    refine ⟨hgo, fun σ' H' => ∃ m', m' < xs.length - i ∧ (m' = xs.length - (i + 1) ∧ ∃ ρ' F' as', Same F1 F' ∧ Stp F H as F' H' as' ∧ EnvR X.K F' H' σ' ρ' as' ∧ OwnEq C.own σ σ' ∧ as'.Nodup ∧ Same F' H' ∧
      (forL (fun x ρ => (evT C t (.dat x) ρ).bind fun _ ρ => evSs C sb ρ) (xs.drop (i + 1)) ρ').wp (FlP X C.own F H as σ D) (ExS X cn W C.own F H as σ)), fun _ _ h => h, fun x H3 hx => ?_⟩
    obtain ⟨F3, st3, s3, rx⟩ := hy x H3 hx
    have e3 := e2.step st3 fun _ _ z => by cases z
    have t23 : Stp F2 H2 as2 F3 H3 as2 := by
      have := st3.frame (ts := as2)
      simpa using this
    have t3 := t2.trans t23
    refine hg ρ2 F3 H3 [] as2 σ2 x (.dat xs[i]) _ e3 (.dat rx) n2 s3 (wp_mono w2 (fun _ ρ4 w4 σ4 F4 H4 as4 t4 e4 o4 n4 s4 => ?_) fun _ _ _ z => z.trans t3 o2)
    have t5 := t3.trans t4
    have o5 := o2.trans o4
    refine hb ρ4 F4 H4 as4 σ4 _ e4 n4 s4 (wp_mono w4 (fun fl ρ5 w5 => ?_) fun _ _ _ z => z.trans t5 o5)
    have next : ∀ {σ6 : L2.St} {F6 H6 : Hp} {as6 : List Addr}, Stp F4 H4 as4 F6 H6 as6 → EnvR X.K F6 H6 σ6 ρ5 as6 → OwnEq C.own σ4 σ6 → as6.Nodup → Same F6 H6 →
        (forL (fun x ρ => (evT C t (.dat x) ρ).bind fun _ ρ => evSs C sb ρ) (xs.drop (i + 1)) ρ5).wp (FlP X C.own F H as σ D) (ExS X cn W C.own F H as σ) → ∃ m', m' < xs.length - i ∧ (m' = xs.length - (i + 1) ∧ ∃ ρ' F' as', Same F1 F' ∧ Stp F H as F' H6 as' ∧ EnvR X.K F' H6 σ6 ρ' as' ∧ OwnEq C.own σ σ6 ∧ as'.Nodup ∧ Same F' H6 ∧
        (forL (fun x ρ => (evT C t (.dat x) ρ).bind fun _ ρ => evSs C sb ρ) (xs.drop (i + 1)) ρ').wp (FlP X C.own F H as σ D) (ExS X cn W C.own F H as σ)) :=
      fun {σ6 F6 H6 as6} t6 e6 o6 n6 s6 w6 => ⟨_, by omega, rfl, ρ5, F6, as6, f2.trans (st3.ff.trans (t4.ff.trans t6.ff)), t5.trans t6, e6, o5.trans o6, n6, s6, w6⟩
    cases fl with
    | nx => exact fun σ6 F6 H6 as6 t6 e6 o6 n6 s6 => next t6 e6 o6 n6 s6 w5
    | cnt => exact fun σ6 F6 H6 as6 t6 e6 o6 n6 s6 => next t6 e6 o6 n6 s6 w5
    | brk => exact OkG.trans w5 t5 o5
    | ret s => exact FlP.trans (fl := .ret s) w5 t5 o5
  · left
    refine ⟨y1.stop i F2 H2 f2 s2 (by omega), ?_⟩
    rw [List.drop_eq_nil_of_le (by omega)] at w2
    exact w2 σ2 F2 H2 as2 t2 e2 o2 n2 s2
theorem ownOn_get (own : List Bool) (j i : Nat) : (ownOn own j).getD i false = if i = j then true else own.getD i false := by
  unfold ownOn
  rw [List.getD_eq_getElem?_getD, List.getD_eq_getElem?_getD, List.getElem?_set]
  by_cases h : j = i
  · subst h
    rw [if_pos rfl, if_pos rfl, if_pos (by rw [List.length_append, List.length_replicate]; omega)]
    rfl
  · rw [if_neg h, if_neg (fun z => h z.symm)]
    by_cases hl : i < own.length
    · rw [List.getElem?_append_left hl]
    · rw [List.getElem?_append_right (by omega), List.getElem?_eq_none (l := own) (by omega)]
      rw [List.getElem?_replicate]
      split <;> rfl
theorem OwnEq.held {own : List Bool} {j : Nat} {σ σ' : L2.St} (h : OwnEq (ownOn own j) σ σ') : OwnEq own σ σ' ∧ σ'[j]? = σ[j]? := by
  refine ⟨⟨h.1, fun i hi => h.2 i ?_⟩, h.2 j (by rw [ownOn_get, if_pos rfl])⟩
  rw [ownOn_get, hi]; simp
theorem Gd.nox (G : Gd X N sc cn W n) : Gd X.nox N sc cn (fun _ _ _ _ => False) n where
  hN := G.hN
  hw := G.hw
  nd := G.nd
  calm := G.calm
  look := G.look
  free := G.free
  fn := G.fn
  room := G.room
  gu := G.gu
  tk := fun u s' ⟨a, B, sI, pins, σ, H, cls, d, e, I, nb, up, sky, na, os, ag, w⟩ => w.elim
  po := PassesOwn.never
/-- a try whose body raises nothing -/
theorem snd_try {own : List Bool} {xb : List Stmt} {h₀ : ExceptHandler} {hs : List ExceptHandler} {r : Env → R Fl} (hb : SndSs X.nox cn (fun _ _ _ _ => False) own xb r) : SndS X cn W own (.Try xb (h₀ :: hs) [] [] pos) (fun ρ => match r ρ with
    | .exc _ _ _ => .stuck
    | r => r) := by
  intro ρ F H as σ D e nd sub w
  refine ws_of (ps_try_thru0 (t := WSs X.nox xb) pss_w) (hb ρ F H as σ D e nd sub ?_)
  cases q : r ρ with
  | ok fl ρ' =>
    simp only [q] at w
    cases fl <;> exact w
  | exc c ps ρ' => simp only [q] at w; exact w.elim
  | stuck => simp only [q] at w; exact w.elim
/-- a loop over a list that a name holds: it is held till the loop's end -/
theorem snd_forP (G : Gd X N sc cn W n) {t : T} {j : Nat} {x : Str} {pv : Pos} {sb : SL} {bs : List Stmt} (hv : VarOk N sc j x) (hg : SndG X cn W (C.hold j).own tg (evT (C.hold j) t)) (hb : SndSs X cn W (C.hold j).own bs (evSs (C.hold j) sb)) : SndS X cn W C.own (.For tg (.Name x pv) bs [] pos) (evS C (.forP t j sb)) := by
  intro ρ F H as σ D e nd sub w
  simp only [evS] at w
  cases q : getS ρ j with
  | none => rw [q] at w; exact w.elim
  | some s =>
    rw [q] at w
    cases s with
    | lst xs =>
      simp only [wp_bind] at w
      obtain ⟨q1, q2⟩ := getS_some q
      obtain ⟨v, b, a', e1, r, m, p⟩ := e.out q1 q2
      cases r with
      | @lst A vs _ hH hF rs =>
        have nd1 := p.nodup_iff.mp nd
        have hjl : j < ρ.length := (List.getElem?_eq_some_iff.mp q1).1
        refine ws_of (ps_for G.po G.calm (pi_list pe_w) pg_w pss_w (plainIt_ok rfl)) ?_
        refine we_var G hv e1 ⟨A, rfl, ⟨vs, .inl (.inl hH)⟩, ?_⟩
        -- behind the loop
        obtain ⟨k, hk⟩ : ∃ k : Fl → Env → R Fl, k = fun (fl : Fl) (ρ : Env) => (match ρ[j]? with
          | some .un => R.ok fl (ρ.set j (.lst xs))
          | _ => R.stuck) := ⟨_, rfl⟩
        replace w : (forL (fun x ρ => (evT (C.hold j) t (.dat x) ρ).bind fun _ ρ => evSs (C.hold j) sb ρ) (xs.drop 0) (ρ.set j .un)).wp (fun fl ρ => (k fl ρ).wp (FlP X C.own F H as σ D) (ExS X cn W C.own F H as σ)) (ExS X cn W C.own F H as σ) := by rw [hk]; exact w
        have back : ∀ {fl : Fl} {ρ5 σ5 F5 H5 as5}, (k fl ρ5).wp (FlP X C.own F H as σ D) (ExS X cn W C.own F H as σ) → Stp F H ([A] ++ a') F5 H5 ([A] ++ as5) → EnvR X.K F5 H5 σ5 ρ5 as5 → OwnEq (C.hold j).own σ σ5 → ([A] ++ as5).Nodup → Same F5 H5 → H5 A = some (.lst vs) → F5 A = none →
            ∃ ρ6 as6, FlP X C.own F H as σ D fl ρ6 ∧ Stp F H as F5 H5 as6 ∧ EnvR X.K F5 H5 σ5 ρ6 as6 ∧ OwnEq C.own σ σ5 ∧ as6.Nodup ∧ as6.Perm ([A] ++ as5) := by
          intro fl ρ5 σ5 F5 H5 as5 w5 t5 e5 o5 n5 s5 h5 f5
          subst hk
          simp only at w5
          split at w5
          · rename_i hu
            obtain ⟨oo, oj⟩ := o5.held
            rw [e1] at oj
            obtain ⟨as6, e6, p6⟩ := e5.fill hu oj (.lst h5 f5 (rs.mono t5.ff))
            refine ⟨_, as6, w5, (t5.pre fun b hb => p.mem_iff.mpr hb).sub fun b hb => p6.mem_iff.mp hb, e6, oo, p6.nodup_iff.mpr n5, p6⟩
          · exact w5.elim
        have t0 : Stp F H ([A] ++ a') F H ([A] ++ a') := Stp.refl
        refine ⟨fun i m σ' H' => m = xs.length - i ∧ ∃ ρ' F' as', Stp F H ([A] ++ a') F' H' ([A] ++ as') ∧ EnvR X.K F' H' σ' ρ' as' ∧ OwnEq (C.hold j).own σ σ' ∧ ([A] ++ as').Nodup ∧ Same F' H' ∧ H' A = some (.lst vs) ∧ F' A = none ∧
          (forL (fun x ρ => (evT (C.hold j) t (.dat x) ρ).bind fun _ ρ => evSs (C.hold j) sb ρ) (xs.drop i) ρ').wp (fun fl ρ => (k fl ρ).wp (FlP X C.own F H as σ D) (ExS X cn W C.own F H as σ)) (ExS X cn W C.own F H as σ), ⟨_, rfl, _, F, a', t0, m, OwnEq.refl, nd1, sub, hH, hF, w⟩, ?_⟩
        rintro i m σ2 H2 ⟨rfl, ρ2, F2, as2, t2, e2, o2, n2, s2, h2, f2, w2⟩
        have exq : ∀ {c ps ρ3 σ3 F3 H3 as3}, ExS X cn W C.own F H as σ c ps ρ3 → Stp F H ([A] ++ a') F3 H3 ([A] ++ as3) → OwnEq (C.hold j).own σ σ3 → A ∉ as3 → ExS X cn W (C.hold j).own F3 H3 as3 σ3 c ps ρ3 := by
          intro c ps ρ3 σ3 F3 H3 as3 z t3 o3 na cls d σ4 F4 H4 as4 t4 e4 o4 n4 s4 x4
          refine z cls d σ4 F4 H4 as4 ?_ e4 (o3.trans o4).held.1 n4 s4 x4
          have t34 := t3.trans (t4.frame (ts := [A]))
          exact (t34.pre fun b hb => p.mem_iff.mpr hb).sub fun b hb => List.mem_append_right _ hb
        have notin : ∀ {as3 : List Addr}, ([A] ++ as3).Nodup → A ∉ as3 := fun h => (nodup_app.mp h).2.2 A (by simp)
        have keep : ∀ {F3 H3 as3 F4 H4 as4}, Stp F3 H3 as3 F4 H4 as4 → ([A] ++ as3).Nodup → as4.Nodup → H3 A = some (.lst vs) → F3 A = none → H4 A = some (.lst vs) ∧ F4 A = none ∧ ([A] ++ as4).Nodup := by
          intro F3 H3 as3 F4 H4 as4 t n3 n4 h3 f3
          have na := notin n3
          refine ⟨t.keep _ _ h3 na, t.fnone f3 ⟨_, h3⟩ na, nodup_app.mpr ⟨by simp, n4, fun b hb => ?_⟩⟩
          simp only [List.mem_singleton] at hb
          subst hb
          exact t.apart (a := [b]) (fun c hc => by simp only [List.mem_singleton] at hc; subst hc; exact ⟨_, h3⟩) (fun c hc => by simp only [List.mem_singleton] at hc; subst hc; exact na) b (by simp)
        by_cases hlt : i < xs.length
        · right
          have hd : xs.drop i = xs[i] :: xs.drop (i + 1) := List.drop_eq_getElem_cons hlt
          rw [hd] at w2
          simp only [forL, wp_bind] at w2
          obtain ⟨z, hz, rz⟩ := rs.get (i := i) (d := xs[i]) (by rw [List.getElem?_eq_getElem hlt])
          refine ⟨⟨vs, z, .inl (.inl h2), hz⟩, fun σ' H' => ∃ m', m' < xs.length - i ∧ (m' = xs.length - (i + 1) ∧ ∃ ρ' F' as', Stp F H ([A] ++ a') F' H' ([A] ++ as') ∧ EnvR X.K F' H' σ' ρ' as' ∧ OwnEq (C.hold j).own σ σ' ∧ ([A] ++ as').Nodup ∧ Same F' H' ∧ H' A = some (.lst vs) ∧ F' A = none ∧
            (forL (fun x ρ => (evT (C.hold j) t (.dat x) ρ).bind fun _ ρ => evSs (C.hold j) sb ρ) (xs.drop (i + 1)) ρ').wp (fun fl ρ => (k fl ρ).wp (FlP X C.own F H as σ D) (ExS X cn W C.own F H as σ)) (ExS X cn W C.own F H as σ)), fun _ _ h => h, fun x H3 hx => ?_⟩
          obtain ⟨rfl, hx⟩ := hx
          have hx := hx vs (.inl (.inl h2))
          rw [hz] at hx
          cases hx
          refine hg ρ2 F2 H3 [] as2 σ2 z (.dat xs[i]) _ e2 (.dat (rz.mono t2.ff)) (nd_r n2) s2 (wp_mono w2 (fun _ ρ4 w4 σ4 F4 H4 as4 t4 e4 o4 n4 s4 => ?_) fun _ _ _ z => exq z t2 o2 (notin n2))
          have t4' : Stp F2 H3 as2 F4 H4 as4 := by simpa using t4
          obtain ⟨h4, f4, n4'⟩ := keep t4' n2 n4 h2 f2
          have t5 := t2.trans (t4'.frame (ts := [A]))
          have o5 := o2.trans o4
          refine hb ρ4 F4 H4 as4 σ4 _ e4 n4 s4 (wp_mono w4 (fun fl ρ5 w5 => ?_) fun _ _ _ z => exq z t5 o5 (notin n4'))
          have next : ∀ {σ6 : L2.St} {F6 H6 : Hp} {as6 : List Addr}, Stp F4 H4 as4 F6 H6 as6 → EnvR X.K F6 H6 σ6 ρ5 as6 → OwnEq (C.hold j).own σ4 σ6 → as6.Nodup → Same F6 H6 →
              (forL (fun x ρ => (evT (C.hold j) t (.dat x) ρ).bind fun _ ρ => evSs (C.hold j) sb ρ) (xs.drop (i + 1)) ρ5).wp (fun fl ρ => (k fl ρ).wp (FlP X C.own F H as σ D) (ExS X cn W C.own F H as σ)) (ExS X cn W C.own F H as σ) → ∃ m', m' < xs.length - i ∧ (m' = xs.length - (i + 1) ∧ ∃ ρ' F' as', Stp F H ([A] ++ a') F' H6 ([A] ++ as') ∧ EnvR X.K F' H6 σ6 ρ' as' ∧ OwnEq (C.hold j).own σ σ6 ∧ ([A] ++ as').Nodup ∧ Same F' H6 ∧ H6 A = some (.lst vs) ∧ F' A = none ∧
              (forL (fun x ρ => (evT (C.hold j) t (.dat x) ρ).bind fun _ ρ => evSs (C.hold j) sb ρ) (xs.drop (i + 1)) ρ').wp (fun fl ρ => (k fl ρ).wp (FlP X C.own F H as σ D) (ExS X cn W C.own F H as σ)) (ExS X cn W C.own F H as σ)) :=
            fun {σ6 F6 H6 as6} t6 e6 o6 n6 s6 w6 => by
              obtain ⟨h6, f6, n6'⟩ := keep t6 n4' n6 h4 f4
              exact ⟨_, by omega, rfl, ρ5, F6, as6, t5.trans (t6.frame (ts := [A])), e6, o5.trans o6, n6', s6, h6, f6, w6⟩
          cases fl with
          | nx => exact fun σ6 F6 H6 as6 t6 e6 o6 n6 s6 => next t6 e6 o6 n6 s6 w5
          | cnt => exact fun σ6 F6 H6 as6 t6 e6 o6 n6 s6 => next t6 e6 o6 n6 s6 w5
          | brk =>
            intro σ6 F6 H6 as6 t6 e6 o6 n6 s6
            obtain ⟨h6, f6, n6'⟩ := keep t6 n4' n6 h4 f4
            obtain ⟨ρ7, as7, w7, t7, e7, o7, n7, _⟩ := back w5 (t5.trans (t6.frame (ts := [A]))) e6 (o5.trans o6) n6' s6 h6 f6
            exact w7 σ6 F6 H6 as7 t7 e7 o7 n7 s6
          | ret s =>
            intro v6 σ6 F6 H6 a6 as6 t6 e6 o6 r6 n6 s6
            obtain ⟨h6, f6, n6'⟩ := keep t6 n4' n6 h4 f4
            have n6a : ([A] ++ as6).Nodup := nodup_app.mpr ⟨by simp, nd_r n6, fun b hb z => notin n6' (by simp only [List.mem_singleton] at hb; subst hb; exact List.mem_append_right _ z)⟩
            have t8 := t5.trans (t6.frame (ts := [A]))
            have t8' : Stp F H ([A] ++ a') F6 H6 ([A] ++ as6) := t8.sub fun b hb => by
              rcases List.mem_append.mp hb with z | z
              · exact List.mem_append_left _ z
              · exact List.mem_append_right _ (List.mem_append_right _ z)
            obtain ⟨ρ7, as7, w7, t7, e7, o7, n7, p7⟩ := back w5 t8' e6 (o5.trans o6) n6a s6 h6 f6
            refine w7 v6 σ6 F6 H6 a6 as7 ?_ e7 o7 r6 ?_ s6
            · refine (t8.pre fun b hb => p.mem_iff.mpr hb).sub fun b hb => ?_
              rcases List.mem_append.mp hb with z | z
              · exact List.mem_append_right _ (List.mem_append_left _ z)
              · rcases List.mem_append.mp (p7.mem_iff.mp z) with z | z
                · exact List.mem_append_left _ z
                · exact List.mem_append_right _ (List.mem_append_right _ z)
            · refine nodup_app.mpr ⟨(nodup_app.mp n6).1, n7, fun b hb z => ?_⟩
              rcases List.mem_append.mp (p7.mem_iff.mp z) with z | z
              · simp only [List.mem_singleton] at z
                subst z
                exact notin n6' (List.mem_append_left _ hb)
              · exact nd_dis n6 b hb z
        · left
          refine ⟨⟨vs, .inl (.inl h2), by rw [rs.length]; omega⟩, ?_⟩
          rw [List.drop_eq_nil_of_le (by omega)] at w2
          obtain ⟨ρ7, as7, w7, t7, e7, o7, n7, _⟩ := back w2 t2 e2 o2 n2 s2 h2 f2
          exact w7 σ2 F2 H2 as7 t7 e7 o7 n7 s2
    | un => exact w.elim
    | dat d => exact w.elim
    | dic _ _ => exact w.elim
    | ins _ _ => exact w.elim
theorem snd_while (G : Gd X N sc cn W n) {sb : SL} {bs : List Stmt} (hc : SndT X cn W xc (testE C c)) (hb : SndSs X cn W C.own bs (evSs C sb)) : SndS X cn W C.own (.While xc bs [] pos) (evS C (.whileS c sb)) := by
  intro ρ F H as σ D e nd sub w
  simp only [evS] at w
  refine ws_of (ps_while G.po pt_w pss_w) ?_
  refine ⟨fun m σ' H' => ∃ ρ' F' as', Stp F H as F' H' as' ∧ EnvR X.K F' H' σ' ρ' as' ∧ OwnEq C.own σ σ' ∧ as'.Nodup ∧ Same F' H' ∧
    (whileL (testE C c) (evSs C sb) m ρ').wp (FlP X C.own F H as σ D) (ExS X cn W C.own F H as σ), ⟨_, ρ, F, as, Stp.refl, e, OwnEq.refl, nd, sub, w⟩, ?_⟩
  rintro m σ2 H2 ⟨ρ2, F2, as2, t2, e2, o2, n2, s2, w2⟩
  cases m with
  | zero => exact w2.elim
  | succ m =>
    simp only [whileL, wp_bind] at w2
    refine hc ρ2 F2 H2 as2 σ2 _ e2 n2 s2 (wp_mono w2 (fun k ρ3 w3 F3 H3 as3 t3 e3 n3 s3 => ?_) fun _ _ _ z => z.exp t2 o2)
    have t4 := t2.trans t3
    cases k with
    | false => exact w3 σ2 F3 H3 as3 t4 e3 o2 n3 s3
    | true =>
      simp only [if_true, wp_bind] at w3
      refine ⟨fun σ' H' => ∃ m', m' < m + 1 ∧ ∃ ρ' F' as', Stp F H as F' H' as' ∧ EnvR X.K F' H' σ' ρ' as' ∧ OwnEq C.own σ σ' ∧ as'.Nodup ∧ Same F' H' ∧
        (whileL (testE C c) (evSs C sb) m' ρ').wp (FlP X C.own F H as σ D) (ExS X cn W C.own F H as σ), fun _ _ h => h, ?_⟩
      refine hb ρ3 F3 H3 as3 σ2 _ e3 n3 s3 (wp_mono w3 (fun fl ρ5 w5 => ?_) fun _ _ _ z => z.trans t4 o2)
      cases fl with
      | nx => exact fun σ6 F6 H6 as6 t6 e6 o6 n6 s6 => ⟨m, by omega, ρ5, F6, as6, t4.trans t6, e6, o2.trans o6, n6, s6, w5⟩
      | cnt => exact fun σ6 F6 H6 as6 t6 e6 o6 n6 s6 => ⟨m, by omega, ρ5, F6, as6, t4.trans t6, e6, o2.trans o6, n6, s6, w5⟩
      | brk => exact OkG.trans w5 t4 o2
      | ret s => exact FlP.trans (fl := .ret s) w5 t4 o2
end
end MP

namespace MP
open PySem PySem.Spec PyProof.Rows L2
variable [HasW]

section
variable {K : PySem.W.Frag} {F H : Hp}
/-- a slot's name is forgotten -/
theorem EnvR.drop {σ : L2.St} {ρ : Env} {a : List Addr} (r : EnvR K F H σ ρ a) : ∀ (i : Nat) (o : Option V), ∃ a' c, EnvR K F H (σ.set i o) (ρ.set i .un) a' ∧ a.Perm (c ++ a') := by
  induction r with
  | nil => exact fun i o => ⟨[], [], .nil, .refl _⟩
  | @un o0 σ0 ρ0 as0 rr ih =>
    intro i o
    cases i with
    | zero => exact ⟨as0, [], .un rr, .refl _⟩
    | succ i =>
      obtain ⟨a', c, m, p⟩ := ih i o
      exact ⟨a', c, .un m, p⟩
  | @cons v0 s0 a0 as0 σ0 ρ0 r rr ih =>
    intro i o
    cases i with
    | zero => exact ⟨as0, a0, .un rr, .refl _⟩
    | succ i =>
      obtain ⟨a', c, m, p⟩ := ih i o
      refine ⟨a0 ++ a', c, .cons r m, (List.Perm.append_left a0 p).trans ?_⟩
      rw [← List.append_assoc, ← List.append_assoc]
      exact List.Perm.append_right a' List.perm_append_comm
theorem EnvR.wipe {σ : L2.St} {ρ : Env} {a : List Addr} (r : EnvR K F H σ ρ a) : ∀ own : List Nat, ∃ a' c, EnvR K F H (L2.wipe σ own) (wipeE own ρ) a' ∧ a.Perm (c ++ a')
  | [] => ⟨a, [], r, .refl _⟩
  | i :: own => by
    obtain ⟨a', c, m, p⟩ := EnvR.wipe r own
    obtain ⟨a2, c2, m2, p2⟩ := m.drop i none
    refine ⟨a2, c ++ c2, m2, p.trans ?_⟩
    rw [List.append_assoc]
    exact List.Perm.append_left c p2
theorem wipeE_get {ρ : Env} : ∀ {own : List Nat} {i : Nat}, i ∈ own → ∀ s, (wipeE own ρ)[i]? = some s → s = .un
  | j :: own, i, h, s, e => by
    simp only [wipeE] at e
    by_cases z : j = i
    · subst z
      rw [List.getElem?_set] at e
      simp only [if_true] at e
      split at e
      · exact (Option.some.inj e).symm
      · cases e
    · rw [List.getElem?_set_ne z] at e
      rcases List.mem_cons.mp h with rfl | h
      · exact absurd rfl z
      · exact wipeE_get h s e
/-- a slot that tells nothing may have any value -/
theorem EnvR.chg {σ : L2.St} {ρ : Env} {a : List Addr} (r : EnvR K F H σ ρ a) : ∀ {σ' : L2.St}, σ'.length = σ.length → (∀ (i : Nat) (s : Sl), ρ[i]? = some s → s ≠ .un → σ'[i]? = σ[i]?) → EnvR K F H σ' ρ a := by
  induction r with
  | nil => intro σ' hl _; cases σ' with | nil => exact .nil | cons _ _ => simp at hl
  | @un o0 σ0 ρ0 as0 rr ih =>
    intro σ' hl h
    cases σ' with
    | nil => simp at hl
    | cons o' σ' => exact .un (ih (by simpa using hl) fun i s e n => by simpa using h (i + 1) s (by simpa using e) n)
  | @cons v0 s0 a0 as0 σ0 ρ0 r rr ih =>
    intro σ' hl h
    cases σ' with
    | nil => simp at hl
    | cons o' σ' =>
      have h0 := h 0 s0 (by simp) (fun z => by subst z; cases r)
      have e0 : o' = some v0 := by simpa using h0
      subst e0
      exact .cons r (ih (by simpa using hl) fun i s e n => by simpa using h (i + 1) s (by simpa using e) n)
theorem wipe_ne {σ : L2.St} : ∀ {own : List Nat} {i : Nat}, i ∉ own → (L2.wipe σ own)[i]? = σ[i]?
  | [], _, _ => rfl
  | j :: own, i, h => by
    simp only [List.mem_cons, not_or] at h
    simp only [L2.wipe]
    rw [List.getElem?_set_ne (fun z => h.1 z.symm)]
    exact wipe_ne h.2
/-- behind a comprehension -/
theorem EnvR.unwipe {σ : L2.St} {ρ : Env} {a : List Addr} {own : List Nat} (r : EnvR K F H (L2.wipe σ own) ρ a) (h : ∀ i ∈ own, ∀ s, ρ[i]? = some s → s = .un) : EnvR K F H σ ρ a :=
  r.chg (by rw [L2.wipe_length]) fun i s e n => by
    by_cases hi : i ∈ own
    · exact absurd (h i hi s e) n
    · exact (wipe_ne hi).symm
theorem wipe_idem {σ σ' : L2.St} {own : List Nat} (hl : σ'.length = σ.length) (h : ∀ i, i ∉ own → σ'[i]? = σ[i]?) : L2.wipe σ' own = L2.wipe σ own := by
  apply List.ext_getElem?
  intro i
  by_cases hi : i ∈ own
  · have key : ∀ {τ : L2.St} {own : List Nat}, i ∈ own → i < τ.length → (L2.wipe τ own)[i]? = some none := by
      intro τ own
      induction own with
      | nil => intro h; cases h
      | cons j own ih =>
        intro h hlt
        simp only [L2.wipe]
        by_cases z : j = i
        · subst z; rw [List.getElem?_set_self (by rw [L2.wipe_length]; exact hlt)]
        · rw [List.getElem?_set_ne z]
          rcases List.mem_cons.mp h with rfl | h
          · exact absurd rfl z
          · exact ih h hlt
    by_cases hlt : i < σ.length
    · rw [key hi (by omega), key hi hlt]
    · rw [List.getElem?_eq_none (by rw [L2.wipe_length]; omega), List.getElem?_eq_none (by rw [L2.wipe_length]; omega)]
  · rw [wipe_ne hi, wipe_ne hi]; exact h i hi
end
/-! the context of the block -/
theorem relab {env : PySem.Env} : ∀ {names : List (Str × NameKind)} {x : Str}, names.lookup x = some .free →
    (names.map fun (n, k) => if (k == NameKind.free && env.scope.kind == .function && env.kindOf n == some .cell) then (n, NameKind.cell) else (n, k)).lookup x = some .free ∨ (names.map fun (n, k) => if (k == NameKind.free && env.scope.kind == .function && env.kindOf n == some .cell) then (n, NameKind.cell) else (n, k)).lookup x = some .cell
  | [], _, h => by simp at h
  | (n, k) :: r, x, h => by
    have ih := @relab env r x
    cases hx : x == n with
    | true =>
      simp only [List.lookup_cons, hx, Option.some.injEq] at h
      subst h
      by_cases hc : ((NameKind.free : NameKind) == NameKind.free && env.scope.kind == .function && env.kindOf n == some .cell) = true
      · right; simp only [List.map_cons, if_pos hc, List.lookup_cons, hx]
      · left; simp only [List.map_cons, if_neg hc, List.lookup_cons, hx]
    | false =>
      simp only [List.lookup_cons, hx] at h
      by_cases hc : (k == NameKind.free && env.scope.kind == .function && env.kindOf n == some .cell) = true
      · simp only [List.map_cons, if_pos hc, List.lookup_cons, hx]; exact ih h
      · simp only [List.map_cons, if_neg hc, List.lookup_cons, hx]; exact ih h
abbrev W0 : WX := fun _ _ _ _ => False
theorem Gd.blk {X : Cx} {N : List Str} {sc : Scope} {cn : List Str} {W : WX} {n : Nat} (G : Gd X N sc cn W n) (s : Shared) (H : Hp) (scope : Scope) (cl : List (Str × Addr)) (Ca : Addr) (fp : List Addr) : Gd (X.blk s H scope (compEnvC scope cl Ca X.env) fp) N scope cn W0 n where
  hN := G.hN
  hw := G.hw
  nd := G.nd
  calm := G.calm
  look := fun x k h hk => lookup_relS_keep (sc := X.env.scope) hk h
  free := fun x h => relab h
  fn := fun x h => by show (scope.names.lookup x == some NameKind.cell) = true; rw [h]; rfl
  room := G.room
  gu := G.gu
  tk := fun u s' ⟨a, B, sI, pins, σ, H, cls, d, _, _, _, _, _, _, _, _, w⟩ => w.elim
  po := PassesOwn.never
theorem Gd.blkOk {X : Cx} {N : List Str} {sc : Scope} {cn : List Str} {W : WX} {n : Nat} (G : Gd X N sc cn W n) {scope : Scope} {own : List (Str × Nat)} (h : blkC N sc scope own = true) : BlkOk X.N X.env.scope scope own := by
  have b := blkOk_by h
  rw [G.hN]
  refine ⟨b.kind, b.uniq, b.ix, fun y hy e => ?_, b.own⟩
  rcases b.free y hy e with z | z
  · exact .inl (G.look _ _ z (by decide))
  · exact (G.free _ z).elim .inr .inl
section
variable {X : Cx} {N : List Str} {sc : Scope} {cn : List Str} {W : WX} {n : Nat} {C : Ctx} {pos : Pos} {tg xa xb xc xi elt : Expr} {a b c : E} {xs : List Expr} {es : EL} {st : Stmt} {sts : List Stmt} {s : S} {ss : SL} {scope : Scope} {own : List (Str × Nat)} {t : T} {it : It}
theorem compL_ok {f : D → Env → R (Option D)} : ∀ {xs : List D} {ρ : Env} {ok : List D → Env → Prop} {ex : Nat → List D → Env → Prop}, (compL f xs ρ).wp ok ex → ∃ r ρ', compL f xs ρ = .ok r ρ' ∧ ok r ρ' := by
  intro xs ρ ok ex h
  cases q : compL f xs ρ with
  | ok r ρ' => rw [q] at h; exact ⟨r, ρ', rfl, h⟩
  | stuck => rw [q] at h; exact h.elim
  | exc c ps ρ' =>
    exfalso
    cases xs with
    | nil => simp [compL] at q
    | cons x xs =>
      simp only [compL] at q
      split at q
      · split at q <;> cases q
      · cases q
theorem compL_cons {f : D → Env → R (Option D)} {x : D} {xs : List D} {ρ ρe : Env} {r : List D} (h : compL f (x :: xs) ρ = .ok r ρe) : ∃ o ρ1 r', f x ρ = .ok o ρ1 ∧ compL f xs ρ1 = .ok r' ρe ∧ r = o.toList ++ r' := by
  simp only [compL] at h
  split at h
  · rename_i o ρ1 h1
    split at h
    · rename_i r' ρ2 h2
      cases h
      exact ⟨o, ρ1, r', h1, h2, rfl⟩
    · cases h
  · cases h
/-- the loop of a comprehension: f is what a turn comes to -/
theorem lc_loop {gB : TG} {ttB : TT} {teB : TE} {vs : List Nat} {f : D → Env → R (Option D)} {tg : Expr} {iter : Expr} (hi : SndI X cn W tg iter (evIt C it))
    (turn : ∀ (σ : L2.St) (ρ ρ1 : Env) (F H : Hp) (as : List Addr) (x : V) (d : D) (o : Option D) (Ps : V → Hp → Prop) (Pn : Hp → Prop), EnvR X.K F H (wipe σ vs) ρ as → as.Nodup → Same F H → Rp X.K F x d → f d ρ = .ok o ρ1 →
      (∀ ov σ2 F' H' as', Stp F H as F' H' as' → EnvR X.K F' H' (wipe σ vs) ρ1 as' → as'.Nodup → Same F' H' → wipe σ2 vs = wipe σ vs → (match o, ov with | some d, some v => Rp X.K F' v d | none, none => True | _, _ => False) → (match ov with | some v => Ps v H' | none => Pn H')) →
      gB x (wipe σ vs) H fun σ2 H2 => wipe σ2 vs = wipe σ vs ∧ ttB σ2 H2 fun b H3 => if b = true then teB σ2 H3 Ps else Pn H3)
    (last : ∀ x ρ o ρ1, f x ρ = .ok o ρ1 → ∀ i ∈ vs, ∀ s, ρ1[i]? = some s → s = .un) {ρ : Env} {F H : Hp} {as : List Addr} {σ : L2.St} {Q : VK} (e : EnvR X.K F H σ ρ as) (nd : as.Nodup) (sub : Same F H)
    (w : ((evIt C it ρ).bind fun xs ρ0 => (compL f xs (wipeE vs ρ0)).bind fun r ρ => if fitsL r.length then R.ok (.lst r) ρ else .stuck).wp (OkP X F H as σ Q) (ExP X cn W F H as σ)) : tLc (WI X tg iter) gB ttB teB vs σ H Q := by
  simp only [wp_bind] at w
  refine hi ρ F H as σ _ e nd sub (wp_mono w (fun xs ρ1 w1 J F1 H1 as1 t1 e1 n1 s1 y1 => ?_) fun _ _ _ z => z)
  obtain ⟨r, ρe, hr, w2⟩ := compL_ok w1
  split at w2
  · rename_i hfit
    rw [fitsL_iff] at hfit
    intro D0 hD
    obtain ⟨asw, cw, ew, pw⟩ := e1.wipe vs
    have st0 : Stp F1 H1 [] F1 (upd H1 D0 (.lst [])) [D0] := ⟨fun _ _ e => e, fun b o e _ => same_upd hD b o e, fun b hb => by simp at hb; subst hb; exact .inr hD, fun _ _ e => .inl e⟩
    have dA : ∀ b ∈ asw, b ≠ D0 := fun b hb z => by subst z; obtain ⟨⟨o, q⟩, _⟩ := ew.there b hb; rw [hD] at q; cases q
    have ndw := (pw.nodup_iff.mp n1)
    refine ⟨fun i m H' => m = xs.length - i ∧ ∃ ρ' F' as' acc dacc r', Same F1 F' ∧ Stp F1 (upd H1 D0 (.lst [])) (D0 :: asw) F' H' (D0 :: as') ∧ EnvR X.K F' H' (wipe σ vs) ρ' as' ∧ (D0 :: as').Nodup ∧ Same F' H' ∧ H' D0 = some (.lst acc) ∧ F' D0 = none ∧ Rps X.K F' acc dacc ∧
      compL f (xs.drop i) ρ' = .ok r' ρe ∧ r = dacc ++ r' ∧ (∀ j ∈ vs, ∀ s, ρ'[j]? = some s → s = .un), ⟨_, rfl, wipeE vs ρ1, F1, asw, [], [], r, fun _ _ h => h, Stp.refl, e.wipe vs |> fun _ => ew.step st0 (fun _ _ z => by cases z), ?_, fun b o q => same_upd hD b o (s1 b o q), upd_same, fnone_of s1 hD, .nil, hr, rfl, fun j hj s hs => wipeE_get hj s hs⟩, ?_⟩
    · exact List.nodup_cons.mpr ⟨fun z => dA _ z rfl, nd_r ndw⟩
    rintro i m H2 ⟨rfl, ρ2, F2, as2, acc, dacc, r', f2, t2, e2, n2, s2, hD2, fD2, racc, hr2, hrr, hun⟩
    have n2' := List.nodup_cons.mp n2
    by_cases hlt : i < xs.length
    · right
      have hd : xs.drop i = xs[i] :: xs.drop (i + 1) := List.drop_eq_getElem_cons hlt
      rw [hd] at hr2
      obtain ⟨o, ρ3, r3, hf, hr3, rfl⟩ := compL_cons hr2
      obtain ⟨hgo, hy⟩ := y1.go i F2 H2 xs[i] f2 s2 (by rw [List.getElem?_eq_getElem hlt])
      refine ⟨hgo, fun H' => ∃ m', m' < xs.length - i ∧ (m' = xs.length - (i + 1) ∧ ∃ ρ' F' as' acc dacc r', Same F1 F' ∧ Stp F1 (upd H1 D0 (.lst [])) (D0 :: asw) F' H' (D0 :: as') ∧ EnvR X.K F' H' (wipe σ vs) ρ' as' ∧ (D0 :: as').Nodup ∧ Same F' H' ∧ H' D0 = some (.lst acc) ∧ F' D0 = none ∧ Rps X.K F' acc dacc ∧
        compL f (xs.drop (i + 1)) ρ' = .ok r' ρe ∧ r = dacc ++ r' ∧ (∀ j ∈ vs, ∀ s, ρ'[j]? = some s → s = .un)), fun _ h => h, fun x H3 hx => ?_⟩
      obtain ⟨F3, st3, s3, rx⟩ := hy x H3 hx
      have e3 := e2.step st3 fun _ _ z => by cases z
      have fr3 : Stp F2 H2 (D0 :: as2) F3 H3 (D0 :: as2) := by
        have := st3.frame (ts := D0 :: as2)
        simpa using this
      have hD3 : H3 D0 = some (.lst acc) := st3.keep _ _ hD2 (by simp)
      have fD3 : F3 D0 = none := st3.fnone fD2 ⟨_, hD2⟩ (by simp)
      refine turn σ ρ2 ρ3 F3 H3 as2 x xs[i] o _ _ e3 n2'.2 s3 rx hf ?_
      intro ov σ4 F4 H4 as4 t4 e4 n4 s4 hw hov
      have hD4 : H4 D0 = some (.lst acc) := t4.keep _ _ hD3 n2'.1
      have fD4 : F4 D0 = none := t4.fnone fD3 ⟨_, hD3⟩ n2'.1
      have nD4 : D0 ∉ as4 := t4.apart (a := [D0]) (fun b hb => by simp at hb; subst hb; exact ⟨_, hD3⟩) (fun b hb => by simp at hb; subst hb; exact n2'.1) D0 (by simp)
      have t5 : Stp F1 (upd H1 D0 (.lst [])) (D0 :: asw) F4 H4 (D0 :: as4) := t2.trans (fr3.trans (t4.frame (ts := [D0])))
      have f5 : Same F1 F4 := f2.trans (st3.ff.trans t4.ff)
      have len3 : dacc.length + (o.toList ++ r3).length ≤ 16777216 := by rw [← List.length_append, ← hrr]; exact hfit
      cases o with
      | none =>
        cases ov with
        | some _ => exact hov.elim
        | none => exact ⟨_, by omega, rfl, ρ3, F4, as4, acc, dacc, r3, f5, t5, e4, List.nodup_cons.mpr ⟨nD4, n4⟩, s4, hD4, fD4, racc.mono (st3.ff.trans t4.ff), hr3, hrr, last _ _ _ _ hf⟩
      | some d =>
        cases ov with
        | none => exact hov.elim
        | some y =>
          refine ⟨acc, hD4, by rw [racc.length, line_eq]; simp at len3; omega, _, by omega, rfl, ρ3, F4, as4, acc ++ [y], dacc ++ [d], r3, f5, ?_, ?_, List.nodup_cons.mpr ⟨nD4, n4⟩, upd_sub s4 fD4, upd_same, fD4, (racc.mono (st3.ff.trans t4.ff)).append (.cons hov .nil), hr3, by rw [hrr]; simp, last _ _ _ _ hf⟩
          · refine t5.trans ⟨fun _ _ e => e, fun b o e nb => ?_, fun _ hb => .inl hb, fun _ _ e => .inl e⟩
            rw [upd_ne (fun z => nb (by rw [z]; exact List.mem_cons_self))]; exact e
          · refine e4.step (F' := F4) (H' := upd H4 D0 (.lst (acc ++ [y]))) (as := [D0]) (as' := [D0]) ⟨fun _ _ e => e, upd_keep, fun _ hb => .inl hb, fun _ _ e => .inl e⟩ fun b hb z => ?_
            simp at z; subst z; exact nD4 hb
    · left
      refine ⟨y1.stop i F2 H2 f2 s2 (by omega), ?_⟩
      rw [List.drop_eq_nil_of_le (by omega)] at hr2
      simp only [compL] at hr2
      cases hr2
      rw [List.append_nil] at hrr
      subst hrr
      have tA : Stp F1 H1 asw F2 H2 (D0 :: as2) := by
        refine ⟨t2.ff, fun b o q nb => t2.keep b o (same_upd hD b o q) fun z => ?_, fun b hb => ?_, fun b o q => ?_⟩
        · rcases List.mem_cons.mp z with rfl | z
          · rw [hD] at q; cases q
          · exact nb z
        · rcases t2.own b hb with z | z
          · rcases List.mem_cons.mp z with rfl | z
            · exact .inr hD
            · exact .inl z
          · right
            cases q : H1 b with
            | none => rfl
            | some o => rw [same_upd hD b o q] at z; cases z
        · rcases t2.frz b o q with z | z | z
          · exact .inl z
          · rcases List.mem_cons.mp z with rfl | z
            · exact .inr (.inr hD)
            · exact .inr (.inl z)
          · right; right
            cases q : H1 b with
            | none => rfl
            | some o => rw [same_upd hD b o q] at z; cases z
      have tB : Stp F H as F2 H2 ([D0] ++ as2) := t1.trans (tA.pre fun b hb => pw.mem_iff.mpr (List.mem_append_right _ hb))
      exact w2 (.ref D0) F2 H2 [D0] as2 tB (e2.unwipe hun) (.lst hD2 fD2 racc) n2 s2
  · exact w2.elim
/-! the target, the step -/
def SndB1 (X : Cx) (vs : List Nat) (tg : Expr) (t : T) : Prop :=
  ∀ (ρ ρ' : Env) (F H : Hp) (as : List Addr) (σ : L2.St) (v : V) (d : D) (Q : L2.St → Hp → Prop), EnvR X.K F H σ ρ as → as.Nodup → Same F H → Rp X.K F v d → bindT vs t d ρ = some ρ' →
    (∀ σ' as', EnvR X.K F H σ' ρ' as' → as'.Nodup → (∀ b ∈ as', b ∈ as) → σ'.length = σ.length → (∀ i, i ∉ vs → σ'[i]? = σ[i]?) → Q σ' H) → WG X tg v σ H Q
def SndB2 (X : Cx) (vs : List Nat) (tgs : List Expr) (ts : TL) : Prop :=
  ∀ (ρ ρ' : Env) (F H : Hp) (as : List Addr) (σ : L2.St) (vl : List V) (ds : List D) (Q : L2.St → Hp → Prop), EnvR X.K F H σ ρ as → as.Nodup → Same F H → Rps X.K F vl ds → bindTs vs ts ds ρ = some ρ' →
    (∀ σ' as', EnvR X.K F H σ' ρ' as' → as'.Nodup → (∀ b ∈ as', b ∈ as) → σ'.length = σ.length → (∀ i, i ∉ vs → σ'[i]? = σ[i]?) → Q σ' H) → WGs X tgs vl σ H Q
theorem sndb_var (G : Gd X N sc cn W n) {vs : List Nat} {i : Nat} {x : Str} (hi : N[i]? = some x) (hl : locC sc x = true) : SndB1 X vs (.Name x pos) (.var i) := by
  intro ρ ρ' F H as σ v d Q e nd sub r h k
  simp only [bindT] at h
  split at h
  · rename_i hc
    cases h
    simp only [Bool.and_eq_true, List.contains_iff_mem, decide_eq_true_eq] at hc
    obtain ⟨a', c, a0, m, p1, p2⟩ := e.store (i := i) hc.2 (RpS.dat (H := H) r)
    have nd' := p1.nodup_iff.mp nd
    refine wg_of (pg_name (by rw [G.hN]; exact G.nd) (by rw [G.hN]; exact hi) (G.loc hl).1 (G.loc hl).2) ?_
    refine k _ a' m (p2.nodup_iff.mpr (by simpa using nd_r nd')) (fun b hb => p1.mem_iff.mpr (List.mem_append_right _ (by simpa using p2.mem_iff.mp hb))) (List.length_set ..) fun j hj => ?_
    rw [List.getElem?_set_ne (by rintro rfl; exact hj hc.1)]
  · cases h
theorem sndb_nil {vs : List Nat} : SndB2 X vs [] .nil := by
  intro ρ ρ' F H as σ vl ds Q e nd sub r h k
  cases r with
  | nil =>
    simp only [bindTs, Option.some.injEq] at h
    subst h
    exact wgs_of pgs_nil ⟨rfl, k σ as e nd (fun _ h => h) rfl fun _ _ => rfl⟩
  | cons _ _ => simp [bindTs] at h
theorem sndb_cons {vs : List Nat} {ts : TL} {tgs : List Expr} (hs : noStar xa = true) (ht : SndB1 X vs xa t) (hts : SndB2 X vs tgs ts) : SndB2 X vs (xa :: tgs) (.cons t ts) := by
  intro ρ ρ' F H as σ vl ds Q e nd sub r h k
  cases r with
  | nil => simp [bindTs] at h
  | @cons v vl d ds rv rvs =>
    simp only [bindTs] at h
    cases q : bindT vs t d ρ with
    | none => rw [q] at h; simp at h
    | some ρ1 =>
      rw [q] at h
      simp only [Option.bind_some] at h
      refine wgs_of (pgs_cons' hs pg_w pgs_w) ⟨v, vl, rfl, ?_⟩
      refine ht ρ ρ1 F H as σ v d _ e nd sub rv q fun σ1 as1 e1 n1 m1 l1 o1 => ?_
      exact hts ρ1 ρ' F H as1 σ1 vl ds Q e1 n1 sub rvs h fun σ2 as2 e2 n2 m2 l2 o2 => k σ2 as2 e2 n2 (fun b hb => m1 b (m2 b hb)) (l2.trans l1) fun i hi => (o2 i hi).trans (o1 i hi)
theorem sndb_tup (G : Gd X N sc cn W n) {vs : List Nat} {ts : TL} {tgs : List Expr} {j : Nat} (ns : tgs.all noStar = true) (hl : ts.len = tgs.length) (h : SndB2 X vs tgs ts) : SndB1 X vs (.Tuple tgs j pos) (.tup ts) := by
  intro ρ ρ' F H as σ v d Q e nd sub r hb k
  simp only [bindT] at hb
  split at hb
  · rename_i xs hx
    split at hb
    · rename_i hlen
      have key : ∀ vl, Rps X.K F vl xs → WGs X tgs vl σ H Q := fun vl rs => h ρ ρ' F H as σ vl xs Q e nd sub rs hb k
      unfold seqOf at hx
      split at hx
      · cases hx
        obtain ⟨p, vl, rfl, h1, rs⟩ := r.lstI
        exact wg_of (pg_unl (n := tgs.length) G.calm pgs_w (assignEach_len _) (assignEach_find _ ns)) ⟨p, vl, rfl, .inl (rd_mono sub h1), by rw [rs.length, hlen, hl], key vl rs⟩
      · cases hx
        cases r with
        | @scr p xs h1 => exact wg_of (pg_unl (n := tgs.length) G.calm pgs_w (assignEach_len _) (assignEach_find _ ns)) ⟨p, _, rfl, sqL_mono0 sub h1, by rw [List.length_map]; rw [List.length_map] at hlen; rw [hlen, hl], key _ Rps.ofInts⟩
      · cases hx
        obtain ⟨p, vl, rfl, h1, rs⟩ := r.tupI
        exact wg_of (pg_tup (n := tgs.length) G.calm pgs_w (assignEach_len _) (assignEach_find _ ns)) ⟨p, vl, rfl, sqT_mono sub h1, by rw [rs.length, hlen, hl], key vl rs⟩
      · cases hx
        cases r with
        | @pr p vl _ h1 rs => exact wg_of (pg_tup (n := tgs.length) G.calm pgs_w (assignEach_len _) (assignEach_find _ ns)) ⟨p, vl, rfl, sqT_mono sub h1, by rw [rs.length, hlen, hl], key vl rs⟩
      · cases hx
    · cases hb
  · cases hb
def blkP (X : Cx) (scope : Scope) (P : Cx → Prop) : Prop := ∀ (s : Shared) (H : Hp) (Ca : Addr) (cl : List (Str × Addr)) (fp : List Addr), P (X.blk s H scope (compEnvC scope cl Ca X.env) fp)
def gBk (X : Cx) (scope : Scope) (tg : Expr) : TG := fun x σ H Q => blkP X scope fun Y => WG Y tg x σ H Q
def teBk (X : Cx) (scope : Scope) (e : Expr) : TE := fun σ H Q => blkP X scope fun Y => WE Y e σ H Q
def ttBk (X : Cx) (scope : Scope) (e : Expr) : TT := fun σ H Q => blkP X scope fun Y => WT Y e σ H Q
theorem bind_ok {α β : Type} {r : R α} {f : α → Env → R β} {b : β} {ρ : Env} (h : r.bind f = .ok b ρ) : ∃ a ρ1, r = .ok a ρ1 ∧ f a ρ1 = .ok b ρ := by
  cases r with
  | ok a ρ1 => exact ⟨a, ρ1, rfl, h⟩
  | exc c ps ρ => cases h
  | stuck => cases h
theorem opt_ok {α β : Type} {o : Option α} {f : α → R β} {b : β} {ρ : Env} (h : R.opt o f = .ok b ρ) : ∃ a, o = some a ∧ f a = .ok b ρ := by
  cases o with
  | none => cases h
  | some a => exact ⟨a, rfl, h⟩
/-- the reading of a comprehension -/
theorem lc_comp (hi : SndI X cn W tg xi (evIt C it)) (hg : blkP X scope fun Y => SndB1 Y (own.map (·.2)) tg t) (he : blkP X scope fun Y => SndE Y cn W0 elt (evE C a)) {ρ : Env} {F H : Hp} {as : List Addr} {σ : L2.St} {Q : VK} (e : EnvR X.K F H σ ρ as) (nd : as.Nodup) (sub : Same F H)
    (w : (evE C (.comp (own.map (·.2)) a t it) ρ).wp (OkP X F H as σ Q) (ExP X cn W F H as σ)) : tLc (WI X tg xi) (gBk X scope tg) tYes (teBk X scope elt) (own.map (·.2)) σ H Q := by
  refine lc_loop hi ?_ ?_ e nd sub w
  · intro σ ρ ρ1 F H as x d o Ps Pn e nd sub rx hf k
    obtain ⟨ρa, hb, hf⟩ := opt_ok hf
    obtain ⟨s, ρb, hs, hf⟩ := bind_ok hf
    cases hf
    intro s0 H0 Ca cl fp
    refine hg s0 H0 Ca cl fp ρ ρa F H as _ x d _ e nd sub rx hb fun σ2 as2 e2 n2 m2 l2 o2 => ?_
    have hw : wipe σ2 (own.map (·.2)) = wipe σ (own.map (·.2)) := by
      refine wipe_idem (by rw [l2, wipe_length]) fun i hi => (o2 i hi).trans (wipe_ne hi)
    refine ⟨hw, ?_⟩
    show teBk X scope elt σ2 H Ps
    intro s1 H1 Ca1 cl1 fp1
    refine he s1 H1 Ca1 cl1 fp1 ρa F H as2 σ2 _ e2 n2 sub ?_
    rw [hs]
    intro v F' H' a' as' t' e' r' n' sb'
    obtain ⟨F3, t3, e3, r3, s3⟩ := freeze e' r' n' sb'
    obtain ⟨a4, c4, e4, p4⟩ := e3.wipe (own.map (·.2))
    rw [hw] at e4
    refine k (some v) σ2 F3 H' a4 ?_ e4 (nd_r (p4.nodup_iff.mp (nd_r n'))) s3 hw r3
    exact ((t'.trans t3).pre m2).sub fun b hb => p4.mem_iff.mpr (List.mem_append_right _ hb)
  · intro x ρ o ρ1 hf i hi s hs
    obtain ⟨ρa, hb, hf⟩ := opt_ok hf
    obtain ⟨s', ρb, hs', hf⟩ := bind_ok hf
    cases hf
    exact wipeE_get hi s hs
theorem lc_compIf (hi : SndI X cn W tg xi (evIt C it)) (hg : blkP X scope fun Y => SndB1 Y (own.map (·.2)) tg t) (hc : blkP X scope fun Y => SndT Y cn W0 xc (testE C c)) (he : blkP X scope fun Y => SndE Y cn W0 elt (evE C a)) {ρ : Env} {F H : Hp} {as : List Addr} {σ : L2.St} {Q : VK} (e : EnvR X.K F H σ ρ as) (nd : as.Nodup) (sub : Same F H)
    (w : (evE C (.compIf (own.map (·.2)) a t it c) ρ).wp (OkP X F H as σ Q) (ExP X cn W F H as σ)) : tLc (WI X tg xi) (gBk X scope tg) (ttBk X scope xc) (teBk X scope elt) (own.map (·.2)) σ H Q := by
  refine lc_loop hi ?_ ?_ e nd sub w
  · intro σ ρ ρ1 F H as x d o Ps Pn e nd sub rx hf k
    obtain ⟨ρa, hb, hf⟩ := opt_ok hf
    obtain ⟨b, ρb, hs, hf⟩ := bind_ok hf
    intro s0 H0 Ca cl fp
    refine hg s0 H0 Ca cl fp ρ ρa F H as _ x d _ e nd sub rx hb fun σ2 as2 e2 n2 m2 l2 o2 => ?_
    have hw : wipe σ2 (own.map (·.2)) = wipe σ (own.map (·.2)) := by
      refine wipe_idem (by rw [l2, wipe_length]) fun i hi => (o2 i hi).trans (wipe_ne hi)
    refine ⟨hw, ?_⟩
    show ttBk X scope xc σ2 H _
    intro s1 H1 Ca1 cl1 fp1
    refine hc s1 H1 Ca1 cl1 fp1 ρa F H as2 σ2 _ e2 n2 sub ?_
    rw [show testE C c ρa = .ok b ρb from hs]
    intro F3 H3 as3 t3 e3 n3 s3
    cases b with
    | false =>
      cases hf
      obtain ⟨a4, c4, e4, p4⟩ := e3.wipe (own.map (·.2))
      rw [hw] at e4
      exact k none σ2 F3 H3 a4 ((t3.pre m2).sub fun b hb => p4.mem_iff.mpr (List.mem_append_right _ hb)) e4 (nd_r (p4.nodup_iff.mp n3)) s3 hw trivial
    | true =>
      simp only [if_true] at hf ⊢
      obtain ⟨s, ρd, hs2, hf⟩ := bind_ok hf
      cases hf
      intro s5 H5 Ca5 cl5 fp5
      refine he s5 H5 Ca5 cl5 fp5 ρb F3 H3 as3 σ2 _ e3 n3 s3 ?_
      rw [hs2]
      intro v F' H' a' as' t' e' r' n' sb'
      obtain ⟨F6, t6, e6, r6, s6⟩ := freeze e' r' n' sb'
      obtain ⟨a4, c4, e4, p4⟩ := e6.wipe (own.map (·.2))
      rw [hw] at e4
      refine k (some v) σ2 F6 H' a4 ?_ e4 (nd_r (p4.nodup_iff.mp (nd_r n'))) s6 hw r6
      exact ((t3.trans (t'.trans t6)).pre m2).sub fun b hb => p4.mem_iff.mpr (List.mem_append_right _ hb)
  · intro x ρ o ρ1 hf i hi s hs
    obtain ⟨ρa, hb, hf⟩ := opt_ok hf
    obtain ⟨b, ρb, hs', hf⟩ := bind_ok hf
    cases b with
    | false => cases hf; exact wipeE_get hi s hs
    | true =>
      simp only [if_true] at hf
      obtain ⟨s', ρd, hs2, hf⟩ := bind_ok hf
      cases hf
      exact wipeE_get hi s hs
theorem snd_comp (G : Gd X N sc cn W n) (hb : blkC N sc scope own = true) (hp : plainIt xi = true) (hi : SndI X cn W tg xi (evIt C it)) (hg : blkP X scope fun Y => SndB1 Y (own.map (·.2)) tg t) (he : blkP X scope fun Y => SndE Y cn W0 elt (evE C a)) :
    SndE X cn W (.ListComp elt [⟨tg, xi, [], 0⟩] scope pos) (evE C (.comp (own.map (·.2)) a t it)) := by
  intro ρ F H as σ Q e nd sub w
  exact we_of (pe_lc G.calm (by rw [G.hN]; exact G.nd) pi_w (G.blkOk hb) (fun s H C cl fp => ⟨fun pins s' σ H v u Q I r h => h s _ C cl fp pins s' u I r⟩) (fun _ _ _ _ _ => pts_nil) (fun s H C cl fp => ⟨fun pins s' σ H' Q I h => h s H C cl fp pins s' I⟩) (plainIt_ok hp)) (lc_comp hi hg he e nd sub w)
theorem snd_compIf (G : Gd X N sc cn W n) (hb : blkC N sc scope own = true) (hp : plainIt xi = true) (hi : SndI X cn W tg xi (evIt C it)) (hg : blkP X scope fun Y => SndB1 Y (own.map (·.2)) tg t) (hc : blkP X scope fun Y => SndT Y cn W0 xc (testE C c)) (he : blkP X scope fun Y => SndE Y cn W0 elt (evE C a)) :
    SndE X cn W (.ListComp elt [⟨tg, xi, [xc], 0⟩] scope pos) (evE C (.compIf (own.map (·.2)) a t it c)) := by
  intro ρ F H as σ Q e nd sub w
  exact we_of (pe_lc G.calm (by rw [G.hN]; exact G.nd) pi_w (G.blkOk hb) (fun s H C cl fp => ⟨fun pins s' σ H v u Q I r h => h s _ C cl fp pins s' u I r⟩) (fun s H C cl fp => pts_one ⟨fun pins s' σ H' Q I h => h s H C cl fp pins s' I⟩) (fun s H C cl fp => ⟨fun pins s' σ H' Q I h => h s H C cl fp pins s' I⟩) (plainIt_ok hp)) (lc_compIf hi hg hc he e nd sub w)
/-! name = [..] -/
def swB (scope : Scope) (y : Str) (py pos : Pos) : Bool := py.line == pos.line && !(scope.names.any fun (n, k) => n == y && (k == .local || k == .cell))
theorem swaps_lc {gens : List Comprehension} {y : Str} {py : Pos} {l : Nat} {env : PySem.Env} : swapsWith (.ListComp elt gens scope pos) (some (.Name y py)) l env = pure (env.blockKind == .function && env.kindOf y == some .local && py.line == pos.line && !(scope.names.any fun (n, k) => n == y && (k == .local || k == .cell))) := rfl
/-- the two ways: at once, or as any value -/
def lcOk (sc scope : Scope) (y : Str) (py pos : Pos) : Bool := match sc.names.lookup y with
  | some .local => true
  | some .cell => true
  | _ => false
theorem Inv.block {pins : List (Addr × Obj)} {σ : L2.St} {H : Hp} {s : Shared} (I : Inv X pins σ H s) : (X.env.blockKind == .function) = true := by
  have := I.ok.kind
  unfold Env.blockKind
  rw [this]
  rfl
theorem snd_asgLc (G : Gd X N sc cn W n) {gens : List Comprehension} {i : Nat} {y : Str} {py spos : Pos} (hi : N[i]? = some y) (hl : locC sc y = true) (hp : SndE X cn W (.ListComp elt gens scope pos) (evE C a))
    (hs : X.env.scope.names.lookup y = some .local → swB scope y py pos = true → ∀ (ρ : Env) (F H : Hp) (as : List Addr) (σ : L2.St) (D : Ends), EnvR X.K F H σ ρ as → as.Nodup → Same F H → (evE C a ρ).wp (OkP X F H as σ fun x H1 => gName i x σ H1 D.nx) (ExP X cn W F H as σ) → ∀ pins s, Inv X pins σ H s →
      wpAny (model X.prog X.w) X.A (exec (.Assign [.Name y py] (.ListComp elt gens scope pos) spos) X.env) (SP X pins D) X.xe s) :
    SndS X cn W C.own (.Assign [.Name y py] (.ListComp elt gens scope pos) spos) (evS C (.asg (.var i) a)) := by
  intro ρ F H as σ D e nd sub w pins s I
  have hb := Inv.block I
  have hgv := sndg_var (C := C) (pos := py) G hi hl
  simp only [evS, wp_bind] at w
  by_cases hc : X.env.scope.names.lookup y = some .local ∧ swB scope y py pos = true
  · refine hs hc.1 hc.2 ρ F H as σ D e nd sub (wp_mono w (fun s ρ1 w1 v F1 H1 a1 as1 t1 e1 r1 n1 s1 => ?_) fun _ _ _ z => z.exp Stp.refl OwnEq.refl) pins s I
    simp only [evT] at w1
    split at w1
    · rename_i ρ2 hset
      unfold setSlot at hset
      split at hset
      · rename_i s0 h0
        split at hset
        · cases hset
        · rename_i ho
          cases hset
          obtain ⟨a', c, a0, m, p1, p2⟩ := e1.store (i := i) (List.getElem?_eq_some_iff.mp h0).1 r1
          have nd2 : (a1 ++ (c ++ a0)).Nodup := (List.Perm.append_left a1 p1).nodup_iff.mp n1
          refine w1 _ F1 H1 a' (t1.sub fun b hb => ?_) m ⟨List.length_set .., fun j hj => ?_⟩ ?_ s1
          · rcases List.mem_append.mp (p2.mem_iff.mp hb) with z | z
            · exact List.mem_append_left _ z
            · exact List.mem_append_right _ (p1.mem_iff.mpr (List.mem_append_right _ z))
          · have hne : i ≠ j := fun z => by subst z; exact ho hj
            rw [List.getElem?_set_ne hne]
          · exact p2.nodup_iff.mpr (nodup_app.mpr ⟨(nodup_app.mp nd2).1, nd_r (nd_r nd2), fun b hb z => nd_dis nd2 b hb (List.mem_append_right _ z)⟩)
      · cases hset
    · exact w1.elim
  · have hsw : swapsWithSole [.Name y py] (.ListComp elt gens scope pos) spos.line X.env = pure false := by
      show swapsWith (.ListComp elt gens scope pos) (some (.Name y py)) spos.line X.env = pure false
      rw [swaps_lc, hb]
      simp only [Env.kindOf, Bool.true_and]
      by_cases h1 : X.env.scope.names.lookup y = some .local
      · have h2 : swB scope y py pos = false := by
          cases q : swB scope y py pos with
          | false => rfl
          | true => exact absurd ⟨h1, q⟩ hc
        unfold swB at h2
        rw [h1, Bool.and_assoc, h2, Bool.and_false]
      · have h2 : (X.env.scope.names.lookup y == some NameKind.local) = false := by
          cases q : (X.env.scope.names.lookup y == some NameKind.local) with
          | false => rfl
          | true => exact absurd (eq_of_beq q) h1
        rw [h2]
        rfl
    refine (ps_asg (te := WE X (.ListComp elt gens scope pos)) (g := WG X (.Name y py)) pe_w pg_w hsw rfl rfl).run pins s σ H D I ?_
    refine hp ρ F H as σ _ e nd sub (wp_mono w (fun s ρ1 w1 v F1 H1 a1 as1 t1 e1 r1 n1 s1 => ?_) fun _ _ _ z => z.exp Stp.refl OwnEq.refl)
    refine hgv ρ1 F1 H1 a1 as1 σ v s _ e1 r1 n1 s1 (wp_mono w1 (fun _ ρ2 w2 => ?_) fun _ _ _ z => z.trans t1 OwnEq.refl)
    exact OkG.trans w2 t1 OwnEq.refl
theorem lc_true {pins : List (Addr × Obj)} {σ : L2.St} {H : Hp} {s : Shared} (I : Inv X pins σ H s) {gens : List Comprehension} {y : Str} {py spos : Pos} (h1 : X.env.scope.names.lookup y = some .local) (h2 : swB scope y py pos = true) :
    swapsWith (.ListComp elt gens scope pos) (some (.Name y py)) spos.line X.env = pure true := by
  unfold swB at h2
  rw [swaps_lc, Inv.block I]
  simp only [Env.kindOf, Bool.true_and]
  rw [h1, Bool.and_assoc, h2]
  rfl
theorem snd_setComp (G : Gd X N sc cn W n) {i : Nat} {y : Str} {py spos : Pos} (hy : N[i]? = some y) (hl : locC sc y = true) (hb : blkC N sc scope own = true) (hp : plainIt xi = true) (hi : SndI X cn W tg xi (evIt C it)) (hg : blkP X scope fun Y => SndB1 Y (own.map (·.2)) tg t) (he : blkP X scope fun Y => SndE Y cn W0 elt (evE C a)) :
    SndS X cn W C.own (.Assign [.Name y py] (.ListComp elt [⟨tg, xi, [], 0⟩] scope pos) spos) (evS C (.asg (.var i) (.comp (own.map (·.2)) a t it))) := by
  refine snd_asgLc G hy hl (snd_comp G hb hp hi hg he) fun h1 h2 ρ F H as σ D e nd sub w pins s I => ?_
  exact (ps_setLc (i := i) G.calm (by rw [G.hN]; exact G.nd) (by rw [G.hN]; exact hy) h1 (lc_true I h1 h2) pi_w (G.blkOk hb) (fun s H C cl fp => ⟨fun pins s' σ H v u Q I r h => h s _ C cl fp pins s' u I r⟩) (fun _ _ _ _ _ => pts_nil) (fun s H C cl fp => ⟨fun pins s' σ H' Q I h => h s H C cl fp pins s' I⟩) (plainIt_ok hp)).run pins s σ H D I (lc_comp hi hg he e nd sub w)
theorem snd_setCompIf (G : Gd X N sc cn W n) {i : Nat} {y : Str} {py spos : Pos} (hy : N[i]? = some y) (hl : locC sc y = true) (hb : blkC N sc scope own = true) (hp : plainIt xi = true) (hi : SndI X cn W tg xi (evIt C it)) (hg : blkP X scope fun Y => SndB1 Y (own.map (·.2)) tg t) (hc : blkP X scope fun Y => SndT Y cn W0 xc (testE C c)) (he : blkP X scope fun Y => SndE Y cn W0 elt (evE C a)) :
    SndS X cn W C.own (.Assign [.Name y py] (.ListComp elt [⟨tg, xi, [xc], 0⟩] scope pos) spos) (evS C (.asg (.var i) (.compIf (own.map (·.2)) a t it c))) := by
  refine snd_asgLc G hy hl (snd_compIf G hb hp hi hg hc he) fun h1 h2 ρ F H as σ D e nd sub w pins s I => ?_
  exact (ps_setLc (i := i) G.calm (by rw [G.hN]; exact G.nd) (by rw [G.hN]; exact hy) h1 (lc_true I h1 h2) pi_w (G.blkOk hb) (fun s H C cl fp => ⟨fun pins s' σ H v u Q I r h => h s _ C cl fp pins s' u I r⟩) (fun s H C cl fp => pts_one ⟨fun pins s' σ H' Q I h => h s H C cl fp pins s' I⟩) (fun s H C cl fp => ⟨fun pins s' σ H' Q I h => h s H C cl fp pins s' I⟩) (plainIt_ok hp)).run pins s σ H D I (lc_compIf hi hg hc he e nd sub w)
end
end MP

namespace MP
open PySem PySem.Spec PyProof.Rows L2 Builtin Builtin.Str
variable [HasW]

theorem back_pick (x : List Nat) (st : Option (Int × Tok)) (h : st.map (·.1) = some (-1)) : ((slicePicked (SX x) none none st).filterMap ((SX x).cps[·]?)).toArray = x.reverse.toArray := by
  unfold slicePicked
  rw [h]
  have e : strSliceIndices none none (-1) (SX x).length = (List.range x.toArray.size).reverse := by
    rw [← PySem.W.krv_range, ← PySem.W.krv_sliceRange]
    simp [strSliceIndices, Str.length]
  show ((strSliceIndices none none (-1) (SX x).length).filterMap (x.toArray[·]?)).toArray = _
  rw [e, List.filterMap_reverse, PySem.W.krv_all]
section
variable {X : Cx} {N : List Str} {sc : Scope} {cn : List Str} {W : WX} {n : Nat} {C : Ctx} {pos : Pos} {tg xa xb xc xi elt : Expr} {a b c : E}
def tRevS (te : TE) : TE := fun σ H Q => te σ H fun v H1 => ∃ x : List Nat, v = .str (SX x) ∧ x.length ≤ 16777216 ∧ Q (.str (SX x.reverse)) H1
theorem pe_revS {e : Expr} {te : TE} {k} {q1 q2 q3 : Pos} (he : PE X e te) : PE X (.Subscript e (.Slice none none (some (.UnaryOp .USub (.Constant (.int 1) k q1) q2)) q3) pos) (tRevS te) := by
  constructor
  intro pins s σ H Q I h
  refine Subscript_ (thn (he.run pins s σ H _ I h) fun v s1 ⟨y, H1, I1, r1, x, hy, hx, q⟩ => ?_)
  subst hy
  obtain ⟨t, rfl⟩ := r1
  have hp : PO X (some (.UnaryOp .USub (.Constant (.int 1) k q1) q2)) (tPart (tUn (rU fun i => .int (-i)) (tC (.int 1)))) := po_some (pe_un un_neg pe_int)
  refine wpAny_Slice (thn (po_none.run pins s1 σ H1 (fun o Hb => o = none ∧ Hb = H1) I1 ⟨rfl, rfl⟩) fun lv s2 ⟨ol, Hl, Il, pl, hol, hHl⟩ => ?_)
  subst hol hHl
  refine thn (po_none.run pins s2 σ Hl (fun o Hb => o = none ∧ Hb = Hl) Il ⟨rfl, rfl⟩) fun uv s3 ⟨ou, Hu, Iu, pu, hou, hHu⟩ => ?_
  subst hou hHu
  refine thn (hp.run pins s3 σ Hu (fun o Hb => o = some (-1) ∧ Hb = Hu) Iu ⟨1, rfl, -1, rfl, rfl, rfl⟩) fun sv s4 ⟨os, Hs, Is, ps, hos, hHs⟩ => ?_
  subst hos hHs
  have J : Inv X pins σ Hs { s4 with heap := s4.heap.push { cls := .type "slice", data := .fields #[lv, uv, sv] } } := Is.kept (t' := s4.toks) fun _ _ e => Heap.get?_push_of_some _ e
  obtain ⟨l1, rfl, hl1⟩ := L2.IsPart.raw pl
  obtain ⟨l2, rfl, hl2⟩ := L2.IsPart.raw pu
  obtain ⟨l3, rfl, hl3⟩ := L2.IsPart.raw ps
  cases l1 with
  | some _ => simp at hl1
  | none =>
  cases l2 with
  | some _ => simp at hl2
  | none =>
  refine tail_any (ops := [.str (SX x) t, .ref s4.heap.objs.size]) (typeIs_str _ (SX x) t) slot_str_getitem.lookup ?_ (by with_unfolding_all rfl)
  refine wpAny_getItem_str_slice (l := none) (u := none) (st := l3) ⟨_, Heap.get?_push_size _ rfl, rfl, rfl⟩ (by rw [hl3]; rfl) ?_
  unfold sliceMade
  rw [if_neg (by rw [hl3]; show ¬ (((-1 : Int) == 1) && _) = true; simp), back_pick x l3 hl3]
  refine ⟨by show x.reverse.toArray.size ≤ sizeLine; rw [List.size_toArray, List.length_reverse, line_eq]; exact hx, ?_⟩
  exact ⟨.str (SX x.reverse), Hs, J.tok _, ⟨_, rfl⟩, q⟩
def tRevT (K : PySem.W.Frag) (te : TE) : TE := fun σ H Q => te σ H fun v H1 => ∃ (a : Addr) (xs : List V), v = .ref a ∧ SqT K H1 a xs ∧ NewT H1 Q xs.reverse
theorem pe_revT {e : Expr} {te : TE} {k} {q1 q2 q3 : Pos} (he : PE X e te) : PE X (.Subscript e (.Slice none none (some (.UnaryOp .USub (.Constant (.int 1) k q1) q2)) q3) pos) (tRevT X.K te) := by
  constructor
  intro pins s σ H Q I h
  refine Subscript_ (thn (he.run pins s σ H _ I h) fun v s1 ⟨y, H1, I1, r1, a, xs, hy, hx, q⟩ => ?_)
  subst hy
  cases r1
  have hp : PO X (some (.UnaryOp .USub (.Constant (.int 1) k q1) q2)) (tPart (tUn (rU fun i => .int (-i)) (tC (.int 1)))) := po_some (pe_un un_neg pe_int)
  refine wpAny_Slice (thn (po_none.run pins s1 σ H1 (fun o Hb => o = none ∧ Hb = H1) I1 ⟨rfl, rfl⟩) fun lv s2 ⟨ol, Hl, Il, pl, hol, hHl⟩ => ?_)
  subst hol hHl
  refine thn (po_none.run pins s2 σ Hl (fun o Hb => o = none ∧ Hb = Hl) Il ⟨rfl, rfl⟩) fun uv s3 ⟨ou, Hu, Iu, pu, hou, hHu⟩ => ?_
  subst hou hHu
  refine thn (hp.run pins s3 σ Hu (fun o Hb => o = some (-1) ∧ Hb = Hu) Iu ⟨1, rfl, -1, rfl, rfl, rfl⟩) fun sv s4 ⟨os, Hs, Is, ps, hos, hHs⟩ => ?_
  subst hos hHs
  have J : Inv X pins σ Hs { s4 with heap := s4.heap.push { cls := .type "slice", data := .fields #[lv, uv, sv] } } := Is.kept (t' := s4.toks) fun _ _ e => Heap.get?_push_of_some _ e
  obtain ⟨its, rv, ht, hz⟩ := J.tuple hx
  have hl := rv.length
  refine tail_any (ops := [.ref a, .ref s4.heap.objs.size]) ht.typeIs PyProof.Rows.slot_tuple_getitem.lookup ?_ (by with_unfolding_all rfl)
  refine getItem_tup_back ht (Heap.IsSliceOf.new _ lv uv sv) pl pu ps ?_ (by omega)
  exact lay_t J rv.reverse (by rw [List.length_reverse]; exact hz) Q q
/-- tuple(reversed(t)), t a tuple -/
theorem pe_tupRevT {e : Expr} {te : TE} {p p2 pos2 : Pos} (hc : X.calm = true) (hg : Gl X "tuple") (hm : X.mg "tuple" = none) (hg2 : Gl X "reversed") (hm2 : X.mg "reversed" = none) (he : PE X e te)
    (hs : starEach [e] X.env = (false, eval e X.env) :: starEach [] X.env)
    (hs2 : starEach [.Call (.Name "reversed" p2) [e] [] pos2] X.env = (false, eval (.Call (.Name "reversed" p2) [e] [] pos2) X.env) :: starEach [] X.env := by rfl) :
    PE X (.Call (.Name "tuple" p) [.Call (.Name "reversed" p2) [e] [] pos2] [] pos) (tRevT X.K te) := by
  constructor
  intro pins s σ H Q I h
  refine Call_ (ld_blt I hg hm boot_tuple (PyProof.Rows.callWith_type1 (args_cons (Call_ (ld_blt I hg2 hm2 PyProof.Rows.boot_reversed (PyProof.Rows.callWith_type1 (args_cons (thn (he.run pins s σ H _ I h) fun u s1 ⟨v, H1, I1, r1, q1⟩ => args_nil ?_) hs) hs rfl))) hs2) hs2 rfl))
  obtain ⟨a, xs, ev, hq, q⟩ := q1
  subst ev
  obtain rfl : u = Value.ref a := r1
  obtain ⟨its, rv, ht, hz⟩ := I1.tuple hq
  have hl := rv.length
  have hz2 : its.toArray.size ≤ sizeLine := by rw [List.size_toArray]; omega
  have n63 := L2.line63
  refine RT.call_reversed_tup ht (fun A E Q k => PyProof.Rows.len_tuple ht (by omega) k) (args_nil ?_)
  generalize ho : RT.rtObj a ((its.toArray.size : Int) - 1) = o
  have k1 : ∀ b u, s1.heap.get? b = some u → (s1.heap.push o).get? b = some u := fun b u e => Heap.get?_push_of_some _ e
  have it1 : RT.IsRt (s1.heap.push o) s1.heap.objs.size a ((its.toArray.size : Int) - 1) := ⟨o, Heap.get?_push_size _ (by rw [← ho]; rfl), by rw [← ho]; rfl, by rw [← ho]; rfl⟩
  obtain ⟨f0, f1, f2, f3, f4, f5⟩ := I1.fpOk (H' := H1) (b := s1.heap.objs.size) (Nat.le_refl _) (I1.hok.fresh (Nat.le_refl _))
  have I2 : Inv X pins σ H1 { s1 with heap := s1.heap.push o, toks := s1.toks + 1 + 1 } := I1.kept (t' := s1.toks + 1 + 1) k1
  have ne : a ≠ s1.heap.objs.size := Nat.ne_of_lt ht.lt
  refine call_tup_rt (s := { s1 with heap := s1.heap.push o, toks := s1.toks + 1 + 1 }) (I1.ok.hd hc) it1 (tup_at ht fun _ e => k1 _ _ e) ne hz2 fun h' tk acc hk hi => ?_
  have I3 : Inv X pins σ H1 { s1 with heap := h', toks := tk } := I2.turned (t' := tk) (fun b o hb e => hk b o hb e) f0 f1 f3 f4 f5
  have hv := RT.vals_rev rv hi
  have z := lay_t (s := { s1 with heap := h', toks := tk }) I3 hv (by rw [List.length_reverse]; exact hz) Q q
  unfold tO at z
  rw [Array.toArray_toList] at z
  exact z
theorem snd_tupRev (G : Gd X N sc cn W n) {p p2 pos2 : Pos} (hg : glC sc "tuple" = true) (hm : X.mg "tuple" = none) (hg2 : glC sc "reversed" = true) (hm2 : X.mg "reversed" = none) (ns : noStar xa = true) (ha : SndB X cn W xa (bvOf a (evE C a))) :
    SndE X cn W (.Call (.Name "tuple" p) [.Call (.Name "reversed" p2) [xa] [] pos2] [] pos) (evE C (.bi .tupRev (.cons a .nil))) := by
  intro ρ F H as σ Q e nd sub w
  simp only [evE, evOps, wp_bind] at w
  refine we_of (pe_tupRevT G.calm (G.gl hg) hm (G.gl hg2) hm2 pe_w (starEach_cons ns)) ?_
  refine ha ρ F H as σ _ e nd sub (wp_mono w (fun x ρ1 w1 v1 F1 H1 a1 as1 t1 e1 r1 n1 s1 => ?_) fun _ _ _ z => z)
  simp only [R.bind, R.wp, views] at w1
  cases hd : x.view ρ1 with
  | none => rw [hd] at w1; exact w1.elim
  | some d =>
    rw [hd] at w1
    simp only [Option.bind_some, Option.map_some] at w1
    obtain ⟨s, hs, w2⟩ := wp_ofO w1
    cases d <;> simp only [biD, biD2, reduceCtorEq] at hs
    cases hs
    obtain ⟨q, vs, rfl, h1, rs⟩ := (r1.vw e1 hd).tup
    exact ⟨q, vs, rfl, sqT_mono s1 h1, fun p' o ho hp => OkP.new w2 (t1.sub sub_r) e1 (fun _ h => h) (nd_r n1) (New.tup ho s1 hp rs.reverse)⟩
theorem snd_rev (ha : SndB X cn W xa (bvOf a (evE C a))) {k} {q1 q2 q3 : Pos} : SndE X cn W (.Subscript xa (.Slice none none (some (.UnaryOp .USub (.Constant (.int 1) k q1) q2)) q3) pos) (evE C (.rev a)) := by
  intro ρ F H as σ Q e nd sub w
  simp only [evE] at w
  cases hr : bvOf a (evE C a) ρ with
  | stuck => rw [hr] at w; exact w.elim
  | exc c ps ρ' =>
    rw [hr] at w
    exact we_of (pe_revS pe_w) (ha ρ F H as σ _ e nd sub (by rw [hr]; exact w))
  | ok b ρ1 =>
    rw [hr] at w
    simp only [R.bind] at w
    obtain ⟨d, hd, w⟩ := wp_view w
    obtain ⟨s, hs, w⟩ := wp_ofO w
    have key : ∀ (P : VK), (∀ v F1 H1 as1, Stp F H as F1 H1 as1 → EnvR X.K F1 H1 σ ρ1 as1 → as1.Nodup → Same F1 H1 → Vw X.K F1 H1 v d → P v H1) → WE X xa σ H P := fun P h => by
      refine ha ρ F H as σ P e nd sub ?_
      rw [hr]
      intro v F1 H1 a1 as1 t1 e1 r1 n1 s1
      exact h v F1 H1 as1 (t1.sub sub_r) e1 (nd_r n1) s1 (r1.vw e1 hd)
    unfold revD at hs
    split at hs
    · cases hs
      refine we_of (pe_revL pe_w) (key _ fun v F1 H1 as1 t1 e1 n1 s1 vw => ?_)
      obtain ⟨p, vs, rfl, h1, rs⟩ := vw.lst s1
      exact ⟨p, vs, rfl, .inl h1, fun p' hp => OkP.new w t1 e1 (fun _ h => h) n1 (New.lst s1 hp rs.reverse)⟩
    · cases hs
      refine we_of (pe_revS pe_w) (key _ fun v F1 H1 as1 t1 e1 n1 s1 vw => ?_)
      obtain ⟨rfl, o, l⟩ := vw.str
      refine ⟨_, rfl, l, OkP.new w t1 e1 (fun _ h => h) n1 (New.dat s1 (.str _ ?_ (by rw [List.length_reverse]; exact l)))⟩
      unfold strOkL at o ⊢
      rw [List.all_reverse]; exact o
    · cases hs
      refine we_of (pe_revT pe_w) (key _ fun v F1 H1 as1 t1 e1 n1 s1 vw => ?_)
      obtain ⟨p, vs, rfl, h1, rs⟩ := vw.tup
      exact ⟨p, vs, rfl, sqT_mono s1 h1, fun p' o ho hp => OkP.new w t1 e1 (fun _ h => h) n1 (New.tup ho s1 hp rs.reverse)⟩
    · cases hs
end
/-! ### x op= e -/
section
variable {X : Cx} {N : List Str} {sc : Scope} {cn : List Str} {W : WX} {n : Nat} {C : Ctx} {pos : Pos} {tg xa xb xc xi elt : Expr} {a b c : E}
def rAug (op : Operator) : TIp := fun x y H Q => (∃ i j k, x = .int i ∧ y = .int j ∧ augI op i j = some k ∧ Q (.int k) H) ∨
  (op = .Add ∧ ∃ p q vs us, x = .ref p ∧ y = .ref q ∧ H p = some (.lst vs) ∧ Rd H q (.lst us) ∧ vs.length + us.length ≤ 16777216 ∧ Q (.ref p) (upd H p (.lst (vs ++ us))))
theorem ip_aug {op : Operator} : PIp X op (rAug op) := by
  intro pins s σ H x y v u Q I rx ry h
  rcases h with ⟨i, j, k, rfl, rfl, hk, q⟩ | ⟨rfl, p, r, vs, us, rfl, rfl, h1, h2, hl, q⟩
  · unfold augI at hk
    split at hk
    · cases hk; exact ip_add pins s σ H _ _ v u Q I rx ry ⟨_, _, rfl, rfl, q⟩
    · cases hk; exact ip_sub pins s σ H _ _ v u Q I rx ry ⟨_, _, rfl, rfl, q⟩
    · cases hk
  · cases rx; cases ry
    obtain ⟨_, is1, n1, r1, l1, e1⟩ := I.lstM h1
    obtain ⟨is2, n2, r2, e2, _⟩ := lstR I h2
    have l2 := r2.length
    have l1' := r1.length
    have fits : is1.toArray.size + is2.toArray.size ≤ sizeLine := by rw [List.size_toArray, List.size_toArray, line_eq]; omega
    have long : ¬ (!is1.toArray.isEmpty && Builtin.List.listTooLong (is1.toArray.size + is2.toArray.size)) = true := by
      rw [notLongL fits, Bool.and_false]; exact Bool.false_ne_true
    refine iadd_road ⟨_, e1, rfl⟩ ⟨_, e2, rfl⟩ (call_meets PySem.F.slot_list_iadd ⟨_, e1, rfl⟩ PySem.F.entry_list_iadd (PySem.F.args_list_iadd_2 _ _)
      (AutoSeq1.list___iadd___list_list_0 p is1.toArray n1 r is2.toArray n2 long (by rw [List.size_toArray, line_eq]; omega) (by rw [line_eq] at *; omega)) ⟨e1, e2, ?_⟩)
    exact ⟨.ref p, _, I.lset (its' := is1 ++ is2) (t' := s.toks) h1 e1 (by simp) (r1.append r2) (by rw [List.length_append, line_eq]; omega), rfl, q⟩
theorem set_self {ρ : Env} {i : Nat} {s : Sl} (h : ρ[i]? = some s) : ρ.set i s = ρ := by
  apply List.ext_getElem?
  intro j
  by_cases e : i = j
  · subst e; rw [List.getElem?_set_self (List.getElem?_eq_some_iff.mp h).1, h]
  · rw [List.getElem?_set_ne e]
theorem setV_self {σ : L2.St} {i : Nat} {s : Option V} (h : σ[i]? = some s) : σ.set i s = σ := by
  apply List.ext_getElem?
  intro j
  by_cases e : i = j
  · subst e; rw [List.getElem?_set_self (List.getElem?_eq_some_iff.mp h).1, h]
  · rw [List.getElem?_set_ne e]
theorem snd_augName (G : Gd X N sc cn W n) {op : Operator} {i : Nat} {x : Str} {p : Pos} (hv : N[i]? = some x) (hl : locC sc x = true) (ha : SndB X cn W xa (bvOf a (evE C a))) : SndS X cn W C.own (.AugAssign (.Name x p) op xa pos) (evS C (.aug (.var i) op a)) := by
  intro ρ F H as σ D e nd sub w
  simp only [evS] at w
  split at w
  · rename_i hj
    obtain ⟨s0, hs0⟩ := Option.isSome_iff_exists.mp hj
    obtain ⟨q1, q2⟩ := getS_some hs0
    obtain ⟨vj, bj, ej, rj, _⟩ := e.get q1 q2
    simp only [wp_bind] at w
    refine ws_of (ps_aug (by rw [G.hN]; exact G.nd) (by rw [G.hN]; exact hv) (G.loc hl).1 pe_w ip_aug (G.loc hl).2) ⟨vj, ej, ?_⟩
    refine ha ρ F H as σ _ e nd sub (wp_mono w (fun y ρ1 w1 v1 F1 H1 a1 as1 t1 e1 r1 n1 s1 => ?_) fun _ _ _ z => z.exp Stp.refl OwnEq.refl)
    obtain ⟨d, hd, w2⟩ := wp_view w1
    have vw := r1.vw e1 hd
    have t1' := t1.sub (as'' := as1) sub_r
    split at w2
    · rename_i s hs
      obtain ⟨g1, g2⟩ := getS_some hs
      obtain ⟨vj', b', ej', rj', up⟩ := place_upd (H' := H1) e1 (nd_r n1) hs
      rw [ej] at ej'; cases ej'
      split at w2
      · rename_i s' hau
        split at w2
        · exact w2.elim
        · rename_i hown
          unfold augD at hau
          split at hau
          · rename_i xs ys
            split at hau
            · rename_i hf
              cases hau
              rw [fitsL_iff] at hf
              obtain ⟨p1, vs, rfl, rfl, h1, f1, rs⟩ := rj'.lstI
              obtain ⟨p2, us, rfl, h2, rs2⟩ := vw.lst s1
              refine .inr ⟨rfl, p1, p2, vs, us, rfl, rfl, h1, h2, by rw [rs.length, rs2.length]; exact hf, ?_⟩
              obtain ⟨as3, e3, t3, n3⟩ := up (upd H1 p1 (.lst (vs ++ us))) (.lst (xs ++ ys)) (.lst upd_same f1 (rs.append rs2)) upd_keep
              have hσ : σ.set i (some (V.ref p1)) = σ := setV_self ej
              rw [hσ]
              exact w2 σ F1 _ as3 (t1'.trans t3) e3 OwnEq.refl n3 (upd_sub s1 f1)
            · cases hau
          · rename_i i' j'
            cases hk : augI op i' j' with
            | none => rw [hk] at hau; simp at hau
            | some k =>
              rw [hk] at hau
              simp only [Option.map_some, Option.some.injEq] at hau
              subst hau
              cases rj' with
              | dat rr =>
                cases rr
                cases vw.int
                refine .inl ⟨i', j', k, rfl, rfl, hk, ?_⟩
                obtain ⟨a', c, a0, m, p1, p2⟩ := e1.store (i := i) (v := .int k) (s := .dat (.int k)) (b := []) (List.getElem?_eq_some_iff.mp g1).1 (.dat (.int k))
                have nd1 := p1.nodup_iff.mp (nd_r n1)
                refine w2 _ F1 H1 a' (t1'.sub fun b hb => p1.mem_iff.mpr (List.mem_append_right _ (by simpa using p2.mem_iff.mp hb))) m ⟨List.length_set .., fun j hj => ?_⟩ (p2.nodup_iff.mpr (by simpa using nd_r nd1)) s1
                have hne : i ≠ j := fun z => by
                  subst z
                  rw [hj] at hown
                  exact hown rfl
                rw [List.getElem?_set_ne hne]
          · cases hau
      · exact w2.elim
    · exact w2.elim
  · exact w.elim
/-! x[i] op= e, a list's number -/
def rGetL (K : PySem.W.Frag) : V → V → Hp → VK → Prop := fun x y H Q => ∃ p vs i v, x = .ref p ∧ y = .int i ∧ 0 ≤ i ∧ H p = some (.lst vs) ∧ vs[i.toNat]? = some v ∧ Q v H
theorem get_l : PGet X (rGetL X.K) := by
  intro pins s σ H o i ov iv Q I ro ri h
  obtain ⟨p, vs, k, v, rfl, rfl, h0, hp, hv, q⟩ := h
  cases ro
  obtain ⟨t, rfl⟩ := ri
  obtain ⟨its, r, pl, hz⟩ := I.list (.inl (.inl hp))
  obtain ⟨w, hw, rw'⟩ := r.get hv
  have hlt : k.toNat < vs.length := (List.getElem?_eq_some_iff.mp hv).1
  have hl := r.length
  exact wpAny_getItem_list pl.isList h0 (by rw [line_eq] at hz; omega) (by simpa using hw) ⟨v, H, I, rw', q⟩
theorem aug_store {b : Expr} (h : noSl b = true) : ∀ ov iv new, augStore b ov iv new = (do holding [new, ov, iv] (setItem ov iv new); release [new, ov, iv] []; pure .next) := by
  intro ov iv new
  cases b <;> first | rfl | (simp [noSl] at h)
theorem snd_augIx (G : Gd X N sc cn W n) {op : Operator} {j : Nat} {x : Str} {p p2 : Pos} (hv : VarOk N sc j x) (hs : noSl xb = true) (hb : SndB X cn W xb (bvOf b (evE C b))) (ha : SndB X cn W xa (bvOf a (evE C a))) : SndS X cn W C.own (.AugAssign (.Subscript (.Name x p) xb p2) op xa pos) (evS C (.aug (.ix (.var j) b) op a)) := by
  intro ρ F H as σ D e nd sub w
  simp only [evS] at w
  split at w
  · rename_i hj
    obtain ⟨s0, hs0⟩ := Option.isSome_iff_exists.mp hj
    obtain ⟨q1, q2⟩ := getS_some hs0
    obtain ⟨vj, bj, ej, rj, _⟩ := e.get q1 q2
    simp only [wp_bind] at w
    refine ws_of (ps_augS pe_w pe_w get_l pe_w ip_aug set_list (aug_store hs)) (we_var G hv ej ?_)
    refine hb ρ F H as σ _ e nd sub (wp_mono w (fun z ρ1 w1 v1 F1 H1 a1 as1 t1 e1 r1 n1 s1 => ?_) fun _ _ _ z => z.exp Stp.refl OwnEq.refl)
    obtain ⟨k, hk, w2⟩ := wp_view w1
    have vk := r1.vw e1 hk
    have t1' := t1.sub (as'' := as1) sub_r
    split at w2
    · rename_i xs m hg
      split at w2
      · rename_i hm0
        split at w2
        · rename_i q hq
          obtain ⟨vj', b', ej', rj', _⟩ := place_upd (H' := H1) e1 (nd_r n1) hg
          rw [ej] at ej'; cases ej'
          obtain ⟨p1, vs, rfl, rfl, h1, f1, rs⟩ := rj'.lstI
          cases vk.int
          obtain ⟨v, hv2, rv⟩ := rs.get hq
          cases rv
          refine ⟨p1, vs, m, _, rfl, rfl, hm0, h1, hv2, ?_⟩
          simp only [wp_bind] at w2
          refine ha ρ1 F1 H1 as1 σ _ e1 (nd_r n1) s1 (wp_mono w2 (fun y ρ2 w3 v2 F2 H2 a2 as2 t2 e2 r2 n2 s2 => ?_) fun _ _ _ z => z.exp t1' OwnEq.refl)
          obtain ⟨d, hd, w4⟩ := wp_view w3
          have vd := r2.vw e2 hd
          split at w4
          · rename_i b ys hg2
            split at w4
            · rename_i hlt
              split at w4
              · rename_i c hc
                cases vd.int
                obtain ⟨vj', b', ej', rj', up⟩ := place_upd (H' := H2) e2 (nd_r n2) hg2
                rw [ej] at ej'; cases ej'
                obtain ⟨p1', vs', hp', rfl, h1', f1', rs'⟩ := rj'.lstI
                cases hp'
                refine .inl ⟨q, b, c, rfl, rfl, hc, ?_⟩
                have hix : ixN vs'.length m = some m.toNat := by
                  have hl := rs'.length
                  unfold ixN
                  rw [if_pos hm0, if_pos (by omega)]
                refine ⟨p1, vs', m, m.toNat, rfl, rfl, h1', hix, ?_⟩
                obtain ⟨as3, e3, t3, n3⟩ := up (upd H2 p1 (.lst (vs'.set m.toNat (.int c)))) (.lst (ys.set m.toNat (.int c))) (.lst upd_same f1' (rs'.set _ (.int c))) upd_keep
                exact w4 σ F2 _ as3 (t1'.trans ((t2.sub sub_r).trans t3)) e3 OwnEq.refl n3 (upd_sub s2 f1')
              · exact w4.elim
            · exact w4.elim
          · exact w4.elim
        · exact w2.elim
      · exact w2.elim
    · exact w2.elim
  · exact w.elim
end
end MP

/-! exceptions that a name keeps behind the clause that caught them -/
namespace MP
open PySem PySem.Spec PyProof.Rows L2
variable [HasW]
section
variable {X : Cx} {pins : List (Addr × Obj)} {σ : L2.St} {H : Hp} {s : Shared}
/-- an object that came to be behind the entry is told of from now on -/
theorem inv_hold {a : Addr} {oe : Obj} {o : HO} (I : Inv X pins σ H s) (ha : s.heap.get? a = some oe) (na : H a = none) (n0 : X.s_0.heap.get? a = none) (nL : a ≠ X.env.locals) (nc : ∀ v, oe.data ≠ .cell v) (np : ∀ p ∈ X.pn ++ pins, p.1 ≠ a)
    (new : ObjOk X.prog X.w (upd H a o) s.heap a o) : Inv X pins σ (upd H a o) s := by
  have ne0 : ∀ {b : Addr} {u : Obj}, X.s_0.heap.get? b = some u → b ≠ a := fun e z => by
    rw [z, n0] at e
    cases e
  have U := I.base
  refine ⟨I.ok, I.os, I.bare, ?_, I.loc, I.cell, ?_, fun y c e => ?_, fun p hp => ?_, I.hok.laidN (fun _ _ q => q) na new, I.len⟩
  · refine ⟨U.keep, U.slot, fun b u e n x => ?_, U.there, fun b xs e => ?_, fun b u xs e => ?_, fun b ps e => ?_⟩
    · rw [upd_ne (ne0 e)]; exact U.free b u e n x
    · have z := U.tups b xs e
      rw [upd_ne (ne_of_none z na)]; exact z
    · have z := U.frzs b u xs e
      rw [upd_ne (ne_of_none z na)]; exact z
    · obtain ⟨m, z⟩ := U.tbls b ps e
      exact ⟨m, by rw [upd_ne (ne_of_none z na)]; exact z⟩
  · rw [upd_ne (Ne.symm nL)]; exact I.free
  · obtain ⟨v, z⟩ := I.cell y c e
    have nca : c ≠ a := by
      rintro rfl
      obtain ⟨ob, h1, h2⟩ := z
      rw [ha] at h1
      cases h1
      exact nc _ h2
    rw [upd_ne nca]; exact I.freeC y c e
  · obtain ⟨z1, z2, z3⟩ := I.pin p hp
    exact ⟨z1, by rw [upd_ne (np p hp)]; exact z2, z3⟩
end

theorem exO_new {P : Program} {w : World} {H : Hp} {h : Heap} {a C : Addr} {oe : Obj} {vs : Array Value} (e : h.get? a = some oe) (c : oe.cls = .ref C) (d : oe.dict = none) (f : oe.data = .fields vs) : ObjOk P w H h a (exO C a) :=
  ⟨⟨oe, vs, e, c, d, f⟩, ⟨oe, e⟩, fun _ _ ⟨o, v, q, r⟩ k => ⟨o, v, k o q, r⟩⟩
/-- what is wished of the body's exception: slot i is the clause's name, slot j keeps it -/
def wHold (K : PySem.W.Frag) (c : Value) (i j : Nat) (D : Ends) : WX := fun cls d σ H => ∃ C : Addr, cls = .ref C ∧ d = none ∧ PySem.W.exmOne K cls c = some true ∧
  ∀ a, H a = none → D.nx (((σ.set i (some (.ref a))).set j (some (.ref a))).set i none) (upd H a (exO C a))
section
variable {X : Cx} {x n y : Str} {c : Value} {i j : Nat} {body : List Stmt} {np pos pos' pA pY pN : Pos} {tb : WX → TS}
theorem not_frame {h B : Heap} {l : List PySem.Env} {a : Addr} {o : Obj} {vs : Array Value} (ff : h.FunFrames B l) (e : h.get? a = some o) (dd : o.data = .fields vs) : a ∉ frs l := fun m => by
  obtain ⟨_, o2, e2, other⟩ := ff.mem m
  rw [e] at e2
  cases e2
  exact other _ dd
/-- try: body, except x as n: y = n -/
theorem ps_try_hold (st : X.stack = X.env :: X.outer) (fr : X.env.frame = some X.env.locals) (nd : X.N.Nodup) (hi : X.N[i]? = some n) (ln : X.env.kindOf n = some .local) (hj : X.N[j]? = some y) (ly : Loc X.env.scope y) (fy : X.fn y = true ∨ X.env.scope.names.lookup y = some .local) (hx : Names X x c)
    (hex : X.ex = []) (hdn : (n == ("__debug__" : Str)) = false) (hcn : (n == ("__classdict__" : Str)) = false)
    (hb : ∀ (W : WX) (pn : List (Addr × Obj)) (xe : Value → Shared → Prop), Takes (X.tr pn xe) W → PassesOwn (model X.prog X.w) X.A X.env xe → PSs (X.tr pn xe) body (tb W)) :
    PS X (.Try body [.ExceptHandler (some (.Name x np)) (some n) [.Assign [.Name y pY] (.Name n pN) pA] pos'] [] [] pos) (fun D σ H => tb (wHold X.K c i j D) D σ H) := by
  constructor
  intro pins s σ H D I todo
  have ok := I.ok
  have frames : X.A.frames = some (X.env :: X.outer) := by rw [ok.frames, st]
  have inner := (hb (wHold X.K c i j D) (X.pn ++ pins)
    (fun e t1 => wpAny (model X.prog X.w) X.A (noteFrame e X.env) (fun _ t2 => wpAny (model X.prog X.w) X.A (setFlight e none)
      (fun _ t3 => wpAny (model X.prog X.w) X.A (handleBy e X.env [.ExceptHandler (some (.Name x np)) (some n) [.Assign [.Name y pY] (.Name n pN) pA] pos']) (SP X pins D) X.xe t3) X.xe t2) X.xe t1)
    (fun u t' air => ?_) PassesOwn.looking).run [] s σ H D (I.toTry _) todo
  · refine wpAny_Try_except (wpAny_mono inner (fun fl t1 got => ?_) fun _ _ z => z)
    match fl, got with
    | .next, ⟨σ', H', J, q⟩ => exact wpAny_execs_nil ⟨σ', H', J.ofTry ok, q⟩
    | .brk, ⟨σ', H', J, q⟩ => exact ⟨σ', H', J.ofTry ok, q⟩
    | .cont, ⟨σ', H', J, q⟩ => exact ⟨σ', H', J.ofTry ok, q⟩
    | .ret u, ⟨v, σ', H', J, rel, q⟩ => exact ⟨v, σ', H', J.ofTry ok, rel, q⟩
  · obtain ⟨a, B, sI, pins', σ', H', cls, d, rfl, J', nb, up, sky, na, os, ag, C, rfl, rfl, cm, next⟩ := air
    have J : Inv X pins σ' H' sI := J'.ofTry ok
    rw [st] at sky
    refine Sky.land (s := t') Zc.steady frames fr sky fun h3 fl3 up3 => ?_
    have J3 : Inv X pins σ' H' { t' with heap := h3 } := J.landed nb fl3.1 (up.trans up3) os ag
    obtain ⟨o3, w3, at3, z3, d3⟩ := fl3.there
    have out : a ∉ frs (X.env :: X.outer) := not_frame fl3.2.2.1 at3 d3
    have nL : a ≠ X.env.locals := fun z => out (List.mem_filterMap.mpr ⟨X.env, List.mem_cons_self, by rw [fr, z]⟩)
    have nF : a ∉ X.fs := fun m => by
      obtain ⟨e, he, q⟩ := List.mem_filterMap.mp m
      exact out (List.mem_filterMap.mpr ⟨e, List.mem_cons_of_mem _ he, q⟩)
    have notI : sI.heap.get? a = none := by
      cases q : sI.heap.get? a with
      | none => rfl
      | some o =>
        have z := nb a o q (by rw [st]; exact out)
        rw [fl3.2.1] at z
        cases z
    have n0 : X.s_0.heap.get? a = none := by
      cases q : X.s_0.heap.get? a with
      | none => rfl
      | some o =>
        obtain ⟨o', z⟩ := J.base.there a o q (by rw [hex]; exact List.not_mem_nil)
        rw [notI] at z
        cases z
    have np' : ∀ p ∈ X.pn ++ pins, p.1 ≠ a := fun p hp z => by
      obtain ⟨g, _⟩ := J.pin p hp
      rw [z, notI] at g
      cases g
    have S3 := J3.suite at3 d3 na nL nF
    refine wpAny_handleBy_cons (codeAny_handlers_test ?_) (fun z => nomatch z)
    have lk : PySem.W.Looks (model X.prog X.w) h3 (typeOf (.ref a)) (.ref C) := fun A Q E t k q => wpAny_typeOf_ref (k _ _ at3) (by rw [z3.1]; exact q)
    have hit := PySem.W.exm_one (M := model X.prog X.w) J3.kIn lk cm
    have name : ∀ {Q E : Value → Shared → Prop}, Q c { t' with heap := h3 } → wpAny (model X.prog X.w) (X.A.mark (some (.ref a))) (eval (.Name x np) X.env) Q E { t' with heap := h3 } := by
      intro Q E q
      obtain ⟨hg, hd, hm | ⟨hm, hv, hnn⟩⟩ := hx
      · exact ld_glob (X := X.suite a ((a, o3) :: (X.pn ++ pins))) S3 hg hm q hd
      · exact ld_blt (X := X.suite a ((a, o3) :: (X.pn ++ pins))) S3 hg hm hv q hnn hd
    refine name (hit.here (codeAny_handlers_suite_as ?_))
    refine HandSPX.lands_againZ fl3 fun h4 fl4 up4 => ?_
    have J4 : Inv X pins σ' H' { t' with heap := h4 } := J.landed nb fl4.1 ((up.trans up3).trans up4) os ag
    obtain ⟨o4, w4, at4, z4, d4⟩ := fl4.there
    have S4 := J4.suite at4 d4 na nL nF
    refine store_ok (X := X.suite a ((a, o4) :: (X.pn ++ pins))) (v := .ref a) S4 nd hi (.inl ln) rfl (fun s5 S5 => ?_) (.inr ln)
    have hlt : i < σ'.length := by rw [J4.len]; exact (List.getElem?_eq_some_iff.mp hi).1
    have kept : PSs (X.suite a ((a, o4) :: (X.pn ++ pins))) [.Assign [.Name y pY] (.Name n pN) pA] _ :=
      pss_cons (ps_asg (X := X.suite a ((a, o4) :: (X.pn ++ pins))) (pe_var (X := X.suite a ((a, o4) :: (X.pn ++ pins))) (i := i) hi (.inl ln) hdn hcn) (pg_name (X := X.suite a ((a, o4) :: (X.pn ++ pins))) nd hj ly fy)) pss_nil
    refine wpAny_mono (kept.run [] s5 _ H' { nx := fun σ6 H6 => σ6 = (σ'.set i (some (.ref a))).set j (some (.ref a)) ∧ H6 = H', rt := fun _ _ => False, bk := fun _ _ => False, ct := fun _ _ => False } S5 ?_) (fun fl s6 got => ?_) fun _ _ z => z.elim
    · exact ⟨.ref a, by rw [List.getElem?_set_self hlt], rfl, rfl⟩
    · match fl, got with
      | .brk, ⟨_, _, _, q⟩ => exact q.elim
      | .cont, ⟨_, _, _, q⟩ => exact q.elim
      | .ret u, ⟨_, _, _, _, _, q⟩ => exact q.elim
      | .next, ⟨σ6, H6, S6, e6, e7⟩ =>
        subst e6 e7
        obtain ⟨at6, _⟩ := S6.pin (a, o4) (by simp)
        have J6 : Inv X pins _ H6 s6 := S6.unsuite ok
        have held := inv_hold J6 at6 na n0 nL (fun v z => by rw [d4] at z; cases z) np' (exO_new at6 z4.1 z4.2 d4)
        exact gone_ok held nd hi ln fun s7 J7 => ⟨_, _, J7, next a na⟩
end

/-- what the class C, of number c, must say -/
structure XF (K : PySem.W.Frag) (C : Addr) (c : Nat) : Prop where
  cls : clsA K c = some C
  mks : c ≤ 7 → PySem.W.excIn K C [.type "ValueError", .type "Exception", .type "BaseException", .type "object"] "ValueError.__new__" = true ∧ ExcC K C
  kp : PySem.W.keepIn K (.ref C) = true
  sb : PySem.W.subIn K (.ref C) (.type "BaseException") = some true
  ty : PySem.W.typeIn K (.ref C) = some (.type "type")
  hd : PySem.W.hasDictIn K C = true
  /-- under the first -/
  up : ∀ C0, clsA K 0 = some C0 → PySem.W.subIn K (.ref C) (.ref C0) = some true
  isa : c ≤ 7 → ∀ k ≤ 8, ∀ E, clsA K k = some E → PySem.W.kitOne K (.ref C) (.ref E) = some (k == 0 || k == c)
  ve : c ≤ 7 → PySem.W.kitOne K (.ref C) (.type "ValueError") = some true
/-- .. all of them -/
structure XFs (X : Cx) : Prop where
  of : ∀ c x C, cnE[c]? = some x → X.mg x = some (.ref C) → XF X.K C c
  at_ : ∀ c C, clsA X.K c = some C → XF X.K C c
theorem XFs.same {X Y : Cx} (x : XFs X) (k : Y.K = X.K) (m : Y.mg = X.mg) : XFs Y := ⟨fun c y C h1 h2 => by rw [k]; rw [m] at h2; exact x.of c y C h1 h2, fun c C h => by rw [k] at h ⊢; exact x.at_ c C h⟩
/-- a def's own context -/
structure Df (X : Cx) : Prop where
  st : X.stack = X.env :: X.outer
  fr : X.env.frame = some X.env.locals
  ex : X.ex = []
theorem Df.nox {X : Cx} (d : Df X) : Df X.nox := ⟨d.st, d.fr, d.ex⟩
theorem Df.tr {X : Cx} (d : Df X) (pn : List (Addr × Obj)) (xe : Value → Shared → Prop) : Df (X.tr pn xe) := ⟨d.st, d.fr, d.ex⟩
section
variable {X : Cx} {N : List Str} {sc : Scope} {W : WX} {nn : Nat} {C : MP.Ctx}
theorem Gd.tr {cn : List Str} (G : Gd X N sc cn W nn) {W' : WX} {pn : List (Addr × Obj)} {xe : Value → Shared → Prop} (tk : Takes (X.tr pn xe) W') (po : PassesOwn (model X.prog X.w) X.A X.env xe) : Gd (X.tr pn xe) N sc cn W' nn where
  hN := G.hN
  hw := G.hw
  nd := G.nd
  calm := G.calm
  look := G.look
  free := G.free
  fn := G.fn
  room := G.room
  gu := G.gu
  tk := tk
  po := po
/-- raise X('..') -/
theorem snd_raise (G : Gd X N sc cnE W nn) (xf : XFs X) {c : Nat} {x m : Str} {Ca : Addr} {own : List Bool} {k : Nat} {p p2 p3 pos : Pos} (hc : cnE[c]? = some x) (h7 : c ≤ 7) (hm : X.mg x = some (.ref Ca)) (hg : glC sc x = true) (hn : nmOk x = true) :
    SndS X cnE W own (.Raise (some (.Call (.Name x p) [.Constant (.str m) k p2] [] p3)) none pos) (fun ρ => .exc c [] ρ) := by
  intro ρ F H as σ D e nd sub w
  have Z := xf.of c x Ca hc hm
  refine ws_of (ps_raise G.calm G.tk (pmk_own PySem.F.excBase_ValueError (Z.mks h7).1 hm Z.kp (raises_own Z.sb Z.ty) (G.gl hg) (nmOk_d hn).1)) ?_
  exact w (.ref Ca) none σ F H as Stp.refl e OwnEq.refl nd sub ⟨x, Ca, hc, hm, rfl, .inl ⟨rfl, rfl⟩⟩
/-- one name is unset -/
theorem EnvR.unset {K : PySem.W.Frag} {F H : Hp} {σ : L2.St} {ρ : Env} {a : List Addr} (r : EnvR K F H σ ρ a) : ∀ i : Nat, ∃ a', EnvR K F H (σ.set i none) (ρ.set i .un) a' ∧ a'.Sublist a := by
  induction r with
  | nil => exact fun i => ⟨[], .nil, List.Sublist.refl _⟩
  | @un o σ0 ρ0 as0 rr ih =>
    intro i
    cases i with
    | zero => exact ⟨as0, .un rr, List.Sublist.refl _⟩
    | succ i => obtain ⟨a', m, q⟩ := ih i; exact ⟨a', .un m, q⟩
  | @cons v0 s0 a0 as0 σ0 ρ0 r rr ih =>
    intro i
    cases i with
    | zero => exact ⟨as0, .un rr, List.sublist_append_right _ _⟩
    | succ i => obtain ⟨a', m, q⟩ := ih i; exact ⟨a0 ++ a', .cons r m, (List.Sublist.refl a0).append q⟩
/-- the first class matches each of them -/
theorem xf_match (xf : XFs X) {k : Nat} {x x0 : Str} {Ca C0 : Addr} (hk : cnE[k]? = some x) (hm : X.mg x = some (.ref Ca)) (h0 : cnE[0]? = some x0) (hm0 : X.mg x0 = some (.ref C0)) : PySem.W.exmOne X.K (.ref Ca) (.ref C0) = some true := by
  have Z := xf.of k x Ca hk hm
  have Z0 := xf.of 0 x0 C0 h0 hm0
  exact PySem.W.exm_ref Z0.sb Z0.hd Z0.ty (Z.up C0 Z0.cls)
/-- try: body, except FindError as n: y = n -/
theorem snd_tryH (G : Gd X N sc cnE W nn) (df : Df X) (xf : XFs X) {x n y : Str} {C0 : Addr} {i j : Nat} {xb : List Stmt} {np pos pos' pA pY pN : Pos} {r : Env → R Fl} (h0 : cnE[0]? = some x) (hm : X.mg x = some (.ref C0)) (hg : glC sc x = true) (hx : nmOk x = true) (hn : nmOk n = true) (hi : N[i]? = some n) (ln : sc.names.lookup n = some .local) (hj : N[j]? = some y) (ly : locC sc y = true) (hij : i ≠ j)
    (hb : ∀ (W' : WX) (pn : List (Addr × Obj)) (xe : Value → Shared → Prop), Takes (X.tr pn xe) W' → PassesOwn (model X.prog X.w) X.A X.env xe → SndSs (X.tr pn xe) cnE W' C.own xb r) :
    SndS X cnE W C.own (.Try xb [.ExceptHandler (some (.Name x np)) (some n) [.Assign [.Name y pY] (.Name n pN) pA] pos'] [] [] pos) (fun ρ => match r ρ with
      | .exc k ps ρ => (match ps with
        | [] => if decide (k ≤ 7) then (if C.own.getD i false then .stuck else (match setSlot C.own j (.dat (.exn k [])) ρ with
          | some ρ => .ok .nx (ρ.set i .un)
          | none => .stuck)) else .stuck
        | _ => .stuck)
      | r => r) := by
  intro ρ F H as σ D e nd sub w
  have lk := G.look n .local ln (by decide)
  refine ws_of (ps_try_hold (c := .ref C0) (i := i) (j := j) (tb := fun W' D σ H => ∀ pn xe, Takes (X.tr pn xe) W' → PassesOwn (model X.prog X.w) X.A X.env xe → WSs (X.tr pn xe) xb D σ H) df.st df.fr (by rw [G.hN]; exact G.nd) (by rw [G.hN]; exact hi) lk (by rw [G.hN]; exact hj) (G.loc ly).1 (G.loc ly).2 ⟨G.gl hg, (nmOk_d hx).1, .inl hm⟩ df.ex (nmOk_d hn).1 (nmOk_d hn).2.1
    (fun W' pn xe tk po => ⟨fun pins s σ H D I h => h pn xe tk po pins s I⟩)) ?_
  intro pn xe tk po
  refine hb _ pn xe tk po ρ F H as σ D e nd sub ?_
  dsimp only at w
  revert w
  cases r ρ with
  | stuck => exact fun w => w.elim
  | ok fl ρ1 => intro w; cases fl <;> exact w
  | exc k ps ρ1 =>
    intro w
    cases ps with
    | cons _ _ => exact w.elim
    | nil =>
      simp only at w
      split at w
      rotate_left
      · exact w.elim
      rename_i h7
      split at w
      · exact w.elim
      rename_i oi
      split at w
      rotate_left
      · exact w.elim
      rename_i ρ2 hs
      unfold setSlot at hs
      split at hs
      rotate_left
      · cases hs
      rename_i s0 hs0
      split at hs
      · cases hs
      rename_i oj
      cases hs
      intro cls d σ' F' H' as' t' e' o' n' s' xc
      obtain ⟨z, Ca, hz, hmz, rfl, ⟨_, rfl⟩ | ⟨_, _, hh, _⟩⟩ := xc
      rotate_left
      · cases hh
      have Z := xf.of k z Ca hz hmz
      refine ⟨Ca, rfl, rfl, xf_match xf hz hmz h0 hm, fun a na => ?_⟩
      have up : Same F' (upd F' a (exO Ca a)) := same_upd (fnone_of s' na)
      have sb2 : Same (upd F' a (exO Ca a)) (upd H' a (exO Ca a)) := fun b o q => by
        by_cases z : b = a
        · subst z; rw [upd_same] at q ⊢; exact q
        · rw [upd_ne z] at q ⊢; exact s' b o q
      have t2 : Stp F' H' [] (upd F' a (exO Ca a)) (upd H' a (exO Ca a)) [] := ⟨up, fun b o q _ => same_upd na b o q, fun b hb => (by cases hb), fun b o q => by
        by_cases z : b = a
        · subst z; exact .inr (.inr na)
        · rw [upd_ne z] at q; exact .inl q⟩
      have e2 := e'.step t2 (fun b _ z => by cases z)
      have rep : RpS X.K (upd F' a (exO Ca a)) (upd H' a (exO Ca a)) (.ref a) (.dat (.exn k [])) [] := .dat (.exn Z.cls upd_same)
      obtain ⟨a1, c1, a0, e3, p1, p2⟩ := e2.store (i := j) (List.getElem?_eq_some_iff.mp hs0).1 rep
      obtain ⟨a2, e4, sl⟩ := e3.unset i
      have nd1 : a1.Nodup := by
        have := p1.nodup_iff.mp n'
        exact p2.nodup_iff.mpr (by simpa using nd_r this)
      have sub1 : ∀ b ∈ a2, b ∈ as' := fun b hb => by
        have := p2.mem_iff.mp (sl.subset hb)
        exact p1.mem_iff.mpr (List.mem_append_right _ (by simpa using this))
      have eσ : ((σ'.set i (some (V.ref a))).set j (some (V.ref a))).set i none = (σ'.set j (some (V.ref a))).set i none := by
        rw [List.set_comm _ _ hij, List.set_set]
      rw [eσ]
      have T : Stp F H as (upd F' a (exO Ca a)) (upd H' a (exO Ca a)) as' := by
        refine ⟨t'.ff.trans up, fun b o q nb => same_upd na b o (t'.keep b o q nb), t'.own, fun b o q => ?_⟩
        by_cases z : b = a
        · subst z
          by_cases hb : b ∈ as
          · exact .inr (.inl hb)
          · right; right
            cases q2 : H b with
            | none => rfl
            | some u => rw [t'.keep b u q2 hb] at na; cases na
        · rw [upd_ne z] at q
          exact t'.frz b o q
      refine w _ _ _ a2 (T.sub sub1) e4 ⟨by simpa using o'.1, fun m hm' => ?_⟩ (nd1.sublist sl) sb2
      have nj : j ≠ m := by rintro rfl; exact oj hm'
      have ni : i ≠ m := by rintro rfl; exact oi hm'
      rw [List.getElem?_set_ne ni, List.getElem?_set_ne nj]
      exact o'.2 m hm'
/-- try: body, except FindError: y = None -/
theorem snd_tryN (G : Gd X N sc cnE W nn) (df : Df X) (xf : XFs X) {x y : Str} {C0 : Addr} {j kz : Nat} {xb : List Stmt} {np pos pos' pA pY pN : Pos} {r : Env → R Fl} (h0 : cnE[0]? = some x) (hm : X.mg x = some (.ref C0)) (hg : glC sc x = true) (hx : nmOk x = true) (hj : N[j]? = some y) (ly : locC sc y = true)
    (hb : ∀ (W' : WX) (pn : List (Addr × Obj)) (xe : Value → Shared → Prop), Takes (X.tr pn xe) W' → PassesOwn (model X.prog X.w) X.A X.env xe → SndSs (X.tr pn xe) cnE W' C.own xb r) :
    SndS X cnE W C.own (.Try xb [.ExceptHandler (some (.Name x np)) none [.Assign [.Name y pY] (.Constant .none kz pN) pA] pos'] [] [] pos) (fun ρ => match r ρ with
      | .exc k ps ρ => (match ps with
        | [] => if decide (k ≤ 7) then (match setSlot C.own j (.dat .non) ρ with
          | some ρ => .ok .nx ρ
          | none => .stuck) else .stuck
        | _ => .stuck)
      | r => r) := by
  intro ρ F H as σ D e nd sub w
  refine ws_of (ps_try_only (c := .ref C0) (ts := fun _ _ _ D σ H => D.nx (σ.set j (some V.non)) H) (Wout := fun _ _ _ _ => False) (tb := fun W' D σ H => ∀ pn xe, Takes (X.tr pn xe) W' → PassesOwn (model X.prog X.w) X.A X.env xe → WSs (X.tr pn xe) xb D σ H) df.st df.fr ⟨G.gl hg, (nmOk_d hx).1, .inl hm⟩ (fun u s' ⟨_, _, _, _, _, _, _, _, _, _, _, _, _, _, _, _, z⟩ => z.elim)
    (fun W' pn xe tk po => ⟨fun pins s σ H D I h => h pn xe tk po pins s I⟩) (fun a oe cls d pn _ _ => ⟨fun pins s σ H D I h =>
      (pss_cons (ps_asg (X := X.suite a ((a, oe) :: pn)) (pe_non (X := X.suite a ((a, oe) :: pn))) (pg_name (X := X.suite a ((a, oe) :: pn)) (by show X.N.Nodup; rw [G.hN]; exact G.nd) (by show X.N[j]? = some y; rw [G.hN]; exact hj) (G.loc ly).1 (G.loc ly).2)) pss_nil).run pins s σ H D I h⟩)) ?_
  intro pn xe tk po
  refine hb _ pn xe tk po ρ F H as σ D e nd sub ?_
  dsimp only at w
  revert w
  cases r ρ with
  | stuck => exact fun w => w.elim
  | ok fl ρ1 => intro w; cases fl <;> exact w
  | exc k ps ρ1 =>
    intro w
    cases ps with
    | cons _ _ => exact w.elim
    | nil =>
      simp only at w
      split at w
      rotate_left
      · exact w.elim
      split at w
      rotate_left
      · exact w.elim
      rename_i ρ2 hs
      unfold setSlot at hs
      split at hs
      rotate_left
      · cases hs
      rename_i s0 hs0
      split at hs
      · cases hs
      rename_i oj
      cases hs
      intro cls d σ' F' H' as' t' e' o' n' s' xc
      obtain ⟨z, Ca, hz, hmz, rfl, _⟩ := xc
      refine ⟨true, xf_match xf hz hmz h0 hm, fun _ a na => ?_, fun z => by cases z⟩
      have rep : RpS X.K F' H' .non (.dat .non) [] := .dat .non
      obtain ⟨a1, c1, a0, e3, p1, p2⟩ := e'.store (i := j) (List.getElem?_eq_some_iff.mp hs0).1 rep
      have nd1 : a1.Nodup := p2.nodup_iff.mpr (by simpa using nd_r (p1.nodup_iff.mp n'))
      refine w _ _ _ a1 (t'.sub fun b hb => p1.mem_iff.mpr (List.mem_append_right _ (by simpa using p2.mem_iff.mp hb))) e3 ⟨by simpa using o'.1, fun m hm' => ?_⟩ nd1 s'
      rw [List.getElem?_set_ne (by rintro rfl; exact oj hm')]
      exact o'.2 m hm'
/-! isinstance of an exception that a name keeps -/
theorem exO_inst {pins : List (Addr × Obj)} {σ : L2.St} {H : Hp} {s : Shared} {a D : Addr} (I : Inv X pins σ H s) (ha : H a = some (exO D a)) : ∃ oe, PySem.W.InstAt s.heap a oe D none := by
  obtain ⟨⟨oe, vs, e, c, d, f⟩, _⟩ := (show ObjOk X.prog X.w H s.heap a (exO D a) from I.hok a _ ha)
  refine ⟨oe, ?_⟩
  obtain ⟨oc, od, oda, osl⟩ := oe
  dsimp only at c d f
  subst c d f
  exact ⟨e, rfl, rfl, trivial⟩
def rIsX (K : PySem.W.Frag) : List V → Hp → VK → Prop := fun xs H Q => ∃ (a D : Addr) (c : V) (u : Value) (b : Bool), xs = [.ref a, c] ∧ H a = some (exO D a) ∧ ExcC K D ∧ ClsV c u ∧ PySem.W.kitOne K (.ref D) u = some b ∧ Q (.bl b) H
def rIsXs (K : PySem.W.Frag) : List V → Hp → VK → Prop := fun xs H Q => ∃ (a D tp : Addr) (cs : List V) (us : List Value) (b : Bool), xs = [.ref a, .ref tp] ∧ H a = some (exO D a) ∧ ExcC K D ∧ H tp = some (.tup cs) ∧ Paired ClsV cs us ∧ PySem.W.kitAny K (.ref D) us = some b ∧ Q (.bl b) H
theorem call_isX : CallR X (.builtin "isinstance") (rIsX X.K) := by
  intro pins s σ H xs us Q I r h
  obtain ⟨a, D, c, u, b, rfl, ha, E, k, e, q⟩ := h
  obtain ⟨u1, u2, rfl, r1, r2⟩ := vals2 r
  cases (show u1 = Value.ref a from r1)
  obtain rfl := k.eq r2
  obtain ⟨oe, J⟩ := exO_inst I ha
  exact PySem.W.kia_one (PySem.W.handS_kitx_exc E.hg E.hk E.hs E.hd E.ha E.hn E.ht E.hm) I.kIn J e (fun z => nomatch z) fun tk => ⟨.bl b, H, I.tok tk, rfl, q⟩
theorem call_isXs : CallR X (.builtin "isinstance") (rIsXs X.K) := by
  intro pins s σ H xs us Q I r h
  obtain ⟨a, D, tp, cs, ws, b, rfl, ha, E, hT, k, e, q⟩ := h
  obtain ⟨u1, u2, rfl, r1, r2⟩ := vals2 r
  cases (show u1 = Value.ref a from r1)
  cases (show u2 = Value.ref tp from r2)
  obtain ⟨oe, J⟩ := exO_inst I ha
  obtain ⟨_, its, rv, o, h1, h2, n, h3⟩ := (show ObjOk X.prog X.w H s.heap tp (.tup cs) from I.hok tp _ hT)
  obtain rfl := ClsV.all k rv
  obtain ⟨oc, od, dt, sl⟩ := o
  simp only at h2 h3
  subst h2 h3
  exact PySem.W.kia_tup (PySem.W.handS_kitx_exc E.hg E.hk E.hs E.hd E.ha E.hn E.ht E.hm) I.kIn J h1 e (fun z => nomatch z) fun tk => ⟨.bl b, H, I.tok tk, rfl, q⟩
/-- a class as it is named: its value, and how an exception's class stands to it -/
structure ClsE (X : Cx) (sc : Scope) (k : Nat) (x : Str) (v : V) (u : Value) : Prop where
  pe : ∀ p, PE X (.Name x p) (tC v)
  cv : ClsV v u
  kit : ∀ c C, c ≤ 7 → XF X.K C c → PySem.W.kitOne X.K (.ref C) u = some (k == 0 || (k == c || k == 9))
theorem cls_own (G : Gd X N sc cnE W nn) (xf : XFs X) {k : Nat} {x : Str} {Ca : Addr} (hk : cnE[k]? = some x) (hm : X.mg x = some (.ref Ca)) (hg : glC sc x = true) (hn : nmOk x = true) : ClsE X sc k x (.ref Ca) (.ref Ca) := by
  have k8 : k ≤ 8 := by have := (List.getElem?_eq_some_iff.mp hk).1; simp [cnE] at this; omega
  refine ⟨fun p => pe_glob (G.gl hg) hm rfl (nmOk_d hn).1, .own Ca, fun c C h7 Z => ?_⟩
  rw [Z.isa h7 k k8 Ca (xf.of k x Ca hk hm).cls]
  have : (k == 9) = false := by simp; omega
  rw [this, Bool.or_false]
theorem cls_ve (G : Gd X N sc cnE W nn) (hg : glC sc "ValueError" = true) (hm : X.mg "ValueError" = none) : ClsE X sc 9 "ValueError" (.ty "ValueError") (.type "ValueError") := by
  refine ⟨fun p => pe_bltn (v := .ty "ValueError") (G.gl hg) hm (by decide +kernel) rfl (by decide) (by decide), .ty _, fun c C h7 Z => ?_⟩
  rw [Z.ve h7]
  simp
theorem snd_isiX (G : Gd X N sc cnE W nn) (xf : XFs X) {k : Nat} {x : Str} {v : V} {u : Value} {xa : Expr} {a : E} {p p2 pos : Pos} (ce : ClsE X sc k x v u) (g2 : glC sc "isinstance" = true) (m2 : X.mg "isinstance" = none) (hs : noStar xa = true)
    (ha : SndB X cnE W xa (bvOf a (evE C a))) : SndE X cnE W (.Call (.Name "isinstance" p) [xa, .Name x p2] [] pos) (evE C (.isi a (.own k))) := by
  intro ρ F H as σ Q e nd sub w
  simp only [evE, wp_bind] at w
  refine we_of (pe_callB call_isX (G.gl g2) m2 (by decide +kernel) (pa_cons pe_w (pa_cons (ce.pe p2) pa_nil (starEach_cons rfl)) (starEach_cons hs)) (by decide) (by decide) (starEach_cons hs) (by rw [starEach_cons rfl]; rfl)) ?_
  refine ha ρ F H as σ _ e nd sub (wp_mono w (fun x ρ1 w1 v1 F1 H1 a1 as1 t1 e1 r1 n1 s1 => ?_) fun _ _ _ z => z)
  obtain ⟨d, hd, w2⟩ := wp_view w1
  obtain ⟨s, hs, w2⟩ := wp_ofO w2
  have rp := (r1.vw e1 hd).rp s1
  cases d with
  | exn c ps =>
    cases rp with
    | @exn b Cb _ hc hb =>
      simp only [isiD] at hs
      split at hs
      rotate_left
      · simp at hs
      rename_i h7
      simp only [Bool.and_eq_true, decide_eq_true_eq] at h7
      simp only [Option.map_some, Option.some.injEq] at hs
      subst hs
      have Z := xf.at_ c Cb hc
      exact ⟨b, Cb, v, u, _, rfl, hb, (Z.mks h7.1).2, ce.cv, ce.kit c Cb h7.1 Z, OkP.new w2 (t1.sub sub_r) e1 (fun _ h => h) (nd_r n1) (New.dat s1 (.bl _))⟩
  | _ => first | (simp [isiD] at hs; done)
/-- a row of classes: the names' values, and how an exception's class stands to them -/
inductive ClsEs (X : Cx) (sc : Scope) : List Nat → List Expr → List V → List Value → Prop where
  | nil : ClsEs X sc [] [] [] []
  | cons {k : Nat} {x : Str} {v : V} {u : Value} {p : Pos} {ks : List Nat} {xs : List Expr} {vs : List V} {us : List Value} : ClsE X sc k x v u → ClsEs X sc ks xs vs us → ClsEs X sc (k :: ks) (.Name x p :: xs) (v :: vs) (u :: us)
theorem ClsEs.len {sc : Scope} : ∀ {ks : List Nat} {xs : List Expr} {vs : List V} {us : List Value}, ClsEs X sc ks xs vs us → vs.length = ks.length
  | _, _, _, _, .nil => rfl
  | _, _, _, _, .cons _ t => by simp [t.len]
theorem ClsEs.pa {sc : Scope} : ∀ {ks : List Nat} {xs : List Expr} {vs : List V} {us : List Value}, ClsEs X sc ks xs vs us → ∃ t : TA, PA X xs t ∧ ∀ σ H Q, Q vs H → t σ H Q
  | _, _, _, _, .nil => ⟨_, pa_nil, fun _ _ _ h => h⟩
  | _, _, _, _, .cons (p := p) c t => by
    obtain ⟨t', h1, h2⟩ := t.pa
    exact ⟨_, pa_cons (c.pe p) h1 (starEach_cons rfl), fun σ H Q q => h2 σ H _ q⟩
theorem ClsEs.cv {sc : Scope} : ∀ {ks : List Nat} {xs : List Expr} {vs : List V} {us : List Value}, ClsEs X sc ks xs vs us → Paired ClsV vs us
  | _, _, _, _, .nil => .nil
  | _, _, _, _, .cons c t => .cons c.cv t.cv
theorem ClsEs.kit {sc : Scope} {c : Nat} {C : Addr} (h7 : c ≤ 7) (Z : XF X.K C c) : ∀ {ks : List Nat} {xs : List Expr} {vs : List V} {us : List Value}, ClsEs X sc ks xs vs us → (∀ k ∈ ks, k ≤ 8) → PySem.W.kitAny X.K (.ref C) us = some (ks.any fun k => k == 0 || k == c)
  | _, _, _, _, .nil, _ => rfl
  | _, _, _, _, .cons (k := k) (ks := ks) e t, h => by
    have r := t.kit h7 Z fun k hk => h k (List.mem_cons_of_mem _ hk)
    have h8 := h k List.mem_cons_self
    rw [PySem.W.kitAny, e.kit c C h7 Z, List.any_cons]
    have : (k == 9) = false := by simp; omega
    rw [this, Bool.or_false]
    cases hb : (k == 0 || k == c) with
    | true => rfl
    | false => exact r
theorem snd_isiXs (G : Gd X N sc cnE W nn) (xf : XFs X) {ks : List Nat} {xs : List Expr} {vs : List V} {us : List Value} {xa : Expr} {a : E} {j : Nat} {p p2 pos : Pos} (ce : ClsEs X sc ks xs vs us) (h8 : ∀ k ∈ ks, k ≤ 8) (hl : ks.length ≤ 100) (g2 : glC sc "isinstance" = true) (m2 : X.mg "isinstance" = none) (hs : noStar xa = true)
    (ha : SndB X cnE W xa (bvOf a (evE C a))) : SndE X cnE W (.Call (.Name "isinstance" p) [xa, .Tuple xs j p2] [] pos) (evE C (.isi a (.owns ks))) := by
  intro ρ F H as σ Q e nd sub w
  simp only [evE, wp_bind] at w
  obtain ⟨ta, pa, hta⟩ := ce.pa
  refine we_of (pe_callB call_isXs (G.gl g2) m2 (by decide +kernel) (pa_cons pe_w (pa_cons (pe_tup pa) pa_nil (starEach_cons rfl)) (starEach_cons hs)) (by decide) (by decide) (starEach_cons hs) (by rw [starEach_cons rfl]; rfl)) ?_
  refine ha ρ F H as σ _ e nd sub (wp_mono w (fun x ρ1 w1 v1 F1 H1 a1 as1 t1 e1 r1 n1 s1 => ?_) fun _ _ _ z => z)
  obtain ⟨d, hd, w2⟩ := wp_view w1
  obtain ⟨s, hs, w2⟩ := wp_ofO w2
  have rp := (r1.vw e1 hd).rp s1
  cases d with
  | exn c ps =>
    cases rp with
    | @exn b Cb _ hc hb =>
      simp only [isiD] at hs
      split at hs
      rotate_left
      · simp at hs
      rename_i h7
      simp only [Bool.and_eq_true, decide_eq_true_eq] at h7
      simp only [Option.map_some, Option.some.injEq] at hs
      subst hs
      have Z := xf.at_ c Cb hc
      refine hta _ _ _ ⟨by rw [ce.len, line_eq]; omega, fun q hq => ?_⟩
      have sm : Same H1 (upd H1 q (.tup vs)) := same_upd hq
      exact ⟨b, Cb, q, vs, us, _, rfl, sm _ _ hb, (Z.mks h7.1).2, upd_same, ce.cv, ce.kit h7.1 Z h8, OkP.new w2 (t1.sub sub_r) e1 (fun _ h => h) (nd_r n1) ⟨.dat (.bl _), ⟨fun _ _ h => h, fun b o e _ => sm b o e, fun b hb => (by cases hb), fun b o e => .inl e⟩, .nil, fun x o h => sm _ _ (s1 x o h)⟩⟩
  | _ => first | (simp [isiD] at hs; done)
end
end MP

/-! instances of own classes: fields, methods, making -/
namespace MP
open PySem PySem.Spec PyProof.Rows L2
variable [HasW]
theorem look_at : ∀ {fs : List (Str × V)} {k : Nat} {y : Str} {v : V}, (fs.map (·.1)).Nodup → fs[k]? = some (y, v) → fs.lookup y = some v
  | [], k, y, v, _, h => by simp at h
  | (z, u) :: fs, 0, y, v, _, h => by
    simp only [List.getElem?_cons_zero, Option.some.injEq, Prod.mk.injEq] at h
    obtain ⟨rfl, rfl⟩ := h
    simp [List.lookup]
  | (z, u) :: fs, k + 1, y, v, nd, h => by
    simp only [List.map_cons, List.nodup_cons] at nd
    have h' : fs[k]? = some (y, v) := by simpa using h
    have ne : y ≠ z := fun e => nd.1 (by rw [← e]; exact List.mem_map.mpr ⟨_, List.mem_of_getElem? h', rfl⟩)
    rw [List.lookup, beq_false_of_ne ne]
    exact look_at nd.2 h'
theorem nodup_idx : ∀ {l : List Str} {i j : Nat} {y : Str}, l.Nodup → l[i]? = some y → l[j]? = some y → i = j
  | [], i, j, y, _, h, _ => by simp at h
  | z :: l, 0, 0, y, _, _, _ => rfl
  | z :: l, 0, j + 1, y, nd, h, k => by
    simp only [List.nodup_cons] at nd
    simp only [List.getElem?_cons_zero, Option.some.injEq] at h
    subst h
    exact absurd (List.mem_of_getElem? (by simpa using k)) nd.1
  | z :: l, i + 1, 0, y, nd, h, k => by
    simp only [List.nodup_cons] at nd
    simp only [List.getElem?_cons_zero, Option.some.injEq] at k
    subst k
    exact absurd (List.mem_of_getElem? (by simpa using h)) nd.1
  | z :: l, i + 1, j + 1, y, nd, h, k => by
    simp only [List.nodup_cons] at nd
    rw [nodup_idx nd.2 (i := i) (j := j) (y := y) (by simpa using h) (by simpa using k)]
theorem look_none {fs : List (Str × V)} {y : Str} (h : y ∉ fs.map (·.1)) : fs.lookup y = none := by
  induction fs with
  | nil => rfl
  | cons p fs ih =>
    obtain ⟨z, u⟩ := p
    simp only [List.map_cons, List.mem_cons, not_or] at h
    rw [List.lookup, beq_false_of_ne h.1]
    exact ih h.2
/-- the fields' names, those that are there -/
theorem names_at {c k : Nat} {y : Str} {fs : List (Str × V)} {u : V} (hk : (fdN c)[k]? = some y) (m : fs.map (·.1) = (fdN c).take fs.length) (h : (fs.map (·.2))[k]? = some u) : fs[k]? = some (y, u) := by
  rw [List.getElem?_map] at h
  cases q : fs[k]? with
  | none => rw [q] at h; simp at h
  | some p =>
    rw [q] at h
    simp only [Option.map_some, Option.some.injEq] at h
    have hlt := (List.getElem?_eq_some_iff.mp q).1
    have e : (fs.map (·.1))[k]? = some p.1 := by rw [List.getElem?_map, q]; rfl
    rw [m, List.getElem?_take, if_pos hlt, hk] at e
    obtain ⟨a, b⟩ := p
    simp only [Option.some.injEq] at e
    rw [e, ← h]
theorem RBv.slot {K : PySem.W.Frag} {F H : Hp} {σ : L2.St} {v : V} {b : Bv} {a as : List Addr} {ρ : Env} {s : Sl} (r : RBv K F H σ v b a) (e : EnvR K F H σ ρ as) (h : b.slot ρ = some s) : ∃ c, RpS K F H v s c := by
  cases r with
  | @pl i v hi =>
    simp only [Bv.slot] at h
    obtain ⟨q1, q2⟩ := getS_some h
    obtain ⟨v', c, e1, r, _⟩ := e.get q1 q2
    rw [hi] at e1; cases e1
    exact ⟨c, r⟩
  | tmp r =>
    simp only [Bv.slot, Option.some.injEq] at h
    subst h
    exact ⟨_, r⟩
theorem RpSs.get {K : PySem.W.Frag} {F H : Hp} {vs : List V} {ss : List Sl} {a : List Addr} (r : RpSs K F H vs ss a) : ∀ {k : Nat} {s : Sl}, ss[k]? = some s → ∃ v b, vs[k]? = some v ∧ RpS K F H v s b := by
  induction r using RpSs.ind with
  | nil => intro k s h; simp at h
  | @cons v s a as vs ss r _ ih =>
    intro k s' h
    cases k with
    | zero => simp at h; subst h; exact ⟨v, a, rfl, r⟩
    | succ k => obtain ⟨v', b, e, q⟩ := ih (k := k) (by simpa using h); exact ⟨v', b, by simpa using e, q⟩
theorem fld_ok {K : PySem.W.Frag} {F H : Hp} {v : V} {s : Sl} {b : List Addr} {c k : Nat} {y : Str} {d : D} (sub : Same F H) (hk : (fdN c)[k]? = some y) (nd : (fdN c).Nodup) (r : RpS K F H v s b) (h : fldS c k s = some d) :
    ∃ a C dx fs u, v = .ref a ∧ H a = some (.ins C dx fs) ∧ clsI K c = some C ∧ fs.lookup y = some u ∧ Rp K F u d := by
  have ndm : ∀ {fs : List (Str × V)}, fs.map (·.1) = (fdN c).take fs.length → (fs.map (·.1)).Nodup := fun m => by rw [m]; exact nd.sublist (List.take_sublist _ _)
  unfold fldS at h
  split at h
  · rename_i c' ss
    split at h
    · rename_i e
      subst e
      split at h
      · rename_i d' hd
        cases h
        cases r with
        | ins hc e1 _ _ _ m rr =>
          obtain ⟨u, b', hu, ru⟩ := rr.get hd
          cases ru with
          | dat ru => exact ⟨_, _, _, _, u, rfl, e1, hc, look_at (ndm m) (names_at hk m hu), ru⟩
      · cases h
    · cases h
  · rename_i c' vs
    split at h
    · rename_i e
      subst e
      cases r with
      | dat r =>
        cases r with
        | obj hc e1 m rr =>
          obtain ⟨u, hu, ru⟩ := rr.get h
          exact ⟨_, _, _, _, u, rfl, sub _ _ e1, hc, look_at (ndm m) (names_at hk m hu), ru⟩
    · cases h
  · cases h
theorem obj_ok {K : PySem.W.Frag} {F H : Hp} {v : V} {s : Sl} {b : List Addr} {c : Nat} (sub : Same F H) (r : RpS K F H v s b) (h : objB c s = true) : ∃ a C dx fs, v = .ref a ∧ H a = some (.ins C dx fs) ∧ clsI K c = some C ∧ ∀ y, y ∉ fdN c → fs.lookup y = none := by
  have no : ∀ {fs : List (Str × V)}, fs.map (·.1) = (fdN c).take fs.length → ∀ y, y ∉ fdN c → fs.lookup y = none := fun m y hy => look_none (by rw [m]; exact fun z => hy (List.mem_of_mem_take z))
  unfold objB at h
  split at h
  · simp only [decide_eq_true_eq] at h
    subst h
    cases r with
    | ins hc e1 _ _ _ m _ => exact ⟨_, _, _, _, rfl, e1, hc, no m⟩
  · simp only [decide_eq_true_eq] at h
    subst h
    cases r with
    | dat r =>
      cases r with
      | obj hc e1 m _ => exact ⟨_, _, _, _, rfl, sub _ _ e1, hc, no m⟩
  · cases h
/-- what a class must say -/
structure ClsK (K : PySem.W.Frag) (c : Nat) : Prop where
  cls : ∀ C, clsI K c = some C → Cls K C ∧ ∀ y ∈ fdN c, NoAttr K C y
  nd : (fdN c).Nodup
section
variable {X : Cx} {N : List Str} {sc : Scope} {cn : List Str} {W : WX} {n : Nat} {C : Ctx} {pos : Pos} {xa xb : Expr} {a b : E} {xs : List Expr} {es : EL} {c k : Nat} {y : Str}
/-- o.y -/
theorem snd_fld (hc : ClsK X.K c) (hk : (fdN c)[k]? = some y) (hat : atOk xa = true) (ha : SndB X cn W xa (bvOf a (evE C a))) : SndE X cn W (.Attribute xa y pos) (evE C (.fld a c k)) := by
  intro ρ F H as σ Q e nd sub w
  simp only [evE, wp_bind] at w
  refine we_of (pe_fld pe_w (atOk_ok hat)) ?_
  refine ha ρ F H as σ _ e nd sub (wp_mono w (fun x ρ1 w1 v1 F1 H1 a1 as1 t1 e1 r1 n1 s1 => ?_) fun _ _ _ z => z)
  cases q : x.slot ρ1 with
  | none => rw [q] at w1; exact w1.elim
  | some s =>
    rw [q] at w1
    simp only [Option.bind_some] at w1
    obtain ⟨b', r2⟩ := r1.slot e1 q
    cases q2 : fldS c k s with
    | none => rw [q2] at w1; exact w1.elim
    | some d =>
      rw [q2] at w1
      obtain ⟨p, Ca, dx, fs, u, rfl, h1, h2, h3, h4⟩ := fld_ok s1 hk hc.nd r2 q2
      obtain ⟨cl, na⟩ := hc.cls Ca h2
      exact ⟨p, Ca, dx, fs, u, rfl, h1, cl, na y (List.mem_of_getElem? hk), h3, OkP.new w1 (t1.sub sub_r) e1 (fun _ h => h) (nd_r n1) (New.dat s1 h4)⟩
/-! o.y = e -/
def gFld (K : PySem.W.Frag) (ta : TE) (f : Str) : TG := fun y σ H Q => ta σ H fun x H2 => ∃ a C dx fs, x = .ref a ∧ H2 a = some (.ins C dx fs) ∧ Cls K C ∧ NoAttr K C f ∧ fs.length < 1000 ∧ Q σ (upd H2 a (.ins C dx (putF f y fs)))
theorem pg_fld {f : Str} {ta : TE} (ha : PE X xa ta) : PG X (.Attribute xa f pos) (gFld X.K ta f) := by
  refine ⟨fun pins s σ H v u Q I r h => ?_⟩
  refine PySem.W.kas_attr (thn (ha.run pins s σ H _ I h) fun ov s2 ⟨x, H2, I2, rx, p, Ca, dx, fs, ex, ea, cl, na, l, q⟩ => ?_)
  subst ex
  obtain rfl : ov = Value.ref p := rx
  exact setattr_ok I2 ea cl na l r fun s3 I3 => ⟨σ, _, I3, q⟩
end
theorem putF_set : ∀ {fs : List (Str × V)} {k : Nat} {y : Str} {u v : V}, (fs.map (·.1)).Nodup → fs[k]? = some (y, u) → putF y v fs = fs.set k (y, v)
  | [], k, y, u, v, _, h => by simp at h
  | (z, u') :: fs, 0, y, u, v, _, h => by
    simp only [List.getElem?_cons_zero, Option.some.injEq, Prod.mk.injEq] at h
    obtain ⟨rfl, rfl⟩ := h
    simp [putF]
  | (z, u') :: fs, k + 1, y, u, v, nd, h => by
    simp only [List.map_cons, List.nodup_cons] at nd
    have h' : fs[k]? = some (y, u) := by simpa using h
    have ne : z ≠ y := fun e => nd.1 (by rw [e]; exact List.mem_map.mpr ⟨_, List.mem_of_getElem? h', rfl⟩)
    simp only [putF, List.set_cons_succ]
    rw [if_neg ne, putF_set nd.2 h']
theorem putF_new : ∀ {fs : List (Str × V)} {y : Str} {v : V}, y ∉ fs.map (·.1) → putF y v fs = fs ++ [(y, v)]
  | [], _, _, _ => rfl
  | (z, u) :: fs, y, v, h => by
    simp only [List.map_cons, List.mem_cons, not_or] at h
    simp only [putF, List.cons_append]
    rw [if_neg (Ne.symm h.1), putF_new h.2]
section
variable {K : PySem.W.Frag} {F H : Hp}
theorem RpSs.setS {vs : List V} {ss : List Sl} {a0 : List Addr} (r : RpSs K F H vs ss a0) : ∀ {k : Nat} {v : V} {s : Sl} {a : List Addr}, k < ss.length → RpS K F H v s a → ∃ a1 c0 a2, RpSs K F H (vs.set k v) (ss.set k s) a1 ∧ a0.Perm (c0 ++ a2) ∧ a1.Perm (a ++ a2) := by
  induction r using RpSs.ind with
  | nil => intro k v s a h; simp at h
  | @cons v0 s0 b0 as0 vs ss r rr ih =>
    intro k v s a h q
    cases k with
    | zero => exact ⟨a ++ as0, b0, as0, .cons q rr, .refl _, .refl _⟩
    | succ k =>
      obtain ⟨a1, c0, a2, m, p1, p2⟩ := ih (k := k) (by simpa using h) q
      refine ⟨b0 ++ a1, c0, b0 ++ a2, .cons r m, ?_, ?_⟩
      · refine (List.Perm.append_left b0 p1).trans ?_
        rw [← List.append_assoc, ← List.append_assoc]
        exact List.Perm.append_right a2 List.perm_append_comm
      · refine (List.Perm.append_left b0 p2).trans ?_
        rw [← List.append_assoc, ← List.append_assoc]
        exact List.Perm.append_right a2 List.perm_append_comm
theorem RpSs.snoc {vs : List V} {ss : List Sl} {a0 : List Addr} (r : RpSs K F H vs ss a0) : ∀ {v : V} {s : Sl} {a : List Addr}, RpS K F H v s a → ∃ a1, RpSs K F H (vs ++ [v]) (ss ++ [s]) a1 ∧ a1.Perm (a ++ a0) := by
  induction r using RpSs.ind with
  | nil => intro v s a q; exact ⟨a ++ [], .cons q .nil, .refl _⟩
  | @cons v0 s0 b0 as0 vs ss r rr ih =>
    intro v s a q
    obtain ⟨a1, m, p⟩ := ih q
    refine ⟨b0 ++ a1, .cons r m, (List.Perm.append_left b0 p).trans ?_⟩
    rw [← List.append_assoc, ← List.append_assoc]
    exact List.Perm.append_right as0 List.perm_append_comm
/-- an instance at a place gets another row of fields -/
theorem ins_upd {σ : L2.St} {ρ : Env} {a as : List Addr} {j c : Nat} {ss : List Sl} (e : EnvR K F H σ ρ as) (nd : (a ++ as).Nodup) (sub : Same F H) (hj : getS ρ j = some (.ins c ss)) :
    ∃ p0 Ca dx, ∃ fs : List (Str × V), ∃ as0, σ[j]? = some (some (.ref p0)) ∧ H p0 = some (.ins Ca dx fs) ∧ clsI K c = some Ca ∧ fs.map (·.1) = (fdN c).take fs.length ∧ RpSs K F H (fs.map (·.2)) ss as0 ∧
      ∀ (fs' : List (Str × V)) (ss' : List Sl) (as1 c0 a2 : List Addr), fs'.map (·.1) = (fdN c).take fs'.length → RpSs K F H (fs'.map (·.2)) ss' as1 → as0.Perm (c0 ++ a2) → as1.Perm (a ++ a2) →
        ∃ as3, EnvR K F (upd H p0 (.ins Ca dx fs')) σ (ρ.set j (.ins c ss')) as3 ∧ Stp F H (a ++ as) F (upd H p0 (.ins Ca dx fs')) as3 ∧ as3.Nodup ∧ Same F (upd H p0 (.ins Ca dx fs')) := by
  obtain ⟨q1, q2⟩ := getS_some hj
  obtain ⟨vj, bj, a', e1, rj, m', pm⟩ := e.out q1 q2
  cases rj with
  | @ins p0 Ca dx _ fs _ as0 hC h1 f1 h2 f2 m rr =>
    refine ⟨p0, Ca, dx, fs, as0, e1, h1, hC, m, rr, fun fs' ss' as1 c0 a2 m2 r2 p1 p2 => ?_⟩
    have ne : dx ≠ p0 := by rintro rfl; rw [h1] at h2; cases h2
    -- all addresses, apart
    have ndA : (a ++ (p0 :: dx :: (c0 ++ a2) ++ a')).Nodup := by
      refine (List.Perm.append_left a (pm.trans (List.Perm.append_right a' ?_))).nodup_iff.mp nd
      exact List.Perm.cons _ (List.Perm.cons _ p1)
    have ndB : (a ++ (c0 ++ a2) ++ a').Nodup := ndA.sublist (by
      rw [List.append_assoc]
      refine List.Sublist.append_left ?_ a
      rw [List.cons_append, List.cons_append]
      exact List.Sublist.cons _ (List.Sublist.cons _ (List.Sublist.refl _)))
    have pa : p0 ∉ a := fun z => nd_dis ndA p0 z (by simp)
    have hp0 : p0 ∉ dx :: (c0 ++ a2) ++ a' := by
      have := (nodup_app.mp ndA).2.1
      rw [List.cons_append, List.nodup_cons] at this
      exact this.1
    have p_a2 : p0 ∉ c0 ++ a2 := fun z => hp0 (by rw [List.cons_append]; exact List.mem_cons_of_mem _ (List.mem_append_left _ z))
    have pa' : p0 ∉ a' := fun z => hp0 (List.mem_append_right _ z)
    have st : Stp F H [p0] F (upd H p0 (.ins Ca dx fs')) [p0] := ⟨fun _ _ e => e, fun b o e n => upd_keep b o e n, fun _ hb => .inl hb, fun _ _ e => .inl e⟩
    have r3 : RpSs K F (upd H p0 (.ins Ca dx fs')) (fs'.map (·.2)) ss' as1 := RpSs.step r2 st fun b hb z => by
      simp only [List.mem_singleton] at z
      subst z
      rcases List.mem_append.mp (p2.mem_iff.mp hb) with z | z
      · exact pa z
      · exact p_a2 (List.mem_append_right _ z)
    have rep : RpS K F (upd H p0 (.ins Ca dx fs')) (.ref p0) (.ins c ss') (p0 :: dx :: as1) := .ins hC upd_same f1 (by rw [upd_ne ne]; exact h2) f2 m2 r3
    have m3 := m'.step st fun b hb z => by
      simp only [List.mem_singleton] at z
      subst z
      exact pa' hb
    have hlt : j < ρ.length := (List.getElem?_eq_some_iff.mp q1).1
    obtain ⟨as3, e3, p3⟩ := m3.fill (i := j) (s := .ins c ss') (b := p0 :: dx :: as1) (by rw [List.getElem?_set_self hlt]) e1 rep
    rw [List.set_set] at e3
    have mem : ∀ b ∈ as3, b ∈ a ++ as := fun b hb => by
      have hb := p3.mem_iff.mp hb
      simp only [List.cons_append, List.mem_cons, List.mem_append] at hb
      rcases hb with rfl | rfl | hb | hb
      · exact List.mem_append_right _ (pm.mem_iff.mpr (by simp))
      · exact List.mem_append_right _ (pm.mem_iff.mpr (by simp))
      · rcases List.mem_append.mp (p2.mem_iff.mp hb) with z | z
        · exact List.mem_append_left _ z
        · exact List.mem_append_right _ (pm.mem_iff.mpr (by
            have : b ∈ as0 := p1.mem_iff.mpr (List.mem_append_right _ z)
            simp [this]))
      · exact List.mem_append_right _ (pm.mem_iff.mpr (List.mem_append_right _ hb))
    refine ⟨as3, e3, ⟨fun _ _ e => e, fun b o e n => ?_, fun b hb => .inl (mem b hb), fun _ _ e => .inl e⟩, p3.nodup_iff.mpr ?_, upd_sub sub f1⟩
    · rw [upd_ne (fun z => n (by rw [z]; exact List.mem_append_right _ (pm.mem_iff.mpr (by simp))))]
      exact e
    · refine (List.Perm.append_right a' (List.Perm.cons p0 (List.Perm.cons dx p2))).nodup_iff.mpr ?_
      have l : (p0 :: dx :: (a ++ a2) ++ a').Sublist (p0 :: dx :: (a ++ (c0 ++ a2)) ++ a') := by
        refine List.Sublist.append_right (List.Sublist.cons₂ _ (List.Sublist.cons₂ _ (List.Sublist.append_left (List.sublist_append_right _ _) a))) a'
      refine List.Nodup.sublist l ?_
      have pp : (a ++ (p0 :: dx :: (c0 ++ a2) ++ a')).Perm (p0 :: dx :: (a ++ (c0 ++ a2)) ++ a') := by
        rw [← List.append_assoc]
        refine List.Perm.append_right a' ?_
        exact (List.perm_middle).trans (List.Perm.cons _ List.perm_middle)
      exact pp.nodup_iff.mp ndA
end
section
variable {X : Cx} {N : List Str} {sc : Scope} {cn : List Str} {W : WX} {n : Nat} {C : Ctx} {pos : Pos} {xa xb : Expr} {a b : E} {xs : List Expr} {es : EL} {c k : Nat} {y : Str}
theorem sndg_fld (G : Gd X N sc cn W n) {j : Nat} {x : Str} {p : Pos} (hv : VarOk N sc j x) (hc : ClsK X.K c) (hk : (fdN c)[k]? = some y) (hl : (fdN c).length ≤ 100) : SndG X cn W C.own (.Attribute (.Name x p) y pos) (evT C (.fld (.var j) c k)) := by
  intro ρ F0 H a as σ v s0 Q e0 r0 nd0 sub0 w
  simp only [evT] at w
  obtain ⟨F, t0, e, r', sub⟩ := freeze e0 r0 nd0 sub0
  have nd : (([] : List Addr) ++ as).Nodup := by simpa using nd_r nd0
  have r : RpS X.K F H v (.dat s0.cap) [] := .dat r'
  generalize (Sl.dat s0.cap) = s at *
  split at w
  · rename_i c' ss hj
    split at w
    · rename_i hcc
      subst hcc
      obtain ⟨p0, Ca, dx, fs, as0, e1, h1, hC, m, rr, key⟩ := ins_upd e nd sub hj
      obtain ⟨cl, na⟩ := hc.cls Ca hC
      have ndm : (fs.map (·.1)).Nodup := by rw [m]; exact hc.nd.sublist (List.take_sublist _ _)
      have lf : fs.length = ss.length := by have := rr.length; simpa using this
      have l100 : fs.length ≤ (fdN c').length := by
        have := congrArg List.length m
        rw [List.length_map, List.length_take] at this
        omega
      refine wg_of (pg_fld pe_w) ?_
      refine we_var G hv e1 ⟨p0, Ca, dx, fs, rfl, h1, cl, na y (List.mem_of_getElem? hk), by omega, ?_⟩
      split at w
      · rename_i hlt
        obtain ⟨u, b', hu, _⟩ := rr.get (List.getElem?_eq_getElem hlt)
        have hat := names_at hk m hu
        obtain ⟨as1, c0, a2, r1, p1, p2⟩ := rr.setS hlt r
        rw [putF_set ndm hat]
        have e2 : (fs.set k (y, v)).map (·.1) = (fdN c').take (fs.set k (y, v)).length := by
          rw [List.length_set, ← m, List.map_set]
          refine List.ext_getElem? fun i => ?_
          by_cases hi : k = i
          · subst hi
            rw [List.getElem?_set_self (by rw [List.length_map, lf]; exact hlt), List.getElem?_map, hat]; rfl
          · rw [List.getElem?_set_ne hi]
        obtain ⟨as3, e3, t3, n3, s3⟩ := key (fs.set k (y, v)) (ss.set k s) as1 c0 a2 e2 (by rw [List.map_set]; exact r1) p1 p2
        exact w σ F _ as3 (t0.trans (by simpa using t3)) e3 OwnEq.refl n3 s3
      · split at w
        · rename_i hnl hke
          subst hke
          have hno : y ∉ fs.map (·.1) := fun z => by
            rw [m, lf] at z
            obtain ⟨i, hi⟩ := List.getElem?_of_mem z
            rw [List.getElem?_take] at hi
            split at hi
            · rename_i hlt
              have := nodup_idx hc.nd hi hk
              omega
            · cases hi
          obtain ⟨as1, r1, p2⟩ := rr.snoc r
          rw [putF_new hno]
          have e2 : (fs ++ [(y, v)]).map (·.1) = (fdN c').take (fs ++ [(y, v)]).length := by
            rw [List.map_append, m, List.length_append, lf]
            simp only [List.map_cons, List.map_nil, List.length_cons, List.length_nil]
            rw [List.take_add_one, hk]
            rfl
          obtain ⟨as3, e3, t3, n3, s3⟩ := key (fs ++ [(y, v)]) (ss ++ [s]) as1 [] as0 e2 (by rw [List.map_append]; exact r1) (.refl _) p2
          exact w σ F _ as3 (t0.trans (by simpa using t3)) e3 OwnEq.refl n3 s3
        · exact w.elim
    · exact w.elim
  · exact w.elim
/-! o.y op= e -/
def rInt (op : Operator) : V → V → Hp → VK → Prop := fun x y H Q => ∃ i j k, x = .int i ∧ y = .int j ∧ augI op i j = some k ∧ Q (.int k) H
theorem in_int {op : Operator} : InOp X op (rInt op) := by
  rintro pins s σ H x y u v Q I rx ry ⟨i, j, k, rfl, rfl, h, q⟩
  cases op <;> simp only [augI, Option.some.injEq, reduceCtorEq] at h
  · subst h; exact in_add pins s σ H _ _ u v Q I rx ry ⟨i, j, rfl, rfl, q⟩
  · subst h; exact in_sub pins s σ H _ _ u v Q I rx ry ⟨i, j, rfl, rfl, q⟩
theorem snd_augFld (G : Gd X N sc cn W n) {op : Operator} {j : Nat} {x : Str} {p p2 : Pos} (hv : VarOk N sc j x) (hc : ClsK X.K c) (hk : (fdN c)[k]? = some y) (hl : (fdN c).length ≤ 100) (ha : SndB X cn W xa (bvOf a (evE C a))) : SndS X cn W C.own (.AugAssign (.Attribute (.Name x p) y p2) op xa pos) (evS C (.aug (.fld (.var j) c k) op a)) := by
  intro ρ F H as σ D e nd sub w
  simp only [evS] at w
  split at w
  · rename_i c' ss hj
    split at w
    · rename_i hcc
      subst hcc
      split at w
      · rename_i i hi
        obtain ⟨p0, Ca, dx, fs, as0, e1, h1, hC, m, rr, _⟩ := ins_upd (a := []) e (by simpa using nd) sub hj
        obtain ⟨cl, na⟩ := hc.cls Ca hC
        have ndm : ∀ {fs : List (Str × V)}, fs.map (·.1) = (fdN c').take fs.length → (fs.map (·.1)).Nodup := fun m => by rw [m]; exact hc.nd.sublist (List.take_sublist _ _)
        obtain ⟨u, b', hu, ru⟩ := rr.get hi
        cases ru with
        | dat ru =>
        cases ru
        simp only [wp_bind] at w
        refine ws_of (ps_fldaug pe_w pe_w in_int) ?_
        refine we_var G hv e1 ⟨p0, Ca, dx, fs, .int i, rfl, h1, cl, na y (List.mem_of_getElem? hk), look_at (ndm m) (names_at hk m hu), ?_⟩
        refine ha ρ F H as σ _ e nd sub (wp_mono w (fun yb ρ1 w1 v1 F1 H1 a1 as1 t1 e2 r1 n1 s1 => ?_) fun _ _ _ z => z.exp Stp.refl OwnEq.refl)
        obtain ⟨d, hd, w2⟩ := wp_view w1
        have vw := r1.vw e2 hd
        have t1' := t1.sub (as'' := as1) sub_r
        split at w2
        · rename_i i2 c2 gs hg
          split at w2
          · rename_i hcg
            obtain ⟨rfl, hlt⟩ := hcg
            split at w2
            · rename_i i3 h3
              cases vw.int
              obtain ⟨p1, Cb, dx', fs', as0', e1', h1', hC', m', rr', key⟩ := ins_upd (a := []) e2 (by simpa using nd_r n1) s1 hg
              rw [e1] at e1'
              cases e1'
              rw [hC] at hC'
              cases hC'
              obtain ⟨u', b'', hu', _⟩ := rr'.get (List.getElem?_eq_getElem hlt)
              have hat := names_at hk m' hu'
              have lf : fs'.length = gs.length := by have := rr'.length; simpa using this
              have l100 : fs'.length ≤ (fdN c2).length := by
                have := congrArg List.length m'
                rw [List.length_map, List.length_take] at this
                omega
              refine ⟨i, i2, i3, rfl, rfl, h3, dx', fs', h1', by omega, ?_⟩
              rw [putF_set (ndm m') hat]
              obtain ⟨as3, c0, a2, r4, q1, q2⟩ := rr'.setS hlt (.dat (.int i3) : RpS X.K F1 H1 (.int i3) (.dat (.int i3)) [])
              have e3 : (fs'.set k (y, .int i3)).map (·.1) = (fdN c2).take (fs'.set k (y, .int i3)).length := by
                rw [List.length_set, ← m', List.map_set]
                refine List.ext_getElem? fun i => ?_
                by_cases hi : k = i
                · subst hi
                  rw [List.getElem?_set_self (by rw [List.length_map, lf]; exact hlt), List.getElem?_map, hat]; rfl
                · rw [List.getElem?_set_ne hi]
              obtain ⟨as4, e4, t4, n4, s4⟩ := key (fs'.set k (y, .int i3)) (gs.set k (.dat (.int i3))) as3 c0 a2 e3 (by rw [List.map_set]; exact r4) q1 q2
              exact w2 σ F1 _ as4 (t1'.trans t4) e4 OwnEq.refl n4 s4
            · exact w2.elim
          · exact w2.elim
        · exact w2.elim
      · exact w.elim
    · exact w.elim
  · exact w.elim
end
end MP

/-! methods called, instances made -/
namespace MP
open PySem PySem.Spec PyProof.Rows L2
section
variable {X : Cx} {CX : CXT} {k : Nat} {f C : Addr} {fd : FuncData} {ps : List Str} {sp : Sp} {E : L2.St → XK} {x m : Str} {p pos apos : Pos} {o e : Expr} {es : List Expr} {ta : TE} {t : TA}
/-- o.m(e, ..) -/
def tMethV (C : Addr) (m : Str) (sp : Sp) (E : L2.St → XK) (ta : TE) (t : TA) : TE := fun σ H Q => ta σ H fun x H1 => ∃ a dx fs, x = .ref a ∧ H1 a = some (.ins C dx fs) ∧ fs.lookup m = none ∧ t σ H1 fun vs H2 => sp (x :: vs) H2 Q (E σ)
theorem pe_methV {pl : Sem Bool} (he : PE X o ta) (c : Cls X.K C) (hm : Meth X.K C m f) (F : FnG X.prog X.w X.K X.mg X.base CX k f fd ps sp) (room : Room k X.A) (gu : X.A.guards = some []) (bi : Binds X.K fd ps []) (out : ∀ σ, PassesAt CX X σ (E σ)) (ha : PA X (e :: es) t)
    (hst : starEach (e :: es) X.env = (false, eval e X.env) :: starEach es X.env) (hpl : (backTo pos (starEach es X.env)).any (·.1) = false)
    (ht : eval (.Call (.Attribute o m apos) (e :: es) [] pos) X.env = (do
      let ov ← eval o X.env
      standAt apos.atName
      let (f, first) ← holding [ov] (getMethod ov m pl)
      callWith pos f first (backTo pos (starEach (e :: es) X.env)) (backToKw pos (keywordEach [] X.env)))) :
    PE X (.Call (.Attribute o m apos) (e :: es) [] pos) (tMethV C m sp E ta t) := by
  constructor
  intro pins s σ H Q I h
  refine PySem.W.methodCall_KW (pl := pl) (thn (he.run pins s σ H _ I h) fun u s1 ⟨x, H1, I1, rx, a, dx, fs, ex, ea, l, q⟩ => ?_) ht
  subst ex
  obtain rfl : u = Value.ref a := rx
  refine getmeth_ok I1 ea c hm l ?_
  refine PySem.W.callWith_K (first := [.ref a]) (h₀ := X.base) I.ok.mod.kin hm.kp (thn (ha.run pos pins s1 σ H1 _ I1 q) fun us s2 ⟨vs, H2, I2, r, q2⟩ => ⟨I2.kIn, ?_⟩) hst hpl
  exact run_fnG (us := .ref a :: us) (l := .ref a :: vs) F room gu bi (out σ) I2 (.cons rfl r) q2
theorem pe_methV0 {pl : Sem Bool} (he : PE X o ta) (c : Cls X.K C) (hm : Meth X.K C m f) (F : FnG X.prog X.w X.K X.mg X.base CX k f fd ps sp) (room : Room k X.A) (gu : X.A.guards = some []) (bi : Binds X.K fd ps []) (out : ∀ σ, PassesAt CX X σ (E σ))
    (ht : eval (.Call (.Attribute o m apos) [] [] pos) X.env = (do
      let ov ← eval o X.env
      standAt apos.atName
      let (f, first) ← holding [ov] (getMethod ov m pl)
      callWith pos f first (backTo pos (starEach [] X.env)) (backToKw pos (keywordEach [] X.env)))) :
    PE X (.Call (.Attribute o m apos) [] [] pos) (tMethV C m sp E ta tNil) := by
  constructor
  intro pins s σ H Q I h
  refine PySem.W.methodCall_KW (pl := pl) (thn (he.run pins s σ H _ I h) fun u s1 ⟨x, H1, I1, rx, a, dx, fs, ex, ea, l, q⟩ => ?_) ht
  subst ex
  obtain rfl : u = Value.ref a := rx
  refine getmeth_ok I1 ea c hm l ?_
  exact PySem.W.callWith_K0 (first := [.ref a]) I1.kIn hm.kp (run_fnG (us := [.ref a]) (l := [.ref a]) F room gu bi (out σ) I1 (.cons rfl .nil) q)
/-- C(e, ..) -/
def tMakeV (C : Addr) (sp : Sp) (E : L2.St → XK) (t : TA) : TE := fun σ H Q => t σ H fun vs H1 => ∀ x dx, H1 x = none → H1 dx = none → dx ≠ x → sp (.ref x :: vs) (upd (upd H1 dx (.own x)) x (.ins C dx [])) (fun v H2 => v = .non ∧ Q (.ref x) H2) (E σ)
theorem run_makeV {pins : List (Addr × Obj)} {σ : L2.St} {H : Hp} {s : Shared} {Q : VK} {us : List Value} {vs : List V} (M : Mk X.K C f) (F : FnG X.prog X.w X.K X.mg X.base CX k f fd ps sp) (hr : Room (k + 1) X.A) (gu : X.A.guards = some []) (hb : Binds X.K fd ps []) (hx : PassesAt CX X σ (E σ)) (I : Inv X pins σ H s) (r : Vals vs us)
    (h : ∀ x dx, H x = none → H dx = none → dx ≠ x → sp (.ref x :: vs) (upd (upd H dx (.own x)) x (.ins C dx [])) (fun v H2 => v = .non ∧ Q (.ref x) H2) (E σ)) :
    wpAny (model X.prog X.w) X.A (call (.ref C) us) (EP X pins σ Q) X.xe s := by
  have hq := h (s.heap.objs.size + 1) s.heap.objs.size (I.hok.fresh (Nat.le_succ _)) (I.hok.fresh (Nat.le_refl _)) (Nat.ne_of_lt (Nat.lt_succ_self _))
  have I2 := Inv.made (C := C) I
  have r2 : Vals (V.ref (s.heap.objs.size + 1) :: vs) (Value.ref (s.heap.objs.size + 1) :: us) := .cons rfl r
  have hl : (Value.ref (s.heap.objs.size + 1) :: us).length = ps.length := r2.length.symm.trans (F.many _ _ _ _ hq)
  have hb2 := hb _ (Value.ref (s.heap.objs.size + 1) :: us) I2.kIn (by rw [List.append_nil]; exact hl)
  rw [List.append_nil] at hb2
  refine wpAny_call (make_map (f := f) I.kIn M.makes M.init (beq_iff_eq.mp M.fn) (codeAny_mono (F.does _ X.stack _ _ ⟨Value.ref (s.heap.objs.size + 1) :: us, []⟩ (Value.ref (s.heap.objs.size + 1) :: us) _ _ (E σ) (hr.make C us []) gu
    (I2.env0.make C us []) hb2 r2 hq) fun r s' hq' => ?_))
  cases r with
  | error e => exact hx pins _ _ e s' I2 hq'
  | ok fl =>
    cases fl with
    | ret u =>
      obtain ⟨v, H', I3, rv, ev, q3⟩ := I2.after hq'
      subst ev
      exact ⟨rv, ⟨V.ref (s.heap.objs.size + 1), H', I3, rfl, q3⟩⟩
    | next => exact False.elim hq'
    | brk => exact False.elim hq'
    | cont => exact False.elim hq'
theorem pe_makeV (M : Mk X.K C f) (F : FnG X.prog X.w X.K X.mg X.base CX k f fd ps sp) (hr : Room (k + 1) X.A) (gu : X.A.guards = some []) (hg : Gl X x) (hm : X.mg x = some (.ref C)) (hb : Binds X.K fd ps []) (out : ∀ σ, PassesAt CX X σ (E σ))
    (ha : PA X (e :: es) t) (hdb : (x == ("__debug__" : Str)) = false) (he : starEach (e :: es) X.env = (false, eval e X.env) :: starEach es X.env) (hpl : (backTo pos (starEach es X.env)).any (·.1) = false) :
    PE X (.Call (.Name x p) (e :: es) [] pos) (tMakeV C sp E t) := by
  refine ⟨fun pins s σ H Q I h => ?_⟩
  refine wpAny_Call_Name_kw (ld_glob I hg hm ?_ hdb)
  refine PySem.W.callWith_K (h₀ := X.base) I.ok.mod.kin M.kp (thn (ha.run pos pins s σ H _ I h) fun us s1 ⟨vs, H1, I1, r, q⟩ => ⟨I1.kIn, ?_⟩) he hpl
  exact run_makeV M F hr gu hb (out σ) I1 r q
end
theorem meth_tree {o : Expr} {m : Str} {apos pos : Pos} {xs : List Expr} {env : PySem.Env} (hb : attributeBase o m env (eval o env) = eval o env) (hf : methodCallForm (xs.length + ([] : List Keyword).length) (backTo pos (starEach xs env)) (backToKw pos (keywordEach [] env)) = true) (hl : (apos.endLine == pos.line) = true) :
    eval (.Call (.Attribute o m apos) xs [] pos) env = (do
      let ov ← eval o env
      standAt apos.atName
      let (f, first) ← holding [ov] (getMethod ov m (do return (← importBound o env).getD true))
      callWith pos f first (backTo pos (starEach xs env)) (backToKw pos (keywordEach [] env))) := by
  rw [arm_eval_Call, hb]
  unfold methodCall calleeOf methodCallPos
  rw [hf]
  simp only [hl, Bool.not_true, Bool.or_true, if_true]
  rfl
variable [HasW]
theorem meth_form {pos : Pos} {xs : List Expr} {env : PySem.Env} (ns : xs.all noStar = true) (few : xs.length < 30) : methodCallForm (xs.length + ([] : List Keyword).length) (backTo pos (starEach xs env)) (backToKw pos (keywordEach [] env)) = true := by
  unfold methodCallForm
  rw [stars_all ns]
  simpa [keywordEach, backToKw] using few
section
variable {X : Cx} {N : List Str} {sc : Scope} {cn : List Str} {W : WX} {n : Nat} {C : Ctx} {pos apos : Pos} {xa xb : Expr} {a b : E} {xs : List Expr} {es : EL} {c f k : Nat} {y m x : Str} {p : Pos}
/-- o.m(..), o a name -/
theorem snd_ms (G : Gd X N sc cn W n) {C0 fa : Addr} {fd : FuncData} {ps : List Str} (F : FnG X.prog X.w X.K X.mg X.base (L2.CX X.prog X.w) k fa fd ps (spOf X.mg X.K cn ps.length (C.call f))) (hr : k ≤ n) (hC : clsI X.K c = some C0) (cl : Cls X.K C0) (hm : Meth X.K C0 m fa) (hmn : m ∉ fdN c) (hb : Binds X.K fd ps [])
    (hlp : (apos.endLine == pos.line) = true) (few : xs.length < 30) (ns : xs.all noStar = true) (hl : xs.length + 1 = ps.length) (h0 : xs = [] → es = .nil) (ho : SndB X cn W (.Name x p) (bvArg a (evE C a))) (ha : SndA X cn W xs (evArgs C es)) : SndE X cn W (.Call (.Attribute (.Name x p) m apos) xs [] pos) (evE C (.ms c f a es)) := by
  intro ρ F0 H as σ Q e nd sub w
  simp only [evE, wp_bind] at w
  have F' := F.mono hr
  have core : ∀ {b : Bv} {v1 : V} {ρ1 : Env} {F1 H1 : Hp} {a1 as1 : List Addr}, RBv X.K F1 H1 σ v1 b a1 → EnvR X.K F1 H1 σ ρ1 as1 → Same F1 H1 → ∀ {s0 : Sl}, b.slot ρ1 = some s0 → objB c s0 = true → ∃ a dx fs, v1 = .ref a ∧ H1 a = some (.ins C0 dx fs) ∧ fs.lookup m = none := by
    intro b v1 ρ1 F1 H1 a1 as1 r1 e1 s1 s0 hs ho
    obtain ⟨b', r2⟩ := r1.slot e1 hs
    obtain ⟨q, C1, dx, fs, ev, h1, h2, h3⟩ := obj_ok s1 r2 ho
    rw [hC] at h2
    cases h2
    exact ⟨q, dx, fs, ev, h1, h3 m hmn⟩
  cases xs with
  | nil =>
    cases h0 rfl
    refine we_of (pe_methV0 (E := L2.WE W) pe_w cl hm F' G.room G.gu hb (fun σ => L2.passAt G.tk σ) (meth_tree (by rfl) (meth_form ns few) hlp)) ?_
    refine ho ρ F0 H as σ _ e nd sub (wp_mono w (fun b ρ1 w1 v1 F1 H1 a1 as1 t1 e1 r1 n1 s1 => ?_) fun _ _ _ z => z)
    split at w1
    · rename_i s0 hs
      split at w1
      · rename_i hob
        obtain ⟨q, dx, fs, ev, h1, h3⟩ := core r1 e1 s1 hs hob
        refine ⟨q, dx, fs, ev, h1, h3, ?_⟩
        simp only [evArgs, R.bind] at w1
        have r2 : RBvs X.K F1 H1 σ [v1] [b] (a1 ++ []) := .cons r1 .nil
        rw [List.append_nil] at r2
        split at w1
        · rename_i ss ρ2 ht
          exact call_fin t1 e1 r2 n1 s1 ht (by simpa using hl) w1
        · exact w1.elim
      · exact w1.elim
    · exact w1.elim
  | cons e' es' =>
    have ns2 := ns
    simp only [List.all_cons, Bool.and_eq_true] at ns2
    refine we_of (pe_methV (E := L2.WE W) pe_w cl hm F' G.room G.gu hb (fun σ => L2.passAt G.tk σ) pa_w (starEach_cons ns2.1) (stars_no ns2.2) (meth_tree (by rfl) (meth_form ns few) hlp)) ?_
    refine ho ρ F0 H as σ _ e nd sub (wp_mono w (fun b ρ1 w1 v1 F1 H1 a1 as1 t1 e1 r1 n1 s1 => ?_) fun _ _ _ z => z)
    split at w1
    · rename_i s0 hs
      split at w1
      · rename_i hob
        obtain ⟨q, dx, fs, ev, h1, h3⟩ := core r1 e1 s1 hs hob
        refine ⟨q, dx, fs, ev, h1, h3, ?_⟩
        simp only [wp_bind] at w1
        have t1' : Stp F0 H as F1 H1 as1 := t1.sub sub_r
        refine ha ρ1 F1 H1 as1 σ _ e1 (nd_r n1) s1 (wp_mono w1 (fun bs ρ2 w2 vs F2 H2 a2 as2 t2 e2 r2 n2 s2 l2 => ?_) fun _ _ _ z => z.trans t1')
        have nd3 : (a1 ++ (a2 ++ as2)).Nodup := nodup_app.mpr ⟨(nodup_app.mp n1).1, n2, t2.apart (fun b hb => (r1.there b hb).1) (nd_dis n1)⟩
        have t3 : Stp F0 H as F2 H2 ((a1 ++ a2) ++ as2) := by rw [List.append_assoc]; exact t1.trans t2.frame
        have r3 : RBvs X.K F2 H2 σ (v1 :: vs) (b :: bs) (a1 ++ a2) := .cons (r1.step t2 (nd_dis n1)) r2
        split at w2
        · rename_i ss ρ3 ht
          exact call_fin t3 e2 r3 (by rw [List.append_assoc]; exact nd3) s2 ht (by rw [← hl]; simp [l2]) w2
        · exact w2.elim
      · exact w1.elim
    · exact w1.elim
/-- C(..) -/
theorem make_fin {F H F1 H1 : Hp} {as a1 as1 : List Addr} {σ : L2.St} {Q : VK} {vs : List V} {bs : List Bv} {ρ ρ1 : Env} {ss : List Sl} {np : Nat} {call : List Sl → CR} {C0 : Addr} (hC : clsI X.K c = some C0) (t : Stp F H as F1 H1 (a1 ++ as1)) (e : EnvR X.K F1 H1 σ ρ as1) (rs : RBvs X.K F1 H1 σ vs bs a1)
    (nd : (a1 ++ as1).Nodup) (sub : Same F1 H1) (ht : takes bs ρ = some (ss, ρ1)) (hl : vs.length + 1 = np) {x dx : Addr} (hx : H1 x = none) (hdx : H1 dx = none) (ne : dx ≠ x)
    (w : R.wp (match call (.ins c [] :: ss) with
      | .ok (.dat .non) (.ins c' fs :: fin) => R.ok (.ins c' fs) (putBack bs fin ρ1)
      | .exc c ps (_ :: fin) => .exc c ps (putBack bs fin ρ1)
      | _ => .stuck) (OkP X F H as σ Q) (ExP X cn W F H as σ)) : spOf X.mg X.K cn np call (.ref x :: vs) (upd (upd H1 dx (.own x)) x (.ins C0 dx [])) (fun v H2 => v = .non ∧ Q (.ref x) H2) (L2.WE W σ) := by
  obtain ⟨a', as', rs', e', p⟩ := takes_ok rs e ht
  obtain ⟨⟨u1, u2⟩, _⟩ := takes_un ht
  have nd' := p.nodup_iff.mp nd
  generalize hH : upd (upd H1 dx (.own x)) x (.ins C0 dx []) = H1' at *
  have kp : ∀ b o, H1 b = some o → H1' b = some o := fun b o q => by
    subst hH
    have n1 : b ≠ x := by rintro rfl; rw [hx] at q; cases q
    have n2 : b ≠ dx := by rintro rfl; rw [hdx] at q; cases q
    rw [upd_ne n1, upd_ne n2]; exact q
  have st : Stp F1 H1 [] F1 H1' [] := ⟨fun _ _ e => e, fun b o q _ => kp b o q, fun b hb => (by cases hb), fun _ _ e => .inl e⟩
  have rs'' := RpSs.step rs' st fun b hb z => by cases z
  have e'' := e'.step st fun b hb z => by cases z
  have fx : F1 x = none := fnone_of sub hx
  have fdx : F1 dx = none := fnone_of sub hdx
  have hx1 : H1' x = some (.ins C0 dx []) := by subst hH; exact upd_same
  have hx2 : H1' dx = some (.own x) := by subst hH; rw [upd_ne ne, upd_same]
  have rep : RpS X.K F1 H1' (.ref x) (.ins c []) (x :: dx :: []) := .ins (fs := []) hC hx1 fx hx2 fdx (by simp) .nil
  have na : ∀ b, H1 b = none → b ∉ a' ∧ b ∉ as' := fun b hb => ⟨fun z => (by obtain ⟨⟨o, q⟩, _⟩ := RpSs.there rs' b z; rw [hb] at q; cases q), fun z => (by obtain ⟨⟨o, q⟩, _⟩ := e'.there b z; rw [hb] at q; cases q)⟩
  have ndx : ((x :: dx :: []) ++ a').Nodup := by
    refine nodup_app.mpr ⟨by simp [Ne.symm ne], (nodup_app.mp nd').1, fun b hb => ?_⟩
    simp only [List.mem_cons, List.not_mem_nil, or_false] at hb
    rcases hb with rfl | rfl
    · exact (na _ hx).1
    · exact (na _ hdx).1
  have key : ∀ {F2 H2 : Hp} {a2 as2 : List Addr} {fin : List Sl}, Stp F1 H1' ((x :: dx :: []) ++ a') F2 H2 (a2 ++ as2) → EnvR X.K F2 H2 (vs.map some) fin as2 → (a2 ++ as2).Nodup → ∃ as3, EnvR X.K F2 H2 σ (putBack bs fin ρ1) as3 ∧ Stp F H as F2 H2 (a2 ++ as3) ∧ (a2 ++ as3).Nodup := by
    intro F2 H2 a2 as2 fin t2 f n2
    have d : ∀ b ∈ as', b ∉ (x :: dx :: []) ++ a' := fun b hb z => by
      rcases List.mem_append.mp z with z | z
      · simp only [List.mem_cons, List.not_mem_nil, or_false] at z
        rcases z with rfl | rfl
        · exact (na _ hx).2 hb
        · exact (na _ hdx).2 hb
      · exact nd_dis nd' b z hb
    have d2 := t2.apart (fun b hb => (e''.there b hb).1) d
    have e2 := e''.step t2 d
    have ndA : (as2 ++ as').Nodup := nodup_app.mpr ⟨nd_r n2, nd_r nd', fun b hb z => d2 b z (List.mem_append_right _ hb)⟩
    obtain ⟨as3, h1, h2, h3⟩ := putBack_ok rs u1 (fun i hi => (u2 i hi).2) e2 f ndA
    -- from H1 on
    have t2' : Stp F1 H1 a' F2 H2 (a2 ++ as2) := by
      refine ⟨t2.ff, fun b o q n => t2.keep b o (kp b o q) fun z => ?_, fun b hb => ?_, fun b o q => ?_⟩
      · rcases List.mem_append.mp z with z | z
        · simp only [List.mem_cons, List.not_mem_nil, or_false] at z
          rcases z with rfl | rfl
          · rw [hx] at q; cases q
          · rw [hdx] at q; cases q
        · exact n z
      · rcases t2.own b hb with z | z
        · rcases List.mem_append.mp z with z | z
          · simp only [List.mem_cons, List.not_mem_nil, or_false] at z
            rcases z with rfl | rfl
            · exact .inr hx
            · exact .inr hdx
          · exact .inl z
        · right
          cases q : H1 b with
          | none => rfl
          | some o => rw [kp b o q] at z; cases z
      · rcases t2.frz b o q with z | z | z
        · exact .inl z
        · rcases List.mem_append.mp z with z | z
          · simp only [List.mem_cons, List.not_mem_nil, or_false] at z
            rcases z with rfl | rfl
            · exact .inr (.inr hx)
            · exact .inr (.inr hdx)
          · exact .inr (.inl z)
        · right; right
          cases q : H1 b with
          | none => rfl
          | some o => rw [kp b o q] at z; cases z
    refine ⟨as3, h1, ?_, nodup_app.mpr ⟨(nodup_app.mp n2).1, h3, fun b hb z => ?_⟩⟩
    · have t3 : Stp F1 H1 (as' ++ a') F2 H2 (as' ++ (a2 ++ as2)) := t2'.frame
      have t4 : Stp F1 H1 (a1 ++ as1) F2 H2 (as' ++ (a2 ++ as2)) := t3.pre fun b hb => p.mem_iff.mpr ((List.mem_append.mp hb).elim (fun z => List.mem_append_right _ z) fun z => List.mem_append_left _ z)
      refine (t.trans t4).sub fun b hb => ?_
      rcases List.mem_append.mp hb with z | z
      · exact List.mem_append_right _ (List.mem_append_left _ z)
      · rcases List.mem_append.mp (h2 b z) with z | z
        · exact List.mem_append_right _ (List.mem_append_right _ z)
        · exact List.mem_append_left _ z
    · rcases List.mem_append.mp (h2 b z) with z | z
      · exact nd_dis n2 b hb z
      · exact d2 b z (List.mem_append_left _ hb)
  refine ⟨by simpa using hl, F1, .ins c [] :: ss, (x :: dx :: []) ++ a', .cons rep rs'', ndx, fun b o q => kp b o (sub b o q), ?_⟩
  cases q : call (.ins c [] :: ss) with
  | stuck => rw [q] at w; exact w.elim
  | exc k qs fin =>
    rw [q] at w
    cases fin with
    | nil => exact w.elim
    | cons s0 fin =>
      intro cls d F2 H2 as2 t2 f n2 s2 xc
      rw [List.map_cons] at f
      cases f with
      | un f =>
        obtain ⟨as3, h1, h2, h3⟩ := key (a2 := []) t2 f n2
        exact w cls d F2 H2 as3 h2 h1 h3 s2 xc
      | @cons _ _ b as0 _ _ q0 f =>
        obtain ⟨as3, h1, h2, h3⟩ := key (a2 := b) t2 f n2
        exact w cls d F2 H2 as3 (h2.sub fun b hb => List.mem_append_right _ hb) h1 (nd_r h3) s2 xc
  | ok v fin =>
    rw [q] at w
    split at w
    · rename_i c' fs fin' hh
      cases hh
      intro z F2 H2 a2 as2 t2 f r2 n2 s2
      cases r2 with
      | dat r2 =>
        cases r2
        refine ⟨rfl, ?_⟩
        rw [List.map_cons] at f
        cases f with
        | @cons _ _ b as0 _ _ q0 f =>
          obtain ⟨as3, h1, h2, h3⟩ := key (a2 := b) t2 f n2
          exact w (.ref x) F2 H2 b as3 h2 h1 q0 h3 s2
    · rename_i hh; cases hh
    · exact w.elim
theorem snd_mk (G : Gd X N sc cn W n) {C0 fa : Addr} {fd : FuncData} {ps : List Str} (F : FnG X.prog X.w X.K X.mg X.base (L2.CX X.prog X.w) k fa fd ps (spOf X.mg X.K cn ps.length (C.call f))) (hr : k + 1 ≤ n) (hC : clsI X.K c = some C0) (M : Mk X.K C0 fa) (hg : glC sc x = true) (hn : nmOk x = true) (hm : X.mg x = some (.ref C0)) (hb : Binds X.K fd ps [])
    (ns : xs.all noStar = true) (hl : xs.length + 1 = ps.length) (h0 : xs ≠ []) (ha : SndA X cn W xs (evArgs C es)) : SndE X cn W (.Call (.Name x p) xs [] pos) (evE C (.mk c f es)) := by
  intro ρ F0 H as σ Q e nd sub w
  simp only [evE, wp_bind] at w
  cases xs with
  | nil => exact absurd rfl h0
  | cons e' es' =>
    have ns2 := ns
    simp only [List.all_cons, Bool.and_eq_true] at ns2
    refine we_of (pe_makeV (E := L2.WE W) M F (G.room.mono hr) G.gu (G.gl hg) hm hb (fun σ => L2.passAt G.tk σ) pa_w (nmOk_d hn).1 (starEach_cons ns2.1) (stars_no ns2.2)) ?_
    refine ha ρ F0 H as σ _ e nd sub (wp_mono w (fun bs ρ1 w1 vs F1 H1 a1 as1 t1 e1 r1 n1 s1 l1 => ?_) fun _ _ _ z => z)
    intro x dx hx hdx ne
    split at w1
    · rename_i ss ρ2 ht
      exact make_fin hC t1 e1 r1 n1 s1 ht (by rw [← hl, l1]) hx hdx ne w1
    · exact w1.elim
end
end MP

namespace MP
open PySem PySem.Spec PyProof.Rows L2
variable [HasW]

/-- the name of what has none: a method among the defs -/
def noN : Str := Str.empty
/-- what a text leans on: its slots, the defs and constants by number, the built-in names it uses -/
structure Inf where
  N : List Str
  fns : List (Str × Nat)
  gls : List Str
  bis : List Str
  /-- the classes of refusals that there are, by number; none, where nothing is caught -/
  xc : List Nat
  /-- the methods: the def's number, the class's, the name -/
  mts : List (Nat × Nat × Str)
  /-- the classes that are made -/
  cls : List Nat
def conOk : D → Const → Bool
  | .int i, .int j => i == j
  | .bl b, .bool c => b == c
  | .non, .none => true
  | .str x, .str y => decide (y.cps.toList = x) && (strOkL x && decide (x.length ≤ 16777216))
  | _, _ => false
def varB (I : Inf) (sc : Scope) (i : Nat) (x : Str) : Bool := decide (I.N[i]? = some x) && (visC sc x && nmOk x)
def biB (I : Inf) (sc : Scope) (x : Str) : Bool := glC sc x && I.bis.contains x
/-- a class that is named: one of the refusals', or the built-in one -/
def clsN (I : Inf) (sc : Scope) (k : Nat) (y : Str) : Bool := I.xc.contains k && (decide (cnE[k]? = some y) && (glC sc y && nmOk y))
def clsB (I : Inf) (sc : Scope) (k : Nat) (y : Str) : Bool := if k = 9 then decide (y = "ValueError") && (biB I sc y && !I.xc.isEmpty) else clsN I sc k y
def okC (I : Inf) (c : Nat) : Bool := I.cls.contains c && decide ((fdN c).length ≤ 100)
def clsBs (I : Inf) (sc : Scope) : List Nat → List Expr → Bool
  | [], [] => true
  | k :: ks, .Name y _ :: xs => clsN I sc k y && (decide (k ≤ 8) && clsBs I sc ks xs)
  | _, _ => false
/-- as a test -/
def tmOk : Expr → Bool
  | .IfExp _ _ _ _ => false
  | .UnaryOp .Not x _ => tmOk x
  | .BoolOp _ xs _ => tmOks xs
  | _ => true
where tmOks : List Expr → Bool
  | [] => true
  | x :: xs => tmOk x && tmOks xs
mutual
def chkE (I : Inf) (sc : Scope) : E → Expr → Bool
  | .var i, x => (match x with
    | .Name y _ => varB I sc i y
    | _ => false)
  | .mv i, x => (match x with
    | .Name y _ => varB I sc i y
    | _ => false)
  | .con d, x => (match x with
    | .Constant c _ _ => conOk d c
    | _ => false)
  | .glob k, x => (match x with
    | .Name y _ => decide (I.gls[k]? = some y) && (glC sc y && nmOk y)
    | _ => false)
  | .bin op a b, x => (match x with
    | .BinOp xa op' xb _ => decide (op = op') && (chkE I sc a xa && chkE I sc b xb)
    | _ => false)
  | .neg a, x => (match x with
    | .UnaryOp .USub xa _ => chkE I sc a xa
    | _ => false)
  | .notE a, x => (match x with
    | .UnaryOp .Not xa _ => chkE I sc a xa
    | _ => false)
  | .and a b, x => (match x with
    | .BoolOp .And (xa :: xb :: r) _ => chkE I sc a xa && (match r with
      | [] => chkE I sc b xb
      | xc :: r => chkL I sc .And b xb (xc :: r))
    | _ => false)
  | .or a b, x => (match x with
    | .BoolOp .Or (xa :: xb :: r) _ => chkE I sc a xa && (match r with
      | [] => chkE I sc b xb
      | xc :: r => chkL I sc .Or b xb (xc :: r))
    | _ => false)
  | .ite c a b, x => (match x with
    | .IfExp xc xa xb _ => tmOk xc && (chkE I sc c xc && (chkE I sc a xa && chkE I sc b xb))
    | _ => false)
  | .cmp op a b, x => (match x with
    | .Compare xa [op'] [xb] _ => decide (op = op') && (!behindInMarks op xb && (chkE I sc a xa && chkE I sc b xb))
    | _ => false)
  | .cmp2 o1 o2 a b c, x => (match x with
    | .Compare xa [o1', o2'] [xb, xc] _ => decide (o1 = o1') && (decide (o2 = o2') && (!lastMarks [o1, o2] [xb, xc] && (chkE I sc a xa && (chkE I sc b xb && chkE I sc c xc))))
    | _ => false)
  | .tup es, x => (match x with
    | .Tuple xs _ _ => decide (xs.length ≤ 1000) && chkEL I sc es xs
    | _ => false)
  | .lst es, x => (match x with
    | .List xs _ => decide (xs.length ≤ 1000) && chkEL I sc es xs
    | _ => false)
  | .dic ps, x => (match x with
    | .Dict ks vs _ => decide (ks.length ≤ 15) && chkPL I sc ps ks vs
    | _ => false)
  | .call f es, x => (match x with
    | .Call (.Name y _) xs [] _ => decide (I.fns[f]? = some (y, xs.length)) && (glC sc y && (nmOk y && (decide (y ≠ noN) && chkEL I sc es xs)))
    | _ => false)
  | .mk c f es, x => (match x with
    | .Call (.Name y _) xs [] _ => okC I c && (decide ((clN.getD c ("", [])).1 = y) && (I.mts.contains (f, c, "__init__") && (decide (I.fns[f]? = some (noN, xs.length + 1)) && (!xs.isEmpty && (glC sc y && (nmOk y && chkEL I sc es xs))))))
    | _ => false)
  | .ms c f o es, x => (match x with
    | .Call (.Attribute (.Name y p0) m ap) xs [] p => (ap.endLine == p.line) && (decide (xs.length < 30) && okC I c && (I.mts.contains (f, c, m) && (decide (I.fns[f]? = some (noN, xs.length + 1)) && (!(fdN c).contains m && (decide (m ≠ "__init__") && (chkE I sc o (.Name y p0) && chkEL I sc es xs))))))
    | _ => false)
  | .fld o c k, x => (match x with
    | .Attribute xo y _ => okC I c && (decide ((fdN c)[k]? = some y) && (atOk xo && chkE I sc o xo))
    | _ => false)
  | .bi f es, x => (match x with
    | .Call (.Name y _) xs [] _ => (match biV f with
      | some p => decide (p.1 = y) && (biB I sc y && (!xs.isEmpty && chkEL I sc es xs))
      | none => (match f with
        | .tupRev => decide (y = "tuple") && (biB I sc y && chkRv I sc es xs)
        | _ => false))
    | _ => false)
  | .mt m o es, x => (match x with
    | .Call (.Attribute xo nm ap) xs [] p => (match mtN m with
      | some q => decide (q.1 = nm) && (atOk xo && ((ap.endLine == p.line) && (decide (xs.length < 30) && (chkE I sc o xo && chkEL I sc es xs))))
      | none => false)
    | _ => false)
  | .ix a i, x => (match x with
    | .Subscript xa xi _ => noSl xi && (chkE I sc a xa && chkE I sc i xi)
    | _ => false)
  | .sl a lo hi, x => (match x with
    | .Subscript xa (.Slice (some xl) (some xh) none _) _ => chkE I sc a xa && (chkE I sc lo xl && chkE I sc hi xh)
    | _ => false)
  | .slA a lo, x => (match x with
    | .Subscript xa (.Slice (some xl) none none _) _ => chkE I sc a xa && chkE I sc lo xl
    | _ => false)
  | .slB a hi, x => (match x with
    | .Subscript xa (.Slice none (some xh) none _) _ => chkE I sc a xa && chkE I sc hi xh
    | _ => false)
  | .rev a, x => (match x with
    | .Subscript xa (.Slice none none (some (.UnaryOp .USub (.Constant (.int 1) _ _) _)) _) _ => chkE I sc a xa
    | _ => false)
  | .isi a t, x => (match x with
    | .Call (.Name f _) [xa, .Name y _] [] _ => (match tyV t with
      | some q => decide (f = "isinstance") && (decide (q.1 = y) && (biB I sc y && (biB I sc f && (noStar xa && chkE I sc a xa))))
      | none => (match t with
        | .own k => decide (f = "isinstance") && (clsB I sc k y && (biB I sc f && (noStar xa && chkE I sc a xa)))
        | _ => false))
    | .Call (.Name f _) [xa, .Tuple xs _ _] [] _ => (match t with
      | .owns ks => decide (f = "isinstance") && (clsBs I sc ks xs && (decide (ks.length ≤ 100) && (!ks.isEmpty && (biB I sc f && (noStar xa && chkE I sc a xa)))))
      | _ => false)
    | _ => false)
  | .comp own elt t it, x => (match x with
    | .ListComp xe [⟨tg, xi, [], 0⟩] scope _ => blkC I.N sc scope (own.map fun i => (I.N.getD i "", i)) && (plainIt xi && (chkIt I sc it tg xi && (chkT I scope t tg && chkE I scope elt xe)))
    | _ => false)
  | .compIf own elt t it c, x => (match x with
    | .ListComp xe [⟨tg, xi, [xc], 0⟩] scope _ => blkC I.N sc scope (own.map fun i => (I.N.getD i "", i)) && (plainIt xi && (chkIt I sc it tg xi && (chkT I scope t tg && (tmOk xc && (chkE I scope c xc && chkE I scope elt xe)))))
    | _ => false)
/-- what stands behind the first of a row of conditions -/
def chkL (I : Inf) (sc : Scope) : BoolOp → E → Expr → List Expr → Bool
  | .And, .and a b, xa, r => chkE I sc a xa && (match r with
      | [xb] => chkE I sc b xb
      | xb :: xc :: r => chkL I sc .And b xb (xc :: r)
      | [] => false)
  | .Or, .or a b, xa, r => chkE I sc a xa && (match r with
      | [xb] => chkE I sc b xb
      | xb :: xc :: r => chkL I sc .Or b xb (xc :: r)
      | [] => false)
  | _, _, _, _ => false
/-- reversed(e) -/
def chkRv (I : Inf) (sc : Scope) : EL → List Expr → Bool
  | .cons a .nil, x => (match x with
    | [.Call (.Name z _) [xa] [] _] => decide (z = "reversed") && (biB I sc z && (noStar xa && chkE I sc a xa))
    | _ => false)
  | _, _ => false
def chkEL (I : Inf) (sc : Scope) : EL → List Expr → Bool
  | .nil, [] => true
  | .cons e es, x :: xs => noStar x && (chkE I sc e x && chkEL I sc es xs)
  | _, _ => false
def chkPL (I : Inf) (sc : Scope) : PL → List (Option Expr) → List Expr → Bool
  | .nil, [], [] => true
  | .cons k v ps, some xk :: ks, xv :: vs => chkE I sc k xk && (chkE I sc v xv && chkPL I sc ps ks vs)
  | _, _, _ => false
def chkT (I : Inf) (sc : Scope) : T → Expr → Bool
  | .var i, x => (match x with
    | .Name y _ => decide (I.N[i]? = some y) && locC sc y
    | _ => false)
  | .tup ts, x => (match x with
    | .Tuple xs _ _ => decide (ts.len = xs.length) && chkTL I sc ts xs
    | _ => false)
  | .ix o i, x => (match o with
    | .var j => (match x with
      | .Subscript (.Name y _) xi _ => varB I sc j y && (noSl xi && chkE I sc i xi)
      | _ => false)
    | _ => false)
  | .fld o c k, x => (match o with
    | .var j => (match x with
      | .Attribute (.Name y _) f _ => varB I sc j y && (okC I c && decide ((fdN c)[k]? = some f))
      | _ => false)
    | _ => false)
def chkTL (I : Inf) (sc : Scope) : TL → List Expr → Bool
  | .nil, [] => true
  | .cons t ts, x :: xs => noStar x && (chkT I sc t x && chkTL I sc ts xs)
  | _, _ => false
def chkIt (I : Inf) (sc : Scope) : It → Expr → Expr → Bool
  | .e a, _, x => chkE I sc a x
  | .rng1 a, _, x => (match x with
    | .Call (.Name f _) [xa] [] _ => decide (f = "range") && (biB I sc f && (noStar xa && chkE I sc a xa))
    | _ => false)
  | .rng2 a b, _, x => (match x with
    | .Call (.Name f _) [xa, xb] [] _ => decide (f = "range") && (biB I sc f && (noStar xa && (noStar xb && (chkE I sc a xa && chkE I sc b xb))))
    | _ => false)
  | .zip a b, tg, x => (match tg with
    | .Tuple _ _ _ => (match x with
      | .Call (.Name f _) [xa, xb] [] _ => decide (f = "zip") && (biB I sc f && (noStar xa && (noStar xb && (chkE I sc a xa && chkE I sc b xb))))
      | _ => false)
    | _ => false)
  | .enum a, tg, x => (match tg with
    | .Tuple _ _ _ => (match x with
      | .Call (.Name f _) [xa] [] _ => decide (f = "enumerate") && (biB I sc f && (noStar xa && chkE I sc a xa))
      | _ => false)
    | _ => false)
  | _, _, _ => false
end
def parOk (N : List Str) (sc : Scope) (i j : Nat) (y z : Str) (py pz : Pos) (ea eb : Expr) : Bool :=
  decide (N[i]? = some y) && (decide (N[j]? = some z) && (decide (i ≠ j) && (decide (y ≠ z) && (decide (sc.names.lookup y = some .local) && (decide (sc.names.lookup z = some .local) && (decide (pz.line = py.line) && (noStar ea && (noStar eb && (!(foldedForSure 8 ea && foldedForSure 8 eb) && !(constantsAlone 8 ea && constantsAlone 8 eb))))))))))
def parCell (N : List Str) (sc : Scope) (i j : Nat) (y z : Str) : Bool :=
  decide (N[i]? = some y) && (decide (N[j]? = some z) && (decide (i ≠ j) && (locC sc y && (locC sc z && (decide (sc.names.lookup y = some .cell) || decide (sc.names.lookup z = some .cell))))))
def catches (c : Nat) (i : Option Nat) (h : SL) : Bool := decide (c = 0) && (hands i h).isSome
/-- an except clause -/
def chkH (I : Inf) (sc : Scope) (i : Option Nat) (h : SL) : ExceptHandler → Bool
  | .ExceptHandler (some (.Name y _)) nm hb _ => clsN I sc 0 y && (match i, nm with
    | some i, some n => (match hb with
      | [.Assign [.Name z _] (.Name n2 _) _] => decide (n2 = n) && (nmOk n && (decide (I.N[i]? = some n) && (decide (sc.names.lookup n = some .local) && (match hands (some i) h with
        | some (j, _) => decide (I.N[j]? = some z) && (locC sc z && decide (i ≠ j))
        | none => false))))
      | _ => false)
    | none, none => (match hb with
      | [.Assign [.Name z _] (.Constant .none _ _) _] => (match hands none h with
        | some (j, _) => decide (I.N[j]? = some z) && locC sc z
        | none => false)
      | _ => false)
    | _, _ => false)
  | _ => false
mutual
def chkS (I : Inf) (sc : Scope) : S → Stmt → Bool
  | .ret e, x => (match x with
    | .Return (some xe) _ => chkE I sc e xe
    | _ => false)
  | .retN, x => (match x with
    | .Return none _ => true
    | _ => false)
  | .expr e, x => (match x with
    | .Expr xe _ => noLc xe && chkE I sc e xe
    | _ => false)
  | .pass, x => (match x with
    | .Pass _ => true
    | .Expr (.Constant (.str _) _ _) _ => true
    | _ => false)
  | .brk, x => (match x with
    | .Break _ => true
    | _ => false)
  | .cnt, x => (match x with
    | .Continue _ => true
    | _ => false)
  | .asg t e, x => (match x with
    | .Assign [tg] xe _ => chkT I sc t tg && (chkE I sc e xe && (match tg with
      | .Name _ _ => true
      | _ => noStar tg && ((noLc xe || !isNm tg) && notTT tg xe)))
    | _ => false)
  | .aug t op e, x => (match x with
    | .AugAssign tg op' xe _ => decide (op = op') && (chkE I sc e xe && chkT I sc t tg && (match t with
      | .var _ => true
      | .ix _ _ => true
      | .fld _ _ _ => true
      | _ => false))
    | _ => false)
  | .ifs c a b, x => (match x with
    | .If xc xa xb _ => tmOk xc && (chkE I sc c xc && (chkSs I sc a xa && chkSs I sc b xb))
    | _ => false)
  | .forS t it b, x => (match x with
    | .For tg xi xb [] _ => plainIt xi && (chkIt I sc it tg xi && (chkT I sc t tg && chkSs I sc b xb))
    | _ => false)
  | .forP t j b, x => (match x with
    | .For tg (.Name y _) xb [] _ => varB I sc j y && (chkT I sc t tg && chkSs I sc b xb)
    | _ => false)
  | .whileS c b, x => (match x with
    | .While xc xb [] _ => tmOk xc && (chkE I sc c xc && chkSs I sc b xb)
    | _ => false)
  | .par i j a b, x => (match x with
    | .Assign [.Tuple [.Name y py, .Name z pz] _ _] (.Tuple [ea, eb] _ _) _ => (parOk I.N sc i j y z py pz ea eb || parCell I.N sc i j y z) && chkEL I sc (.cons a (.cons b .nil)) [ea, eb]
    | _ => false)
  | .raise c es, x => if raiseOk c es then (match x with
    | .Raise (some (.Call (.Name y _) [.Constant (.str _) _ _] [] _)) none _ => clsN I sc c y
    | _ => false) else true
  | .tryS b c i h, x => (match x with
    | .Try xb (hd :: tl) [] [] _ => chkSs I sc b xb && (!catches c i h || (tl.isEmpty && chkH I sc i h hd))
    | _ => false)
def chkSs (I : Inf) (sc : Scope) : SL → List Stmt → Bool
  | .nil, [] => true
  | .cons s ss, x :: xs => chkS I sc s x && chkSs I sc ss xs
  | _, _ => false
end

/-! ### what a context owes -/
structure Fx (I : Inf) (C : Ctx) (cn : List Str) (n : Nat) (X : Cx) : Prop where
  bis : ∀ x ∈ I.bis, X.mg x = none
  fns : ∀ (f : Nat) (y : Str) (np : Nat), y ≠ noN → I.fns[f]? = some (y, np) → ∃ k fa fd ps, k ≤ n ∧ ps.length = np ∧ FnG X.prog X.w X.K X.mg X.base (L2.CX X.prog X.w) k fa fd ps (spOf X.mg X.K cn ps.length (C.call f)) ∧ X.mg y = some (.ref fa) ∧ PySem.W.keepIn X.K (.ref fa) = true ∧ Binds X.K fd ps []
  gls : ∀ k y, I.gls[k]? = some y → ∃ v u d, X.mg y = some u ∧ RelV v u ∧ C.glob k = some d ∧ ∀ F, Rp X.K F v d
  hcn : cn = cnE
  xf : I.xc ≠ [] → XFs X
  xm : ∀ k ∈ I.xc, ∀ x, cnE[k]? = some x → ∃ C, X.mg x = some (.ref C)
  cl : ∀ c ∈ I.cls, ClsK X.K c
  xi : ∀ c C, clsI X.K c = some C → InF X.K C
  mt : ∀ f c m np, (f, c, m) ∈ I.mts → I.fns[f]? = some (noN, np) → ∃ k fa fd ps C0, k + 1 ≤ n ∧ ps.length = np ∧ FnG X.prog X.w X.K X.mg X.base (L2.CX X.prog X.w) k fa fd ps (spOf X.mg X.K cn ps.length (C.call f)) ∧ Binds X.K fd ps [] ∧ clsI X.K c = some C0 ∧ Cls X.K C0 ∧ (m ≠ "__init__" → Meth X.K C0 m fa) ∧ (m = "__init__" → Mk X.K C0 fa ∧ X.mg (clN.getD c ("", [])).1 = some (.ref C0))
section
variable {I : Inf} {C : Ctx} {cn : List Str} {n : Nat} {X : Cx}
theorem Fx.hold (f : Fx I C cn n X) (j : Nat) : Fx I (C.hold j) cn n X := ⟨f.bis, f.fns, f.gls, f.hcn, f.xf, f.xm, f.cl, f.xi, f.mt⟩
theorem Fx.nox (f : Fx I C cn n X) : Fx I C cn n X.nox := ⟨f.bis, f.fns, f.gls, f.hcn, fun h => (f.xf h).same rfl rfl, f.xm, f.cl, f.xi, f.mt⟩
theorem Fx.tr (f : Fx I C cn n X) (pn : List (Addr × Obj)) (xe : Value → Shared → Prop) : Fx I C cn n (X.tr pn xe) := ⟨f.bis, f.fns, f.gls, f.hcn, fun h => (f.xf h).same rfl rfl, f.xm, f.cl, f.xi, f.mt⟩
theorem Fx.blk (f : Fx I C cn n X) (s : Shared) (H : Hp) (scope : Scope) (cl : List (Str × Addr)) (Ca : Addr) (fp : List Addr) : Fx I C cn n (X.blk s H scope (compEnvC scope cl Ca X.env) fp) := ⟨f.bis, f.fns, f.gls, f.hcn, fun h => (f.xf h).same rfl rfl, f.xm, f.cl, f.xi, f.mt⟩
theorem snd_glob {N : List Str} {sc : Scope} {W : WX} {pos : Pos} (G : Gd X N sc cn W n) (f : Fx I C cn n X) {k : Nat} {y : Str} (h : I.gls[k]? = some y) (hg : glC sc y = true) (hn : nmOk y = true) : SndE X cn W (.Name y pos) (evE C (.glob k)) := by
  obtain ⟨v, u, d, hm, r, hd, rp⟩ := f.gls k y h
  intro ρ F H as σ Q e nd sub w
  simp only [evE, hd] at w
  exact we_of (pe_glob (G.gl hg) hm r (nmOk_d hn).1) (w v F H [] as Stp.refl e (.dat (rp F)) nd sub)
end
end MP

namespace MP
open PySem PySem.Spec PyProof.Rows L2
variable [HasW]
section
variable {I : Inf} {C : Ctx} {cn : List Str} {n : Nat}
theorem own_map {N : List Str} : ∀ own : List Nat, (own.map fun i => (N.getD i "", i)).map (·.2) = own
  | [] => rfl
  | i :: own => by rw [List.map_cons, List.map_cons, own_map own]
theorem and2 {a b : Bool} : (a && b) = true ↔ a = true ∧ b = true := by simp
theorem varB_ok {sc : Scope} {i : Nat} {x : Str} (h : varB I sc i x = true) : VarOk I.N sc i x := by
  simp only [varB, and2, decide_eq_true_eq] at h
  exact ⟨h.1, h.2.1, h.2.2⟩
theorem biB_ok {X : Cx} {sc : Scope} {x : Str} (f : Fx I C cn n X) (h : biB I sc x = true) : glC sc x = true ∧ X.mg x = none := by
  simp only [biB, and2, List.contains_iff_mem] at h
  exact ⟨h.1, f.bis x h.2⟩
theorem clsN_ok {X : Cx} {sc : Scope} {k : Nat} {y : Str} (f : Fx I C cn n X) (h : clsN I sc k y = true) : XFs X ∧ cnE[k]? = some y ∧ glC sc y = true ∧ nmOk y = true ∧ ∃ Ca, X.mg y = some (.ref Ca) := by
  simp only [clsN, and2, List.contains_iff_mem, decide_eq_true_eq] at h
  exact ⟨f.xf (fun z => by have := h.1; rw [z] at this; cases this), h.2.1, h.2.2.1, h.2.2.2, f.xm k h.1 y h.2.1⟩
theorem clsB_ok {X : Cx} {sc : Scope} {W : WX} {k : Nat} {y : Str} (G : Gd X I.N sc cnE W n) (f : Fx I C cnE n X) (h : clsB I sc k y = true) : ∃ v u, XFs X ∧ ClsE X sc k y v u := by
  unfold clsB at h
  split at h
  · rename_i e
    subst e
    simp only [and2, decide_eq_true_eq] at h
    obtain ⟨rfl, h2, h3⟩ := h
    obtain ⟨g1, g2⟩ := biB_ok f h2
    exact ⟨_, _, f.xf (fun z => by rw [z] at h3; cases h3), cls_ve G g1 g2⟩
  · obtain ⟨xf, h1, h2, h3, Ca, h4⟩ := clsN_ok f h
    exact ⟨_, _, xf, cls_own G xf h1 h4 h2 h3⟩
theorem isiX_ok {X : Cx} {sc : Scope} {W : WX} {k : Nat} {y : Str} {xa : Expr} {a : E} {p p2 pos : Pos} (G : Gd X I.N sc cn W n) (f : Fx I C cn n X) (h : clsB I sc k y = true) (g2 : glC sc "isinstance" = true) (m2 : X.mg "isinstance" = none) (hs : noStar xa = true)
    (ha : SndB X cn W xa (bvOf a (evE C a))) : SndE X cn W (.Call (.Name "isinstance" p) [xa, .Name y p2] [] pos) (evE C (.isi a (.own k))) := by
  have e := f.hcn
  subst e
  obtain ⟨v, u, xf, ce⟩ := clsB_ok G f h
  exact snd_isiX G xf ce g2 m2 hs ha
theorem clsBs_ok {X : Cx} {sc : Scope} {W : WX} (G : Gd X I.N sc cnE W n) (f : Fx I C cnE n X) : ∀ (ks : List Nat) (xs : List Expr), clsBs I sc ks xs = true → (∀ k ∈ ks, k ≤ 8) ∧ (ks ≠ [] → XFs X) ∧ ∃ vs us, ClsEs X sc ks xs vs us
  | [], [], _ => ⟨fun _ h => (by cases h), fun h => absurd rfl h, [], [], .nil⟩
  | k :: ks, [], h => by simp [clsBs] at h
  | [], x :: xs, h => by simp [clsBs] at h
  | k :: ks, x :: xs, h => by
    unfold clsBs at h
    split at h
    · rename_i e _; cases e
    · rename_i e1 e2
      cases e1; cases e2
      simp only [and2, decide_eq_true_eq] at h
      obtain ⟨h1, h2, h3⟩ := h
      obtain ⟨i1, i2, vs, us, i3⟩ := clsBs_ok G f _ _ h3
      obtain ⟨xf, c1, c2, c3, Ca, c4⟩ := clsN_ok f h1
      refine ⟨fun z hz => ?_, fun _ => xf, _, _, .cons (cls_own G xf c1 c4 c2 c3) i3⟩
      rcases List.mem_cons.mp hz with rfl | hz
      · exact h2
      · exact i1 z hz
    · cases h
theorem isiXs_ok {X : Cx} {sc : Scope} {W : WX} {ks : List Nat} {xs : List Expr} {xa : Expr} {a : E} {j : Nat} {p p2 pos : Pos} (G : Gd X I.N sc cn W n) (f : Fx I C cn n X) (h : clsBs I sc ks xs = true) (hl : ks.length ≤ 100) (ne : ks ≠ []) (g2 : glC sc "isinstance" = true) (m2 : X.mg "isinstance" = none) (hs : noStar xa = true)
    (ha : SndB X cn W xa (bvOf a (evE C a))) : SndE X cn W (.Call (.Name "isinstance" p) [xa, .Tuple xs j p2] [] pos) (evE C (.isi a (.owns ks))) := by
  have e := f.hcn
  subst e
  obtain ⟨h8, xf, vs, us, ce⟩ := clsBs_ok G f ks xs h
  exact snd_isiXs G (xf ne) ce h8 hl g2 m2 hs ha
structure SE (I : Inf) (C : Ctx) (cn : List Str) (X : Cx) (sc : Scope) (W : WX) (x : Expr) (e : E) : Prop where
  ev : SndE X cn W x (evE C e)
  ts : tmOk x = true → SndT X cn W x (fun ρ => tst (evE C e ρ))
  as : ∀ (i : Nat) (y : Str) (py spos : Pos), I.N[i]? = some y → locC sc y = true → SndS X cn W C.own (.Assign [.Name y py] x spos) (evS C (.asg (.var i) e))
theorem SE.mk2 {X : Cx} {sc : Scope} {W : WX} {x : Expr} {e : E} (G : Gd X I.N sc cn W n) (hl : noLc x = true) (h : SndE X cn W x (evE C e)) (ht : tmOk x = true → SndT X cn W x (fun ρ => tst (evE C e ρ))) : SE I C cn X sc W x e :=
  ⟨h, ht, fun i y py spos hi hlc => snd_asg (by rw [hl]; rfl) rfl rfl (sndg_var G hi hlc) h⟩
theorem SE.pl {X : Cx} {sc : Scope} {W : WX} {x : Expr} {e : E} (G : Gd X I.N sc cn W n) (hl : noLc x = true) (hp : plainT x = true) (h : SndE X cn W x (evE C e)) : SE I C cn X sc W x e := SE.mk2 G hl h fun _ => snd_tE hp h
/-- as an operand -/
theorem SE.b {X : Cx} {sc : Scope} {W : WX} {x : Expr} {e : E} (h : SE I C cn X sc W x e) (G : Gd X I.N sc cn W n) (hc : chkE I sc e x = true) : SndB X cn W x (bvOf e (evE C e)) := by
  cases e with
  | var i =>
    simp only [chkE] at hc
    split at hc
    · exact snd_bv_var G (varB_ok hc)
    · cases hc
  | _ => exact snd_tmp h.ev
theorem SE.arg {X : Cx} {sc : Scope} {W : WX} {x : Expr} {e : E} (h : SE I C cn X sc W x e) (G : Gd X I.N sc cn W n) (hc : chkE I sc e x = true) : SndB X cn W x (bvArg e (evE C e)) := by
  cases e with
  | mv i =>
    simp only [chkE] at hc
    split at hc
    · exact snd_arg_mv G (varB_ok hc)
    · cases hc
  | _ => exact snd_tmp h.ev
/-- as a test -/
theorem SE.tb {X : Cx} {sc : Scope} {W : WX} {x : Expr} {e : E} (h : SE I C cn X sc W x e) (G : Gd X I.N sc cn W n) (hc : chkE I sc e x = true) (ht : tmOk x = true) : SndT X cn W x (fun ρ => testB (bvOf e (evE C e) ρ)) := by
  cases hv : isVar e with
  | true =>
    refine snd_tB ?_ (h.b G hc)
    cases e <;> simp only [isVar, reduceCtorEq] at hv
    simp only [chkE] at hc
    split at hc
    · rfl
    · cases hc
  | false =>
    have : (fun ρ => testB (bvOf e (evE C e) ρ)) = fun ρ => tst (evE C e ρ) := funext fun ρ => testB_tst hv
    rw [this]
    exact h.ts ht
/-- the rest of a row of conditions -/
structure SL2 (C : Ctx) (cn : List Str) (X : Cx) (W : WX) (op : BoolOp) (xs : List Expr) (e : E) : Prop where
  ev : ∀ pos, SndE X cn W (.BoolOp op xs pos) (evE C e)
  ts : (∀ x ∈ xs, tmOk x = true) → ∀ pos, SndW X cn W (.BoolOp op xs pos) (fun ρ => tst (evE C e ρ))
theorem tmOks_mem : ∀ {xs : List Expr}, tmOk.tmOks xs = true → ∀ x ∈ xs, tmOk x = true
  | [], _, x, h => by cases h
  | y :: ys, h, x, hx => by
    simp only [tmOk.tmOks, and2] at h
    rcases List.mem_cons.mp hx with rfl | hx
    · exact h.1
    · exact tmOks_mem h.2 x hx
theorem SL2.one {X : Cx} {sc : Scope} {W : WX} {op : BoolOp} {x : Expr} {e : E} (h : SE I C cn X sc W x e) : SL2 C cn X W op [x] e :=
  ⟨fun pos => snd_one h.ev, fun ht pos => sndw_one (h.ts (ht x (List.mem_singleton.mpr rfl)))⟩
theorem SL2.and {X : Cx} {sc : Scope} {W : WX} {x y : Expr} {r : List Expr} {a b : E} (h : SE I C cn X sc W x a) (k : SL2 C cn X W .And (y :: r) b) : SL2 C cn X W .And (x :: y :: r) (.and a b) :=
  ⟨fun pos => snd_and h.ev (k.ev pos), fun ht pos => sndw_and (h.ts (ht x List.mem_cons_self)) (k.ts (fun z hz => ht z (List.mem_cons_of_mem _ hz)) pos)⟩
theorem SL2.or {X : Cx} {sc : Scope} {W : WX} {x y : Expr} {r : List Expr} {a b : E} (h : SE I C cn X sc W x a) (k : SL2 C cn X W .Or (y :: r) b) : SL2 C cn X W .Or (x :: y :: r) (.or a b) :=
  ⟨fun pos => snd_or h.ev (k.ev pos), fun ht pos => sndw_or (h.ts (ht x List.mem_cons_self)) (k.ts (fun z hz => ht z (List.mem_cons_of_mem _ hz)) pos)⟩
theorem SL2.se {X : Cx} {sc : Scope} {W : WX} {op : BoolOp} {xs : List Expr} {e : E} {pos : Pos} (G : Gd X I.N sc cn W n) (k : SL2 C cn X W op xs e) : SE I C cn X sc W (.BoolOp op xs pos) e :=
  SE.mk2 G rfl (k.ev pos) fun ht => (k.ts (tmOks_mem (by simpa only [tmOk] using ht)) pos).t
theorem con_ok {X : Cx} {W : WX} {d : D} {c : Const} {k : Nat} {p : Pos} (h : conOk d c = true) : SndE X cn W (.Constant c k p) (evE C (.con d)) := by
  unfold conOk at h
  split at h
  · simp only [beq_iff_eq] at h; subst h; exact snd_int
  · simp only [beq_iff_eq] at h; subst h; exact snd_bl
  · exact snd_non
  · rename_i x y
    simp only [and2, decide_eq_true_eq] at h
    have e : y = SX x := by
      cases y with
      | mk cps => rw [← h.1]
    subst e
    exact snd_str h.2.1 h.2.2
  · cases h
theorem chkEL_stars {sc : Scope} : ∀ {es : EL} {xs : List Expr}, chkEL I sc es xs = true → xs.all noStar = true ∧ (xs = [] → es = .nil)
  | .nil, [], _ => ⟨rfl, fun _ => rfl⟩
  | .nil, _ :: _, h => by simp [chkEL] at h
  | .cons _ _, [], h => by simp [chkEL] at h
  | .cons e es, x :: xs, h => by
    simp only [chkEL, and2] at h
    exact ⟨by rw [List.all_cons, h.1, (chkEL_stars h.2.2).1]; rfl, fun z => by cases z⟩
theorem chkTL_stars {sc : Scope} : ∀ {ts : TL} {xs : List Expr}, chkTL I sc ts xs = true → xs.all noStar = true
  | .nil, [], _ => rfl
  | .nil, _ :: _, h => by simp [chkTL] at h
  | .cons _ _, [], h => by simp [chkTL] at h
  | .cons e es, x :: xs, h => by
    simp only [chkTL, and2] at h
    rw [List.all_cons, h.1, chkTL_stars h.2.2]; rfl
mutual
theorem okE : ∀ (e : E) {X : Cx} {sc : Scope} {W : WX} (G : Gd X I.N sc cn W n) (f : Fx I C cn n X) {x : Expr}, chkE I sc e x = true → SE I C cn X sc W x e
  | .var i, X, sc, W, G, f, x, h => by
    simp only [chkE] at h
    split at h
    · exact SE.pl G rfl rfl (snd_var G (varB_ok h))
    · cases h
  | .mv i, X, sc, W, G, f, x, h => by
    simp only [chkE] at h
    split at h
    · exact SE.pl G rfl rfl (snd_mv G (varB_ok h))
    · cases h
  | .con d, X, sc, W, G, f, x, h => by
    simp only [chkE] at h
    split at h
    · exact SE.pl G rfl rfl (con_ok h)
    · cases h
  | .glob k, X, sc, W, G, f, x, h => by
    simp only [chkE] at h
    split at h
    · simp only [and2, decide_eq_true_eq] at h
      exact SE.pl G rfl rfl (snd_glob G f h.1 h.2.1 h.2.2)
    · cases h
  | .bin op a b, X, sc, W, G, f, x, h => by
    simp only [chkE] at h
    split at h
    · simp only [and2, decide_eq_true_eq] at h
      obtain ⟨rfl, h1, h2⟩ := h
      exact SE.pl G rfl rfl (snd_bin ((okE a G f h1).b G h1) ((okE b G f h2).b G h2))
    · cases h
  | .neg a, X, sc, W, G, f, x, h => by
    simp only [chkE] at h
    split at h
    · exact SE.pl G rfl rfl (snd_neg (okE a G f h).ev)
    · cases h
  | .notE a, X, sc, W, G, f, x, h => by
    simp only [chkE] at h
    split at h
    · exact SE.mk2 G rfl (snd_notE ((okE a G f h).b G h)) fun ht => snd_not ((okE a G f h).tb G h (by simpa only [tmOk] using ht))
    · cases h
  | .and a b, X, sc, W, G, f, x, h => by
    simp only [chkE] at h
    split at h
    · rename_i xa xb r p
      simp only [and2] at h
      obtain ⟨h1, h2⟩ := h
      split at h2
      · exact (SL2.and (okE a G f h1) (.one (okE b G f h2))).se G
      · exact (SL2.and (okE a G f h1) (okL b G f h2)).se G
    · cases h
  | .or a b, X, sc, W, G, f, x, h => by
    simp only [chkE] at h
    split at h
    · rename_i xa xb r p
      simp only [and2] at h
      obtain ⟨h1, h2⟩ := h
      split at h2
      · exact (SL2.or (okE a G f h1) (.one (okE b G f h2))).se G
      · exact (SL2.or (okE a G f h1) (okL b G f h2)).se G
    · cases h
  | .ite c a b, X, sc, W, G, f, x, h => by
    simp only [chkE] at h
    split at h
    · simp only [and2] at h
      obtain ⟨h0, h1, h2, h3⟩ := h
      exact SE.mk2 G rfl (snd_ite ((okE c G f h1).tb G h1 h0) (okE a G f h2).ev (okE b G f h3).ev) fun ht => by simp [tmOk] at ht
    · cases h
  | .cmp op a b, X, sc, W, G, f, x, h => by
    simp only [chkE] at h
    split at h
    · simp only [and2, decide_eq_true_eq, Bool.not_eq_true'] at h
      obtain ⟨rfl, h0, h1, h2⟩ := h
      exact SE.mk2 G rfl (snd_cmp G.hw G.room.units h0 ((okE a G f h1).b G h1) ((okE b G f h2).b G h2)) fun _ => snd_cmpT G.hw G.room.units h0 ((okE a G f h1).b G h1) ((okE b G f h2).b G h2)
    · cases h
  | .cmp2 o1 o2 a b c, X, sc, W, G, f, x, h => by
    simp only [chkE] at h
    split at h
    · simp only [and2, decide_eq_true_eq, Bool.not_eq_true'] at h
      obtain ⟨rfl, rfl, h0, h1, h2, h3⟩ := h
      exact SE.mk2 G rfl (snd_cmp2 G.hw G.room.units h0 ((okE a G f h1).b G h1) ((okE b G f h2).b G h2) ((okE c G f h3).b G h3)) fun _ => snd_cmp2T G.hw G.room.units h0 ((okE a G f h1).b G h1) ((okE b G f h2).b G h2) ((okE c G f h3).b G h3)
    · cases h
  | .tup es, X, sc, W, G, f, x, h => by
    simp only [chkE] at h
    split at h
    · simp only [and2, decide_eq_true_eq] at h
      exact SE.pl G rfl rfl (snd_tup h.1 (okEL es G f h.2).1)
    · cases h
  | .lst es, X, sc, W, G, f, x, h => by
    simp only [chkE] at h
    split at h
    · simp only [and2, decide_eq_true_eq] at h
      exact SE.pl G rfl rfl (snd_lst h.1 (okEL es G f h.2).1)
    · cases h
  | .dic ps, X, sc, W, G, f, x, h => by
    simp only [chkE] at h
    split at h
    · simp only [and2, decide_eq_true_eq] at h
      obtain ⟨ks, rfl, hp⟩ := okPL ps G f h.2
      exact SE.pl G rfl rfl (snd_dic G.hw (by have := G.room.units; omega) hp (by rw [← allSome_len]; exact h.1))
    · cases h
  | .call g es, X, sc, W, G, f, x, h => by
    simp only [chkE] at h
    split at h
    · simp only [and2, decide_eq_true_eq] at h
      obtain ⟨h1, h2, h3, h5, h4⟩ := h
      obtain ⟨k, fa, fd, ps, hk, hl, F, hm, kp, hb⟩ := f.fns _ _ _ h5 h1
      exact SE.pl G rfl rfl (snd_call G F hk h2 h3 hm kp hb (chkEL_stars h4).1 hl.symm (chkEL_stars h4).2 (okEL es G f h4).1)
    · cases h
  | .bi g es, X, sc, W, G, f, x, h => by
    simp only [chkE] at h
    split at h
    · split at h
      · rename_i q hq
        obtain ⟨y, v⟩ := q
        simp only [and2, decide_eq_true_eq] at h
        obtain ⟨h1, h2, h3, h4⟩ := h
        subst h1
        obtain ⟨g1, g2⟩ := biB_ok f h2
        exact SE.pl G rfl rfl (snd_bi G G.room.units hq g1 g2 (chkEL_stars h4).1 (by intro z; rw [z] at h3; simp at h3) (okEL es G f h4).2)
      · split at h
        · simp only [and2, decide_eq_true_eq] at h
          obtain ⟨rfl, h2, h3⟩ := h
          obtain ⟨g1, g2⟩ := biB_ok f h2
          exact okRv es G f g1 g2 h3
        · cases h
    · cases h
  | .mt m o es, X, sc, W, G, f, x, h => by
    simp only [chkE] at h
    split at h
    · split at h
      · rename_i q hq
        obtain ⟨nm, T, id⟩ := q
        simp only [and2, decide_eq_true_eq] at h
        obtain ⟨h1, h2, h3, h4, h5, h6⟩ := h
        subst h1
        exact SE.pl G rfl rfl (snd_mt G (by have := G.room.un; omega) hq h2 h3 (chkEL_stars h6).1 h4 (chkEL_stars h6).2 ((okE o G f h5).b G h5) (okEL es G f h6).1)
      · cases h
    · cases h
  | .ix a i, X, sc, W, G, f, x, h => by
    simp only [chkE] at h
    split at h
    · simp only [and2] at h
      obtain ⟨h0, h1, h2⟩ := h
      exact SE.pl G rfl rfl (snd_ix G.hw (by have := G.room.units; omega) h0 ((okE a G f h1).b G h1) ((okE i G f h2).b G h2))
    · cases h
  | .sl a lo hi, X, sc, W, G, f, x, h => by
    simp only [chkE] at h
    split at h
    · simp only [and2] at h
      obtain ⟨h1, h2, h3⟩ := h
      exact SE.pl G rfl rfl (snd_sl ((okE a G f h1).b G h1) ((okE lo G f h2).b G h2) ((okE hi G f h3).b G h3))
    · cases h
  | .slA a lo, X, sc, W, G, f, x, h => by
    simp only [chkE] at h
    split at h
    · simp only [and2] at h
      exact SE.pl G rfl rfl (snd_slA ((okE a G f h.1).b G h.1) ((okE lo G f h.2).b G h.2))
    · cases h
  | .slB a hi, X, sc, W, G, f, x, h => by
    simp only [chkE] at h
    split at h
    · simp only [and2] at h
      exact SE.pl G rfl rfl (snd_slB ((okE a G f h.1).b G h.1) ((okE hi G f h.2).b G h.2))
    · cases h
  | .rev a, X, sc, W, G, f, x, h => by
    simp only [chkE] at h
    split at h
    · exact SE.pl G rfl rfl (snd_rev ((okE a G f h).b G h))
    · cases h
  | .isi a t, X, sc, W, G, f, x, h => by
    simp only [chkE] at h
    split at h
    · split at h
      · rename_i q hq
        obtain ⟨y, T⟩ := q
        simp only [and2, decide_eq_true_eq] at h
        obtain ⟨rfl, h2, h3, h4, h5, h6⟩ := h
        subst h2
        obtain ⟨g1, g2⟩ := biB_ok f h3
        obtain ⟨g3, g4⟩ := biB_ok f h4
        exact SE.pl G rfl rfl (snd_isi G f.xi hq g1 g2 g3 g4 h5 ((okE a G f h6).b G h6))
      · split at h
        · simp only [and2, decide_eq_true_eq] at h
          obtain ⟨rfl, h2, h4, h5, h6⟩ := h
          obtain ⟨g3, g4⟩ := biB_ok f h4
          have hb := (okE a G f h6).b G h6
          exact SE.pl G rfl rfl (isiX_ok G f h2 g3 g4 h5 hb)
        · cases h
    · split at h
      · simp only [and2, decide_eq_true_eq, Bool.not_eq_true', List.isEmpty_eq_false_iff] at h
        obtain ⟨rfl, h2, h3, h4, h5, h6, h7⟩ := h
        obtain ⟨g3, g4⟩ := biB_ok f h5
        exact SE.pl G rfl rfl (isiXs_ok G f h2 h3 h4 g3 g4 h6 ((okE a G f h7).b G h7))
      · cases h
    · cases h
  | .comp own elt t it, X, sc, W, G, f, x, h => by
    simp only [chkE] at h
    split at h
    · rename_i xe tg xi scope p
      simp only [and2] at h
      obtain ⟨h0, h1, h2, h3, h4⟩ := h
      have hi := okIt it G f h2
      have hg : blkP X scope fun Y => SndB1 Y ((own.map fun i => (I.N.getD i "", i)).map (·.2)) tg t := fun s H Ca cl fp => (okT t (G.blk s H scope cl Ca fp) (f.blk s H scope cl Ca fp) h3).2 _
      have he : blkP X scope fun Y => SndE Y cn W0 xe (evE C elt) := fun s H Ca cl fp => (okE elt (G.blk s H scope cl Ca fp) (f.blk s H scope cl Ca fp) h4).ev
      have hev := snd_comp (C := C) (pos := p) G h0 h1 hi hg he
      have has := fun (i : Nat) (y : Str) (py spos : Pos) (hy : I.N[i]? = some y) (hl : locC sc y = true) => snd_setComp (C := C) (pos := p) (py := py) (spos := spos) G hy hl h0 h1 hi hg he
      rw [own_map] at hev has
      exact ⟨hev, fun _ => snd_tE rfl hev, has⟩
    · cases h
  | .compIf own elt t it c, X, sc, W, G, f, x, h => by
    simp only [chkE] at h
    split at h
    · rename_i xe tg xi xc scope p
      simp only [and2] at h
      obtain ⟨h0, h1, h2, h3, h4, h5, h6⟩ := h
      have hi := okIt it G f h2
      have hg : blkP X scope fun Y => SndB1 Y ((own.map fun i => (I.N.getD i "", i)).map (·.2)) tg t := fun s H Ca cl fp => (okT t (G.blk s H scope cl Ca fp) (f.blk s H scope cl Ca fp) h3).2 _
      have hc : blkP X scope fun Y => SndT Y cn W0 xc (testE C c) := fun s H Ca cl fp => (okE c (G.blk s H scope cl Ca fp) (f.blk s H scope cl Ca fp) h5).tb (G.blk s H scope cl Ca fp) h5 h4
      have he : blkP X scope fun Y => SndE Y cn W0 xe (evE C elt) := fun s H Ca cl fp => (okE elt (G.blk s H scope cl Ca fp) (f.blk s H scope cl Ca fp) h6).ev
      have hev := snd_compIf (C := C) (pos := p) G h0 h1 hi hg hc he
      have has := fun (i : Nat) (y : Str) (py spos : Pos) (hy : I.N[i]? = some y) (hl : locC sc y = true) => snd_setCompIf (C := C) (pos := p) (py := py) (spos := spos) G hy hl h0 h1 hi hg hc he
      rw [own_map] at hev has
      exact ⟨hev, fun _ => snd_tE rfl hev, has⟩
    · cases h
  | .mk c g es, X, sc, W, G, f, x, h => by
    simp only [chkE] at h
    split at h
    · simp only [and2, decide_eq_true_eq, Bool.not_eq_true', List.isEmpty_eq_false_iff, List.contains_iff_mem] at h
      obtain ⟨h1, h2, h3, h4, h5, h6, h7, h8⟩ := h
      obtain ⟨k, fa, fd, ps, C0, hk, hl, F, hb, hC, cl, _, hM⟩ := f.mt _ _ _ _ h3 h4
      obtain ⟨M, hm⟩ := hM rfl
      rw [h2] at hm
      exact SE.pl G rfl rfl (snd_mk G F hk hC M h6 h7 hm hb (chkEL_stars h8).1 hl.symm h5 (okEL es G f h8).1)
    · cases h
  | .ms c g o es, X, sc, W, G, f, x, h => by
    simp only [chkE] at h
    split at h
    · simp only [and2, decide_eq_true_eq, Bool.not_eq_true', List.contains_iff_mem] at h
      obtain ⟨hlp, ⟨few, h1⟩, h3, h4, h5, h6, h7, h8⟩ := h
      obtain ⟨k, fa, fd, ps, C0, hk, hl, F, hb, hC, cl, hm, _⟩ := f.mt _ _ _ _ h3 h4
      exact SE.pl G rfl rfl (snd_ms G F (by omega) hC cl (hm h6) (by simpa using h5) hb hlp few (chkEL_stars h8).1 hl.symm (chkEL_stars h8).2 ((okE o G f h7).arg G h7) (okEL es G f h8).1)
    · cases h
  | .fld o c k, X, sc, W, G, f, x, h => by
    simp only [chkE] at h
    split at h
    · simp only [okC, and2, decide_eq_true_eq, List.contains_iff_mem] at h
      obtain ⟨⟨h1, _⟩, h2, h3, h4⟩ := h
      exact SE.pl G rfl rfl (snd_fld (f.cl c h1) h2 h3 ((okE o G f h4).b G h4))
    · cases h
theorem okRv : ∀ (es : EL) {X : Cx} {sc : Scope} {W : WX} (G : Gd X I.N sc cn W n) (f : Fx I C cn n X) {xs : List Expr} {p pos : Pos}, glC sc "tuple" = true → X.mg "tuple" = none → chkRv I sc es xs = true → SE I C cn X sc W (.Call (.Name "tuple" p) xs [] pos) (.bi .tupRev es)
  | .cons a .nil, X, sc, W, G, f, xs, p, pos, g1, g2, h => by
    simp only [chkRv] at h
    split at h
    · simp only [and2, decide_eq_true_eq] at h
      obtain ⟨rfl, h3, h4, h5⟩ := h
      obtain ⟨g3, g4⟩ := biB_ok f h3
      exact SE.pl G rfl rfl (snd_tupRev G g1 g2 g3 g4 h4 ((okE a G f h5).b G h5))
    · cases h
  | .nil, X, sc, W, G, f, xs, p, pos, _, _, h => by simp [chkRv] at h
  | .cons _ (.cons _ _), X, sc, W, G, f, xs, p, pos, _, _, h => by simp [chkRv] at h
theorem okL : ∀ (e : E) {X : Cx} {sc : Scope} {W : WX} (G : Gd X I.N sc cn W n) (f : Fx I C cn n X) {op : BoolOp} {x : Expr} {r : List Expr}, chkL I sc op e x r = true → SL2 C cn X W op (x :: r) e
  | .and a b, X, sc, W, G, f, op, x, r, h => by
    cases op with
    | Or => simp [chkL] at h
    | And =>
      simp only [chkL, and2] at h
      obtain ⟨h1, h2⟩ := h
      split at h2
      · exact SL2.and (okE a G f h1) (.one (okE b G f h2))
      · exact SL2.and (okE a G f h1) (okL b G f h2)
      · cases h2
  | .or a b, X, sc, W, G, f, op, x, r, h => by
    cases op with
    | And => simp [chkL] at h
    | Or =>
      simp only [chkL, and2] at h
      obtain ⟨h1, h2⟩ := h
      split at h2
      · exact SL2.or (okE a G f h1) (.one (okE b G f h2))
      · exact SL2.or (okE a G f h1) (okL b G f h2)
      · cases h2
  | .var _, X, sc, W, G, f, op, x, r, h => by cases op <;> simp [chkL] at h
  | .mv _, X, sc, W, G, f, op, x, r, h => by cases op <;> simp [chkL] at h
  | .con _, X, sc, W, G, f, op, x, r, h => by cases op <;> simp [chkL] at h
  | .glob _, X, sc, W, G, f, op, x, r, h => by cases op <;> simp [chkL] at h
  | .bin _ _ _, X, sc, W, G, f, op, x, r, h => by cases op <;> simp [chkL] at h
  | .neg _, X, sc, W, G, f, op, x, r, h => by cases op <;> simp [chkL] at h
  | .notE _, X, sc, W, G, f, op, x, r, h => by cases op <;> simp [chkL] at h
  | .ite _ _ _, X, sc, W, G, f, op, x, r, h => by cases op <;> simp [chkL] at h
  | .cmp _ _ _, X, sc, W, G, f, op, x, r, h => by cases op <;> simp [chkL] at h
  | .cmp2 _ _ _ _ _, X, sc, W, G, f, op, x, r, h => by cases op <;> simp [chkL] at h
  | .tup _, X, sc, W, G, f, op, x, r, h => by cases op <;> simp [chkL] at h
  | .lst _, X, sc, W, G, f, op, x, r, h => by cases op <;> simp [chkL] at h
  | .dic _, X, sc, W, G, f, op, x, r, h => by cases op <;> simp [chkL] at h
  | .call _ _, X, sc, W, G, f, op, x, r, h => by cases op <;> simp [chkL] at h
  | .mk _ _ _, X, sc, W, G, f, op, x, r, h => by cases op <;> simp [chkL] at h
  | .bi _ _, X, sc, W, G, f, op, x, r, h => by cases op <;> simp [chkL] at h
  | .mt _ _ _, X, sc, W, G, f, op, x, r, h => by cases op <;> simp [chkL] at h
  | .ms _ _ _ _, X, sc, W, G, f, op, x, r, h => by cases op <;> simp [chkL] at h
  | .fld _ _ _, X, sc, W, G, f, op, x, r, h => by cases op <;> simp [chkL] at h
  | .ix _ _, X, sc, W, G, f, op, x, r, h => by cases op <;> simp [chkL] at h
  | .sl _ _ _, X, sc, W, G, f, op, x, r, h => by cases op <;> simp [chkL] at h
  | .slA _ _, X, sc, W, G, f, op, x, r, h => by cases op <;> simp [chkL] at h
  | .slB _ _, X, sc, W, G, f, op, x, r, h => by cases op <;> simp [chkL] at h
  | .rev _, X, sc, W, G, f, op, x, r, h => by cases op <;> simp [chkL] at h
  | .isi _ _, X, sc, W, G, f, op, x, r, h => by cases op <;> simp [chkL] at h
  | .comp _ _ _ _, X, sc, W, G, f, op, x, r, h => by cases op <;> simp [chkL] at h
  | .compIf _ _ _ _ _, X, sc, W, G, f, op, x, r, h => by cases op <;> simp [chkL] at h
theorem okEL : ∀ (es : EL) {X : Cx} {sc : Scope} {W : WX} (G : Gd X I.N sc cn W n) (f : Fx I C cn n X) {xs : List Expr}, chkEL I sc es xs = true → SndA X cn W xs (evArgs C es) ∧ SndA X cn W xs (evOps C es)
  | .nil, X, sc, W, G, f, [], h => ⟨snda_nil, snda_nil⟩
  | .nil, X, sc, W, G, f, _ :: _, h => by simp [chkEL] at h
  | .cons _ _, X, sc, W, G, f, [], h => by simp [chkEL] at h
  | .cons e es, X, sc, W, G, f, x :: xs, h => by
    simp only [chkEL, and2] at h
    obtain ⟨h1, h2, h3⟩ := h
    have he := okE e G f h2
    have hr := okEL es G f h3
    exact ⟨snda_cons h1 (he.arg G h2) hr.1, snda_cons h1 (he.b G h2) hr.2⟩
theorem okPL : ∀ (ps : PL) {X : Cx} {sc : Scope} {W : WX} (G : Gd X I.N sc cn W n) (f : Fx I C cn n X) {ks : List (Option Expr)} {vs : List Expr}, chkPL I sc ps ks vs = true → ∃ xs, ks = allSome xs ∧ SndP X cn W C xs vs ps
  | .nil, X, sc, W, G, f, [], [], h => ⟨[], rfl, .nil⟩
  | .nil, X, sc, W, G, f, [], _ :: _, h => by simp [chkPL] at h
  | .nil, X, sc, W, G, f, _ :: _, _, h => by simp [chkPL] at h
  | .cons _ _ _, X, sc, W, G, f, [], _, h => by simp [chkPL] at h
  | .cons _ _ _, X, sc, W, G, f, none :: _, _, h => by simp [chkPL] at h
  | .cons _ _ _, X, sc, W, G, f, some _ :: _, [], h => by simp [chkPL] at h
  | .cons k v ps, X, sc, W, G, f, some xk :: ks, xv :: vs, h => by
    simp only [chkPL, and2] at h
    obtain ⟨h1, h2, h3⟩ := h
    obtain ⟨xs, rfl, hr⟩ := okPL ps G f h3
    exact ⟨xk :: xs, rfl, .cons (okE k G f h1).ev (okE v G f h2).ev hr⟩
theorem okT : ∀ (t : T) {X : Cx} {sc : Scope} {W : WX} (G : Gd X I.N sc cn W n) (f : Fx I C cn n X) {tg : Expr}, chkT I sc t tg = true → SndG X cn W C.own tg (evT C t) ∧ ∀ vs, SndB1 X vs tg t
  | .var i, X, sc, W, G, f, tg, h => by
    simp only [chkT] at h
    split at h
    · simp only [and2, decide_eq_true_eq] at h
      exact ⟨sndg_var G h.1 h.2, fun vs => sndb_var G h.1 h.2⟩
    · cases h
  | .tup ts, X, sc, W, G, f, tg, h => by
    simp only [chkT] at h
    split at h
    · simp only [and2, decide_eq_true_eq] at h
      have hr := okTL ts G f h.2
      exact ⟨sndg_tup G (chkTL_stars h.2) h.1 hr.1, fun vs => sndb_tup G (chkTL_stars h.2) h.1 (hr.2 vs)⟩
    · cases h
  | .ix o i, X, sc, W, G, f, tg, h => by
    simp only [chkT] at h
    split at h
    · rename_i j
      split at h
      · simp only [and2] at h
        obtain ⟨h1, h2, h3⟩ := h
        exact ⟨sndg_ix G (by have := G.room.units; omega) (varB_ok h1) h2 ((okE i G f h3).b G h3), fun vs ρ ρ' F H as σ v d Q e nd sub r hb k => by simp [bindT] at hb⟩
      · cases h
    · cases h
  | .fld o c k, X, sc, W, G, f, tg, h => by
    simp only [chkT] at h
    split at h
    · rename_i j
      split at h
      · simp only [okC, and2, decide_eq_true_eq, List.contains_iff_mem] at h
        obtain ⟨h1, ⟨h2, h3⟩, h4⟩ := h
        exact ⟨sndg_fld G (varB_ok h1) (f.cl c h2) h4 h3, fun vs ρ ρ' F H as σ v d Q e nd sub r hb k => by simp [bindT] at hb⟩
      · cases h
    · cases h
theorem okTL : ∀ (ts : TL) {X : Cx} {sc : Scope} {W : WX} (G : Gd X I.N sc cn W n) (f : Fx I C cn n X) {tgs : List Expr}, chkTL I sc ts tgs = true → SndGs X cn W C.own tgs (evTs C ts) ∧ ∀ vs, SndB2 X vs tgs ts
  | .nil, X, sc, W, G, f, [], h => ⟨sndgs_nil, fun vs => sndb_nil⟩
  | .nil, X, sc, W, G, f, _ :: _, h => by simp [chkTL] at h
  | .cons _ _, X, sc, W, G, f, [], h => by simp [chkTL] at h
  | .cons t ts, X, sc, W, G, f, x :: xs, h => by
    simp only [chkTL, and2] at h
    obtain ⟨h1, h2, h3⟩ := h
    have ht := okT t G f h2
    have hr := okTL ts G f h3
    exact ⟨sndgs_cons h1 ht.1 hr.1, fun vs => sndb_cons h1 (ht.2 vs) (hr.2 vs)⟩
theorem okIt : ∀ (it : It) {X : Cx} {sc : Scope} {W : WX} (G : Gd X I.N sc cn W n) (f : Fx I C cn n X) {tg x : Expr}, chkIt I sc it tg x = true → SndI X cn W tg x (evIt C it)
  | .e a, X, sc, W, G, f, tg, x, h => by
    simp only [chkIt] at h
    exact sndi_e (okE a G f h).ev
  | .rng1 a, X, sc, W, G, f, tg, x, h => by
    simp only [chkIt] at h
    split at h
    · simp only [and2, decide_eq_true_eq] at h
      obtain ⟨rfl, h1, h2, h3⟩ := h
      obtain ⟨g1, g2⟩ := biB_ok f h1
      exact sndi_rng1 G h2 g1 g2 (okE a G f h3).ev
    · cases h
  | .rng2 a b, X, sc, W, G, f, tg, x, h => by
    simp only [chkIt] at h
    split at h
    · simp only [and2, decide_eq_true_eq] at h
      obtain ⟨rfl, h1, h2, h3, h4, h5⟩ := h
      obtain ⟨g1, g2⟩ := biB_ok f h1
      exact sndi_rng2 G h2 h3 g1 g2 (okE a G f h4).ev (okE b G f h5).ev
    · cases h
  | .zip a b, X, sc, W, G, f, tg, x, h => by
    simp only [chkIt] at h
    split at h
    · split at h
      · simp only [and2, decide_eq_true_eq] at h
        obtain ⟨rfl, h1, h2, h3, h4, h5⟩ := h
        obtain ⟨g1, g2⟩ := biB_ok f h1
        exact sndi_zip G h2 h3 g1 g2 (okE a G f h4).ev (okE b G f h5).ev
      · cases h
    · cases h
  | .enum a, X, sc, W, G, f, tg, x, h => by
    simp only [chkIt] at h
    split at h
    · split at h
      · simp only [and2, decide_eq_true_eq] at h
        obtain ⟨rfl, h1, h2, h3⟩ := h
        obtain ⟨g1, g2⟩ := biB_ok f h1
        exact sndi_enum G h2 g1 g2 (okE a G f h3).ev
      · cases h
    · cases h
  | .rng3 _ _ _, X, sc, W, G, f, tg, x, h => by simp [chkIt] at h
  | .items _, X, sc, W, G, f, tg, x, h => by simp [chkIt] at h
  | .values _, X, sc, W, G, f, tg, x, h => by simp [chkIt] at h
end
end
end MP

namespace MP
open PySem PySem.Spec PyProof.Rows L2
variable [HasW]
section
variable {I : Inf} {cn : List Str} {n : Nat}
theorem catch_no {own : List Bool} {c : Nat} {i : Option Nat} {h : SL} {k : Nat} {ps : List D} {ρ : Env} (hc : catches c i h = false) : catchS own c i h k ps ρ = .stuck := by
  unfold catches at hc
  unfold catchS
  split
  · split
    · rename_i h1
      simp only [and2, decide_eq_true_eq] at h1
      rw [decide_eq_true h1.1, Bool.true_and] at hc
      cases i <;> (cases q : hands _ h with
        | none => rfl
        | some p => rw [q] at hc; cases hc)
    · rfl
  · rfl
theorem catch_some {own : List Bool} {i : Nat} {h : SL} {j : Nat} {st : Bool} {k : Nat} {ps : List D} {ρ : Env} (hh : hands (some i) h = some (j, st)) : catchS own 0 (some i) h k ps ρ = (match ps with
    | [] => if decide (k ≤ 7) then (if own.getD i false then .stuck else (match setSlot own j (.dat (.exn k [])) ρ with
      | some ρ => .ok .nx (ρ.set i .un)
      | none => .stuck)) else .stuck
    | _ => .stuck) := by
  unfold catchS
  simp only [hh, decide_true, Bool.true_and] <;> (cases ps <;> rfl)
theorem catch_none {own : List Bool} {h : SL} {j : Nat} {st : Bool} {k : Nat} {ps : List D} {ρ : Env} (hh : hands none h = some (j, st)) : catchS own 0 none h k ps ρ = (match ps with
    | [] => if decide (k ≤ 7) then (match setSlot own j (.dat .non) ρ with
      | some ρ => .ok .nx ρ
      | none => .stuck) else .stuck
    | _ => .stuck) := by
  unfold catchS
  simp only [hh, decide_true, Bool.true_and] <;> (cases ps <;> rfl)
theorem ok_catch {C : Ctx} {X : Cx} {sc : Scope} {W : WX} (G : Gd X I.N sc cnE W n) (f : Fx I C cnE n X) (df : Df X) {b : SL} {c : Nat} {i : Option Nat} {h : SL} {xb : List Stmt} {hd : ExceptHandler} {pos : Pos} (hc : catches c i h = true) (hk : chkH I sc i h hd = true)
    (hb : ∀ (W' : WX) (pn : List (Addr × Obj)) (xe : Value → Shared → Prop), Takes (X.tr pn xe) W' → PassesOwn (model X.prog X.w) X.A X.env xe → SndSs (X.tr pn xe) cnE W' C.own xb (evSs C b)) : SndS X cnE W C.own (.Try xb [hd] [] [] pos) (evS C (.tryS b c i h)) := by
  simp only [catches, and2, decide_eq_true_eq] at hc
  obtain ⟨rfl, hs⟩ := hc
  unfold chkH at hk
  split at hk
  rotate_left
  · cases hk
  rename_i y py nm hbd p
  rw [and2] at hk
  obtain ⟨h1, hk⟩ := hk
  obtain ⟨xf, c1, c2, c3, Ca, c4⟩ := clsN_ok f h1
  split at hk
  · rename_i i' n'
    split at hk
    rotate_left
    · cases hk
    rename_i z pz n2 pn2 pa
    simp only [and2, decide_eq_true_eq] at hk
    obtain ⟨rfl, k1, k2, k3, k4⟩ := hk
    split at k4
    rotate_left
    · cases k4
    rename_i j st hj
    simp only [and2, decide_eq_true_eq] at k4
    have key := snd_tryH (C := C) (np := py) (pos := pos) (pos' := p) (pA := pa) (pY := pz) (pN := pn2) G df xf c1 c4 c2 c3 k1 k2 k3 k4.1 k4.2.1 k4.2.2 hb
    intro ρ F H as σ D e nd sub w
    refine key ρ F H as σ D e nd sub ?_
    simp only [evS] at w
    dsimp only
    revert w
    cases evSs C b ρ with
    | exc k ps ρ => simp only [catch_some hj]; exact fun w => w
    | _ => exact fun w => w
  · split at hk
    rotate_left
    · cases hk
    rename_i z pz kz pn2 pa
    split at hk
    rotate_left
    · cases hk
    rename_i j st hj
    simp only [and2, decide_eq_true_eq] at hk
    have key := snd_tryN (C := C) (np := py) (pos := pos) (pos' := p) (pA := pa) (pY := pz) (pN := pn2) (kz := kz) G df xf c1 c4 c2 c3 hk.1 hk.2 hb
    intro ρ F H as σ D e nd sub w
    refine key ρ F H as σ D e nd sub ?_
    simp only [evS] at w
    dsimp only
    revert w
    cases evSs C b ρ with
    | exc k ps ρ => simp only [catch_none hj]; exact fun w => w
    | _ => exact fun w => w
  · cases hk
theorem ok_catch' {C : Ctx} {X : Cx} {sc : Scope} {W : WX} (G : Gd X I.N sc cn W n) (f : Fx I C cn n X) (df : Df X) {b : SL} {c : Nat} {i : Option Nat} {h : SL} {xb : List Stmt} {hd : ExceptHandler} {pos : Pos} (hc : catches c i h = true) (hk : chkH I sc i h hd = true)
    (hb : ∀ (W' : WX) (pn : List (Addr × Obj)) (xe : Value → Shared → Prop), Takes (X.tr pn xe) W' → PassesOwn (model X.prog X.w) X.A X.env xe → SndSs (X.tr pn xe) cn W' C.own xb (evSs C b)) : SndS X cn W C.own (.Try xb [hd] [] [] pos) (evS C (.tryS b c i h)) := by
  have e := f.hcn
  subst e
  exact ok_catch G f df hc hk hb
theorem raise_ok {C : Ctx} {X : Cx} {sc : Scope} {W : WX} (G : Gd X I.N sc cn W n) (f : Fx I C cn n X) {c : Nat} {es : EL} {y m : Str} {k : Nat} {p p2 p3 pos : Pos} (hr : raiseOk c es = true) (h : clsN I sc c y = true) : SndS X cn W C.own (.Raise (some (.Call (.Name y p) [.Constant (.str m) k p2] [] p3)) none pos) (evS C (.raise c es)) := by
  have e := f.hcn
  subst e
  obtain ⟨xf, h1, h2, h3, Ca, h4⟩ := clsN_ok f h
  have h7 : c ≤ 7 := by
    unfold raiseOk at hr
    split at hr
    · simpa using hr
    · cases hr
  have := snd_raise (own := C.own) (k := k) (m := m) (p := p) (p2 := p2) (p3 := p3) (pos := pos) G xf h1 h7 h4 h2 h3
  intro ρ F H as σ D e nd sub w
  simp only [evS, hr, if_true] at w
  exact this ρ F H as σ D e nd sub w
mutual
theorem okS : ∀ (s : S) {C : Ctx} {X : Cx} {sc : Scope} {W : WX} (G : Gd X I.N sc cn W n) (f : Fx I C cn n X) (df : Df X) {x : Stmt}, chkS I sc s x = true → SndS X cn W C.own x (evS C s)
  | .ret e, C, X, sc, W, G, f, df, x, h => by
    simp only [chkS] at h
    split at h
    · exact snd_ret (okE e G f h).ev
    · cases h
  | .retN, C, X, sc, W, G, f, df, x, h => by
    simp only [chkS] at h
    split at h
    · exact snd_retN
    · cases h
  | .expr e, C, X, sc, W, G, f, df, x, h => by
    simp only [chkS] at h
    split at h
    · simp only [and2] at h
      exact snd_expr h.1 (okE e G f h.2).ev
    · cases h
  | .pass, C, X, sc, W, G, f, df, x, h => by
    simp only [chkS] at h
    split at h
    · exact snd_pass
    · exact snd_doc (j := none)
    · cases h
  | .brk, C, X, sc, W, G, f, df, x, h => by
    simp only [chkS] at h
    split at h
    · exact snd_break
    · cases h
  | .cnt, C, X, sc, W, G, f, df, x, h => by
    simp only [chkS] at h
    split at h
    · exact snd_cont
    · cases h
  | .asg t e, C, X, sc, W, G, f, df, x, h => by
    simp only [chkS] at h
    split at h
    · rename_i tg xe p
      simp only [and2] at h
      obtain ⟨h1, h2, h3⟩ := h
      have he := okE e G f h2
      split at h3
      · rename_i y py
        cases t with
        | var i =>
          simp only [chkT, and2, decide_eq_true_eq] at h1
          exact he.as i y py p h1.1 h1.2
        | tup ts => simp [chkT] at h1
        | fld o c k => cases o <;> simp [chkT] at h1
        | ix o i => cases o <;> simp [chkT] at h1
      · simp only [and2] at h3
        exact snd_asg h3.2.1 h3.1 h3.2.2 (okT t G f h1).1 he.ev
    · cases h
  | .aug t op e, C, X, sc, W, G, f, df, x, h => by
    simp only [chkS] at h
    split at h
    · rename_i tg op' xe p
      simp only [and2, decide_eq_true_eq] at h
      obtain ⟨rfl, ⟨h1, h2⟩, h3⟩ := h
      have he := okE e G f h1
      cases t with
      | var i =>
        simp only [chkT] at h2
        split at h2
        · simp only [and2, decide_eq_true_eq] at h2
          exact snd_augName G h2.1 h2.2 (he.b G h1)
        · cases h2
      | tup ts => simp at h3
      | fld o c k =>
        cases o <;> simp only [chkT, Bool.false_eq_true] at h2
        split at h2
        · simp only [okC, and2, decide_eq_true_eq, List.contains_iff_mem] at h2
          obtain ⟨g1, ⟨g2, g3⟩, g4⟩ := h2
          exact snd_augFld G (varB_ok g1) (f.cl c g2) g4 g3 (he.b G h1)
        · cases h2
      | ix o i =>
        cases o <;> simp only [chkT, Bool.false_eq_true] at h2
        split at h2
        · simp only [and2] at h2
          obtain ⟨g1, g2, g3⟩ := h2
          exact snd_augIx G (varB_ok g1) g2 ((okE i G f g3).b G g3) (he.b G h1)
        · cases h2
    · cases h
  | .ifs c a b, C, X, sc, W, G, f, df, x, h => by
    simp only [chkS] at h
    split at h
    · simp only [and2] at h
      obtain ⟨h0, h1, h2, h3⟩ := h
      exact snd_if ((okE c G f h1).tb G h1 h0) (okSs a G f df h2) (okSs b G f df h3)
    · cases h
  | .forS t it b, C, X, sc, W, G, f, df, x, h => by
    simp only [chkS] at h
    split at h
    · simp only [and2] at h
      obtain ⟨h0, h1, h2, h3⟩ := h
      exact snd_for G h0 (okIt it G f h1) (okT t G f h2).1 (okSs b G f df h3)
    · cases h
  | .forP t j b, C, X, sc, W, G, f, df, x, h => by
    simp only [chkS] at h
    split at h
    · simp only [and2] at h
      obtain ⟨h0, h1, h2⟩ := h
      exact snd_forP G (varB_ok h0) (okT t G (f.hold j) h1).1 (okSs b G (f.hold j) df h2)
    · cases h
  | .whileS c b, C, X, sc, W, G, f, df, x, h => by
    simp only [chkS] at h
    split at h
    · simp only [and2] at h
      obtain ⟨h0, h1, h2⟩ := h
      exact snd_while G ((okE c G f h1).tb G h1 h0) (okSs b G f df h2)
    · cases h
  | .raise c es, C, X, sc, W, G, f, df, x, h => by
    simp only [chkS] at h
    split at h
    · rename_i hr
      split at h
      · exact raise_ok G f hr h
      · cases h
    · rename_i hr
      intro ρ F H as σ D e nd sub w
      simp only [evS, hr] at w
      exact w.elim
  | .par i j a b, C, X, sc, W, G, f, df, x, h => by
    simp only [chkS] at h
    split at h
    · rename_i y py z pz kt pt ea eb k2 pt2 p
      rw [and2, Bool.or_eq_true] at h
      obtain ⟨h | h, h12⟩ := h
      · simp only [and2, parOk, decide_eq_true_eq, Bool.not_eq_true'] at h
        obtain ⟨h1, h2, h3, h4, h5, h6, h7, h8, h9, h10, h11⟩ := h
        exact snd_par G h1 h2 h3 h4 h5 h6 h7 h8 h9 h10 h11 (okEL _ G f h12).1
      · simp only [and2, parCell, decide_eq_true_eq, Bool.or_eq_true] at h
        obtain ⟨h1, h2, h3, h4, h5, h6⟩ := h
        exact snd_par2 G h1 h2 h3 h4 h5 h6 (okEL _ G f h12).1
    · cases h
  | .tryS b c i hh, C, X, sc, W, G, f, df, x, h => by
    simp only [chkS] at h
    split at h
    · simp only [and2, Bool.or_eq_true, Bool.not_eq_true'] at h
      obtain ⟨hb, h⟩ := h
      cases hc : catches c i hh with
      | false =>
        intro ρ F H as σ D e nd sub w
        refine snd_try (W := W) (okSs b G.nox f.nox df.nox hb) ρ F H as σ D e nd sub ?_
        simp only [evS] at w
        dsimp only
        revert w
        cases evSs C b ρ with
        | exc k ps ρ => simp only [catch_no hc]; exact fun w => w
        | _ => exact fun w => w
      | true =>
        rw [hc] at h
        obtain ⟨ht, hk⟩ := h.resolve_left (by simp)
        simp only [List.isEmpty_iff] at ht
        subst ht
        exact ok_catch' G f df hc hk fun W' pn xe tk po => okSs b (G.tr tk po) (f.tr pn xe) (df.tr pn xe) hb
    · cases h
theorem okSs : ∀ (ss : SL) {C : Ctx} {X : Cx} {sc : Scope} {W : WX} (G : Gd X I.N sc cn W n) (f : Fx I C cn n X) (df : Df X) {xs : List Stmt}, chkSs I sc ss xs = true → SndSs X cn W C.own xs (evSs C ss)
  | .nil, C, X, sc, W, G, f, df, [], h => snds_nil
  | .nil, C, X, sc, W, G, f, df, _ :: _, h => by simp [chkSs] at h
  | .cons _ _, C, X, sc, W, G, f, df, [], h => by simp [chkSs] at h
  | .cons s ss, C, X, sc, W, G, f, df, x :: xs, h => by
    simp only [chkSs, and2] at h
    exact snds_cons (okS s G f df h.1) (okSs ss G f df h.2)
end
end
end MP

namespace MP
open PySem PySem.Spec PyProof.Rows L2
variable [HasW]

section
variable {K : PySem.W.Frag} {F F' H H' : Hp}
theorem EnvR.app {σ : L2.St} {ρ : Env} {a : List Addr} (r : EnvR K F H σ ρ a) : ∀ m : Nat, EnvR K F H (σ ++ List.replicate m none) (ρ ++ List.replicate m .un) a := by
  intro m
  induction r with
  | nil =>
    simp only [List.nil_append]
    induction m with
    | zero => exact .nil
    | succ m ih => exact .un ih
  | un _ ih => exact .un ih
  | cons r _ ih => exact .cons r ih
theorem RpSs.env {vs : List V} {ss : List Sl} {a : List Addr} (r : RpSs K F H vs ss a) : EnvR K F H (vs.map some) ss a := by
  induction r using RpSs.ind with
  | nil => exact .nil
  | cons r _ ih => exact .cons r ih
/-- behind the body: the arguments' things -/
theorem fin_env {F0 H0 : Hp} {vs : List V} {ss : List Sl} {as : List Addr} (r : RpSs K F0 H0 vs ss as) (f : Same F0 F') : ∀ {σ' : L2.St} {ρ : Env} {as' : List Addr}, EnvR K F' H' σ' ρ as' → ss.length ≤ ρ.length →
    (∀ i : Nat, (ss.map fun s => !s.isDat).getD i false = true → σ'[i]? = (vs.map some)[i]?) → ∃ as'', EnvR K F' H' (vs.map some) (finOf ss ρ) as'' ∧ as''.Sublist as' := by
  induction r using RpSs.ind with
  | nil => intro σ' ρ as' e _ _; exact ⟨[], .nil, List.nil_sublist _⟩
  | @cons v s a0 as0 vs ss r rr ih =>
    intro σ' ρ as' e hl h
    cases e with
    | nil => simp at hl
    | @un o σ' ρ as' e =>
      obtain ⟨as'', e2, s2⟩ := ih e (by simpa using hl) fun i hi => by simpa using h (i + 1) (by simpa using hi)
      simp only [finOf, List.map_cons]
      cases hd : s.isDat with
      | true =>
        simp only [if_true]
        cases r with
        | dat r => exact ⟨as'', EnvR.cons (a := []) (.dat (r.mono f)) e2, s2⟩
        | lst _ _ _ => simp [Sl.isDat] at hd
        | dic _ _ _ _ _ => simp [Sl.isDat] at hd
        | ins _ _ _ _ _ _ _ => simp [Sl.isDat] at hd
      | false =>
        simp only [Bool.false_eq_true, if_false]
        exact ⟨as'', .un e2, s2⟩
    | @cons v' s' a' as' σ' ρ q e =>
      obtain ⟨as'', e2, s2⟩ := ih e (by simpa using hl) fun i hi => by simpa using h (i + 1) (by simpa using hi)
      simp only [finOf, List.map_cons]
      cases hd : s.isDat with
      | true =>
        simp only [if_true]
        cases r with
        | dat r => exact ⟨as'', EnvR.cons (a := []) (.dat (r.mono f)) e2, s2.trans (List.sublist_append_right _ _)⟩
        | lst _ _ _ => simp [Sl.isDat] at hd
        | dic _ _ _ _ _ => simp [Sl.isDat] at hd
        | ins _ _ _ _ _ _ _ => simp [Sl.isDat] at hd
      | false =>
        simp only [Bool.false_eq_true, if_false]
        have h0 := h 0 (by simp [hd])
        simp only [List.getElem?_cons_zero, List.map_cons, Option.some.injEq] at h0
        subst h0
        exact ⟨a' ++ as'', .cons q e2, (List.Sublist.refl a').append s2⟩
end
/-- how all parameters are bound where each is written; defaults may stand -/
def BdF (d : He.DefD) (ps : List Str) : Prop :=
  (d.dfl = [] ∧ ∀ (kV doc pm : Value) (an : Option Addr) (cdv ct : Value) (us : List Value), us.length = ps.length → bindArgs (PySem.W.fnOf d.name d.qual d.params d.body d.scope .none kV doc pm an cdv ct) ⟨us, []⟩ = pure (ps.zip us)) ∨
  (d.dfl ≠ [] ∧ ∀ (T : Addr) (kV doc pm : Value) (an : Option Addr) (cdv ct : Value) (us its : List Value), us.length = ps.length → its.length = d.dfl.length →
    ∃ k, bindArgs (PySem.W.fnOf d.name d.qual d.params d.body d.scope (.ref T) kV doc pm an cdv ct) ⟨us, []⟩ = seqItems? (.ref T) >>= k ∧ k (some its.toArray) = pure (ps.zip us))
theorem BdF.binds {K : PySem.W.Frag} {d : He.DefD} {ps : List Str} {f : Addr} {fd : FuncData} (F : FunD K d.name d.qual d.params d.body d.scope (d.dvs K) (d.kws K) f fd) (B : BdF d ps) : Binds K fd ps [] := by
  rcases B with ⟨e, h⟩ | ⟨e, h⟩
  · have e1 : d.dvs K = [] := by unfold He.DefD.dvs; rw [e]; rfl
    rw [e1] at F
    exact F.bindsN h
  · have ne : d.dvs K ≠ [] := by
      intro h0
      unfold He.DefD.dvs at h0
      exact e (List.map_eq_nil_iff.mp h0)
    obtain ⟨ds, hv, hb⟩ := F.binds1 (ps := ps) ps.length (d.dvs K).length ne (by omega) (fun T kV doc pm an cdv ct us its l1 l2 => by
      obtain ⟨k, e1, e2⟩ := h T kV doc pm an cdv ct us its l1 (by rw [l2]; unfold He.DefD.dvs; simp)
      refine ⟨k, e1, ?_⟩
      rw [e2, ← l2, List.drop_length, List.append_nil])
    rw [List.drop_length] at hv
    cases hv
    exact hb
/-- a def as the text has it -/
structure StF (I : List Str → Inf) (d : He.DefD) (F : Fn) (N : List Str) : Prop where
  kwd : d.kwd = []
  at_ : d.at_ = (d.name, none) ∨ ∃ x, d.at_ = (x, some d.name)
  iN : (I N).N = N
  len : N.length = F.ns
  npl : F.np ≤ F.ns
  sc : FnScope N (N.take F.np) d.scope
  bd : BdF d (N.take F.np)
  chk : chkSs (I N) d.scope F.body d.body = true
/-- what stands behind the top -/
structure TopF (K : PySem.W.Frag) (mg : Str → Option Value) (I : List Str → Inf) (fns : List (Str × Nat)) (t : Tab) : Prop where
  iF : ∀ N, (I N).fns = fns
  iB : ∀ N, ∀ x ∈ (I N).bis, mg x = none
  iG : ∀ (N : List Str) (k : Nat) (y : Str), (I N).gls[k]? = some y → ∃ v u d, mg y = some u ∧ RelV v u ∧ t.glob k = some d ∧ ∀ F, Rp K F v d
  fl : fns.length = t.fn.length
  iX : ∀ N, (I N).xc = t.xc
  xf : t.xc ≠ [] → (∀ c x C, cnE[c]? = some x → mg x = some (.ref C) → XF K C c) ∧ ∀ c C, clsA K c = some C → XF K C c
  xm : ∀ k ∈ t.xc, ∀ x, cnE[k]? = some x → ∃ C, mg x = some (.ref C)
  iM : ∀ N, (I N).mts = t.mts
  iC : ∀ N, (I N).cls = t.cls
  cl : ∀ c ∈ t.cls, ClsK K c
  xi : ∀ c C, clsI K c = some C → InF K C
  fs : ∀ (f : Nat) (F : Fn), t.fn[f]? = some F → ∃ d N fa fd y, StF I d F N ∧ FunD K d.name d.qual d.params d.body d.scope (d.dvs K) (d.kws K) fa fd ∧ fns[f]? = some (y, F.np) ∧ (y ≠ noN → mg y = some (.ref fa)) ∧
    ∀ c m, (f, c, m) ∈ t.mts → ∃ C0, clsI K c = some C0 ∧ Cls K C0 ∧ (m ≠ "__init__" → Meth K C0 m fa) ∧ (m = "__init__" → Mk K C0 fa ∧ mg (clN.getD c ("", [])).1 = some (.ref C0))
section
variable {P : Program} {w : World} {K : PySem.W.Frag} {mg : Str → Option Value} {base : Heap} {I : List Str → Inf} {fns : List (Str × Nat)} {t : Tab} {wf : Nat}
theorem room_max {n : Nat} {A : Around} (h : Room n A) : Room n A := h
/-- THE RULE: each def does what its evaluation comes to -/
theorem fn_ok (hw : w = HasW.w) (T : TopF K mg I fns t) : ∀ (n f : Nat) (F : Fn) (d : He.DefD) (N : List Str) (fa : Addr) (fd : FuncData), t.fn[f]? = some F → StF I d F N → FunD K d.name d.qual d.params d.body d.scope (d.dvs K) (d.kws K) fa fd →
    FnG P w K mg base (L2.CX P w) (2 * n + 1) fa fd (N.take F.np) (spOf mg K cnE (N.take F.np).length (callN t wf n f)) := by
  intro n
  induction n with
  | zero =>
    intro f F d N fa fd hf S D
    exact ⟨fun vs H Q E h => h.1, fun A outer s H args us vs Q E _ _ _ _ _ h => by obtain ⟨_, _, _, _, _, _, _, h⟩ := h; exact h.elim⟩
  | succ n ih =>
    intro f F d N fa fd hf S D
    have hnp : (N.take F.np).length = F.np := by rw [List.length_take, S.len]; have := S.npl; omega
    refine FnG.mono (fn_ofG (k := 2 * n + 2) D S.sc (fun vs H Q E h => h.1) fun cdv A outer s H vs Q E hr hg h => ?_) (by omega)
    obtain ⟨hl, F0, ss, as, rs, nd, sub, w0⟩ := h
    rw [hnp] at hl
    simp only [callN, hf] at w0
    have hss : ss.length = F.np := by rw [← rs.length]; exact hl
    unfold runFn at w0
    rw [if_pos hss] at w0
    generalize hX : cxOf (L2.CX P w) P w K mg base N d.qual d.scope fa cdv A outer s H E = X
    have G : Gd X (I N).N d.scope cnE (fun cls d _ H' => E cls d H') (2 * n + 2) := by
      subst hX
      rw [S.iN]
      exact { hN := rfl, hw := hw, nd := S.sc.nd, calm := rfl, look := fun x k h _ => h, free := fun x h => .inl h, fn := fun x h => rfl, room := hr, gu := hg, tk := L2.takes_of rfl rfl rfl rfl, po := L2.passes_of (K := fun e s' => L2.CX P w outer H s E e s') rfl }
    have Fx1 : Fx (I N) ⟨callN t wf n, t.glob, ss.map fun s => !s.isDat, wf⟩ cnE (2 * n + 2) X := by
      subst hX
      refine ⟨T.iB N, fun g y np hy hg => ?_, fun k y hk => T.iG N k y hk, rfl, fun h => by rw [T.iX] at h; exact ⟨(T.xf h).1, (T.xf h).2⟩, fun k hk x hx => by rw [T.iX] at hk; exact T.xm k hk x hx, fun c hc => by rw [T.iC] at hc; exact T.cl c hc, T.xi, fun g c m np hm hg => ?_⟩
      · rw [T.iF] at hg
        have hgl : g < t.fn.length := by rw [← T.fl]; exact (List.getElem?_eq_some_iff.mp hg).1
        obtain ⟨d', N', fa', fd', y', S', D', hf', hm', _⟩ := T.fs g t.fn[g] (List.getElem?_eq_getElem hgl)
        rw [hg] at hf'
        cases hf'
        exact ⟨2 * n + 1, fa', fd', N'.take t.fn[g].np, by omega, by rw [List.length_take, S'.len]; have := S'.npl; omega, ih g t.fn[g] d' N' fa' fd' (List.getElem?_eq_getElem hgl) S' D', hm' hy, D'.kp, S'.bd.binds D'⟩
      · rw [T.iF] at hg
        rw [T.iM] at hm
        have hgl : g < t.fn.length := by rw [← T.fl]; exact (List.getElem?_eq_some_iff.mp hg).1
        obtain ⟨d', N', fa', fd', y', S', D', hf', _, hc'⟩ := T.fs g t.fn[g] (List.getElem?_eq_getElem hgl)
        rw [hg] at hf'
        cases hf'
        obtain ⟨C0, c1, c2, c3, c4⟩ := hc' c m hm
        exact ⟨2 * n + 1, fa', fd', N'.take t.fn[g].np, C0, by omega, by rw [List.length_take, S'.len]; have := S'.npl; omega, ih g t.fn[g] d' N' fa' fd' (List.getElem?_eq_getElem hgl) S' D', S'.bd.binds D', c1, c2, c3, c4⟩
    have df : Df X := by subst hX; exact ⟨rfl, rfl, rfl⟩
    have hs := okSs F.body G Fx1 df S.chk
    refine ⟨WSs X d.body, pss_w, ?_⟩
    have hlen : F.ns - F.np = N.length - vs.length := by rw [S.len, hl]
    have hK : X.K = K := by subst hX; rfl
    have hmg : X.mg = mg := by subst hX; rfl
    have env0 : EnvR K F0 H (L2.start N vs) (ss ++ List.replicate (F.ns - F.np) .un) as := by
      rw [hlen]
      exact rs.env.app _
    have hσ : ∀ i : Nat, (ss.map fun s => !s.isDat).getD i false = true → (L2.start N vs)[i]? = (vs.map some)[i]? := by
      intro i hi
      have hlt : i < ss.length := by
        apply Classical.byContradiction
        intro z
        rw [List.getD_eq_getElem?_getD, List.getElem?_eq_none (by rw [List.length_map]; omega)] at hi
        cases hi
      unfold L2.start
      rw [List.getElem?_append_left (by rw [List.length_map, hl, ← hss]; exact hlt)]
    have hρ : ∀ {σ' : L2.St} {ρ : Env} {as' : List Addr} {F' H' : Hp}, EnvR K F' H' σ' ρ as' → OwnEq (ss.map fun s => !s.isDat) (L2.start N vs) σ' → Same F0 F' → ∃ as'', EnvR K F' H' (vs.map some) (finOf ss ρ) as'' ∧ as''.Sublist as' := by
      intro σ' ρ as' F' H' e o f
      refine fin_env rs f e ?_ fun i hi => (o.2 i hi).trans (hσ i hi)
      rw [← e.length, o.1, env0.length, List.length_append]
      omega
    refine hs (ss ++ List.replicate (F.ns - F.np) .un) F0 H as (L2.start N vs) _ (by rw [hK]; exact env0) nd sub ?_
    revert w0
    cases evSs ⟨callN t wf n, t.glob, ss.map fun s => !s.isDat, wf⟩ F.body (ss ++ List.replicate (F.ns - F.np) .un) with
    | stuck => exact fun w0 => w0
    | exc c ps ρ =>
      intro w0 cls d' σ' F' H' as' t' e o n' s' x
      rw [hK] at e
      rw [hmg] at x
      obtain ⟨as'', e2, sl⟩ := hρ e o t'.ff
      exact w0 cls d' F' H' as'' (t'.sub fun b hb => sl.subset hb) e2 (n'.sublist sl) s' x
    | ok fl ρ =>
      cases fl with
      | brk => exact fun w0 => w0.elim
      | cnt => exact fun w0 => w0.elim
      | nx =>
        intro w0 σ' F' H' as' t' e o n' s'
        rw [hK] at e
        obtain ⟨as'', e2, sl⟩ := hρ e o t'.ff
        exact w0 .non F' H' [] as'' (t'.sub fun b hb => sl.subset hb) e2 (.dat .non) (n'.sublist sl) s'
      | ret v =>
        intro w0 z σ' F' H' a as' t' e o r n' s'
        rw [hK] at e r
        obtain ⟨as'', e2, sl⟩ := hρ e o t'.ff
        have sl2 := (List.Sublist.refl a).append sl
        exact w0 z F' H' a as'' (t'.sub fun b hb => sl2.subset hb) e2 r (n'.sublist sl2) s'
end
end MP

namespace MP
open PySem PySem.Spec PyProof.Rows L2
variable [HasW]

mutual
/-- a value of the module stands for data -/
def gB (K : PySem.W.Frag) : D → Value → Bool
  | .non, u => (match u with
    | .none => true
    | _ => false)
  | .bl b, u => (match u with
    | .bool c => b == c
    | _ => false)
  | .int i, u => (match u with
    | .int j _ => i == j
    | _ => false)
  | .str x, u => (match u with
    | .str y _ => decide (y.cps.toList = x) && (strOkL x && decide (x.length ≤ 16777216))
    | _ => false)
  | .tup ds, u => (match u with
    | .ref a => (match K.lookup a with
      | some ⟨.type c, none, .seq its _, _⟩ => decide (c = "tuple") && (decide (its.size ≤ sizeLine) && gBs K ds its.toList)
      | _ => false)
    | _ => false)
  | _, _ => false
def gBs (K : PySem.W.Frag) : List D → List Value → Bool
  | [], [] => true
  | d :: ds, u :: us => gB K d u && gBs K ds us
  | _, _ => false
end
mutual
theorem gB_ok {K : PySem.W.Frag} : ∀ (d : D) {u : Value}, gB K d u = true → ∃ v, RelV v u ∧ ∀ F, Rp K F v d
  | .non, u, h => by
    simp only [gB] at h
    split at h
    · exact ⟨.non, rfl, fun F => .non⟩
    · cases h
  | .bl b, u, h => by
    simp only [gB] at h
    split at h
    · simp only [beq_iff_eq] at h; subst h; exact ⟨.bl b, rfl, fun F => .bl b⟩
    · cases h
  | .int i, u, h => by
    simp only [gB] at h
    split at h
    · simp only [beq_iff_eq] at h; subst h; exact ⟨.int i, ⟨_, rfl⟩, fun F => .int i⟩
    · cases h
  | .str x, u, h => by
    simp only [gB] at h
    split at h
    · rename_i y t
      simp only [and2, decide_eq_true_eq] at h
      have e : y = SX x := by cases y with | mk c => rw [← h.1]
      subst e
      exact ⟨.str (SX x), ⟨_, rfl⟩, fun F => .str x h.2.1 h.2.2⟩
    · cases h
  | .tup ds, u, h => by
    simp only [gB] at h
    split at h
    · rename_i a
      split at h
      · rename_i c od its n osl hk
        simp only [and2, decide_eq_true_eq] at h
        obtain ⟨rfl, h2, h3⟩ := h
        obtain ⟨vs, hv, hr⟩ := gBs_ok ds h3
        exact ⟨.ref a, rfl, fun F => .tup (.inr ⟨_, its, n, hk, rfl, rfl, h2, hv, rfl⟩) (hr F)⟩
      · cases h
    · cases h
  | .lst _, u, h => by simp [gB] at h
  | .dic _ _, u, h => by simp [gB] at h
  | .obj _ _, u, h => by simp [gB] at h
  | .exn _ _, u, h => by simp [gB] at h
  | .scr _, u, h => by simp [gB] at h
  | .cdic _ _, u, h => by simp [gB] at h
  | .tdic _ _, u, h => by simp [gB] at h
theorem gBs_ok {K : PySem.W.Frag} : ∀ (ds : List D) {us : List Value}, gBs K ds us = true → ∃ vs, Vals vs us ∧ ∀ F, Rps K F vs ds
  | [], [], h => ⟨[], .nil, fun F => .nil⟩
  | [], _ :: _, h => by simp [gBs] at h
  | _ :: _, [], h => by simp [gBs] at h
  | d :: ds, u :: us, h => by
    simp only [gBs, and2] at h
    obtain ⟨v, hv, hr⟩ := gB_ok d h.1
    obtain ⟨vs, hvs, hrs⟩ := gBs_ok ds h.2
    exact ⟨v :: vs, .cons hv hvs, fun F => .cons (hr F) (hrs F)⟩
end
/-! a dict of the top -/
def gEs (K : PySem.W.Frag) : List DictEntry → List (List Nat) → List D → Bool
  | [], [], [] => true
  | e :: es, x :: xs, d :: ds => (match e.key with
    | .str y _ => decide (y.cps.toList = x) && (strOkL x && decide (x.length ≤ 16777216))
    | _ => false) && (gB K d e.val && gEs K es xs ds)
  | _, _, _ => false
def cdB (K : PySem.W.Frag) (ks vs : List D) (u : Value) : Bool := match asStrs ks with
  | some xs => (match u with
    | .ref a => (match K.lookup a with
      | some ⟨.type c, none, .dict es _, sl⟩ => decide (c = "dict") && (sl.isEmpty && (!(a == sysModules) && (decide xs.Nodup && (decide (xs.length ≤ 1000) && gEs K es.toList xs vs))))
      | _ => false)
    | _ => false)
  | none => false
def gT (K : PySem.W.Frag) (d : D) (u : Value) : Bool := match d with
  | .cdic ks vs => cdB K ks vs u
  | d => gB K d u
/-- its entries' hashes, as they stand and as they should -/
def dh (K : PySem.W.Frag) (d : D) (u : Value) : List Int := match d with
  | .cdic _ _ => (match u with
    | .ref a => (match K.lookup a with
      | some ⟨_, _, .dict es _, _⟩ => es.toList.map fun e => e.hash
      | _ => [])
    | _ => [])
  | _ => []
def dv (w : World) (d : D) : List Int := match d with
  | .cdic ks _ => ((asStrs ks).getD []).map fun x => PyData.keyHash w.params (SX x)
  | _ => []
theorem gEs_ok {K : PySem.W.Frag} {w : World} : ∀ {es : List DictEntry} {xs : List (List Nat)} {ds : List D}, gEs K es xs ds = true → (es.map fun e => e.hash) = (xs.map fun x => PyData.keyHash w.params (SX x)) → PySem.W.KeysLit w.params es ∧ ∃ vs, CEs es xs vs ∧ ∀ F, Rps K F vs ds
  | [], [], [], _, _ => ⟨trivial, [], .nil, fun _ => .nil⟩
  | [], [], _ :: _, h, _ => by simp [gEs] at h
  | [], _ :: _, _, h, _ => by simp [gEs] at h
  | _ :: _, [], _, h, _ => by simp [gEs] at h
  | _ :: _, _ :: _, [], h, _ => by simp [gEs] at h
  | e :: es, x :: xs, d :: ds, h, hh => by
    simp only [gEs, and2] at h
    obtain ⟨h1, h2, h3⟩ := h
    simp only [List.map_cons, List.cons.injEq] at hh
    obtain ⟨l, vs, c, r⟩ := gEs_ok h3 hh.2
    obtain ⟨v, rv, rp⟩ := gB_ok d h2
    split at h1
    · rename_i y t hk
      simp only [and2, decide_eq_true_eq] at h1
      have e1 : y = SX x := by cases y with | mk c => rw [← h1.1]
      subst e1
      exact ⟨⟨⟨SX x, t, hk, hh.1⟩, l⟩, v :: vs, .cons hk h1.2.1 h1.2.2 rv c, fun F => .cons (rp F) (r F)⟩
    · cases h1
theorem asStrs_is : ∀ {ks : List D} {xs : List (List Nat)}, asStrs ks = some xs → ks = xs.map .str
  | [], _, h => by simp [asStrs] at h; subst h; rfl
  | d :: ks, xs, h => by
    cases d <;> simp only [asStrs, reduceCtorEq] at h
    cases q : asStrs ks with
    | none => rw [q] at h; simp at h
    | some ys => rw [q] at h; simp at h; subst h; rw [asStrs_is q]; rfl
theorem gT_ok {K : PySem.W.Frag} (d : D) {u : Value} (h : gT K d u = true) (hh : dh K d u = dv HasW.w d) : ∃ v, RelV v u ∧ ∀ F, Rp K F v d := by
  unfold gT at h
  split at h
  · rename_i ks vs
    unfold cdB at h
    split at h
    · rename_i xs hx
      split at h
      · rename_i a
        split at h
        · rename_i c es n sl hk
          simp only [and2, decide_eq_true_eq, Bool.not_eq_true'] at h
          obtain ⟨rfl, h2, h3, h4, h5, h6⟩ := h
          have hsl : sl = #[] := by simpa using h2
          subst hsl
          simp only [dh, hk, dv, hx, Option.getD_some] at hh
          obtain ⟨l, ws, c, r⟩ := gEs_ok h6 hh
          rw [asStrs_is hx]
          exact ⟨.ref a, rfl, fun F => .cdic (ks := xs) ⟨hk, l, h3⟩ c h4 h5 (r F)⟩
        · cases h
      · cases h
    · cases h
  · exact gB_ok _ h
/-! ### the Hook: defs, names, constants -/
def glB (K : PySem.W.Frag) (gl : List (Str × D)) : Bool := gl.all fun p => match PySem.W.nsIn K mainGlobals p.1 with
  | some (some u) => gT K p.2 u
  | _ => false
def dhs (K : PySem.W.Frag) (gl : List (Str × D)) : List (List Int) := gl.map fun p => match PySem.W.nsIn K mainGlobals p.1 with
  | some (some u) => dh K p.2 u
  | _ => []
def dvs (w : World) (gl : List (Str × D)) : List (List Int) := gl.map fun p => dv w p.2
/-- what a refusal's class must say, asked of the heap that was left -/
def okX (K : PySem.W.Frag) (C : Addr) (c : Nat) : Bool :=
  (clsA K c == some C) && ((decide (7 < c) || (PySem.W.excIn K C [.type "ValueError", .type "Exception", .type "BaseException", .type "object"] "ValueError.__new__" && ((PySem.W.findIn K (.ref C) "__getattribute__" == some (some (.builtin "BaseException.__getattribute__"))) && ((PySem.W.findIn K (.ref C) "__getattr__" == some none) && ((PySem.W.findIn K (.ref C) "__class__" == some (some (.builtin "object.__class__"))) && (PySem.W.mroIn K C (.type "object") == some true)))))) &&
    (PySem.W.keepIn K (.ref C) && ((PySem.W.subIn K (.ref C) (.type "BaseException") == some true) && ((PySem.W.typeIn K (.ref C) == some (.type "type")) && (PySem.W.hasDictIn K C && ((match clsA K 0 with
      | some C0 => PySem.W.subIn K (.ref C) (.ref C0) == some true
      | none => true) && ((decide (7 < c) || (List.range 9).all fun k => match clsA K k with
        | some E => PySem.W.kitOne K (.ref C) (.ref E) == some (k == 0 || k == c)
        | none => true) && (decide (7 < c) || PySem.W.kitOne K (.ref C) (.type "ValueError") == some true))))))))
theorem ga_get {K : PySem.W.Frag} : PySem.W.specialIn K (.builtin "object.__class__") "__get__" = some (some (.builtin "getset_descriptor.__get__")) := by
  kernel_rfl
theorem ga_take {K : PySem.W.Frag} : PySem.W.takesIn K (.builtin "object.__class__") = some true := by
  kernel_rfl
theorem okX_ok {K : PySem.W.Frag} {C : Addr} {c : Nat} (h : okX K C c = true) : XF K C c := by
  simp only [okX, and2, Bool.or_eq_true, beq_iff_eq, decide_eq_true_eq, List.all_eq_true, List.mem_range] at h
  obtain ⟨h1, h2, h3, h4, h5, h6, h7, h8, h9⟩ := h
  refine ⟨h1, fun q => ?_, h3, h4, h5, h6, fun C0 e => ?_, fun q k hk E e => ?_, fun q => h9.resolve_left (by omega)⟩
  · obtain ⟨a1, a2, a3, a4, a5⟩ := h2.resolve_left (by omega)
    exact ⟨a1, ⟨a2, a3, h4, h6, a4, ga_get, ga_take, a5⟩⟩
  · rw [e] at h7; simpa using h7
  · have := h8.resolve_left (by omega) k (by omega)
    rw [e] at this; simpa using this
def exB (K : PySem.W.Frag) (xc : List Nat) : Bool := xc.isEmpty || ((List.range 9).all (fun c => match PySem.W.nsIn K mainGlobals (cnE.getD c "") with
    | some (some (.ref C)) => okX K C c
    | some (some _) => false
    | some none => true
    | none => false) && xc.all fun k => (clsA K k).isSome)
/-- what the classes of instances must say -/
def okI (K : PySem.W.Frag) (C : Addr) : Bool :=
  PySem.W.plainGet K C Str.empty && (PySem.W.hasDictIn K C && (PySem.W.plainOver K C && ((PySem.W.findIn K (.ref C) "__setattr__" == some (some (.builtin "object.__setattr__"))) && ((PySem.W.findIn K (.ref C) "__class__" == some (some (.builtin "object.__class__"))) && ((PySem.W.mroIn K C (.type "object") == some true) && (PySem.W.kitOne K (.ref C) (.type "str") == some false))))))
theorem okI_ok {K : PySem.W.Frag} {C : Addr} (h : okI K C = true) : InF K C := by
  simp only [okI, and2, beq_iff_eq] at h
  obtain ⟨h1, h2, h3, h4, h5, h6, h7⟩ := h
  exact ⟨⟨h1, h2, h3, h4⟩, h5, ga_get, ga_take, h6, h7⟩
def inB (K : PySem.W.Frag) : Bool := (List.range 6).all fun c => match clsI K c with
  | some C => okI K C
  | none => true
theorem inB_ok {K : PySem.W.Frag} (h : inB K = true) : ∀ c C, clsI K c = some C → InF K C := by
  intro c C hc
  have h6 : c < 6 := by
    unfold clsI at hc
    split at hc
    · rename_i p hp
      have := (List.getElem?_eq_some_iff.mp hp).1
      simpa [clN] using this
    · cases hc
  have := List.all_eq_true.mp h c (List.mem_range.mpr h6)
  rw [hc] at this
  exact okI_ok this
theorem cnE_get {c : Nat} {x : Str} (h : cnE[c]? = some x) : c < 9 ∧ cnE.getD c "" = x := by
  have := (List.getElem?_eq_some_iff.mp h).1
  refine ⟨by simpa [cnE] using this, ?_⟩
  rw [List.getD_eq_getElem?_getD, h]
  rfl
theorem exB_ok {K : PySem.W.Frag} {xc : List Nat} {h : Heap} {mg : Str → Option Value} (X : K.In h) (G : h.Ns mainGlobals mg) (e : exB K xc = true) :
    (xc ≠ [] → (∀ c x C, cnE[c]? = some x → mg x = some (.ref C) → XF K C c) ∧ ∀ c C, clsA K c = some C → XF K C c) ∧ ∀ k ∈ xc, ∀ x, cnE[k]? = some x → ∃ C, mg x = some (.ref C) := by
  have key : xc ≠ [] → ((List.range 9).all (fun c => match PySem.W.nsIn K mainGlobals (cnE.getD c "") with
    | some (some (.ref C)) => okX K C c
    | some (some _) => false
    | some none => true
    | none => false) && xc.all fun k => (clsA K k).isSome) = true := fun n => by
    simp only [exB, Bool.or_eq_true, List.isEmpty_iff] at e
    exact e.resolve_left n
  refine ⟨fun n => ⟨fun c x C h1 h2 => ?_, fun c C h1 => ?_⟩, fun k hk x hx => ?_⟩
  · have := key n
    rw [and2, List.all_eq_true] at this
    obtain ⟨h9, hx⟩ := cnE_get h1
    have := this.1 c (List.mem_range.mpr h9)
    rw [hx] at this
    split at this
    · rename_i C' q
      have z := PySem.W.mg_of X G q
      rw [h2] at z
      cases z
      exact okX_ok this
    · cases this
    · rename_i q
      have z := PySem.W.mg_none_of X G q
      rw [h2] at z
      cases z
    · cases this
  · have := key n
    rw [and2, List.all_eq_true] at this
    unfold clsA at h1
    split at h1
    · rename_i x hx
      obtain ⟨h9, hx⟩ := cnE_get hx
      have := this.1 c (List.mem_range.mpr h9)
      rw [hx] at this
      split at h1
      · rename_i C' q
        cases h1
        rw [q] at this
        exact okX_ok this
      · cases h1
    · cases h1
  · have := key (fun z => by rw [z] at hk; cases hk)
    rw [and2, List.all_eq_true, List.all_eq_true] at this
    obtain ⟨C, hC⟩ := Option.isSome_iff_exists.mp (this.2 k hk)
    unfold clsA at hC
    rw [hx] at hC
    simp only at hC
    split at hC
    · rename_i C' q
      exact ⟨C', PySem.W.mg_of X G q⟩
    · cases hC
abbrev AlM : Type := (Bool × List (List Int)) × He.AlD
def obsM (fa : List He.Fa) (fn : List He.DefD) (gl : List (Str × D)) (xc : List Nat) (K : PySem.W.Frag) : AlM := ((glB K gl && (exB K xc && inB K), dhs K gl), He.obsD fa fn K)
def obsG (n : Nat) (fa : List He.Fa) (fn : List He.DefD) (gl : List (Str × D)) (g : Addr → Option Obj) (xc : List Nat := []) : AlM := obsM fa fn gl xc (He.frG g (He.asD g n))
def SaysM (fa : List He.Fa) (fn : List He.DefD) (gl : List (Str × D)) (xc : List Nat) (w : World) (K : PySem.W.Frag) : Prop := He.SaysD fa fn K ∧ glB K gl = true ∧ dhs K gl = dvs w gl ∧ exB K xc = true ∧ inB K = true
def hookM (n : Nat) (fa : List He.Fa) (fn : List He.DefD) (gl : List (Str × D)) (xc : List Nat := []) : PySem.W.Hook where
  α := AlM
  obs := fun s => obsG n fa fn gl s.heap.get? xc
  val := fun w => ((true, dvs w gl), He.valD fn)
  says := fun w h => ∃ K : PySem.W.Frag, K.In h ∧ SaysM fa fn gl xc w K
  of := fun _ _ e => ⟨_, He.frG_in, congrArg (fun z : AlM => z.2) e, (Bool.and_eq_true_iff.mp (congrArg (fun z : AlM => z.1.1) e)).1, congrArg (fun z : AlM => z.1.2) e, (Bool.and_eq_true_iff.mp (Bool.and_eq_true_iff.mp (congrArg (fun z : AlM => z.1.1) e)).2).1, (Bool.and_eq_true_iff.mp (Bool.and_eq_true_iff.mp (congrArg (fun z : AlM => z.1.1) e)).2).2⟩
  keeps := fun _ _ _ ⟨K, hK, c⟩ k => ⟨K, PySem.W.Frag.In.keeps hK k, c⟩
omit [HasW] in
theorem obsG_eq {n : Nat} {fa : List He.Fa} {fn : List He.DefD} {gl : List (Str × D)} {xc : List Nat} {g : Addr → Option Obj} {s : Shared} (h : ∀ a, g a = s.heap.get? a) : obsG n fa fn gl g xc = (hookM n fa fn gl xc).obs s := by
  have e : g = s.heap.get? := funext h
  rw [e] <;> rfl
/-- what a def may let out, in any world -/
def CXA (P : Program) : CXT := fun outer H s E e s' => ∃ w, L2.CX P w outer H s E e s'
omit [HasW] in
theorem FnG.any {P : Program} {w : World} {K : PySem.W.Frag} {mg : Str → Option Value} {base : Heap} {k : Nat} {f : Addr} {fd : FuncData} {ps : List Str} {sp : Sp} (F : FnG P w K mg base (L2.CX P w) k f fd ps sp) : FnG P w K mg base (CXA P) k f fd ps sp :=
  ⟨F.many, fun A outer s H args us vs Q E hr gu e0 hb r h => codeAny_mono (F.does A outer s H args us vs Q E hr gu e0 hb r h) fun r s' q => by
    cases r with
    | error e => exact ⟨w, q⟩
    | ok fl => cases fl <;> exact q⟩
omit [HasW] in
theorem CXA.no {P : Program} {H : Hp} {s : Shared} {e : Value} {s' : Shared} (h : CXA P [] H s (fun _ _ _ => False) e s') : False := by
  obtain ⟨w, a, B, H', cls, d, _, _, _, _, _, _, _, z⟩ := h
  exact z
theorem dhs_at {K : PySem.W.Frag} {w : World} {gl : List (Str × D)} (h : dhs K gl = dvs w gl) {p : Str × D} (hp : p ∈ gl) : (match PySem.W.nsIn K mainGlobals p.1 with
    | some (some u) => dh K p.2 u
    | _ => []) = dv w p.2 := List.map_inj_left.mp h p hp
/-- all defs of a text, with their names by slots -/
inductive StFs (I : List Str → Inf) : List He.DefD → List Fn → List (List Str) → Prop
  | nil : StFs I [] [] []
  | cons {d : He.DefD} {F : Fn} {N : List Str} {ds : List He.DefD} {Fs : List Fn} {Ns : List (List Str)} : StF I d F N → StFs I ds Fs Ns → StFs I (d :: ds) (F :: Fs) (N :: Ns)
omit [HasW] in
theorem StFs.get {I : List Str → Inf} {ds : List He.DefD} {Fs : List Fn} {Ns : List (List Str)} (h : StFs I ds Fs Ns) : ∀ {f : Nat} {F : Fn}, Fs[f]? = some F → ∃ d N, ds[f]? = some d ∧ Ns[f]? = some N ∧ StF I d F N := by
  induction h with
  | nil => intro f F h; simp at h
  | cons s _ ih =>
    intro f F h
    cases f with
    | zero => simp at h; subst h; exact ⟨_, _, rfl, rfl, s⟩
    | succ f => obtain ⟨d, N, h1, h2, h3⟩ := ih (f := f) (by simpa using h); exact ⟨d, N, by simpa using h1, by simpa using h2, h3⟩
omit [HasW] in
theorem StFs.append {I : List Str → Inf} {ds ds' : List He.DefD} {Fs Fs' : List Fn} {Ns Ns' : List (List Str)} (h : StFs I ds Fs Ns) (k : StFs I ds' Fs' Ns') : StFs I (ds ++ ds') (Fs ++ Fs') (Ns ++ Ns') := by
  induction h with
  | nil => exact k
  | cons s _ ih => exact .cons s ih
omit [HasW] in
theorem StFs.len {I : List Str → Inf} {ds : List He.DefD} {Fs : List Fn} {Ns : List (List Str)} (h : StFs I ds Fs Ns) : ds.length = Fs.length := by
  induction h with
  | nil => rfl
  | cons s _ ih => simp [ih]
/-- a def's name as a global's; a method's is none -/
def nmD (d : He.DefD) : Str := match d.at_.2 with
  | none => d.name
  | some _ => noN
def defFa (d : He.DefD) : He.Fa := match d.at_.2 with
  | none => .glo d.name
  | some m => if m = "__init__" then .mkr d.at_.1 else .meth d.at_.1 m
def clsFa (c : Nat) : List He.Fa := .glo (clN.getD c ("", [])).1 :: .cls (clN.getD c ("", [])).1 :: (fdN c).map (.noat (clN.getD c ("", [])).1)
/-- the facts of a law's text -/
structure Law (ds : List He.DefD) (t : Tab) (Ns : List (List Str)) (bis : List Str) (fns : List (Str × Nat)) : Prop where
  st : StFs (fun N => ⟨N, fns, t.gl.map (·.1), bis, t.xc, t.mts, t.cls⟩) ds t.fn Ns
  nm0 : fns = List.zipWith (fun d F => (nmD d, F.np)) ds t.fn
  mt0 : (t.mts.all fun p => decide (p.2.1 ∈ t.cls) && (match ds[p.1]? with
    | some d => decide (d.at_ = ((clN.getD p.2.1 ("", [])).1, some p.2.2))
    | none => false)) = true
  cl0 : (t.cls.all fun c => decide (c < clN.length) && decide (fdN c).Nodup) = true
omit [HasW] in
theorem Law.fl {ds : List He.DefD} {t : Tab} {Ns : List (List Str)} {bis : List Str} {fns : List (Str × Nat)} (L : Law ds t Ns bis fns) : fns.length = t.fn.length := by
  rw [L.nm0, List.length_zipWith, L.st.len, Nat.min_self]
omit [HasW] in
theorem Law.nm {ds : List He.DefD} {t : Tab} {Ns : List (List Str)} {bis : List Str} {fns : List (Str × Nat)} (L : Law ds t Ns bis fns) (f : Nat) (d : He.DefD) (F : Fn) (hd : ds[f]? = some d) (hF : t.fn[f]? = some F) : fns[f]? = some (nmD d, F.np) := by
  rw [L.nm0, List.getElem?_zipWith, hd, hF]
def faOf (ds : List He.DefD) (bis : List Str) (cls : List Nat := []) : List He.Fa := ds.map defFa ++ (bis.map .free ++ (cls.map clsFa).flatten)
omit [HasW] in
theorem fact_mem {K : PySem.W.Frag} {fas : List He.Fa} {fns : List He.DefD} (c : He.SaysD fas fns K) {f : He.Fa} (h : f ∈ fas) : f.ok K = true := by
  obtain ⟨i, hi⟩ := List.getElem?_of_mem h
  exact c.fact i hi
omit [HasW] in
theorem cls_fact {K : PySem.W.Frag} {ds : List He.DefD} {bis : List Str} {cls : List Nat} {fns : List He.DefD} (s : He.SaysD (faOf ds bis cls) fns K) {c : Nat} (h : c ∈ cls) {f : He.Fa} (hf : f ∈ clsFa c) : f.ok K = true :=
  fact_mem s (List.mem_append_right _ (List.mem_append_right _ (List.mem_flatten.mpr ⟨_, List.mem_map.mpr ⟨c, h, rfl⟩, hf⟩)))
omit [HasW] in
theorem clsI_of {K : PySem.W.Frag} {c : Nat} (hl : c < clN.length) (h : (He.Fa.glo (clN.getD c ("", [])).1).ok K = true) : clsI K c = some (He.ga K (clN.getD c ("", [])).1) := by
  have e := He.eqO_ok h
  unfold clsI
  rw [List.getD_eq_getElem?_getD] at e ⊢
  rw [List.getElem?_eq_getElem hl] at e ⊢
  simp only [Option.getD_some] at e ⊢
  rw [e]
theorem Law.top {ds : List He.DefD} {t : Tab} {Ns : List (List Str)} {bis : List Str} {fns : List (Str × Nat)} (L : Law ds t Ns bis fns) {K : PySem.W.Frag} {h : Heap} {mg : Str → Option Value} (X : K.In h) (G : h.Ns mainGlobals mg) (c : SaysM (faOf ds bis t.cls) ds t.gl t.xc HasW.w K) :
    TopF K mg (fun N => ⟨N, fns, t.gl.map (·.1), bis, t.xc, t.mts, t.cls⟩) fns t where
  iF := fun N => rfl
  iB := fun N x hx => by
    have hx : x ∈ bis := hx
    obtain ⟨i, hi⟩ := List.getElem?_of_mem hx
    exact He.free_ok X G (fact_mem c.1 (List.mem_append_right _ (List.mem_append_left _ (List.mem_map.mpr ⟨x, hx, rfl⟩))))
  iG := fun N k y hk => by
    have hk : (t.gl.map (·.1))[k]? = some y := hk
    rw [List.getElem?_map] at hk
    cases hp : t.gl[k]? with
    | none => rw [hp] at hk; simp at hk
    | some p =>
      rw [hp] at hk
      simp only [Option.map_some, Option.some.injEq] at hk
      subst hk
      have hm := List.mem_of_getElem? hp
      have hg := List.all_eq_true.mp c.2.1 p hm
      have hd := dhs_at c.2.2.1 hm
      cases q : PySem.W.nsIn K mainGlobals p.1 with
      | none => simp only [q, Bool.false_eq_true] at hg
      | some o =>
        cases o with
        | none => simp only [q, Bool.false_eq_true] at hg
        | some u =>
          simp only [q] at hg hd
          obtain ⟨v, rv, rp⟩ := gT_ok p.2 hg hd
          exact ⟨v, u, p.2, PySem.W.mg_of X G q, rv, by unfold Tab.glob; rw [hp]; rfl, rp⟩
  fl := L.fl
  iX := fun N => rfl
  xf := (exB_ok X G c.2.2.2.1).1
  xm := (exB_ok X G c.2.2.2.1).2
  xi := inB_ok c.2.2.2.2
  iM := fun N => rfl
  iC := fun N => rfl
  cl := fun k hk => by
    have := List.all_eq_true.mp L.cl0 k hk
    simp only [Bool.and_eq_true, decide_eq_true_eq] at this
    obtain ⟨hl, nd⟩ := this
    have hg := cls_fact c.1 hk (f := .glo (clN.getD k ("", [])).1) (by simp [clsFa])
    have hc := cls_fact c.1 hk (f := .cls (clN.getD k ("", [])).1) (by simp [clsFa])
    refine ⟨fun C e => ?_, nd⟩
    rw [clsI_of hl hg] at e
    cases e
    exact ⟨He.cls_ok hc, fun y hy => He.noat_ok (cls_fact c.1 hk (f := .noat (clN.getD k ("", [])).1 y) (by simp [clsFa, hy]))⟩
  fs := fun f F hF => by
    obtain ⟨d, N, hd, hN, S⟩ := L.st.get hF
    obtain ⟨fd, D⟩ := c.1.def_ f hd
    have hfa : defFa d ∈ faOf ds bis t.cls := List.mem_append_left _ (List.mem_map.mpr ⟨d, List.mem_of_getElem? hd, rfl⟩)
    have hfo := fact_mem c.1 hfa
    refine ⟨d, N, _, fd, nmD d, S, D, L.nm f d F hd hF, fun hy => ?_, fun k m hm => ?_⟩
    · unfold nmD at hy ⊢
      unfold defFa at hfo
      cases q : d.at_.2 with
      | none =>
        rw [q] at hfo
        simp only at hfo ⊢
        have e : d.at_ = (d.name, none) := by
          rcases S.at_ with e | ⟨x, e⟩
          · exact e
          · rw [e] at q; cases q
        have ea : He.fAd K d.at_ = He.ga K d.name := by rw [e]; rfl
        rw [ea]
        exact He.glo_ok X G hfo
      | some m => rw [q] at hy; exact absurd rfl hy
    · have := List.all_eq_true.mp L.mt0 (f, k, m) hm
      simp only [hd, Bool.and_eq_true, decide_eq_true_eq] at this
      obtain ⟨hk, hat⟩ := this
      have h2 := List.all_eq_true.mp L.cl0 k hk
      simp only [Bool.and_eq_true, decide_eq_true_eq] at h2
      have hg := cls_fact c.1 hk (f := .glo (clN.getD k ("", [])).1) (by simp [clsFa])
      have hc := cls_fact c.1 hk (f := .cls (clN.getD k ("", [])).1) (by simp [clsFa])
      have ea : He.fAd K d.at_ = He.ma K (He.ga K (clN.getD k ("", [])).1) m := by rw [hat]; rfl
      unfold defFa at hfo
      rw [hat] at hfo
      simp only at hfo
      refine ⟨He.ga K (clN.getD k ("", [])).1, clsI_of h2.1 hg, He.cls_ok hc, fun hm' => ?_, fun hm' => ?_⟩
      · rw [if_neg hm'] at hfo
        rw [ea]
        exact He.meth_ok hfo
      · subst hm'
        rw [if_pos rfl] at hfo
        rw [ea]
        exact ⟨He.mkr_ok hfo, He.glo_ok X G hg⟩
/-- what the end of a law's proof takes -/
theorem Law.facts {ds : List He.DefD} {t : Tab} {Ns : List (List Str)} {bis : List Str} {fns : List (Str × Nat)} (L : Law ds t Ns bis fns) {P : Program} {w : World} {K : PySem.W.Frag} {h : Heap} {mg : Str → Option Value} (X : K.In h) (G : h.Ns mainGlobals mg) (c : SaysM (faOf ds bis t.cls) ds t.gl t.xc HasW.w K) (hw : w = HasW.w) {f wf n most : Nat} {d : He.DefD} {F : Fn} {x : Str} {N : List Str} {fa : Addr}
    (hd : ds[f]? = some d) (hF : t.fn[f]? = some F) (hN : Ns[f]? = some N) (hx : N.take F.np = [x]) (hat : d.at_ = (d.name, none)) (hdf : d.dfl = []) (hfa : mg d.name = some (.ref fa)) (pure : ∀ ns : List Int, ns.length ≤ most → ∃ fin, callN t wf n f [.dat (.scr ns)] = .ok (.dat (.bl true)) fin) :
    ∃ (fd : FuncData) (sp : Sp), (∀ (s : Shared) (v : Value), BindsTo s fd ⟨[v], []⟩ [(x, v)]) ∧ (∀ (H : Hp) (a : Addr) (ns : List Int), ns.length ≤ most → Only H → SqL K H a (ns.map V.int) → sp [.ref a] H (fun v _ => v = .bl true) fun _ _ _ => False) ∧
      ∀ base : Heap, K.In base → base.Ns mainGlobals mg → FnG P w K mg base (CXA P) (2 * n + 1) fa fd [x] sp := by
  have T := L.top X G c
  obtain ⟨d', N', hd', hN', S⟩ := L.st.get hF
  rw [hd] at hd'; cases hd'
  rw [hN] at hN'; cases hN'
  obtain ⟨fd, D⟩ := c.1.def_ f hd
  have ea : He.fAd K d.at_ = He.ga K d.name := by rw [hat]; rfl
  rw [ea] at D
  have hg : mg d.name = some (.ref (He.ga K d.name)) := by
    have hfa' : defFa d ∈ faOf ds bis t.cls := List.mem_append_left _ (List.mem_map.mpr ⟨d, List.mem_of_getElem? hd, rfl⟩)
    have hfo := fact_mem c.1 hfa'
    unfold defFa at hfo
    rw [hat] at hfo
    exact He.glo_ok X G hfo
  have efa := hfa.symm.trans hg
  cases efa
  refine ⟨fd, spOf mg K cnE 1 (callN t wf n f), fun s v => ?_, fun H a ns hl _ hS => ?_, fun base _ _ => ?_⟩
  · rcases S.bd with ⟨_, hb⟩ | ⟨z, _⟩
    · have e1 : d.dvs K = [] := by unfold He.DefD.dvs; rw [hdf]; rfl
      have D2 := D
      rw [e1] at D2
      have b := D2.bindsA (ps := N.take F.np) hb s [v] (by rw [hx]; rfl)
      rw [hx] at b
      exact b
    · exact absurd hdf z
  · obtain ⟨fin, hc⟩ := pure ns hl
    refine ⟨rfl, H, [.dat (.scr ns)], [], .cons (a := []) (as := []) (.dat (.scr hS)) .nil, .nil, fun _ _ h => h, ?_⟩
    rw [hc]
    intro z F' H' a' as' _ _ r _ _
    cases r with
    | dat r => cases r; rfl
  · have := fn_ok (P := P) (w := w) (base := base) (wf := wf) hw T n f F d N _ fd hF S D
    rw [hx] at this
    exact FnG.any this
end MP

namespace MP
open PySem L2
/-! steps of the evaluator, as rewriting -/
@[simp] theorem rbind_ok {α β : Type} (x : α) (ρ : Env) (f : α → Env → R β) : (R.ok x ρ).bind f = f x ρ := rfl
@[simp] theorem rbind_exc {α β : Type} (c : Nat) (p : List D) (ρ : Env) (f : α → Env → R β) : (R.exc c p ρ : R α).bind f = .exc c p ρ := rfl
@[simp] theorem rbind_stuck {α β : Type} (f : α → Env → R β) : (R.stuck : R α).bind f = .stuck := rfl
@[simp] theorem ofO_some {α : Type} (x : α) (ρ : Env) : R.ofO (some x) ρ = .ok x ρ := rfl
@[simp] theorem ofO_none {α : Type} (ρ : Env) : (R.ofO (none : Option α) ρ) = .stuck := rfl
@[simp] theorem opt_some {α β : Type} (x : α) (f : α → R β) : R.opt (some x) f = f x := rfl
@[simp] theorem opt_none {α β : Type} (f : α → R β) : R.opt (none : Option α) f = .stuck := rfl
@[simp] theorem view_tmp (s : Sl) (ρ : Env) : (Bv.tmp s).view ρ = some s.cap := rfl
@[simp] theorem view_pl (i : Nat) (ρ : Env) : (Bv.pl i).view ρ = (getS ρ i).map Sl.cap := rfl
theorem view1_eq {α : Type} (x : Bv) (ρ : Env) (f : D → R α) : view1 x ρ f = R.opt (x.view ρ) f := by unfold view1 R.opt; cases x.view ρ <;> rfl
@[simp] theorem cap_dat (d : D) : (Sl.dat d).cap = d := rfl
@[simp] theorem cap_lst (d : List D) : (Sl.lst d).cap = .lst d := rfl
@[simp] theorem cap_dic (ks d : List D) : (Sl.dic ks d).cap = .dic ks d := rfl
@[simp] theorem isDat_dat (d : D) : (Sl.dat d).isDat = true := rfl
@[simp] theorem isDat_lst (d : List D) : (Sl.lst d).isDat = false := rfl
@[simp] theorem isDat_dic (ks d : List D) : (Sl.dic ks d).isDat = false := rfl
@[simp] theorem getS_dat (d : D) (ρ : Env) : getS (.dat d :: ρ) 0 = some (.dat d) := rfl
@[simp] theorem getS_lst (d : List D) (ρ : Env) : getS (.lst d :: ρ) 0 = some (.lst d) := rfl
@[simp] theorem getS_dic (ks d : List D) (ρ : Env) : getS (.dic ks d :: ρ) 0 = some (.dic ks d) := rfl
@[simp] theorem getS_ins (c : Nat) (fs : List Sl) (ρ : Env) : getS (.ins c fs :: ρ) 0 = some (.ins c fs) := rfl
@[simp] theorem getS_un (ρ : Env) : getS (.un :: ρ) 0 = none := rfl
@[simp] theorem getS_s (s : Sl) (ρ : Env) (i : Nat) : getS (s :: ρ) (i + 1) = getS ρ i := rfl
@[simp] theorem test_bl {α : Type} (b : Bool) (f : Bool → R α) : R.test (.bl b) f = f b := rfl
@[simp] theorem test_eq {α : Type} (d : D) (b : Bool) (f : Bool → R α) (h : d.truth = some b) : R.test d f = f b := by unfold R.test; rw [h]
theorem callN_s {t : Tab} {wf n f : Nat} {F : Fn} {args : List Sl} (h : t.fn[f]? = some F) : callN t wf (n + 1) f args = runFn (callN t wf n) t.glob wf F args := by simp only [callN, h]
/-! operators on data -/
section
variable (i j : Int) (x y : List Nat) (u v : List D)
@[simp] theorem bin_addI : binD .Add (.int i) (.int j) = some (.dat (.int (i + j))) := rfl
@[simp] theorem bin_subI : binD .Sub (.int i) (.int j) = some (.dat (.int (i - j))) := rfl
@[simp] theorem bin_mulI : binD .Mult (.int i) (.int j) = if small i || small j then some (.dat (.int (i * j))) else none := rfl
@[simp] theorem bin_repT : binD .Mult (.tup u) (.int j) = if !u.isEmpty && (decide (2 ≤ j) && (decide (j ≤ 1000) && decide (u.length ≤ 1000))) then some (.dat (.tup (List.replicate j.toNat u).flatten)) else if decide (j = 1) then some (.dat (.tup u)) else none := rfl
@[simp] theorem bin_shlI : binD .LShift (.int i) (.int j) = if decide (0 ≤ j) && decide (j ≤ 1000000) && decide (i.natAbs < 18446744073709551616) then some (.dat (.int (i * 2 ^ j.toNat))) else none := rfl
@[simp] theorem bin_fdiv : binD .FloorDiv (.int i) (.int j) = if decide (0 < j) && decide (j < 1073741824) then some (.dat (.int (i / j))) else if decide (j < 0) && decide (-1073741824 < j) then some (.dat (.int (i.fdiv j))) else none := rfl
@[simp] theorem bin_modI : binD .Mod (.int i) (.int j) = if decide (0 < j) then some (.dat (.int (i % j))) else if decide (j < 0) then some (.dat (.int (i.fmod j))) else none := rfl
@[simp] theorem bin_powI : binD .Pow (.int i) (.int j) = if decide (0 ≤ j) && decide (j ≤ 1000000) && decide (i.natAbs < 18446744073709551616) then some (.dat (.int (i ^ j.toNat))) else none := rfl
@[simp] theorem bin_addS : binD .Add (.str x) (.str y) = if fitsL (x.length + y.length) then some (.dat (.str (x ++ y))) else none := rfl
@[simp] theorem bin_addL : binD .Add (.lst u) (.lst v) = if fitsL (u.length + v.length) then some (.lst (u ++ v)) else none := rfl
@[simp] theorem bin_addT : binD .Add (.tup u) (.tup v) = if fitsL (u.length + v.length) then some (.dat (.tup (u ++ v))) else none := rfl
@[simp] theorem cmp_lt : cmpD .Lt (.int i) (.int j) = some (decide (i < j)) := rfl
@[simp] theorem cmp_le : cmpD .LtE (.int i) (.int j) = some (decide (i ≤ j)) := rfl
@[simp] theorem cmp_gt : cmpD .Gt (.int i) (.int j) = some (decide (j < i)) := rfl
@[simp] theorem cmp_ge : cmpD .GtE (.int i) (.int j) = some (decide (j ≤ i)) := rfl
@[simp] theorem cmp_eqI : cmpD .Eq (.int i) (.int j) = some (i == j) := rfl
@[simp] theorem cmp_neI : cmpD .NotEq (.int i) (.int j) = some (!(i == j)) := rfl
@[simp] theorem cmp_eqS : cmpD .Eq (.str x) (.str y) = some (x == y) := rfl
@[simp] theorem cmp_neS : cmpD .NotEq (.str x) (.str y) = some (!(x == y)) := rfl
@[simp] theorem cmp_scr (l : List Int) : cmpD .NotEq (.scr l) (.lst []) = some (!l.isEmpty) := rfl
theorem cmp_isN (d : D) : cmpD .Is d .non = some (isNon d) := by cases d <;> rfl
theorem cmp_notN (d : D) : cmpD .IsNot d .non = some (!isNon d) := by cases d <;> rfl
theorem cmp_eq {d e : D} (h : eqOk d e = true) : cmpD .Eq d e = some (D.eq d e) := by
  cases d <;> simp only [cmpD, h, if_true]
theorem cmp_ne {d e : D} (h : eqOk d e = true) : cmpD .NotEq d e = some (!D.eq d e) := by
  cases d with
  | scr l => simp [eqOk, D.plain] at h
  | _ => simp only [cmpD, h, if_true]
theorem cmp_inL {d : D} (h : eqOk d (.lst u) = true) : cmpD .In d (.lst u) = some (inD d u) := by cases d <;> simp only [cmpD, h, if_true]
theorem cmp_ninL {d : D} (h : eqOk d (.lst u) = true) : cmpD .NotIn d (.lst u) = some (!inD d u) := by cases d <;> simp only [cmpD, h, if_true]
theorem cmp_inT {d : D} (h : eqOk d (.tup u) = true) : cmpD .In d (.tup u) = some (inD d u) := by cases d <;> simp only [cmpD, h, if_true]
theorem cmp_ninT {d : D} (h : eqOk d (.tup u) = true) : cmpD .NotIn d (.tup u) = some (!inD d u) := by cases d <;> simp only [cmpD, h, if_true]
@[simp] theorem ix_tup : ixD (.tup u) (.int i) = L2.atI u i := rfl
@[simp] theorem ix_lst : ixD (.lst u) (.int i) = L2.atI u i := rfl
@[simp] theorem ix_scr (l : List Int) : ixD (.scr l) (.int i) = (L2.atI l i).map .int := rfl
@[simp] theorem ix_str : ixD (.str x) (.int i) = (L2.atI x i).map fun c => .str [c] := rfl
@[simp] theorem ix_dicS : ixD (.dic u v) (.str x) = dGet u v (.str x) := rfl
@[simp] theorem ix_dicI : ixD (.dic u v) (.int i) = dGet u v (.int i) := rfl
@[simp] theorem sl_tup (lo hi : Option Int) : slD (.tup u) lo hi = some (.dat (.tup (cutL u lo hi))) := rfl
@[simp] theorem sl_lst (lo hi : Option Int) : slD (.lst u) lo hi = some (.lst (cutL u lo hi)) := rfl
@[simp] theorem sl_str (lo hi : Option Int) : slD (.str x) lo hi = some (.dat (.str (cutL x lo hi))) := rfl
@[simp] theorem sl_scr (l : List Int) (lo hi : Option Int) : slD (.scr l) lo hi = some (.lst ((cutL l lo hi).map .int)) := rfl
@[simp] theorem rev_lst : revD (.lst u) = some (.lst u.reverse) := rfl
@[simp] theorem rev_str : revD (.str x) = some (.dat (.str x.reverse)) := rfl
@[simp] theorem rev_tup : revD (.tup u) = some (.dat (.tup u.reverse)) := rfl
@[simp] theorem bi_divmod : biD .divmod [.int i, .int j] = if decide (j ≠ 0) && decide (j.natAbs < 1073741824) then some (.dat (.tup [.int (i.fdiv j), .int (i.fmod j)])) else none := rfl
@[simp] theorem bi_sumT : biD .sum [.tup u] = (asInts u).map fun l => .dat (.int l.sum) := rfl
@[simp] theorem bi_sumL : biD .sum [.lst u] = (asInts u).map fun l => .dat (.int l.sum) := rfl
@[simp] theorem bi_maxT : biD .max1 [.tup u] = (asInts u).bind fun l => (maxL l).map fun i => .dat (.int i) := rfl
@[simp] theorem bi_maxL : biD .max1 [.lst u] = (asInts u).bind fun l => (maxL l).map fun i => .dat (.int i) := rfl
@[simp] theorem bi_intI : biD .int [.int i] = some (.dat (.int i)) := rfl
@[simp] theorem bi_intB (b : Bool) : biD .int [.bl b] = some (.dat (.int (b2i b))) := rfl
@[simp] theorem bi_intS : biD .int [.str x] = (intS x).map fun i => .dat (.int i) := rfl
@[simp] theorem bi_strS : biD .str [.str x] = some (.dat (.str x)) := rfl
@[simp] theorem bi_strI : biD .str [.int i] = if decide (i.natAbs < 1000000000) then some (.dat (.str (numT i))) else none := rfl
@[simp] theorem bin_repS : binD .Mult (.str x) (.int j) = if !x.isEmpty && (decide (2 ≤ j) && (decide (j ≤ 10000) && decide (x.length ≤ 100))) then some (.dat (.str (List.replicate j.toNat x).flatten)) else none := rfl
@[simp] theorem bi_tupRev : biD .tupRev [.tup u] = some (.dat (.tup u.reverse)) := rfl
@[simp] theorem bi_lenL : biD .len [.lst u] = some (.dat (.int u.length)) := rfl
@[simp] theorem bi_lenT : biD .len [.tup u] = some (.dat (.int u.length)) := rfl
@[simp] theorem bi_lenS : biD .len [.str x] = some (.dat (.int x.length)) := rfl
@[simp] theorem bi_lenD : biD .len [.dic u v] = some (.dat (.int u.length)) := rfl
@[simp] theorem bi_lenX (l : List Int) : biD .len [.scr l] = some (.dat (.int l.length)) := rfl
@[simp] theorem bi_sumX (l : List Int) : biD .sum [.scr l] = some (.dat (.int l.sum)) := rfl
@[simp] theorem bi_max : biD .max2 [.int i, .int j] = some (.dat (.int (if j > i then j else i))) := rfl
@[simp] theorem bi_min : biD .min2 [.int i, .int j] = some (.dat (.int (if j < i then j else i))) := rfl
@[simp] theorem bi_abs : biD .abs [.int i] = some (.dat (.int (if i < 0 then -i else i))) := rfl
@[simp] theorem bi_listL : biD .list [.lst u] = some (.lst u) := rfl
@[simp] theorem bi_listT : biD .list [.tup u] = some (.lst u) := rfl
@[simp] theorem bi_listD : biD .list [.dic u v] = some (.lst u) := rfl
@[simp] theorem bi_listS : biD .list [.str x] = some (.lst (x.map fun c => .str [c])) := rfl
@[simp] theorem bi_tupL : biD .tuple [.lst u] = some (.dat (.tup u)) := rfl
@[simp] theorem bi_tupT : biD .tuple [.tup u] = some (.dat (.tup u)) := rfl
@[simp] theorem truth_bl (b : Bool) : (D.bl b).truth = some b := rfl
@[simp] theorem truth_int : (D.int i).truth = some (i != 0) := rfl
@[simp] theorem truth_str : (D.str x).truth = some (!x.isEmpty) := rfl
@[simp] theorem truth_lst : (D.lst u).truth = some (!u.isEmpty) := rfl
@[simp] theorem truth_tup : (D.tup u).truth = some (!u.isEmpty) := rfl
@[simp] theorem truth_non : D.non.truth = some false := rfl
@[simp] theorem items_lst : itemsOf (.lst u) = some u := rfl
@[simp] theorem items_tup : itemsOf (.tup u) = some u := rfl
@[simp] theorem items_scr (l : List Int) : itemsOf (.scr l) = some (l.map .int) := rfl
@[simp] theorem items_str : itemsOf (.str x) = some (x.map fun c => .str [c]) := rfl
@[simp] theorem isi_lst (t : Ty) : isiD (.lst u) t = (match t with | .list => some true | .own _ => none | .owns _ => none | _ => some false) := rfl
@[simp] theorem isi_tup (t : Ty) : isiD (.tup u) t = (match t with | .tuple => some true | .own _ => none | .owns _ => none | _ => some false) := rfl
@[simp] theorem isi_str (t : Ty) : isiD (.str x) t = (match t with | .str => some true | .own _ => none | .owns _ => none | _ => some false) := rfl
@[simp] theorem isi_int (t : Ty) : isiD (.int i) t = (match t with | .int => some true | .own _ => none | .owns _ => none | _ => some false) := rfl
@[simp] theorem isi_bl (b : Bool) (t : Ty) : isiD (.bl b) t = (match t with | .int => some true | .bool => some true | .own _ => none | .owns _ => none | _ => some false) := rfl
@[simp] theorem mt_app (x : D) : mtD .append (.lst u) [x] = if fitsL (u.length + 1) then some (.dat .non, some (.lst (u ++ [x]))) else none := by
  unfold mtD
  simp only [cap_lst, mtO, mtL]
  split <;> rfl
@[simp] theorem mt_clear : mtD .clear (.lst u) [] = some (.dat .non, some (.lst [])) := rfl
/-! instances -/
@[simp] theorem slot_pl (i : Nat) (ρ : Env) : (Bv.pl i).slot ρ = getS ρ i := rfl
@[simp] theorem slot_tmp (s : Sl) (ρ : Env) : (Bv.tmp s).slot ρ = some s := rfl
@[simp] theorem fldS_ins (c k : Nat) (fs : List Sl) : fldS c k (.ins c fs) = (match fs[k]? with
    | some (.dat d) => some d
    | _ => none) := by
  show (if c = c then _ else _) = _
  rw [if_pos rfl] <;> rfl
@[simp] theorem fldS_obj (c k : Nat) (vs : List D) : fldS c k (.dat (.obj c vs)) = vs[k]? := by simp [fldS]
@[simp] theorem objB_ins (c : Nat) (fs : List Sl) : objB c (.ins c fs) = true := by simp [objB]
@[simp] theorem objB_obj (c : Nat) (vs : List D) : objB c (.dat (.obj c vs)) = true := by simp [objB]
@[simp] theorem cap_ins (c : Nat) (fs : List Sl) : (Sl.ins c fs).cap = .obj c (fs.map Sl.cap) := by rw [Sl.cap, Sl.caps_map]
@[simp] theorem isDat_ins (c : Nat) (fs : List Sl) : (Sl.ins c fs).isDat = false := rfl
end
end MP

namespace MP
open PySem L2
/-! plain facts about data -/
mutual
theorem eq_refl : ∀ d : D, d.plain = true → D.eq d d = true
  | .non, _ => rfl
  | .bl b, _ => by simp [D.eq]
  | .int i, _ => by simp [D.eq]
  | .str x, _ => by simp [D.eq]
  | .tup xs, h => by simp only [D.eq]; exact eqs_refl xs (by simpa [D.plain] using h)
  | .lst xs, h => by simp only [D.eq]; exact eqs_refl xs (by simpa [D.plain] using h)
  | .dic _ _, h => by simp [D.plain] at h
  | .obj _ _, h => by simp [D.plain] at h
  | .exn _ _, h => by simp [D.plain] at h
  | .scr _, h => by simp [D.plain] at h
theorem eqs_refl : ∀ ds : List D, D.plains ds = true → D.eqs ds ds = true
  | [], _ => rfl
  | d :: ds, h => by
    simp only [D.plains, Bool.and_eq_true] at h
    simp only [D.eqs, eq_refl d h.1, eqs_refl ds h.2, Bool.and_self]
end
theorem plains_map {α : Type} (f : α → D) (h : ∀ x, (f x).plain = true) : ∀ l : List α, D.plains (l.map f) = true
  | [] => rfl
  | x :: l => by simp only [List.map_cons, D.plains, h x, plains_map f h l, Bool.and_self]
theorem deps_map {α : Type} (f : α → D) (n : Nat) (h : ∀ x, (f x).dep ≤ n) : ∀ l : List α, D.deps (l.map f) ≤ n
  | [] => Nat.zero_le _
  | x :: l => by
    simp only [List.map_cons, D.deps]
    exact Nat.max_le.mpr ⟨h x, deps_map f n h l⟩
theorem eqOk_of {d e : D} (h1 : d.plain = true) (h2 : e.plain = true) (h3 : e.dep ≤ 60) : eqOk d e = true := by
  unfold eqOk
  rw [h1, h2, decide_eq_true h3]
  simp
/-- a text as the row of its signs -/
def chs (s : List Nat) : List D := s.map fun c => .str [c]
theorem plain_chs (s : List Nat) : D.plains (chs s) = true := plains_map _ (fun _ => rfl) s
theorem dep_chs (s : List Nat) : D.deps (chs s) ≤ 0 := deps_map _ 0 (fun _ => Nat.le_refl _) s
theorem eqs_chs : ∀ a b : List Nat, D.eqs (chs a) (chs b) = (a == b)
  | [], [] => rfl
  | [], _ :: _ => rfl
  | _ :: _, [] => rfl
  | x :: a, y :: b => by
    have := eqs_chs a b
    simp only [chs] at this ⊢
    simp only [List.map_cons, D.eqs, D.eq, this]
    simp
theorem compL_map {α : Type} {f : D → Env → R (Option D)} {g h : α → D} {ρ : Env} : ∀ {xs : List α}, (∀ x ∈ xs, f (g x) ρ = .ok (some (h x)) ρ) → compL f (xs.map g) ρ = .ok (xs.map h) ρ
  | [], _ => rfl
  | x :: xs, k => by
    simp only [List.map_cons, compL, k x List.mem_cons_self, compL_map fun y hy => k y (List.mem_cons_of_mem _ hy)]
    rfl
theorem compL_filter {α : Type} {f : D → Env → R (Option D)} {g h : α → D} {p : α → Bool} {ρ : Env} : ∀ {xs : List α}, (∀ x ∈ xs, f (g x) ρ = .ok (if p x then some (h x) else none) ρ) → compL f (xs.map g) ρ = .ok ((xs.filter p).map h) ρ
  | [], _ => rfl
  | x :: xs, k => by
    simp only [List.map_cons, compL, k x List.mem_cons_self, compL_filter fun y hy => k y (List.mem_cons_of_mem _ hy)]
    cases hp : p x
    · simp [List.filter_cons, hp]
    · simp [List.filter_cons, hp]
end MP

namespace MP
open PySem L2
@[simp] theorem bvOf_var (i : Nat) (r : Env → R Sl) (ρ : Env) : bvOf (.var i) r ρ = (match getS ρ i with | some _ => .ok (.pl i) ρ | none => .stuck) := rfl
@[simp] theorem bvArg_mv (i : Nat) (r : Env → R Sl) (ρ : Env) : bvArg (.mv i) r ρ = (match getS ρ i with | some _ => .ok (.pl i) ρ | none => .stuck) := rfl
@[simp] theorem bvOf_mv (i : Nat) (r : Env → R Sl) (ρ : Env) : bvOf (.mv i) r ρ = (r ρ).bind fun s ρ => .ok (.tmp s) ρ := rfl
@[simp] theorem bvOf_con (d : D) (r : Env → R Sl) (ρ : Env) : bvOf (.con d) r ρ = (r ρ).bind fun s ρ => .ok (.tmp s) ρ := rfl
@[simp] theorem bvArg_con (d : D) (r : Env → R Sl) (ρ : Env) : bvArg (.con d) r ρ = (r ρ).bind fun s ρ => .ok (.tmp s) ρ := rfl
@[simp] theorem bvOf_glob (k : Nat) (r : Env → R Sl) (ρ : Env) : bvOf (.glob k) r ρ = (r ρ).bind fun s ρ => .ok (.tmp s) ρ := rfl
@[simp] theorem bvArg_glob (k : Nat) (r : Env → R Sl) (ρ : Env) : bvArg (.glob k) r ρ = (r ρ).bind fun s ρ => .ok (.tmp s) ρ := rfl
@[simp] theorem bvOf_bin (op : Operator) (a b : E) (r : Env → R Sl) (ρ : Env) : bvOf (.bin op a b) r ρ = (r ρ).bind fun s ρ => .ok (.tmp s) ρ := rfl
@[simp] theorem bvArg_bin (op : Operator) (a b : E) (r : Env → R Sl) (ρ : Env) : bvArg (.bin op a b) r ρ = (r ρ).bind fun s ρ => .ok (.tmp s) ρ := rfl
@[simp] theorem bvOf_neg (a : E) (r : Env → R Sl) (ρ : Env) : bvOf (.neg a) r ρ = (r ρ).bind fun s ρ => .ok (.tmp s) ρ := rfl
@[simp] theorem bvArg_neg (a : E) (r : Env → R Sl) (ρ : Env) : bvArg (.neg a) r ρ = (r ρ).bind fun s ρ => .ok (.tmp s) ρ := rfl
@[simp] theorem bvOf_notE (a : E) (r : Env → R Sl) (ρ : Env) : bvOf (.notE a) r ρ = (r ρ).bind fun s ρ => .ok (.tmp s) ρ := rfl
@[simp] theorem bvArg_notE (a : E) (r : Env → R Sl) (ρ : Env) : bvArg (.notE a) r ρ = (r ρ).bind fun s ρ => .ok (.tmp s) ρ := rfl
@[simp] theorem bvOf_and (a b : E) (r : Env → R Sl) (ρ : Env) : bvOf (.and a b) r ρ = (r ρ).bind fun s ρ => .ok (.tmp s) ρ := rfl
@[simp] theorem bvArg_and (a b : E) (r : Env → R Sl) (ρ : Env) : bvArg (.and a b) r ρ = (r ρ).bind fun s ρ => .ok (.tmp s) ρ := rfl
@[simp] theorem bvOf_or (a b : E) (r : Env → R Sl) (ρ : Env) : bvOf (.or a b) r ρ = (r ρ).bind fun s ρ => .ok (.tmp s) ρ := rfl
@[simp] theorem bvArg_or (a b : E) (r : Env → R Sl) (ρ : Env) : bvArg (.or a b) r ρ = (r ρ).bind fun s ρ => .ok (.tmp s) ρ := rfl
@[simp] theorem bvOf_ite (c a b : E) (r : Env → R Sl) (ρ : Env) : bvOf (.ite c a b) r ρ = (r ρ).bind fun s ρ => .ok (.tmp s) ρ := rfl
@[simp] theorem bvArg_ite (c a b : E) (r : Env → R Sl) (ρ : Env) : bvArg (.ite c a b) r ρ = (r ρ).bind fun s ρ => .ok (.tmp s) ρ := rfl
@[simp] theorem bvOf_cmp (op : CmpOp) (a b : E) (r : Env → R Sl) (ρ : Env) : bvOf (.cmp op a b) r ρ = (r ρ).bind fun s ρ => .ok (.tmp s) ρ := rfl
@[simp] theorem bvArg_cmp (op : CmpOp) (a b : E) (r : Env → R Sl) (ρ : Env) : bvArg (.cmp op a b) r ρ = (r ρ).bind fun s ρ => .ok (.tmp s) ρ := rfl
@[simp] theorem bvOf_cmp2 (o1 o2 : CmpOp) (a b c : E) (r : Env → R Sl) (ρ : Env) : bvOf (.cmp2 o1 o2 a b c) r ρ = (r ρ).bind fun s ρ => .ok (.tmp s) ρ := rfl
@[simp] theorem bvArg_cmp2 (o1 o2 : CmpOp) (a b c : E) (r : Env → R Sl) (ρ : Env) : bvArg (.cmp2 o1 o2 a b c) r ρ = (r ρ).bind fun s ρ => .ok (.tmp s) ρ := rfl
@[simp] theorem bvOf_tup (es : EL) (r : Env → R Sl) (ρ : Env) : bvOf (.tup es) r ρ = (r ρ).bind fun s ρ => .ok (.tmp s) ρ := rfl
@[simp] theorem bvArg_tup (es : EL) (r : Env → R Sl) (ρ : Env) : bvArg (.tup es) r ρ = (r ρ).bind fun s ρ => .ok (.tmp s) ρ := rfl
@[simp] theorem bvOf_lst (es : EL) (r : Env → R Sl) (ρ : Env) : bvOf (.lst es) r ρ = (r ρ).bind fun s ρ => .ok (.tmp s) ρ := rfl
@[simp] theorem bvArg_lst (es : EL) (r : Env → R Sl) (ρ : Env) : bvArg (.lst es) r ρ = (r ρ).bind fun s ρ => .ok (.tmp s) ρ := rfl
@[simp] theorem bvOf_dic (ps : PL) (r : Env → R Sl) (ρ : Env) : bvOf (.dic ps) r ρ = (r ρ).bind fun s ρ => .ok (.tmp s) ρ := rfl
@[simp] theorem bvArg_dic (ps : PL) (r : Env → R Sl) (ρ : Env) : bvArg (.dic ps) r ρ = (r ρ).bind fun s ρ => .ok (.tmp s) ρ := rfl
@[simp] theorem bvOf_call (f : Nat) (es : EL) (r : Env → R Sl) (ρ : Env) : bvOf (.call f es) r ρ = (r ρ).bind fun s ρ => .ok (.tmp s) ρ := rfl
@[simp] theorem bvArg_call (f : Nat) (es : EL) (r : Env → R Sl) (ρ : Env) : bvArg (.call f es) r ρ = (r ρ).bind fun s ρ => .ok (.tmp s) ρ := rfl
@[simp] theorem bvOf_mk (c f : Nat) (es : EL) (r : Env → R Sl) (ρ : Env) : bvOf (.mk c f es) r ρ = (r ρ).bind fun s ρ => .ok (.tmp s) ρ := rfl
@[simp] theorem bvArg_mk (c f : Nat) (es : EL) (r : Env → R Sl) (ρ : Env) : bvArg (.mk c f es) r ρ = (r ρ).bind fun s ρ => .ok (.tmp s) ρ := rfl
@[simp] theorem bvOf_bi (f : Bi) (es : EL) (r : Env → R Sl) (ρ : Env) : bvOf (.bi f es) r ρ = (r ρ).bind fun s ρ => .ok (.tmp s) ρ := rfl
@[simp] theorem bvArg_bi (f : Bi) (es : EL) (r : Env → R Sl) (ρ : Env) : bvArg (.bi f es) r ρ = (r ρ).bind fun s ρ => .ok (.tmp s) ρ := rfl
@[simp] theorem bvOf_mt (m : Mt) (o : E) (es : EL) (r : Env → R Sl) (ρ : Env) : bvOf (.mt m o es) r ρ = (r ρ).bind fun s ρ => .ok (.tmp s) ρ := rfl
@[simp] theorem bvArg_mt (m : Mt) (o : E) (es : EL) (r : Env → R Sl) (ρ : Env) : bvArg (.mt m o es) r ρ = (r ρ).bind fun s ρ => .ok (.tmp s) ρ := rfl
@[simp] theorem bvOf_ms (c f : Nat) (o : E) (es : EL) (r : Env → R Sl) (ρ : Env) : bvOf (.ms c f o es) r ρ = (r ρ).bind fun s ρ => .ok (.tmp s) ρ := rfl
@[simp] theorem bvArg_ms (c f : Nat) (o : E) (es : EL) (r : Env → R Sl) (ρ : Env) : bvArg (.ms c f o es) r ρ = (r ρ).bind fun s ρ => .ok (.tmp s) ρ := rfl
@[simp] theorem bvOf_fld (o : E) (c k : Nat) (r : Env → R Sl) (ρ : Env) : bvOf (.fld o c k) r ρ = (r ρ).bind fun s ρ => .ok (.tmp s) ρ := rfl
@[simp] theorem bvArg_fld (o : E) (c k : Nat) (r : Env → R Sl) (ρ : Env) : bvArg (.fld o c k) r ρ = (r ρ).bind fun s ρ => .ok (.tmp s) ρ := rfl
@[simp] theorem bvOf_ix (a i : E) (r : Env → R Sl) (ρ : Env) : bvOf (.ix a i) r ρ = (r ρ).bind fun s ρ => .ok (.tmp s) ρ := rfl
@[simp] theorem bvArg_ix (a i : E) (r : Env → R Sl) (ρ : Env) : bvArg (.ix a i) r ρ = (r ρ).bind fun s ρ => .ok (.tmp s) ρ := rfl
@[simp] theorem bvOf_sl (a lo hi : E) (r : Env → R Sl) (ρ : Env) : bvOf (.sl a lo hi) r ρ = (r ρ).bind fun s ρ => .ok (.tmp s) ρ := rfl
@[simp] theorem bvArg_sl (a lo hi : E) (r : Env → R Sl) (ρ : Env) : bvArg (.sl a lo hi) r ρ = (r ρ).bind fun s ρ => .ok (.tmp s) ρ := rfl
@[simp] theorem bvOf_slA (a lo : E) (r : Env → R Sl) (ρ : Env) : bvOf (.slA a lo) r ρ = (r ρ).bind fun s ρ => .ok (.tmp s) ρ := rfl
@[simp] theorem bvArg_slA (a lo : E) (r : Env → R Sl) (ρ : Env) : bvArg (.slA a lo) r ρ = (r ρ).bind fun s ρ => .ok (.tmp s) ρ := rfl
@[simp] theorem bvOf_slB (a hi : E) (r : Env → R Sl) (ρ : Env) : bvOf (.slB a hi) r ρ = (r ρ).bind fun s ρ => .ok (.tmp s) ρ := rfl
@[simp] theorem bvArg_slB (a hi : E) (r : Env → R Sl) (ρ : Env) : bvArg (.slB a hi) r ρ = (r ρ).bind fun s ρ => .ok (.tmp s) ρ := rfl
@[simp] theorem bvOf_rev (a : E) (r : Env → R Sl) (ρ : Env) : bvOf (.rev a) r ρ = (r ρ).bind fun s ρ => .ok (.tmp s) ρ := rfl
@[simp] theorem bvArg_rev (a : E) (r : Env → R Sl) (ρ : Env) : bvArg (.rev a) r ρ = (r ρ).bind fun s ρ => .ok (.tmp s) ρ := rfl
@[simp] theorem bvOf_isi (a : E) (t : Ty) (r : Env → R Sl) (ρ : Env) : bvOf (.isi a t) r ρ = (r ρ).bind fun s ρ => .ok (.tmp s) ρ := rfl
@[simp] theorem bvArg_isi (a : E) (t : Ty) (r : Env → R Sl) (ρ : Env) : bvArg (.isi a t) r ρ = (r ρ).bind fun s ρ => .ok (.tmp s) ρ := rfl
@[simp] theorem bvArg_var (i : Nat) (r : Env → R Sl) (ρ : Env) : bvArg (.var i) r ρ = (r ρ).bind fun s ρ => .ok (.tmp s) ρ := rfl
/-! rules for draws, loops, comprehensions -/
theorem atI_nat {α : Type} (xs : List α) (k : Nat) (h : k < xs.length) : L2.atI xs (k : Int) = some xs[k] := by
  unfold L2.atI L2.ixN
  have h1 : (0 : Int) ≤ (k : Int) := by omega
  have h2 : ((k : Int) : Int) < (xs.length : Int) := by omega
  simp [h1, h2, List.getElem?_eq_getElem h]
theorem pick {α : Type} (xs : List α) (k : Nat) (h : k < xs.length) : ∃ d ∈ xs, L2.atI xs (k : Int) = some d :=
  ⟨xs[k], List.getElem_mem h, atI_nat xs k h⟩
theorem pickP {α : Type} (xs : List α) (P : α → Prop) (k : Nat) (h : k < xs.length) (a : ∀ d ∈ xs, P d) : ∃ d, P d ∧ L2.atI xs (k : Int) = some d :=
  ⟨xs[k], a _ (List.getElem_mem h), atI_nat xs k h⟩
/-- a comprehension: what holds of the names, what comes of each -/
theorem comp_inv {f : D → Env → R (Option D)} {Inv : Env → Prop} {P : D → D → Prop} : ∀ {xs : List D} {ρ : Env}, (∀ x ∈ xs, ∀ ρ, Inv ρ → ∃ o ρ', f x ρ = .ok (some o) ρ' ∧ P x o ∧ Inv ρ') → Inv ρ →
    ∃ ys ρ', compL f xs ρ = .ok ys ρ' ∧ ys.length = xs.length ∧ (∀ y ∈ ys, ∃ x ∈ xs, P x y) ∧ Inv ρ'
  | [], ρ, _, i => ⟨[], ρ, rfl, rfl, by simp, i⟩
  | x :: xs, ρ, h, i => by
    obtain ⟨o, ρ1, e1, p1, i1⟩ := h x List.mem_cons_self ρ i
    obtain ⟨ys, ρ2, e2, l2, p2, i2⟩ := comp_inv (xs := xs) (fun y hy => h y (List.mem_cons_of_mem _ hy)) i1
    refine ⟨o :: ys, ρ2, ?_, by simp [l2], ?_, i2⟩
    · unfold compL; rw [e1]; simp only [e2]; rfl
    · intro y hy
      rcases List.mem_cons.mp hy with rfl | hy
      · exact ⟨x, List.mem_cons_self, p1⟩
      · obtain ⟨z, hz, pz⟩ := p2 y hy; exact ⟨z, List.mem_cons_of_mem _ hz, pz⟩
theorem forL_inv {f : D → Env → R Fl} {Inv : Env → Prop} : ∀ {xs : List D} {ρ : Env}, (∀ x ∈ xs, ∀ ρ, Inv ρ → ∃ ρ', f x ρ = .ok .nx ρ' ∧ Inv ρ') → Inv ρ → ∃ ρ', forL f xs ρ = .ok .nx ρ' ∧ Inv ρ'
  | [], ρ, _, i => ⟨ρ, rfl, i⟩
  | x :: xs, ρ, h, i => by
    obtain ⟨ρ1, e1, i1⟩ := h x List.mem_cons_self ρ i
    obtain ⟨ρ2, e2, i2⟩ := forL_inv (xs := xs) (fun y hy => h y (List.mem_cons_of_mem _ hy)) i1
    exact ⟨ρ2, by simp only [forL, e1, rbind_ok, e2], i2⟩
/-- a comprehension's value: as the row's text -/
theorem ev_comp {C : Ctx} {own : List Nat} {elt : E} {t : T} {it : It} {ρ ρ0 ρ' : Env} {xs ys : List D} (h1 : evIt C it ρ = .ok xs ρ0)
    (h2 : compL (fun x ρ => R.opt (bindT own t x ρ) fun ρ => (evE C elt ρ).bind fun s ρ => .ok (some s.cap) (wipeE own ρ)) xs (wipeE own ρ0) = .ok ys ρ') (h3 : ys.length ≤ 1000000) :
    evE C (.comp own elt t it) ρ = .ok (.lst ys) ρ' := by
  have hf : fitsL ys.length = true := by unfold fitsL; rw [decide_eq_true_eq]; omega
  rw [evE, h1, rbind_ok, h2, rbind_ok, hf, if_pos rfl]
theorem ev_compIf {C : Ctx} {own : List Nat} {elt c : E} {t : T} {it : It} {ρ ρ0 ρ' : Env} {xs ys : List D} (h1 : evIt C it ρ = .ok xs ρ0)
    (h2 : compL (fun x ρ => R.opt (bindT own t x ρ) fun ρ => (testB (bvOf c (evE C c) ρ)).bind fun b ρ =>
        if b then (evE C elt ρ).bind fun s ρ => .ok (some s.cap) (wipeE own ρ) else .ok none (wipeE own ρ)) xs (wipeE own ρ0) = .ok ys ρ') (h3 : ys.length ≤ 1000000) :
    evE C (.compIf own elt t it c) ρ = .ok (.lst ys) ρ' := by
  have hf : fitsL ys.length = true := by unfold fitsL; rw [decide_eq_true_eq]; omega
  rw [evE, h1, rbind_ok, h2, rbind_ok, hf, if_pos rfl]
/-- with draws: what holds of the names, what comes of each -/
theorem ev_comp_inv {C : Ctx} {own : List Nat} {elt : E} {t : T} {it : It} {ρ ρ0 : Env} {xs : List D} (Inv : Env → Prop) (P : D → D → Prop) (h1 : evIt C it ρ = .ok xs ρ0)
    (hs : ∀ x ∈ xs, ∀ ρ, Inv ρ → ∃ ρ1 s ρ2, bindT own t x ρ = some ρ1 ∧ evE C elt ρ1 = .ok s ρ2 ∧ P x s.cap ∧ Inv (wipeE own ρ2)) (hi : Inv (wipeE own ρ0)) (hl : xs.length ≤ 1000000) :
    ∃ ys ρ', evE C (.comp own elt t it) ρ = .ok (.lst ys) ρ' ∧ ys.length = xs.length ∧ (∀ y ∈ ys, ∃ x ∈ xs, P x y) ∧ Inv ρ' := by
  obtain ⟨ys, ρ', e, l, p, i⟩ := comp_inv (f := fun x ρ => R.opt (bindT own t x ρ) fun ρ => (evE C elt ρ).bind fun s ρ => .ok (some s.cap) (wipeE own ρ)) (Inv := Inv) (P := P) (xs := xs) (by
    intro x hx ρ hi
    obtain ⟨ρ1, s, ρ2, e1, e2, p, i⟩ := hs x hx ρ hi
    exact ⟨s.cap, wipeE own ρ2, by rw [e1]; simp only [opt_some]; rw [e2]; rfl, p, i⟩) hi
  exact ⟨ys, ρ', ev_comp h1 e (by omega), l, p, i⟩
/-- each thing's own answer; the names stay -/
theorem ev_comp_map {C : Ctx} {own : List Nat} {elt : E} {t : T} {it : It} {ρ ρ0 ρz : Env} {α : Type} {xs : List α} (g h : α → D) (h1 : evIt C it ρ = .ok (xs.map g) ρ0) (hz : wipeE own ρ0 = ρz)
    (hs : ∀ x ∈ xs, ∃ ρ1 s ρ2, bindT own t (g x) ρz = some ρ1 ∧ evE C elt ρ1 = .ok s ρ2 ∧ s.cap = h x ∧ wipeE own ρ2 = ρz) (hl : xs.length ≤ 1000000) :
    evE C (.comp own elt t it) ρ = .ok (.lst (xs.map h)) ρz := by
  refine ev_comp h1 ?_ (by simpa using hl)
  rw [hz]
  refine compL_map fun x hx => ?_
  obtain ⟨ρ1, s, ρ2, e1, e2, e3, e4⟩ := hs x hx
  rw [e1, opt_some, e2, rbind_ok, e3, e4]
theorem ev_comp_filter {C : Ctx} {own : List Nat} {elt c : E} {t : T} {it : It} {ρ ρ0 ρz : Env} {α : Type} {xs : List α} (g h : α → D) (p : α → Bool) (h1 : evIt C it ρ = .ok (xs.map g) ρ0) (hz : wipeE own ρ0 = ρz)
    (hs : ∀ x ∈ xs, ∃ ρ1 ρ2, bindT own t (g x) ρz = some ρ1 ∧ testB (bvOf c (evE C c) ρ1) = .ok (p x) ρ2 ∧ (p x = false → wipeE own ρ2 = ρz) ∧ (p x = true → ∃ s ρ3, evE C elt ρ2 = .ok s ρ3 ∧ s.cap = h x ∧ wipeE own ρ3 = ρz)) (hl : xs.length ≤ 1000000) :
    evE C (.compIf own elt t it c) ρ = .ok (.lst ((xs.filter p).map h)) ρz := by
  refine ev_compIf h1 ?_ (by
    have := List.length_filter_le p xs
    simp only [List.length_map]; omega)
  rw [hz]
  refine compL_filter fun x hx => ?_
  obtain ⟨ρ1, ρ2, e1, e2, e3, e4⟩ := hs x hx
  rw [e1, opt_some, e2, rbind_ok]
  cases hp : p x with
  | false => simp [e3 hp]
  | true =>
    obtain ⟨s, ρ3, e5, e6, e7⟩ := e4 hp
    simp [e5, e6, e7]
theorem rngOk_of {a b : Int} (h1 : -1000000 ≤ a) (h2 : a ≤ 1000000) (h3 : -1000000 ≤ b) (h4 : b ≤ 1000000) : rngOk a b = true := by
  simp only [rngOk, Bool.and_eq_true, decide_eq_true_eq]
  omega
theorem fits_of {n : Nat} (h : n ≤ 1000000) : fitsL n = true := by unfold fitsL; rw [decide_eq_true_eq]; omega
theorem rngL_mem {lo : Int} {n : Nat} {x : D} (h : x ∈ rngL lo n) : ∃ k : Nat, k < n ∧ x = .int (lo + k) := by
  unfold rngL at h
  rw [List.mem_map] at h
  obtain ⟨k, hk, rfl⟩ := h
  exact ⟨k, List.mem_range.mp hk, rfl⟩
@[simp] theorem rngL_len (lo : Int) (n : Nat) : (rngL lo n).length = n := by simp [rngL]
theorem cmp_isB (a b : Bool) : cmpD .Is (.bl a) (.bl b) = some (a == b) := by cases b <;> rfl
theorem cmp_notB (a b : Bool) : cmpD .IsNot (.bl a) (.bl b) = some (a != b) := by cases b <;> rfl
theorem asBls_map {α : Type} (p : α → Bool) : ∀ l : List α, asBls (l.map fun x => D.bl (p x)) = some (l.map p)
  | [] => rfl
  | x :: l => by simp only [List.map_cons, asBls, asBls_map p l, Option.map_some]
theorem all_map {α : Type} (p : α → Bool) (l : List α) : biD .all [.lst (l.map fun x => D.bl (p x))] = some (.dat (.bl (l.all p))) := by
  simp only [biD, asBls_map, Option.map_some]
  congr 3
  simp [List.all_map]
theorem any_map {α : Type} (p : α → Bool) (l : List α) : biD .any [.lst (l.map fun x => D.bl (p x))] = some (.dat (.bl (l.any p))) := by
  simp only [biD, asBls_map, Option.map_some]
  congr 3
  simp [List.any_map]
theorem in_strs (x : List Nat) : ∀ l : List (List Nat), inD (.str x) (l.map .str) = l.contains x
  | [] => rfl
  | y :: l => by
    have ih := in_strs x l
    simp only [inD] at ih ⊢
    rw [List.map_cons, List.any_cons, ih, List.contains_cons]
    congr 1
    simp only [D.eq]
    by_cases e : x = y
    · rw [e]
    · rw [beq_false_of_ne e, beq_false_of_ne (Ne.symm e)]
theorem small_mod (a : Int) (m : Int) (h : 0 < m) (h2 : m < 18446744073709551616) : small (a % m) = true := by
  have h1 := Int.emod_nonneg a (b := m) (by omega)
  have h3 := Int.emod_lt_of_pos a (b := m) (by omega)
  simp only [small, Bool.and_eq_true, decide_eq_true_eq]
  constructor <;> omega
theorem mod_nat (a : Int) (m : Int) (h : 0 < m) : ∃ x : Nat, (x : Int) < m ∧ a % m = x := by
  have h1 := Int.emod_nonneg a (b := m) (by omega)
  have h3 := Int.emod_lt_of_pos a (b := m) (by omega)
  exact ⟨(a % m).toNat, by omega, by omega⟩
end MP

namespace MP
open PySem L2
inductive All2 {α β : Type} (P : α → β → Prop) : List α → List β → Prop
  | nil : All2 P [] []
  | cons {a : α} {b : β} {as : List α} {bs : List β} : P a b → All2 P as bs → All2 P (a :: as) (b :: bs)
theorem All2.length {α β : Type} {P : α → β → Prop} {as : List α} {bs : List β} (h : All2 P as bs) : as.length = bs.length := by
  induction h with
  | nil => rfl
  | cons _ _ ih => simp [ih]
theorem comp_all2 {f : D → Env → R (Option D)} {Inv : Env → Prop} {P : D → D → Prop} : ∀ {xs : List D} {ρ : Env}, (∀ x ∈ xs, ∀ ρ, Inv ρ → ∃ o ρ', f x ρ = .ok (some o) ρ' ∧ P x o ∧ Inv ρ') → Inv ρ →
    ∃ ys ρ', compL f xs ρ = .ok ys ρ' ∧ All2 P xs ys ∧ Inv ρ'
  | [], ρ, _, i => ⟨[], ρ, rfl, .nil, i⟩
  | x :: xs, ρ, h, i => by
    obtain ⟨o, ρ1, e1, p1, i1⟩ := h x List.mem_cons_self ρ i
    obtain ⟨ys, ρ2, e2, p2, i2⟩ := comp_all2 (xs := xs) (fun y hy => h y (List.mem_cons_of_mem _ hy)) i1
    refine ⟨o :: ys, ρ2, ?_, .cons p1 p2, i2⟩
    unfold compL; rw [e1]; simp only [e2]; rfl
/-- with draws: each thing's own, in order -/
theorem ev_comp_all2 {C : Ctx} {own : List Nat} {elt : E} {t : T} {it : It} {ρ ρ0 : Env} {xs : List D} (Inv : Env → Prop) (P : D → D → Prop) (h1 : evIt C it ρ = .ok xs ρ0)
    (hs : ∀ x ∈ xs, ∀ ρ, Inv ρ → ∃ ρ1 s ρ2, bindT own t x ρ = some ρ1 ∧ evE C elt ρ1 = .ok s ρ2 ∧ P x s.cap ∧ Inv (wipeE own ρ2)) (hi : Inv (wipeE own ρ0)) (hl : xs.length ≤ 1000000) :
    ∃ ys ρ', evE C (.comp own elt t it) ρ = .ok (.lst ys) ρ' ∧ All2 P xs ys ∧ Inv ρ' := by
  obtain ⟨ys, ρ', e, p, i⟩ := comp_all2 (f := fun x ρ => R.opt (bindT own t x ρ) fun ρ => (evE C elt ρ).bind fun s ρ => .ok (some s.cap) (wipeE own ρ)) (Inv := Inv) (P := P) (xs := xs) (by
    intro x hx ρ hi
    obtain ⟨ρ1, s, ρ2, e1, e2, p, i⟩ := hs x hx ρ hi
    exact ⟨s.cap, wipeE own ρ2, by rw [e1]; simp only [opt_some]; rw [e2]; rfl, p, i⟩) hi
  exact ⟨ys, ρ', ev_comp h1 e (by rw [← p.length]; exact hl), p, i⟩
theorem it30 (C : Ctx) (ns : List Int) (ρ : Env) (h : getS ρ 0 = some (.dat (.scr ns))) : ∃ m : Nat, m ≤ 30 ∧ evIt C (.rng1 (.bi .max2 (.cons (.con (.int 1)) (.cons (.bi .min2 (.cons (.con (.int 30)) (.cons (.bi .len (.cons (.var 0) .nil)) .nil))) .nil)))) ρ = .ok (rngL 0 m) ρ := by
  generalize hq : (if (if (ns.length : Int) < 30 then (ns.length : Int) else 30) > 1 then (if (ns.length : Int) < 30 then (ns.length : Int) else 30) else 1) = q
  have hq1 : 0 ≤ q ∧ q ≤ 30 := by rw [← hq]; split <;> split <;> omega
  refine ⟨q.toNat, by omega, ?_⟩
  have r := rngOk_of (a := 0) (b := q) (by omega) (by omega) (by omega) (by omega)
  simp only [evIt, evE, evOps, bvOf_var, bvOf_con, bvOf_bi, h, view1_eq, views, view_pl, view_tmp, rbind_ok, cap_dat, Option.map_some, Option.bind_some, bi_lenX, ofO_some, bi_min, bi_max, hq, r, if_true]
/-! methods and built-ins, as rewriting -/
section
variable (x y : List Nat) (u v : List D) (d e : D)
@[simp] theorem rt_app : rtOk (mtTy .append) (.lst u) = true := rfl
@[simp] theorem rt_ext : rtOk (mtTy .extend) (.lst u) = true := rfl
@[simp] theorem rt_clear : rtOk (mtTy .clear) (.lst u) = true := rfl
@[simp] theorem rt_index : rtOk (mtTy .index) (.lst u) = true := rfl
@[simp] theorem rt_tindex : rtOk (mtTy .tindex) (.tup u) = true := rfl
@[simp] theorem rt_join : rtOk (mtTy .join) (.str x) = true := rfl
@[simp] theorem rt_split : rtOk (mtTy .split) (.str x) = true := rfl
@[simp] theorem rt_starts : rtOk (mtTy .startswith) (.str x) = true := rfl
@[simp] theorem rt_ends : rtOk (mtTy .endswith) (.str x) = true := rfl
@[simp] theorem rt_get1 : rtOk (mtTy .get1) (.dic u v) = true := rfl
@[simp] theorem rt_get2 : rtOk (mtTy .get2) (.dic u v) = true := rfl
@[simp] theorem rt_update : rtOk (mtTy .update) (.dic u v) = true := rfl
theorem mtD_o {m : Mt} {s : Sl} {ds : List D} {w : Sl} (h : mtO m s.cap ds = some w) : mtD m s ds = some (w, none) := by unfold mtD; rw [h]
theorem mt_index {s : Sl} {i : Nat} (h : s.cap = .lst u) (p : D.plains u = true) (q : d.plain = true) (a : D.deps u ≤ 60) (b : d.dep ≤ 60) (g : idxD d u = some i) : mtD .index s [d] = some (.dat (.int i), none) := by
  refine mtD_o ?_
  rw [h]
  simp only [mtO, p, q, decide_eq_true a, decide_eq_true b, Bool.and_self, if_true, g, Option.map_some]
theorem mt_tindex {i : Nat} {l : List (List Nat)} (h : asStrs u = some l) (g : idxS x l = some i) : mtD .tindex (.dat (.tup u)) [.str x] = some (.dat (.int i), none) := by
  refine mtD_o ?_
  simp only [cap_dat, mtO, h, Option.bind_some, g, Option.map_some]
theorem mt_split (l : List (List Nat)) (h1 : splitS x y = l) (h2 : y.isEmpty = false) (h3 : x.length ≤ 1000000) (h4 : (l.all fun p => strOkL p && decide (p.length ≤ 16777216)) = true) : mtD .split (.dat (.str x)) [.str y] = some (.lst (l.map .str), none) := by
  refine mtD_o ?_
  simp only [cap_dat, mtO, h1, h2, h4, decide_eq_true h3, Bool.not_false, Bool.and_self, if_true]
@[simp] theorem rt_pop1 : rtOk (mtTy .pop1) (.lst u) = true := rfl
@[simp] theorem rt_pop0 : rtOk (mtTy .pop0) (.lst u) = true := rfl
theorem mt_pop1 {u : List D} {i : Nat} {y : D} (h : u[i]? = some y) (hi : i < 1000000) : mtD .pop1 (.lst u) [.int (i : Int)] = some (.dat y, some (.lst (u.eraseIdx i))) := by
  unfold mtD
  simp only [cap_lst, mtO, mtL]
  rw [if_pos (by simp [fits_of (Nat.le_of_lt hi)]), Int.toNat_natCast, h]
  rfl
@[simp] theorem mt_get2S : mtD .get2 (.dic u v) [.str x, d] = some (.dat ((dGet u v (.str x)).getD d), none) := mtD_o rfl
@[simp] theorem mt_get2D : mtD .get2 (.dat (.dic u v)) [.str x, d] = some (.dat ((dGet u v (.str x)).getD d), none) := mtD_o rfl
@[simp] theorem mt_get1S : mtD .get1 (.dic u v) [.str x] = some (.dat ((dGet u v (.str x)).getD .non), none) := mtD_o rfl
@[simp] theorem mt_joinL : mtD .join (.dat (.str x)) [.lst u] = ((asStrs u).bind fun l => if fitsL ((l.map (·.length)).sum + l.length * x.length) then some (.dat (.str (TL.joinL x l)), none) else none) := by
  unfold mtD
  simp only [cap_dat, mtO]
  cases asStrs u with
  | none => rfl
  | some l => simp only [Option.bind_some]; cases fitsL ((l.map (·.length)).sum + l.length * x.length) <;> rfl
theorem asStrs_map : ∀ l : List (List Nat), asStrs (l.map .str) = some l
  | [] => rfl
  | x :: l => by simp only [List.map_cons, asStrs, asStrs_map l, Option.map_some]
theorem bi_dict {p : List D × List D} (h : pairsD u = some p) (hl : p.1.length ≤ 1000) : biD .dict [.tup u] = some (.dic (dMerge [] [] p.1 p.2).1 (dMerge [] [] p.1 p.2).2) := by
  simp only [biD, biD2, h, Option.bind_some, decide_eq_true hl, if_true]
theorem bi_dictL {p : List D × List D} (h : pairsD u = some p) (hl : p.1.length ≤ 1000) : biD .dict [.lst u] = some (.dic (dMerge [] [] p.1 p.2).1 (dMerge [] [] p.1 p.2).2) := by
  simp only [biD, biD2, h, Option.bind_some, decide_eq_true hl, if_true]
@[simp] theorem bi_dictD : biD .dict [.dic u v] = some (.dic u v) := rfl
theorem sorted_strs (l : List (List Nat)) (h : l.length < 64) : biD .sorted [.lst (l.map .str)] = some (.lst ((sortS l).map .str)) := by
  simp only [biD, asStrs_map, h, decide_true, if_true]
theorem sorted_strsT (l : List (List Nat)) (h : l.length < 64) : biD .sorted [.tup (l.map .str)] = some (.lst ((sortS l).map .str)) := by
  simp only [biD, asStrs_map, h, decide_true, if_true]
theorem ord_of {d e : D} (h : eqOk d e = true) (a : D.alike d e = true) (n : isNon d = false) : ordOk d e = true := by
  unfold ordOk; rw [h, a, n]; rfl
theorem cmp_ltL (h : ordOk (.lst u) (.lst v) = true) : cmpD .Lt (.lst u) (.lst v) = some (D.lts u v) := by
  simp only [cmpD, cmpD2, h, if_true, D.lt]
theorem cmp_ltT (h : ordOk (.tup u) (.tup v) = true) : cmpD .Lt (.tup u) (.tup v) = some (D.lts u v) := by
  simp only [cmpD, cmpD2, h, if_true, D.lt]
theorem cmp_neK (h : all2B (eqK 3) u v = true) (n : D.plains u = false) : cmpD .NotEq (.lst u) (.lst v) = some false := by
  have e : eqOk (.lst u) (.lst v) = false := by
    unfold eqOk
    have : (D.lst u).plain = false := n
    rw [this]; rfl
  simp only [cmpD, e, isLst, eqS, h, Bool.and_self, Bool.false_eq_true, if_false, if_true]
theorem all2B_of {α : Type} (f : D → D → Bool) (g h : α → D) : ∀ l : List α, (∀ x ∈ l, f (g x) (h x) = true) → all2B f (l.map g) (l.map h) = true
  | [], _ => rfl
  | x :: l, k => by simp only [List.map_cons, all2B, k x List.mem_cons_self, all2B_of f g h l fun y hy => k y (List.mem_cons_of_mem _ hy), Bool.and_self]
end
end MP

namespace MP
open PySem L2
/-! rows one behind another -/
theorem evSs_nx {C : Ctx} {s : S} {ss : SL} {ρ ρ' : Env} (h : evS C s ρ = .ok .nx ρ') : evSs C (.cons s ss) ρ = evSs C ss ρ' := by rw [evSs, h, rbind_ok]
theorem evSs_ret {C : Ctx} {s : S} {ss : SL} {ρ ρ' : Env} {v : Sl} (h : evS C s ρ = .ok (.ret v) ρ') : evSs C (.cons s ss) ρ = .ok (.ret v) ρ' := by rw [evSs, h, rbind_ok]
theorem evSs_nil {C : Ctx} {ρ : Env} : evSs C .nil ρ = .ok .nx ρ := rfl
theorem run_ret {call : Nat → List Sl → CR} {glob : Nat → Option D} {wf : Nat} {F : Fn} {args : List Sl} {v : Sl} {ρ : Env} (hl : args.length = F.np)
    (h : evSs ⟨call, glob, args.map fun s => !s.isDat, wf⟩ F.body (args ++ List.replicate (F.ns - F.np) .un) = .ok (.ret v) ρ) : runFn call glob wf F args = .ok v (finOf args ρ) := by
  unfold runFn; rw [if_pos hl, h]
theorem run_ret2 {call : Nat → List Sl → CR} {glob : Nat → Option D} {wf : Nat} {F : Fn} {args fin : List Sl} {v : Sl} {ρ : Env} (hl : args.length = F.np)
    (h : evSs ⟨call, glob, args.map fun s => !s.isDat, wf⟩ F.body (args ++ List.replicate (F.ns - F.np) .un) = .ok (.ret v) ρ) (hf : finOf args ρ = fin) : runFn call glob wf F args = .ok v fin := by
  rw [run_ret hl h, hf]
theorem run_nx2 {call : Nat → List Sl → CR} {glob : Nat → Option D} {wf : Nat} {F : Fn} {args fin : List Sl} {ρ : Env} (hl : args.length = F.np)
    (h : evSs ⟨call, glob, args.map fun s => !s.isDat, wf⟩ F.body (args ++ List.replicate (F.ns - F.np) .un) = .ok .nx ρ) (hf : finOf args ρ = fin) : runFn call glob wf F args = .ok (.dat .non) fin := by
  unfold runFn; rw [if_pos hl, h, ← hf]
theorem run_nx {call : Nat → List Sl → CR} {glob : Nat → Option D} {wf : Nat} {F : Fn} {args : List Sl} {ρ : Env} (hl : args.length = F.np)
    (h : evSs ⟨call, glob, args.map fun s => !s.isDat, wf⟩ F.body (args ++ List.replicate (F.ns - F.np) .un) = .ok .nx ρ) : runFn call glob wf F args = .ok (.dat .non) (finOf args ρ) := by
  unfold runFn; rw [if_pos hl, h]
theorem forL_nil {f : D → Env → R Fl} {ρ : Env} : forL f [] ρ = .ok .nx ρ := rfl
theorem forL_nx {f : D → Env → R Fl} {x : D} {xs : List D} {ρ ρ' : Env} (h : f x ρ = .ok .nx ρ') : forL f (x :: xs) ρ = forL f xs ρ' := by rw [forL, h, rbind_ok]
theorem forL_ret {f : D → Env → R Fl} {x : D} {xs : List D} {ρ ρ' : Env} {v : Sl} (h : f x ρ = .ok (.ret v) ρ') : forL f (x :: xs) ρ = .ok (.ret v) ρ' := by rw [forL, h, rbind_ok]
/-- a loop that may be left by a return: what holds ahead, behind, or what is told -/
theorem forL_or {f : D → Env → R Fl} {Inv : Env → Prop} {T : Sl → Env → Prop} : ∀ {xs : List D} {ρ : Env}, (∀ x ∈ xs, ∀ ρ, Inv ρ → (∃ ρ', f x ρ = .ok .nx ρ' ∧ Inv ρ') ∨ ∃ v ρ', f x ρ = .ok (.ret v) ρ' ∧ T v ρ') → Inv ρ →
    (∃ ρ', forL f xs ρ = .ok .nx ρ' ∧ Inv ρ') ∨ ∃ v ρ', forL f xs ρ = .ok (.ret v) ρ' ∧ T v ρ'
  | [], ρ, _, i => .inl ⟨ρ, rfl, i⟩
  | x :: xs, ρ, h, i => by
    rcases h x List.mem_cons_self ρ i with ⟨ρ1, e1, i1⟩ | ⟨v, ρ1, e1, t⟩
    · rcases forL_or (xs := xs) (fun y hy => h y (List.mem_cons_of_mem _ hy)) i1 with ⟨ρ2, e2, i2⟩ | ⟨v, ρ2, e2, t⟩
      · exact .inl ⟨ρ2, by rw [forL_nx e1, e2], i2⟩
      · exact .inr ⟨v, ρ2, by rw [forL_nx e1, e2], t⟩
    · exact .inr ⟨v, ρ1, forL_ret e1, t⟩
@[simp] theorem mt_ext (u w : List D) : mtD .extend (.lst u) [.lst w] = if fitsL (u.length + w.length) then some (.dat .non, some (.lst (u ++ w))) else none := by
  unfold mtD
  simp only [cap_lst, mtO, mtL]
  split <;> rfl
@[simp] theorem ix_cdic (u v : List D) (x : List Nat) : ixD (.cdic u v) (.str x) = dGet u v (.str x) := rfl
@[simp] theorem cmp_inD (u v : List D) (x : List Nat) : cmpD .In (.str x) (.dic u v) = some (dGet u v (.str x)).isSome := by cases x <;> rfl
@[simp] theorem cmp_inC (u v : List D) (x : List Nat) : cmpD .In (.str x) (.cdic u v) = some (dGet u v (.str x)).isSome := by cases x <;> rfl
@[simp] theorem bi_listC (u v : List D) : biD .list [.cdic u v] = some (.lst u) := rfl
@[simp] theorem bi_repN : biD .repr [.non] = some (.dat (.str [78, 111, 110, 101])) := rfl
mutual
theorem eq_sym : ∀ d e : D, D.eq d e = D.eq e d
  | .non, e => by cases e <;> simp only [D.eq]
  | .bl b, e => by cases e <;> simp only [D.eq, Bool.beq_comm, BEq.comm]
  | .int i, e => by cases e <;> simp only [D.eq, BEq.comm]
  | .str x, e => by cases e <;> simp only [D.eq, BEq.comm]
  | .tup xs, e => by
    cases e <;> simp only [D.eq]
    exact eqs_sym xs _
  | .lst xs, e => by
    cases e <;> simp only [D.eq]
    exact eqs_sym xs _
  | .dic _ _, e => by cases e <;> simp only [D.eq]
  | .obj _ _, e => by cases e <;> simp only [D.eq]
  | .exn _ _, e => by cases e <;> simp only [D.eq]
  | .scr _, e => by cases e <;> simp only [D.eq]
  | .pr _, e => by cases e <;> simp only [D.eq]
  | .cdic _ _, e => by cases e <;> simp only [D.eq]
  | .tdic _ _, e => by cases e <;> simp only [D.eq]
theorem eqs_sym : ∀ ds es : List D, D.eqs ds es = D.eqs es ds
  | [], [] => rfl
  | [], _ :: _ => by simp only [D.eqs]
  | _ :: _, [] => by simp only [D.eqs]
  | d :: ds, e :: es => by simp only [D.eqs, eq_sym d e, eqs_sym ds es]
end
theorem rngI {n : Int} {C : Ctx} {a : E} {ρ ρ' : Env} {s : Sl} (h : evE C a ρ = .ok s ρ') (hs : s.cap = .int n) (h0 : -1000000 ≤ n) (h1 : n ≤ 1000000) : evIt C (.rng1 a) ρ = .ok (rngL 0 n.toNat) ρ' := by
  rw [evIt, h, rbind_ok, hs]
  simp only [rngOk_of (a := 0) (b := n) (by omega) (by omega) h0 h1, if_true]
end MP

namespace Lw
open PySem MP

abbrev g_OF_TWO : Nat := 0
abbrev g_ASKED_OF_TWO : Nat := 1
abbrev g_OF_ROW : Nat := 2
abbrev g_ROW_OF_ROW : Nat := 3
abbrev g_ROW_AND_NUMBER : Nat := 4
abbrev g_OTHERS : Nat := 5
abbrev g_MOST_INPUTS : Nat := 6
abbrev g_MOST_SIGNS : Nat := 7
abbrev g_SMALL : Nat := 8
abbrev g_LEAVES : Nat := 9
abbrev g_MOST_NUMBER : Nat := 10
abbrev g_MOST_ROW : Nat := 11
abbrev g_MOST_WORDS : Nat := 12
abbrev g_MOST_NUMBERS : Nat := 13
abbrev g_MOST_EXAMPLES : Nat := 14
abbrev g_GREATEST : Nat := 15
abbrev g_KINDS : Nat := 16
def c_OF_TWO : D := (.tup [(.str [97, 100, 100]), (.str [100, 105, 118]), (.str [109, 117, 108]), (.str [114, 101, 109]), (.str [115, 117, 98])])
def c_ASKED_OF_TWO : D := (.tup [(.str [108, 101, 115, 115]), (.str [115, 97, 109, 101])])
def c_OF_ROW : D := (.tup [(.str [102, 105, 114, 115, 116]), (.str [108, 101, 110]), (.str [109, 111, 115, 116]), (.str [115, 117, 109])])
def c_ROW_OF_ROW : D := (.tup [(.str [114, 101, 115, 116]), (.str [114, 117, 110, 115]), (.str [116, 117, 114, 110, 101, 100])])
def c_ROW_AND_NUMBER : D := (.tup [(.str [97, 100, 100, 115]), (.str [99, 117, 116]), (.str [107, 101, 101, 112, 115])])
def c_OTHERS : D := (.tup [(.str [97, 116]), (.str [98, 111, 116, 104]), (.str [105, 102]), (.str [106, 111, 105, 110, 101, 100]), (.str [110, 111, 116]), (.str [111, 110, 101]), (.str [112, 117, 116])])
def c_MOST_INPUTS : D := (.int 3)
def c_MOST_SIGNS : D := (.int 4)
def c_SMALL : D := (.str [97, 98, 99, 100, 101, 102, 103, 104, 105, 106, 107, 108, 109, 110, 111, 112, 113, 114, 115, 116, 117, 118, 119, 120, 121, 122])
def c_LEAVES : D := (.tup [(.str [121, 101, 115]), (.str [110, 111]), (.str [110, 105, 108])])
def c_MOST_NUMBER : D := (.int 9999)
def c_MOST_ROW : D := (.int 8)
def c_MOST_WORDS : D := (.int 8)
def c_MOST_NUMBERS : D := (.int 4)
def c_MOST_EXAMPLES : D := (.int 6)
def c_GREATEST : D := (.int 9)
def c_KINDS : D := (.tup [(.str [110]), (.str [114]), (.str [116])])
abbrev i__wall : Nat := 0
abbrev i_words_told : Nat := 1
abbrev i_is_name : Nat := 2
abbrev i_are_inputs : Nat := 3
abbrev i_is_number : Nat := 4
abbrev i_kind_of : Nat := 5
abbrev i_are_rising : Nat := 6
abbrev i_are_words : Nat := 7
abbrev i_is_figure : Nat := 8
abbrev i_are_numbers : Nat := 9
abbrev i_is_kind : Nat := 10
abbrev i_is_given : Nat := 11
abbrev i_is_example : Nat := 12
abbrev i_are_examples : Nat := 13
abbrev i_Task___init__ : Nat := 14
abbrev i_Task_given_rows : Nat := 15
abbrev i_Task_wanted : Nat := 16
abbrev i_Task_takes : Nat := 17
abbrev i_Task_leaves : Nat := 18
abbrev i_Task_with_examples : Nat := 19
abbrev i_Task_with_example : Nat := 20
abbrev i_Task_without : Nat := 21
abbrev i__law_state : Nat := 22
abbrev i__law_next : Nat := 23
abbrev i__law_value : Nat := 24
abbrev i__law_all_words : Nat := 25
abbrev i__law_some : Nat := 26
abbrev i__law_inputs : Nat := 27
abbrev i__law_examples : Nat := 28
abbrev i__law_task : Nat := 29
abbrev i__law_word_of : Nat := 30
abbrev i__law_alike : Nat := 31
abbrev i__law_deed : Nat := 32
abbrev i__law_done : Nat := 33
abbrev i__law_told : Nat := 34
abbrev i_law : Nat := 35
def s__wall_0l_0 : S := .pass

def s__wall_0l : SL := (.cons s__wall_0l_0 .nil)

def s__wall_0 : S := (.whileS (.con (.bl true)) s__wall_0l)

/-- _wall (0 k) -/
def b__wall : SL :=
  (.cons s__wall_0 .nil)
def f__wall : Fn := ⟨1, 1, b__wall, []⟩
def n__wall : List Str := ["k"]
def s_words_told_0 : S := (.ret (.bi .sorted (.cons (.bin .Add (.bin .Add (.bin .Add (.bin .Add (.bin .Add (.glob g_OF_TWO) (.glob g_ASKED_OF_TWO)) (.glob g_OF_ROW)) (.glob g_ROW_OF_ROW)) (.glob g_ROW_AND_NUMBER)) (.glob g_OTHERS)) .nil)))

/-- words_told () -/
def b_words_told : SL :=
  (.cons s_words_told_0 .nil)
def f_words_told : Fn := ⟨0, 0, b_words_told, []⟩
def n_words_told : List Str := []
def s_is_name_0t_0 : S := (.ret (.con (.bl false)))

def s_is_name_0t : SL := (.cons s_is_name_0t_0 .nil)

def s_is_name_0 : S := (.ifs (.or (.notE (.isi (.var 0) .str)) (.or (.notE (.cmp2 .LtE .LtE (.con (.int 1)) (.bi .len (.cons (.var 0) .nil)) (.glob g_MOST_SIGNS))) (.or (.cmp .In (.var 0) (.glob g_LEAVES)) (.cmp .In (.var 0) (.call i_words_told .nil))))) s_is_name_0t .nil)

def cm_is_name_0 : E := (.comp [1] (.cmp .In (.var 1) (.glob g_SMALL)) (.var 1) (.e (.var 0)))
@[simp] theorem cm_is_name_0_bv (r : MP.Env → MP.R Sl) (ρ : MP.Env) : bvOf cm_is_name_0 r ρ = (r ρ).bind fun s ρ => .ok (.tmp s) ρ := rfl
@[simp] theorem cm_is_name_0_ba (r : MP.Env → MP.R Sl) (ρ : MP.Env) : bvArg cm_is_name_0 r ρ = (r ρ).bind fun s ρ => .ok (.tmp s) ρ := rfl

def s_is_name_1 : S := (.ret (.bi .all (.cons cm_is_name_0 .nil)))

/-- is_name (0 thing, 1 sign) -/
def b_is_name : SL :=
  (.cons s_is_name_0 (.cons s_is_name_1 .nil))
def f_is_name : Fn := ⟨1, 2, b_is_name, []⟩
def n_is_name : List Str := ["thing", "sign"]
def s_are_inputs_0t_0 : S := (.ret (.con (.bl false)))

def s_are_inputs_0t : SL := (.cons s_are_inputs_0t_0 .nil)

def s_are_inputs_0 : S := (.ifs (.or (.notE (.isi (.var 0) .tuple)) (.notE (.cmp2 .LtE .LtE (.con (.int 1)) (.bi .len (.cons (.var 0) .nil)) (.glob g_MOST_INPUTS)))) s_are_inputs_0t .nil)

def s_are_inputs_1 : S := (.asg (.var 1) (.lst .nil))

def s_are_inputs_2l_0t_0 : S := (.ret (.con (.bl false)))

def s_are_inputs_2l_0t : SL := (.cons s_are_inputs_2l_0t_0 .nil)

def s_are_inputs_2l_0 : S := (.ifs (.or (.notE (.isi (.var 2) .tuple)) (.or (.cmp .NotEq (.bi .len (.cons (.var 2) .nil)) (.con (.int 2))) (.or (.notE (.call i_is_name (.cons (.ix (.var 2) (.con (.int 0))) .nil))) (.cmp .In (.ix (.var 2) (.con (.int 0))) (.var 1))))) s_are_inputs_2l_0t .nil)

def s_are_inputs_2l_1t_0 : S := (.ret (.con (.bl false)))

def s_are_inputs_2l_1t : SL := (.cons s_are_inputs_2l_1t_0 .nil)

def s_are_inputs_2l_1 : S := (.ifs (.or (.cmp .NotIn (.ix (.var 2) (.con (.int 1))) (.tup (.cons (.con (.str [110])) (.cons (.con (.str [114])) (.cons (.con (.str [116])) .nil))))) (.notE (.isi (.ix (.var 2) (.con (.int 1))) .str))) s_are_inputs_2l_1t .nil)

def s_are_inputs_2l_2 : S := (.expr (.mt .append (.var 1) (.cons (.ix (.var 2) (.con (.int 0))) .nil)))

def s_are_inputs_2l : SL := (.cons s_are_inputs_2l_0 (.cons s_are_inputs_2l_1 (.cons s_are_inputs_2l_2 .nil)))

def s_are_inputs_2 : S := (.forS (.var 2) (.e (.var 0)) s_are_inputs_2l)

def s_are_inputs_3 : S := (.ret (.con (.bl true)))

/-- are_inputs (0 thing, 1 names, 2 one) -/
def b_are_inputs : SL :=
  (.cons s_are_inputs_0 (.cons s_are_inputs_1 (.cons s_are_inputs_2 (.cons s_are_inputs_3 .nil))))
def f_are_inputs : Fn := ⟨1, 3, b_are_inputs, []⟩
def n_are_inputs : List Str := ["thing", "names", "one"]
def s_is_number_0 : S := (.ret (.and (.isi (.var 0) .int) (.and (.notE (.isi (.var 0) .bool)) (.cmp2 .LtE .LtE (.neg (.glob g_MOST_NUMBER)) (.var 0) (.glob g_MOST_NUMBER)))))

/-- is_number (0 thing) -/
def b_is_number : SL :=
  (.cons s_is_number_0 .nil)
def f_is_number : Fn := ⟨1, 1, b_is_number, []⟩
def n_is_number : List Str := ["thing"]
def s_kind_of_0t_0 : S := (.ret (.con (.str [116])))

def s_kind_of_0t : SL := (.cons s_kind_of_0t_0 .nil)

def s_kind_of_0 : S := (.ifs (.isi (.var 0) .bool) s_kind_of_0t .nil)

def s_kind_of_1t_0 : S := (.ret (.con (.str [110])))

def s_kind_of_1t : SL := (.cons s_kind_of_1t_0 .nil)

def s_kind_of_1 : S := (.ifs (.call i_is_number (.cons (.var 0) .nil)) s_kind_of_1t .nil)

def cm_kind_of_0 : E := (.comp [1] (.call i_is_number (.cons (.var 1) .nil)) (.var 1) (.e (.var 0)))
@[simp] theorem cm_kind_of_0_bv (r : MP.Env → MP.R Sl) (ρ : MP.Env) : bvOf cm_kind_of_0 r ρ = (r ρ).bind fun s ρ => .ok (.tmp s) ρ := rfl
@[simp] theorem cm_kind_of_0_ba (r : MP.Env → MP.R Sl) (ρ : MP.Env) : bvArg cm_kind_of_0 r ρ = (r ρ).bind fun s ρ => .ok (.tmp s) ρ := rfl

def s_kind_of_2t_0 : S := (.ret (.con (.str [114])))

def s_kind_of_2t : SL := (.cons s_kind_of_2t_0 .nil)

def s_kind_of_2 : S := (.ifs (.and (.isi (.var 0) .tuple) (.and (.cmp .LtE (.bi .len (.cons (.var 0) .nil)) (.glob g_MOST_ROW)) (.bi .all (.cons cm_kind_of_0 .nil)))) s_kind_of_2t .nil)

def s_kind_of_3 : S := (.ret (.con .non))

/-- kind_of (0 thing, 1 one) -/
def b_kind_of : SL :=
  (.cons s_kind_of_0 (.cons s_kind_of_1 (.cons s_kind_of_2 (.cons s_kind_of_3 .nil))))
def f_kind_of : Fn := ⟨1, 2, b_kind_of, []⟩
def n_kind_of : List Str := ["thing", "one"]
def cm_are_rising_0 : E := (.comp [1] (.cmp .Lt (.ix (.var 0) (.bin .Sub (.var 1) (.con (.int 1)))) (.ix (.var 0) (.var 1))) (.var 1) (.rng2 (.con (.int 1)) (.bi .len (.cons (.var 0) .nil))))
@[simp] theorem cm_are_rising_0_bv (r : MP.Env → MP.R Sl) (ρ : MP.Env) : bvOf cm_are_rising_0 r ρ = (r ρ).bind fun s ρ => .ok (.tmp s) ρ := rfl
@[simp] theorem cm_are_rising_0_ba (r : MP.Env → MP.R Sl) (ρ : MP.Env) : bvArg cm_are_rising_0 r ρ = (r ρ).bind fun s ρ => .ok (.tmp s) ρ := rfl

def s_are_rising_0 : S := (.ret (.bi .all (.cons cm_are_rising_0 .nil)))

/-- are_rising (0 things, 1 place) -/
def b_are_rising : SL :=
  (.cons s_are_rising_0 .nil)
def f_are_rising : Fn := ⟨1, 2, b_are_rising, []⟩
def n_are_rising : List Str := ["things", "place"]
def s_are_words_0t_0 : S := (.ret (.con (.bl false)))

def s_are_words_0t : SL := (.cons s_are_words_0t_0 .nil)

def s_are_words_0 : S := (.ifs (.or (.notE (.isi (.var 0) .tuple)) (.cmp .Gt (.bi .len (.cons (.var 0) .nil)) (.glob g_MOST_WORDS))) s_are_words_0t .nil)

def cm_are_words_0 : E := (.comp [1] (.and (.isi (.var 1) .str) (.cmp .In (.var 1) (.call i_words_told .nil))) (.var 1) (.e (.var 0)))
@[simp] theorem cm_are_words_0_bv (r : MP.Env → MP.R Sl) (ρ : MP.Env) : bvOf cm_are_words_0 r ρ = (r ρ).bind fun s ρ => .ok (.tmp s) ρ := rfl
@[simp] theorem cm_are_words_0_ba (r : MP.Env → MP.R Sl) (ρ : MP.Env) : bvArg cm_are_words_0 r ρ = (r ρ).bind fun s ρ => .ok (.tmp s) ρ := rfl

def s_are_words_1 : S := (.ret (.and (.bi .all (.cons cm_are_words_0 .nil)) (.call i_are_rising (.cons (.var 0) .nil))))

/-- are_words (0 thing, 1 word) -/
def b_are_words : SL :=
  (.cons s_are_words_0 (.cons s_are_words_1 .nil))
def f_are_words : Fn := ⟨1, 2, b_are_words, []⟩
def n_are_words : List Str := ["thing", "word"]
def s_is_figure_0 : S := (.ret (.and (.isi (.var 0) .int) (.and (.notE (.isi (.var 0) .bool)) (.cmp2 .LtE .LtE (.neg (.glob g_GREATEST)) (.var 0) (.glob g_GREATEST)))))

/-- is_figure (0 thing) -/
def b_is_figure : SL :=
  (.cons s_is_figure_0 .nil)
def f_is_figure : Fn := ⟨1, 1, b_is_figure, []⟩
def n_is_figure : List Str := ["thing"]
def s_are_numbers_0t_0 : S := (.ret (.con (.bl false)))

def s_are_numbers_0t : SL := (.cons s_are_numbers_0t_0 .nil)

def s_are_numbers_0 : S := (.ifs (.or (.notE (.isi (.var 0) .tuple)) (.cmp .Gt (.bi .len (.cons (.var 0) .nil)) (.glob g_MOST_NUMBERS))) s_are_numbers_0t .nil)

def cm_are_numbers_0 : E := (.comp [1] (.call i_is_figure (.cons (.var 1) .nil)) (.var 1) (.e (.var 0)))
@[simp] theorem cm_are_numbers_0_bv (r : MP.Env → MP.R Sl) (ρ : MP.Env) : bvOf cm_are_numbers_0 r ρ = (r ρ).bind fun s ρ => .ok (.tmp s) ρ := rfl
@[simp] theorem cm_are_numbers_0_ba (r : MP.Env → MP.R Sl) (ρ : MP.Env) : bvArg cm_are_numbers_0 r ρ = (r ρ).bind fun s ρ => .ok (.tmp s) ρ := rfl

def s_are_numbers_1 : S := (.ret (.and (.bi .all (.cons cm_are_numbers_0 .nil)) (.call i_are_rising (.cons (.var 0) .nil))))

/-- are_numbers (0 thing, 1 number) -/
def b_are_numbers : SL :=
  (.cons s_are_numbers_0 (.cons s_are_numbers_1 .nil))
def f_are_numbers : Fn := ⟨1, 2, b_are_numbers, []⟩
def n_are_numbers : List Str := ["thing", "number"]
def s_is_kind_0 : S := (.ret (.and (.isi (.var 0) .str) (.cmp .In (.var 0) (.glob g_KINDS))))

/-- is_kind (0 thing) -/
def b_is_kind : SL :=
  (.cons s_is_kind_0 .nil)
def f_is_kind : Fn := ⟨1, 1, b_is_kind, []⟩
def n_is_kind : List Str := ["thing"]
def s_is_given_0t_0 : S := (.ret (.con (.bl false)))

def s_is_given_0t : SL := (.cons s_is_given_0t_0 .nil)

def s_is_given_0 : S := (.ifs (.or (.notE (.isi (.var 0) .tuple)) (.cmp .NotEq (.bi .len (.cons (.var 0) .nil)) (.bi .len (.cons (.var 1) .nil)))) s_is_given_0t .nil)

def cm_is_given_0 : E := (.comp [2, 3] (.cmp .Eq (.call i_kind_of (.cons (.var 2) .nil)) (.ix (.var 3) (.con (.int 1)))) (.tup (.cons (.var 2) (.cons (.var 3) .nil))) (.zip (.var 0) (.var 1)))
@[simp] theorem cm_is_given_0_bv (r : MP.Env → MP.R Sl) (ρ : MP.Env) : bvOf cm_is_given_0 r ρ = (r ρ).bind fun s ρ => .ok (.tmp s) ρ := rfl
@[simp] theorem cm_is_given_0_ba (r : MP.Env → MP.R Sl) (ρ : MP.Env) : bvArg cm_is_given_0 r ρ = (r ρ).bind fun s ρ => .ok (.tmp s) ρ := rfl

def s_is_given_1 : S := (.ret (.bi .all (.cons cm_is_given_0 .nil)))

/-- is_given (0 thing, 1 inputs, 2 value, 3 pair) -/
def b_is_given : SL :=
  (.cons s_is_given_0 (.cons s_is_given_1 .nil))
def f_is_given : Fn := ⟨2, 4, b_is_given, []⟩
def n_is_given : List Str := ["thing", "inputs", "value", "pair"]
def s_is_example_0t_0 : S := (.ret (.con (.bl false)))

def s_is_example_0t : SL := (.cons s_is_example_0t_0 .nil)

def s_is_example_0 : S := (.ifs (.or (.notE (.isi (.var 0) .tuple)) (.cmp .NotEq (.bi .len (.cons (.var 0) .nil)) (.con (.int 2)))) s_is_example_0t .nil)

def s_is_example_1 : S := (.ret (.and (.call i_is_given (.cons (.ix (.var 0) (.con (.int 0))) (.cons (.var 1) .nil))) (.cmp .Eq (.call i_kind_of (.cons (.ix (.var 0) (.con (.int 1))) .nil)) (.var 2))))

/-- is_example (0 thing, 1 inputs, 2 kind) -/
def b_is_example : SL :=
  (.cons s_is_example_0 (.cons s_is_example_1 .nil))
def f_is_example : Fn := ⟨3, 3, b_is_example, []⟩
def n_is_example : List Str := ["thing", "inputs", "kind"]
def s_are_examples_0t_0 : S := (.ret (.con (.bl false)))

def s_are_examples_0t : SL := (.cons s_are_examples_0t_0 .nil)

def s_are_examples_0 : S := (.ifs (.or (.notE (.isi (.var 0) .tuple)) (.cmp .Gt (.bi .len (.cons (.var 0) .nil)) (.glob g_MOST_EXAMPLES))) s_are_examples_0t .nil)

def cm_are_examples_0 : E := (.comp [3] (.call i_is_example (.cons (.var 3) (.cons (.var 1) (.cons (.var 2) .nil)))) (.var 3) (.e (.var 0)))
@[simp] theorem cm_are_examples_0_bv (r : MP.Env → MP.R Sl) (ρ : MP.Env) : bvOf cm_are_examples_0 r ρ = (r ρ).bind fun s ρ => .ok (.tmp s) ρ := rfl
@[simp] theorem cm_are_examples_0_ba (r : MP.Env → MP.R Sl) (ρ : MP.Env) : bvArg cm_are_examples_0 r ρ = (r ρ).bind fun s ρ => .ok (.tmp s) ρ := rfl

def s_are_examples_1 : S := (.ret (.bi .all (.cons cm_are_examples_0 .nil)))

/-- are_examples (0 thing, 1 inputs, 2 kind, 3 one) -/
def b_are_examples : SL :=
  (.cons s_are_examples_0 (.cons s_are_examples_1 .nil))
def f_are_examples : Fn := ⟨3, 4, b_are_examples, []⟩
def n_are_examples : List Str := ["thing", "inputs", "kind", "one"]
def s_Task___init___0t_0 : S := (.raise 2 (.cons (.con (.str [110, 111, 116, 32, 116, 111, 108, 100, 32, 97, 115, 32, 97, 32, 116, 97, 115, 107, 32, 105, 115])) .nil))

def s_Task___init___0t : SL := (.cons s_Task___init___0t_0 .nil)

def s_Task___init___0 : S := (.ifs (.or (.notE (.call i_are_inputs (.cons (.var 1) .nil))) (.or (.notE (.call i_are_words (.cons (.var 2) .nil))) (.or (.notE (.call i_are_numbers (.cons (.var 3) .nil))) (.notE (.call i_is_kind (.cons (.var 4) .nil)))))) s_Task___init___0t .nil)

def s_Task___init___1t_0 : S := (.raise 2 (.cons (.con (.str [110, 111, 32, 101, 120, 97, 109, 112, 108, 101, 115])) .nil))

def s_Task___init___1t : SL := (.cons s_Task___init___1t_0 .nil)

def s_Task___init___1 : S := (.ifs (.and (.cmp .IsNot (.var 5) (.con .non)) (.notE (.call i_are_examples (.cons (.var 5) (.cons (.var 1) (.cons (.var 4) .nil)))))) s_Task___init___1t .nil)

def s_Task___init___2 : S := (.asg (.fld (.var 0) 0 0) (.var 1))

def s_Task___init___3 : S := (.asg (.fld (.var 0) 0 1) (.var 2))

def s_Task___init___4 : S := (.asg (.fld (.var 0) 0 2) (.var 3))

def s_Task___init___5 : S := (.asg (.fld (.var 0) 0 3) (.var 4))

def s_Task___init___6 : S := (.asg (.fld (.var 0) 0 4) (.ite (.cmp .Is (.var 5) (.con .non)) (.tup .nil) (.var 5)))

/-- Task.__init__ (0 self, 1 inputs, 2 words, 3 numbers, 4 kind, 5 examples) -/
def b_Task___init__ : SL :=
  (.cons s_Task___init___0 (.cons s_Task___init___1 (.cons s_Task___init___2 (.cons s_Task___init___3 (.cons s_Task___init___4 (.cons s_Task___init___5 (.cons s_Task___init___6 .nil)))))))
def f_Task___init__ : Fn := ⟨6, 6, b_Task___init__, []⟩
def n_Task___init__ : List Str := ["self", "inputs", "words", "numbers", "kind", "examples"]
def s_Task_given_rows_0 : S := (.expr (.call i__wall (.cons (.con (.int 0)) .nil)))

/-- Task.given_rows (0 self) -/
def b_Task_given_rows : SL :=
  (.cons s_Task_given_rows_0 .nil)
def f_Task_given_rows : Fn := ⟨1, 1, b_Task_given_rows, []⟩
def n_Task_given_rows : List Str := ["self"]
def s_Task_wanted_0 : S := (.expr (.call i__wall (.cons (.con (.int 1)) .nil)))

/-- Task.wanted (0 self) -/
def b_Task_wanted : SL :=
  (.cons s_Task_wanted_0 .nil)
def f_Task_wanted : Fn := ⟨1, 1, b_Task_wanted, []⟩
def n_Task_wanted : List Str := ["self"]
def s_Task_takes_0 : S := (.expr (.call i__wall (.cons (.con (.int 2)) .nil)))

/-- Task.takes (0 self, 1 kind) -/
def b_Task_takes : SL :=
  (.cons s_Task_takes_0 .nil)
def f_Task_takes : Fn := ⟨2, 2, b_Task_takes, []⟩
def n_Task_takes : List Str := ["self", "kind"]
def s_Task_leaves_0 : S := (.expr (.call i__wall (.cons (.con (.int 3)) .nil)))

/-- Task.leaves (0 self) -/
def b_Task_leaves : SL :=
  (.cons s_Task_leaves_0 .nil)
def f_Task_leaves : Fn := ⟨1, 1, b_Task_leaves, []⟩
def n_Task_leaves : List Str := ["self"]
def s_Task_with_examples_0 : S := (.ret (.mk 0 i_Task___init__ (.cons (.fld (.var 0) 0 0) (.cons (.fld (.var 0) 0 1) (.cons (.fld (.var 0) 0 2) (.cons (.fld (.var 0) 0 3) (.cons (.var 1) .nil)))))))

/-- Task.with_examples (0 self, 1 examples) -/
def b_Task_with_examples : SL :=
  (.cons s_Task_with_examples_0 .nil)
def f_Task_with_examples : Fn := ⟨2, 2, b_Task_with_examples, []⟩
def n_Task_with_examples : List Str := ["self", "examples"]
def s_Task_with_example_0t_0 : S := (.raise 5 (.cons (.con (.str [110, 111, 32, 101, 120, 97, 109, 112, 108, 101, 44, 32, 111, 114, 32, 111, 110, 101, 32, 116, 111, 111, 32, 109, 97, 110, 121])) .nil))

def s_Task_with_example_0t : SL := (.cons s_Task_with_example_0t_0 .nil)

def s_Task_with_example_0 : S := (.ifs (.or (.cmp .Eq (.bi .len (.cons (.fld (.var 0) 0 4) .nil)) (.glob g_MOST_EXAMPLES)) (.notE (.call i_is_example (.cons (.tup (.cons (.var 1) (.cons (.var 2) .nil))) (.cons (.fld (.var 0) 0 0) (.cons (.fld (.var 0) 0 3) .nil)))))) s_Task_with_example_0t .nil)

def s_Task_with_example_1 : S := (.ret (.ms 0 i_Task_with_examples (.mv 0) (.cons (.bin .Add (.fld (.var 0) 0 4) (.tup (.cons (.tup (.cons (.var 1) (.cons (.var 2) .nil))) .nil))) .nil)))

/-- Task.with_example (0 self, 1 given, 2 value) -/
def b_Task_with_example : SL :=
  (.cons s_Task_with_example_0 (.cons s_Task_with_example_1 .nil))
def f_Task_with_example : Fn := ⟨3, 3, b_Task_with_example, []⟩
def n_Task_with_example : List Str := ["self", "given", "value"]
def s_Task_without_0t_0 : S := (.raise 5 (.cons (.con (.str [110, 111, 32, 115, 117, 99, 104, 32, 101, 120, 97, 109, 112, 108, 101])) .nil))

def s_Task_without_0t : SL := (.cons s_Task_without_0t_0 .nil)

def s_Task_without_0 : S := (.ifs (.or (.notE (.isi (.var 1) .int)) (.or (.isi (.var 1) .bool) (.notE (.cmp2 .LtE .Lt (.con (.int 0)) (.var 1) (.bi .len (.cons (.fld (.var 0) 0 4) .nil)))))) s_Task_without_0t .nil)

def s_Task_without_1 : S := (.ret (.ms 0 i_Task_with_examples (.mv 0) (.cons (.bin .Add (.slB (.fld (.var 0) 0 4) (.var 1)) (.slA (.fld (.var 0) 0 4) (.bin .Add (.var 1) (.con (.int 1))))) .nil)))

/-- Task.without (0 self, 1 at) -/
def b_Task_without : SL :=
  (.cons s_Task_without_0 (.cons s_Task_without_1 .nil))
def f_Task_without : Fn := ⟨2, 2, b_Task_without, []⟩
def n_Task_without : List Str := ["self", "at"]
def s__law_state_0 : S := (.ret (.lst (.cons (.bin .Add (.con (.int 1)) (.bin .Mod (.bin .Add (.var 0) (.bin .Mult (.con (.int 104729)) (.var 1))) (.con (.int 2147483645)))) .nil)))

/-- _law_state (0 _law_cell, 1 _law_k) -/
def b__law_state : SL :=
  (.cons s__law_state_0 .nil)
def f__law_state : Fn := ⟨2, 2, b__law_state, []⟩
def n__law_state : List Str := ["_law_cell", "_law_k"]
def s__law_next_0 : S := (.asg (.ix (.var 0) (.con (.int 0))) (.bin .Mod (.bin .Mult (.ix (.var 0) (.con (.int 0))) (.con (.int 48271))) (.con (.int 2147483647))))

def s__law_next_1 : S := (.ret (.bin .Mod (.bin .FloorDiv (.bin .Mod (.bin .Add (.bin .Mult (.ix (.var 0) (.con (.int 0))) (.ix (.var 0) (.con (.int 0)))) (.bin .Mult (.con (.int 7)) (.ix (.var 0) (.con (.int 0))))) (.con (.int 2147483629))) (.con (.int 3))) (.var 1)))

/-- _law_next (0 _law_state_here, 1 _law_size) -/
def b__law_next : SL :=
  (.cons s__law_next_0 (.cons s__law_next_1 .nil))
def f__law_next : Fn := ⟨2, 2, b__law_next, []⟩
def n__law_next : List Str := ["_law_state_here", "_law_size"]
def s__law_value_0t_0 : S := (.ret (.cmp .Eq (.call i__law_next (.cons (.mv 0) (.cons (.con (.int 2)) .nil))) (.con (.int 1))))

def s__law_value_0t : SL := (.cons s__law_value_0t_0 .nil)

def s__law_value_0 : S := (.ifs (.cmp .Eq (.var 1) (.con (.str [116]))) s__law_value_0t .nil)

def s__law_value_1t_0 : S := (.ret (.ix (.lst (.cons (.con (.int 0)) (.cons (.con (.int 1)) (.cons (.con (.int 2)) (.cons (.neg (.con (.int 1))) (.cons (.con (.int 3)) (.cons (.con (.int 9999)) (.cons (.neg (.con (.int 9999))) (.cons (.bin .Sub (.call i__law_next (.cons (.mv 0) (.cons (.con (.int 40)) .nil))) (.con (.int 20))) .nil))))))))) (.call i__law_next (.cons (.mv 0) (.cons (.con (.int 8)) .nil)))))

def s__law_value_1t : SL := (.cons s__law_value_1t_0 .nil)

def s__law_value_1 : S := (.ifs (.cmp .Eq (.var 1) (.con (.str [110]))) s__law_value_1t .nil)

def s__law_value_2 : S := (.asg (.var 2) (.ix (.lst (.cons (.con (.int 0)) (.cons (.con (.int 1)) (.cons (.con (.int 2)) (.cons (.con (.int 3)) (.cons (.con (.int 3)) (.cons (.con (.int 8)) .nil))))))) (.call i__law_next (.cons (.mv 0) (.cons (.con (.int 6)) .nil)))))

def cm__law_value_0 : E := (.comp [3] (.call i__law_value (.cons (.mv 0) (.cons (.con (.str [110])) .nil))) (.var 3) (.rng1 (.var 2)))
@[simp] theorem cm__law_value_0_bv (r : MP.Env → MP.R Sl) (ρ : MP.Env) : bvOf cm__law_value_0 r ρ = (r ρ).bind fun s ρ => .ok (.tmp s) ρ := rfl
@[simp] theorem cm__law_value_0_ba (r : MP.Env → MP.R Sl) (ρ : MP.Env) : bvArg cm__law_value_0 r ρ = (r ρ).bind fun s ρ => .ok (.tmp s) ρ := rfl

def s__law_value_3 : S := (.ret (.bi .tuple (.cons cm__law_value_0 .nil)))

/-- _law_value (0 _law_state_here, 1 _law_kind, 2 _law_many, 3 _law_k) -/
def b__law_value : SL :=
  (.cons s__law_value_0 (.cons s__law_value_1 (.cons s__law_value_2 (.cons s__law_value_3 .nil))))
def f__law_value : Fn := ⟨2, 4, b__law_value, []⟩
def n__law_value : List Str := ["_law_state_here", "_law_kind", "_law_many", "_law_k"]
def s__law_all_words_0 : S := (.asg (.var 0) (.con (.str [97, 100, 100, 32, 97, 100, 100, 115, 32, 97, 116, 32, 98, 111, 116, 104, 32, 99, 117, 116, 32, 100, 105, 118, 32, 102, 105, 114, 115, 116, 32, 105, 102, 32, 106, 111, 105, 110, 101, 100, 32, 107, 101, 101, 112, 115, 32, 108, 101, 110, 32, 108, 101, 115, 115, 32, 109, 111, 115, 116])))

def s__law_all_words_1 : S := (.ret (.mt .split (.bin .Add (.var 0) (.con (.str [32, 109, 117, 108, 32, 110, 111, 116, 32, 111, 110, 101, 32, 112, 117, 116, 32, 114, 101, 109, 32, 114, 101, 115, 116, 32, 114, 117, 110, 115, 32, 115, 97, 109, 101, 32, 115, 117, 98, 32, 115, 117, 109, 32, 116, 117, 114, 110, 101, 100]))) (.cons (.con (.str [32])) .nil)))

/-- _law_all_words (0 _law_some_here) -/
def b__law_all_words : SL :=
  (.cons s__law_all_words_0 (.cons s__law_all_words_1 .nil))
def f__law_all_words : Fn := ⟨0, 1, b__law_all_words, []⟩
def n__law_all_words : List Str := ["_law_some_here"]
def s__law_some_0 : S := (.asg (.var 3) (.bi .list (.cons (.var 1) .nil)))

def s__law_some_1l_0 : S := (.expr (.mt .pop1 (.var 3) (.cons (.call i__law_next (.cons (.mv 0) (.cons (.bi .len (.cons (.var 3) .nil)) .nil))) .nil)))

def s__law_some_1l : SL := (.cons s__law_some_1l_0 .nil)

def s__law_some_1 : S := (.whileS (.cmp .Gt (.bi .len (.cons (.var 3) .nil)) (.var 2)) s__law_some_1l)

def s__law_some_2 : S := (.ret (.mv 3))

/-- _law_some (0 _law_state_here, 1 _law_things, 2 _law_many, 3 _law_left) -/
def b__law_some : SL :=
  (.cons s__law_some_0 (.cons s__law_some_1 (.cons s__law_some_2 .nil)))
def f__law_some : Fn := ⟨3, 4, b__law_some, []⟩
def n__law_some : List Str := ["_law_state_here", "_law_things", "_law_many", "_law_left"]
def s__law_inputs_0 : S := (.asg (.var 2) (.lst (.cons (.con (.str [120])) (.cons (.con (.str [121])) (.cons (.con (.str [97, 98])) (.cons (.con (.str [108, 105, 115, 116])) (.cons (.con (.str [122, 122])) (.cons (.con (.str [97, 97, 97, 97])) .nil))))))))

def s__law_inputs_1 : S := (.asg (.var 3) (.lst .nil))

def s__law_inputs_2l_0 : S := (.expr (.mt .append (.var 3) (.cons (.tup (.cons (.mt .pop1 (.var 2) (.cons (.call i__law_next (.cons (.mv 0) (.cons (.bi .len (.cons (.var 2) .nil)) .nil))) .nil)) (.cons (.ix (.lst (.cons (.con (.str [110])) (.cons (.con (.str [110])) (.cons (.con (.str [114])) (.cons (.con (.str [114])) (.cons (.con (.str [116])) .nil)))))) (.call i__law_next (.cons (.mv 0) (.cons (.con (.int 5)) .nil)))) .nil))) .nil)))

def s__law_inputs_2l : SL := (.cons s__law_inputs_2l_0 .nil)

def s__law_inputs_2 : S := (.forS (.var 4) (.rng1 (.var 1)) s__law_inputs_2l)

def s__law_inputs_3 : S := (.ret (.bi .tuple (.cons (.var 3) .nil)))

/-- _law_inputs (0 _law_state_here, 1 _law_many, 2 _law_names, 3 _law_found, 4 _law_k) -/
def b__law_inputs : SL :=
  (.cons s__law_inputs_0 (.cons s__law_inputs_1 (.cons s__law_inputs_2 (.cons s__law_inputs_3 .nil))))
def f__law_inputs : Fn := ⟨2, 5, b__law_inputs, []⟩
def n__law_inputs : List Str := ["_law_state_here", "_law_many", "_law_names", "_law_found", "_law_k"]
def s__law_examples_0 : S := (.asg (.var 4) (.lst .nil))

def cm__law_examples_0 : E := (.comp [6] (.call i__law_value (.cons (.mv 0) (.cons (.ix (.var 6) (.con (.int 1))) .nil))) (.var 6) (.e (.var 1)))
@[simp] theorem cm__law_examples_0_bv (r : MP.Env → MP.R Sl) (ρ : MP.Env) : bvOf cm__law_examples_0 r ρ = (r ρ).bind fun s ρ => .ok (.tmp s) ρ := rfl
@[simp] theorem cm__law_examples_0_ba (r : MP.Env → MP.R Sl) (ρ : MP.Env) : bvArg cm__law_examples_0 r ρ = (r ρ).bind fun s ρ => .ok (.tmp s) ρ := rfl

def s__law_examples_1l_0 : S := (.asg (.var 7) (.bi .tuple (.cons cm__law_examples_0 .nil)))

def s__law_examples_1l_1 : S := (.expr (.mt .append (.var 4) (.cons (.tup (.cons (.var 7) (.cons (.call i__law_value (.cons (.mv 0) (.cons (.var 2) .nil))) .nil))) .nil)))

def s__law_examples_1l : SL := (.cons s__law_examples_1l_0 (.cons s__law_examples_1l_1 .nil))

def s__law_examples_1 : S := (.forS (.var 5) (.rng1 (.var 3)) s__law_examples_1l)

def s__law_examples_2 : S := (.ret (.bi .tuple (.cons (.var 4) .nil)))

/-- _law_examples (0 _law_state_here, 1 _law_inputs_here, 2 _law_kind, 3 _law_many, 4 _law_found, 5 _law_k, 6 _law_pair, 7 _law_given) -/
def b__law_examples : SL :=
  (.cons s__law_examples_0 (.cons s__law_examples_1 (.cons s__law_examples_2 .nil)))
def f__law_examples : Fn := ⟨4, 8, b__law_examples, []⟩
def n__law_examples : List Str := ["_law_state_here", "_law_inputs_here", "_law_kind", "_law_many", "_law_found", "_law_k", "_law_pair", "_law_given"]
def s__law_task_0 : S := (.asg (.var 3) (.call i__law_inputs (.cons (.mv 0) (.cons (.ix (.lst (.cons (.con (.int 1)) (.cons (.con (.int 1)) (.cons (.con (.int 2)) (.cons (.con (.int 2)) (.cons (.con (.int 3)) .nil)))))) (.call i__law_next (.cons (.mv 0) (.cons (.con (.int 5)) .nil)))) .nil))))

def s__law_task_1 : S := (.asg (.var 4) (.bi .tuple (.cons (.call i__law_some (.cons (.mv 0) (.cons (.call i__law_all_words .nil) (.cons (.call i__law_next (.cons (.mv 0) (.cons (.bin .Add (.var 1) (.con (.int 1))) .nil))) .nil)))) .nil)))

def s__law_task_2 : S := (.asg (.var 5) (.bi .tuple (.cons (.call i__law_some (.cons (.mv 0) (.cons (.lst (.cons (.neg (.con (.int 9))) (.cons (.neg (.con (.int 2))) (.cons (.neg (.con (.int 1))) (.cons (.con (.int 0)) (.cons (.con (.int 1)) (.cons (.con (.int 2)) (.cons (.con (.int 3)) (.cons (.con (.int 9)) .nil))))))))) (.cons (.call i__law_next (.cons (.mv 0) (.cons (.con (.int 3)) .nil))) .nil)))) .nil)))

def s__law_task_3 : S := (.asg (.var 6) (.ix (.lst (.cons (.con (.str [110])) (.cons (.con (.str [114])) (.cons (.con (.str [116])) .nil)))) (.call i__law_next (.cons (.mv 0) (.cons (.con (.int 3)) .nil)))))

def s__law_task_4 : S := (.ret (.tup (.cons (.var 3) (.cons (.var 4) (.cons (.var 5) (.cons (.var 6) (.cons (.call i__law_examples (.cons (.mv 0) (.cons (.var 3) (.cons (.var 6) (.cons (.call i__law_next (.cons (.mv 0) (.cons (.bin .Add (.var 2) (.con (.int 1))) .nil))) .nil))))) .nil)))))))

/-- _law_task (0 _law_state_here, 1 _law_most_words, 2 _law_most_examples, 3 _law_inputs_here, 4 _law_words, 5 _law_numbers, 6 _law_kind) -/
def b__law_task : SL :=
  (.cons s__law_task_0 (.cons s__law_task_1 (.cons s__law_task_2 (.cons s__law_task_3 (.cons s__law_task_4 .nil)))))
def f__law_task : Fn := ⟨3, 7, b__law_task, []⟩
def n__law_task : List Str := ["_law_state_here", "_law_most_words", "_law_most_examples", "_law_inputs_here", "_law_words", "_law_numbers", "_law_kind"]
def s__law_word_of_0 : S := (.asg (.var 1) (.lst (.cons (.isi (.var 0) (.own 2)) (.cons (.isi (.var 0) (.own 5)) (.cons (.isi (.var 0) (.own 3)) .nil)))))

def s__law_word_of_1 : S := (.asg (.var 1) (.bin .Add (.var 1) (.lst (.cons (.isi (.var 0) (.own 7)) (.cons (.isi (.var 0) (.own 1)) (.cons (.isi (.var 0) (.own 4)) .nil))))))

def s__law_word_of_2 : S := (.asg (.var 1) (.bin .Add (.var 1) (.lst (.cons (.isi (.var 0) (.own 6)) (.cons (.isi (.var 0) (.own 8)) .nil)))))

def s__law_word_of_3t_0 : S := (.ret (.con (.str [111, 116, 104, 101, 114])))

def s__law_word_of_3t : SL := (.cons s__law_word_of_3t_0 .nil)

def s__law_word_of_3 : S := (.ifs (.or (.cmp .NotEq (.mt .count (.var 1) (.cons (.con (.bl true)) .nil)) (.con (.int 1))) (.notE (.isi (.var 0) (.own 9)))) s__law_word_of_3t .nil)

def s__law_word_of_4 : S := (.ret (.ix (.lst (.cons (.con (.str [116, 97, 115, 107])) (.cons (.con (.str [101, 120, 97, 109, 112, 108, 101])) (.cons (.con (.str [98, 111, 111, 107])) (.cons (.con (.str [109, 97, 110, 121])) (.cons (.con (.str [118, 97, 108, 117, 101])) (.cons (.con (.str [114, 117, 108, 101])) (.cons (.con (.str [114, 111, 119])) (.cons (.con (.str [116, 101, 114, 109])) .nil))))))))) (.mt .index (.var 1) (.cons (.con (.bl true)) .nil))))

/-- _law_word_of (0 _law_error, 1 _law_marks) -/
def b__law_word_of : SL :=
  (.cons s__law_word_of_0 (.cons s__law_word_of_1 (.cons s__law_word_of_2 (.cons s__law_word_of_3 (.cons s__law_word_of_4 .nil)))))
def f__law_word_of : Fn := ⟨1, 2, b__law_word_of, []⟩
def n__law_word_of : List Str := ["_law_error", "_law_marks"]
def s__law_alike_0 : S := (.ret (.cmp .Eq (.bi .repr (.cons (.var 0) .nil)) (.bi .repr (.cons (.var 1) .nil))))

/-- _law_alike (0 _law_found, 1 _law_due) -/
def b__law_alike : SL :=
  (.cons s__law_alike_0 .nil)
def f__law_alike : Fn := ⟨2, 2, b__law_alike, []⟩
def n__law_alike : List Str := ["_law_found", "_law_due"]
def cm__law_deed_0 : E := (.comp [3] (.call i__law_value (.cons (.mv 0) (.cons (.ix (.var 3) (.con (.int 1))) .nil))) (.var 3) (.e (.ix (.var 1) (.con (.int 0)))))
@[simp] theorem cm__law_deed_0_bv (r : MP.Env → MP.R Sl) (ρ : MP.Env) : bvOf cm__law_deed_0 r ρ = (r ρ).bind fun s ρ => .ok (.tmp s) ρ := rfl
@[simp] theorem cm__law_deed_0_ba (r : MP.Env → MP.R Sl) (ρ : MP.Env) : bvArg cm__law_deed_0 r ρ = (r ρ).bind fun s ρ => .ok (.tmp s) ρ := rfl

def s__law_deed_0 : S := (.asg (.var 4) (.bi .tuple (.cons cm__law_deed_0 .nil)))

def s__law_deed_1 : S := (.asg (.var 5) (.call i__law_value (.cons (.mv 0) (.cons (.ix (.var 1) (.con (.int 3))) .nil))))

def s__law_deed_2 : S := (.asg (.var 6) (.call i__law_next (.cons (.mv 0) (.cons (.con (.int 7)) .nil))))

def s__law_deed_3t_0 : S := (.ret (.tup (.cons (.tup (.cons (.con (.str [112, 117, 116])) (.cons (.var 4) (.cons (.var 5) .nil)))) (.cons (.ix (.lst (.cons (.bin .Add (.var 2) (.lst (.cons (.tup (.cons (.var 4) (.cons (.var 5) .nil))) .nil))) (.cons (.con .non) .nil))) (.bi .int (.cons (.cmp .Eq (.bi .len (.cons (.var 2) .nil)) (.con (.int 6))) .nil))) .nil))))

def s__law_deed_3t : SL := (.cons s__law_deed_3t_0 .nil)

def s__law_deed_3 : S := (.ifs (.cmp .Lt (.var 6) (.con (.int 3))) s__law_deed_3t .nil)

def s__law_deed_4t_0 : S := (.asg (.var 7) (.ix (.dic (.cons (.con (.str [110])) (.lst (.cons (.con (.bl true)) (.cons (.con (.str [48])) (.cons (.con (.int 10000)) (.cons (.con .non) .nil))))) (.cons (.con (.str [116])) (.lst (.cons (.con (.int 1)) (.cons (.con (.int 0)) (.cons (.con (.str [110, 111])) .nil)))) (.cons (.con (.str [114])) (.lst (.cons (.lst (.cons (.con (.int 1)) .nil)) (.cons (.tup (.cons (.con (.bl true)) .nil)) (.cons (.tup (.cons (.con (.int 10000)) .nil)) (.cons (.con (.int 5)) .nil))))) .nil)))) (.ix (.var 1) (.con (.int 3)))))

def s__law_deed_4t_1 : S := (.ret (.tup (.cons (.tup (.cons (.con (.str [112, 117, 116])) (.cons (.var 4) (.cons (.ix (.var 7) (.call i__law_next (.cons (.mv 0) (.cons (.bi .len (.cons (.var 7) .nil)) .nil)))) .nil)))) (.cons (.con .non) .nil))))

def s__law_deed_4t : SL := (.cons s__law_deed_4t_0 (.cons s__law_deed_4t_1 .nil))

def s__law_deed_4 : S := (.ifs (.cmp .Eq (.var 6) (.con (.int 3))) s__law_deed_4t .nil)

def s__law_deed_5t_0 : S := (.asg (.var 8) (.lst (.cons (.bi .list (.cons (.var 4) .nil)) (.cons (.slB (.var 4) (.neg (.con (.int 1)))) (.cons (.bin .Add (.var 4) (.tup (.cons (.con (.int 1)) .nil))) (.cons (.con .non) (.cons (.con (.int 7)) (.cons (.bin .Mult (.tup (.cons (.con .non) .nil)) (.bi .len (.cons (.var 4) .nil))) (.cons (.con (.str [120, 121])) .nil)))))))))

def s__law_deed_5t_1 : S := (.ret (.tup (.cons (.tup (.cons (.con (.str [112, 117, 116])) (.cons (.ix (.var 8) (.call i__law_next (.cons (.mv 0) (.cons (.con (.int 7)) .nil)))) (.cons (.var 5) .nil)))) (.cons (.con .non) .nil))))

def s__law_deed_5t : SL := (.cons s__law_deed_5t_0 (.cons s__law_deed_5t_1 .nil))

def s__law_deed_5 : S := (.ifs (.cmp .Eq (.var 6) (.con (.int 4))) s__law_deed_5t .nil)

def s__law_deed_6t_0 : S := (.asg (.var 8) (.lst (.cons (.bi .len (.cons (.var 2) .nil)) (.cons (.neg (.con (.int 1))) (.cons (.con (.bl true)) (.cons (.con .non) (.cons (.con (.str [48])) (.cons (.bin .Add (.con (.int 7)) (.call i__law_next (.cons (.mv 0) (.cons (.con (.int 9)) .nil)))) (.cons (.tup (.cons (.con (.int 0)) .nil)) .nil)))))))))

def s__law_deed_6t_1 : S := (.ret (.tup (.cons (.tup (.cons (.con (.str [116, 97, 107, 101])) (.cons (.ix (.var 8) (.call i__law_next (.cons (.mv 0) (.cons (.con (.int 7)) .nil)))) (.cons (.con .non) .nil)))) (.cons (.con .non) .nil))))

def s__law_deed_6t : SL := (.cons s__law_deed_6t_0 (.cons s__law_deed_6t_1 .nil))

def s__law_deed_6 : S := (.ifs (.cmp .Eq (.var 6) (.con (.int 5))) s__law_deed_6t .nil)

def s__law_deed_7t_0 : S := (.ret (.tup (.cons (.tup (.cons (.con (.str [116, 97, 107, 101])) (.cons (.con (.int 0)) (.cons (.con .non) .nil)))) (.cons (.con .non) .nil))))

def s__law_deed_7t : SL := (.cons s__law_deed_7t_0 .nil)

def s__law_deed_7 : S := (.ifs (.cmp .Eq (.var 2) (.lst .nil)) s__law_deed_7t .nil)

def s__law_deed_8 : S := (.asg (.var 9) (.call i__law_next (.cons (.mv 0) (.cons (.bi .len (.cons (.var 2) .nil)) .nil))))

def s__law_deed_9 : S := (.ret (.tup (.cons (.tup (.cons (.con (.str [116, 97, 107, 101])) (.cons (.var 9) (.cons (.con .non) .nil)))) (.cons (.bin .Add (.slB (.var 2) (.var 9)) (.slA (.var 2) (.bin .Add (.var 9) (.con (.int 1))))) .nil))))

/-- _law_deed (0 _law_state_here, 1 _law_told_here, 2 _law_rows, 3 _law_pair, 4 _law_given, 5 _law_value_here, 6 _law_sort, 7 _law_bad, 8 _law_some_here, 9 _law_at) -/
def b__law_deed : SL :=
  (.cons s__law_deed_0 (.cons s__law_deed_1 (.cons s__law_deed_2 (.cons s__law_deed_3 (.cons s__law_deed_4 (.cons s__law_deed_5 (.cons s__law_deed_6 (.cons s__law_deed_7 (.cons s__law_deed_8 (.cons s__law_deed_9 .nil))))))))))
def f__law_deed : Fn := ⟨3, 10, b__law_deed, []⟩
def n__law_deed : List Str := ["_law_state_here", "_law_told_here", "_law_rows", "_law_pair", "_law_given", "_law_value_here", "_law_sort", "_law_bad", "_law_some_here", "_law_at"]
def s__law_done_0 : S := (.asg (.var 2) (.con .non))

def s__law_done_1 : S := (.asg (.var 3) (.con .non))

def s__law_done_2t_0t_0 : S := (.asg (.var 3) (.ms 0 i_Task_with_example (.mv 0) (.cons (.ix (.var 1) (.con (.int 1))) (.cons (.ix (.var 1) (.con (.int 2))) .nil))))

def s__law_done_2t_0t : SL := (.cons s__law_done_2t_0t_0 .nil)

def s__law_done_2t_0e_0 : S := (.asg (.var 3) (.ms 0 i_Task_without (.mv 0) (.cons (.ix (.var 1) (.con (.int 1))) .nil)))

def s__law_done_2t_0e : SL := (.cons s__law_done_2t_0e_0 .nil)

def s__law_done_2t_0 : S := (.ifs (.cmp .Eq (.ix (.var 1) (.con (.int 0))) (.con (.str [112, 117, 116]))) s__law_done_2t_0t s__law_done_2t_0e)

def s__law_done_2t : SL := (.cons s__law_done_2t_0 .nil)

def s__law_done_2h_0 : S := (.asg (.var 2) (.var 4))

def s__law_done_2h : SL := (.cons s__law_done_2h_0 .nil)

def s__law_done_2 : S := (.tryS s__law_done_2t 0 (some 4) s__law_done_2h)

def s__law_done_3t_0 : S := (.ret (.mv 3))

def s__law_done_3t : SL := (.cons s__law_done_3t_0 .nil)

def s__law_done_3 : S := (.ifs (.cmp .Is (.var 2) (.con .non)) s__law_done_3t .nil)

def s__law_done_4 : S := (.ret (.call i__law_word_of (.cons (.var 2) .nil)))

/-- _law_done (0 _law_task_here, 1 _law_deed_here, 2 _law_word, 3 _law_found, 4 e) -/
def b__law_done : SL :=
  (.cons s__law_done_0 (.cons s__law_done_1 (.cons s__law_done_2 (.cons s__law_done_3 (.cons s__law_done_4 .nil)))))
def f__law_done : Fn := ⟨2, 5, b__law_done, []⟩
def n__law_done : List Str := ["_law_task_here", "_law_deed_here", "_law_word", "_law_found", "e"]
def s__law_told_0 : S := (.ret (.tup (.cons (.fld (.var 0) 0 0) (.cons (.fld (.var 0) 0 1) (.cons (.fld (.var 0) 0 2) (.cons (.fld (.var 0) 0 3) (.cons (.fld (.var 0) 0 4) .nil)))))))

/-- _law_told (0 _law_task_here) -/
def b__law_told : SL :=
  (.cons s__law_told_0 .nil)
def f__law_told : Fn := ⟨1, 1, b__law_told, []⟩
def n__law_told : List Str := ["_law_task_here"]
def s_law_0l_0 : S := (.asg (.var 3) (.call i__law_state (.cons (.var 2) (.cons (.var 1) .nil))))

def s_law_0l_1 : S := (.asg (.var 4) (.call i__law_task (.cons (.mv 3) (.cons (.con (.int 3)) (.cons (.con (.int 6)) .nil)))))

def s_law_0l_2 : S := (.asg (.var 5) (.mk 0 i_Task___init__ (.cons (.ix (.var 4) (.con (.int 0))) (.cons (.ix (.var 4) (.con (.int 1))) (.cons (.ix (.var 4) (.con (.int 2))) (.cons (.ix (.var 4) (.con (.int 3))) (.cons (.ix (.var 4) (.con (.int 4))) .nil)))))))

def s_law_0l_3 : S := (.asg (.var 6) (.bi .list (.cons (.ix (.var 4) (.con (.int 4))) .nil)))

def s_law_0l_4l_0 : S := (.asg (.tup (.cons (.var 8) (.cons (.var 9) .nil))) (.call i__law_deed (.cons (.mv 3) (.cons (.var 4) (.cons (.var 6) .nil)))))

def s_law_0l_4l_1 : S := (.asg (.var 10) (.call i__law_done (.cons (.var 5) (.cons (.var 8) .nil))))

def s_law_0l_4l_2t_0 : S := (.ret (.con (.bl false)))

def s_law_0l_4l_2t : SL := (.cons s_law_0l_4l_2t_0 .nil)

def s_law_0l_4l_2 : S := (.ifs (.notE (.call i__law_alike (.cons (.call i__law_told (.cons (.var 5) .nil)) (.cons (.bin .Add (.slB (.var 4) (.con (.int 4))) (.tup (.cons (.bi .tuple (.cons (.var 6) .nil)) .nil))) .nil)))) s_law_0l_4l_2t .nil)

def s_law_0l_4l_3t_0 : S := (.ret (.con (.bl false)))

def s_law_0l_4l_3t : SL := (.cons s_law_0l_4l_3t_0 .nil)

def s_law_0l_4l_3 : S := (.ifs (.and (.cmp .Is (.var 9) (.con .non)) (.cmp .NotEq (.var 10) (.con (.str [101, 120, 97, 109, 112, 108, 101])))) s_law_0l_4l_3t .nil)

def s_law_0l_4l_4t_0t_0 : S := (.ret (.con (.bl false)))

def s_law_0l_4l_4t_0t : SL := (.cons s_law_0l_4l_4t_0t_0 .nil)

def s_law_0l_4l_4t_0 : S := (.ifs (.or (.isi (.var 10) .str) (.notE (.call i__law_alike (.cons (.call i__law_told (.cons (.var 10) .nil)) (.cons (.bin .Add (.slB (.var 4) (.con (.int 4))) (.tup (.cons (.bi .tuple (.cons (.var 9) .nil)) .nil))) .nil))))) s_law_0l_4l_4t_0t .nil)

def s_law_0l_4l_4t_1 : S := (.asg (.var 5) (.var 10))

def s_law_0l_4l_4t_2 : S := (.asg (.var 6) (.var 9))

def s_law_0l_4l_4t : SL := (.cons s_law_0l_4l_4t_0 (.cons s_law_0l_4l_4t_1 (.cons s_law_0l_4l_4t_2 .nil)))

def s_law_0l_4l_4 : S := (.ifs (.cmp .IsNot (.var 9) (.con .non)) s_law_0l_4l_4t .nil)

def s_law_0l_4l : SL := (.cons s_law_0l_4l_0 (.cons s_law_0l_4l_1 (.cons s_law_0l_4l_2 (.cons s_law_0l_4l_3 (.cons s_law_0l_4l_4 .nil)))))

def s_law_0l_4 : S := (.forS (.var 7) (.rng1 (.con (.int 8))) s_law_0l_4l)

def s_law_0l : SL := (.cons s_law_0l_0 (.cons s_law_0l_1 (.cons s_law_0l_2 (.cons s_law_0l_3 (.cons s_law_0l_4 .nil)))))

def s_law_0 : S := (.forS (.tup (.cons (.var 1) (.cons (.var 2) .nil))) (.enum (.var 0)) s_law_0l)

def s_law_1 : S := (.ret (.con (.bl true)))

/-- law (0 _law_script, 1 _law_k, 2 _law_cell, 3 _law_state_here, 4 _law_told_here, 5 _law_task_here, 6 _law_rows, 7 _law_turn, 8 _law_deed_here, 9 _law_due, 10 _law_found) -/
def b_law : SL :=
  (.cons s_law_0 (.cons s_law_1 .nil))
def f_law : Fn := ⟨1, 11, b_law, []⟩
def n_law : List Str := ["_law_script", "_law_k", "_law_cell", "_law_state_here", "_law_told_here", "_law_task_here", "_law_rows", "_law_turn", "_law_deed_here", "_law_due", "_law_found"]
def fns_0 : List Fn := [f__wall, f_words_told, f_is_name, f_are_inputs, f_is_number, f_kind_of, f_are_rising, f_are_words, f_is_figure, f_are_numbers, f_is_kind, f_is_given, f_is_example, f_are_examples, f_Task___init__, f_Task_given_rows, f_Task_wanted, f_Task_takes, f_Task_leaves, f_Task_with_examples, f_Task_with_example, f_Task_without, f__law_state, f__law_next, f__law_value]
def fns_1 : List Fn := [f__law_all_words, f__law_some, f__law_inputs, f__law_examples, f__law_task, f__law_word_of, f__law_alike, f__law_deed, f__law_done, f__law_told, f_law]
def fns : List Fn := fns_0 ++ fns_1
def nss_0 : List (List Str) := [n__wall, n_words_told, n_is_name, n_are_inputs, n_is_number, n_kind_of, n_are_rising, n_are_words, n_is_figure, n_are_numbers, n_is_kind, n_is_given, n_is_example, n_are_examples, n_Task___init__, n_Task_given_rows, n_Task_wanted, n_Task_takes, n_Task_leaves, n_Task_with_examples, n_Task_with_example, n_Task_without, n__law_state, n__law_next, n__law_value]
def nss_1 : List (List Str) := [n__law_all_words, n__law_some, n__law_inputs, n__law_examples, n__law_task, n__law_word_of, n__law_alike, n__law_deed, n__law_done, n__law_told, n_law]
def nss : List (List Str) := nss_0 ++ nss_1
def gls_0 : List (Str × D) := [("OF_TWO", c_OF_TWO), ("ASKED_OF_TWO", c_ASKED_OF_TWO), ("OF_ROW", c_OF_ROW), ("ROW_OF_ROW", c_ROW_OF_ROW), ("ROW_AND_NUMBER", c_ROW_AND_NUMBER), ("OTHERS", c_OTHERS), ("MOST_INPUTS", c_MOST_INPUTS), ("MOST_SIGNS", c_MOST_SIGNS), ("SMALL", c_SMALL), ("LEAVES", c_LEAVES), ("MOST_NUMBER", c_MOST_NUMBER), ("MOST_ROW", c_MOST_ROW), ("MOST_WORDS", c_MOST_WORDS), ("MOST_NUMBERS", c_MOST_NUMBERS), ("MOST_EXAMPLES", c_MOST_EXAMPLES), ("GREATEST", c_GREATEST), ("KINDS", c_KINDS)]
def gls : List (Str × D) := gls_0
def fnL_0 : List (Str × Nat) := [("_wall", 1), ("words_told", 0), ("is_name", 1), ("are_inputs", 1), ("is_number", 1), ("kind_of", 1), ("are_rising", 1), ("are_words", 1), ("is_figure", 1), ("are_numbers", 1), ("is_kind", 1), ("is_given", 2), ("is_example", 3), ("are_examples", 3), ("", 6), ("", 1), ("", 1), ("", 2), ("", 1), ("", 2), ("", 3), ("", 2), ("_law_state", 2), ("_law_next", 2), ("_law_value", 2)]
def fnL_1 : List (Str × Nat) := [("_law_all_words", 0), ("_law_some", 3), ("_law_inputs", 2), ("_law_examples", 4), ("_law_task", 3), ("_law_word_of", 1), ("_law_alike", 2), ("_law_deed", 3), ("_law_done", 2), ("_law_told", 1), ("law", 1)]
def fnL : List (Str × Nat) := fnL_0 ++ fnL_1
def mts_0 : List (Nat × Nat × Str) := [(14, 0, "__init__"), (15, 0, "given_rows"), (16, 0, "wanted"), (17, 0, "takes"), (18, 0, "leaves"), (19, 0, "with_examples"), (20, 0, "with_example"), (21, 0, "without")]
def mts : List (Nat × Nat × Str) := mts_0
def bis : List Str := ["ValueError", "all", "bool", "enumerate", "int", "isinstance", "len", "list", "range", "repr", "sorted", "str", "tuple", "zip"]
def cls : List Nat := [0]
def tab : Tab := ⟨fns, gls, [0, 1, 2, 3, 4, 5, 6, 7, 8], mts, cls⟩
def inf (N : List Str) : Inf := ⟨N, fnL, gls.map (·.1), bis, [0, 1, 2, 3, 4, 5, 6, 7, 8], mts, cls⟩
end Lw

namespace Lw
open PySem PySem.Spec PyProof.Rows L2 MP
def top (i : Nat) : Stmt := PySem.Challenge.pw_findmill_k42_examples_come_and_go.main.body.getD i (.Pass ⟨0, 0, 0, 0⟩)
def d__wall : He.DefD := ⟨("_wall", none), "_wall", "_wall", defArgs (top 0), defBody (top 0), defScope (top 0), [], []⟩
theorem st__wall : StF inf d__wall f__wall n__wall where
  kwd := rfl
  at_ := .inl rfl
  iN := rfl
  len := rfl
  npl := by decide
  sc := ⟨rfl, rfl, rfl, by decide +kernel, rfl, by decide +kernel, by decide +kernel⟩
  bd := .inl ⟨rfl, fun _ _ _ _ _ _ us hl => match us, hl with | [_], _ => rfl⟩
  chk := by decide +kernel
def d_words_told : He.DefD := ⟨("words_told", none), "words_told", "words_told", defArgs (top 18), defBody (top 18), defScope (top 18), [], []⟩
theorem st_words_told : StF inf d_words_told f_words_told n_words_told where
  kwd := rfl
  at_ := .inl rfl
  iN := rfl
  len := rfl
  npl := by decide
  sc := ⟨rfl, rfl, rfl, by decide +kernel, rfl, by decide +kernel, by decide +kernel⟩
  bd := .inl ⟨rfl, fun _ _ _ _ _ _ us hl => match us, hl with | [], _ => rfl⟩
  chk := by decide +kernel
def d_is_name : He.DefD := ⟨("is_name", none), "is_name", "is_name", defArgs (top 24), defBody (top 24), defScope (top 24), [], []⟩
theorem st_is_name : StF inf d_is_name f_is_name n_is_name where
  kwd := rfl
  at_ := .inl rfl
  iN := rfl
  len := rfl
  npl := by decide
  sc := ⟨rfl, rfl, rfl, by decide +kernel, rfl, by decide +kernel, by decide +kernel⟩
  bd := .inl ⟨rfl, fun _ _ _ _ _ _ us hl => match us, hl with | [_], _ => rfl⟩
  chk := by decide +kernel
def d_are_inputs : He.DefD := ⟨("are_inputs", none), "are_inputs", "are_inputs", defArgs (top 25), defBody (top 25), defScope (top 25), [], []⟩
theorem st_are_inputs : StF inf d_are_inputs f_are_inputs n_are_inputs where
  kwd := rfl
  at_ := .inl rfl
  iN := rfl
  len := rfl
  npl := by decide
  sc := ⟨rfl, rfl, rfl, by decide +kernel, rfl, by decide +kernel, by decide +kernel⟩
  bd := .inl ⟨rfl, fun _ _ _ _ _ _ us hl => match us, hl with | [_], _ => rfl⟩
  chk := by decide +kernel
def d_is_number : He.DefD := ⟨("is_number", none), "is_number", "is_number", defArgs (top 29), defBody (top 29), defScope (top 29), [], []⟩
theorem st_is_number : StF inf d_is_number f_is_number n_is_number where
  kwd := rfl
  at_ := .inl rfl
  iN := rfl
  len := rfl
  npl := by decide
  sc := ⟨rfl, rfl, rfl, by decide +kernel, rfl, by decide +kernel, by decide +kernel⟩
  bd := .inl ⟨rfl, fun _ _ _ _ _ _ us hl => match us, hl with | [_], _ => rfl⟩
  chk := by decide +kernel
def d_kind_of : He.DefD := ⟨("kind_of", none), "kind_of", "kind_of", defArgs (top 30), defBody (top 30), defScope (top 30), [], []⟩
theorem st_kind_of : StF inf d_kind_of f_kind_of n_kind_of where
  kwd := rfl
  at_ := .inl rfl
  iN := rfl
  len := rfl
  npl := by decide
  sc := ⟨rfl, rfl, rfl, by decide +kernel, rfl, by decide +kernel, by decide +kernel⟩
  bd := .inl ⟨rfl, fun _ _ _ _ _ _ us hl => match us, hl with | [_], _ => rfl⟩
  chk := by decide +kernel
def d_are_rising : He.DefD := ⟨("are_rising", none), "are_rising", "are_rising", defArgs (top 37), defBody (top 37), defScope (top 37), [], []⟩
theorem st_are_rising : StF inf d_are_rising f_are_rising n_are_rising where
  kwd := rfl
  at_ := .inl rfl
  iN := rfl
  len := rfl
  npl := by decide
  sc := ⟨rfl, rfl, rfl, by decide +kernel, rfl, by decide +kernel, by decide +kernel⟩
  bd := .inl ⟨rfl, fun _ _ _ _ _ _ us hl => match us, hl with | [_], _ => rfl⟩
  chk := by decide +kernel
def d_are_words : He.DefD := ⟨("are_words", none), "are_words", "are_words", defArgs (top 38), defBody (top 38), defScope (top 38), [], []⟩
theorem st_are_words : StF inf d_are_words f_are_words n_are_words where
  kwd := rfl
  at_ := .inl rfl
  iN := rfl
  len := rfl
  npl := by decide
  sc := ⟨rfl, rfl, rfl, by decide +kernel, rfl, by decide +kernel, by decide +kernel⟩
  bd := .inl ⟨rfl, fun _ _ _ _ _ _ us hl => match us, hl with | [_], _ => rfl⟩
  chk := by decide +kernel
def d_is_figure : He.DefD := ⟨("is_figure", none), "is_figure", "is_figure", defArgs (top 39), defBody (top 39), defScope (top 39), [], []⟩
theorem st_is_figure : StF inf d_is_figure f_is_figure n_is_figure where
  kwd := rfl
  at_ := .inl rfl
  iN := rfl
  len := rfl
  npl := by decide
  sc := ⟨rfl, rfl, rfl, by decide +kernel, rfl, by decide +kernel, by decide +kernel⟩
  bd := .inl ⟨rfl, fun _ _ _ _ _ _ us hl => match us, hl with | [_], _ => rfl⟩
  chk := by decide +kernel
def d_are_numbers : He.DefD := ⟨("are_numbers", none), "are_numbers", "are_numbers", defArgs (top 40), defBody (top 40), defScope (top 40), [], []⟩
theorem st_are_numbers : StF inf d_are_numbers f_are_numbers n_are_numbers where
  kwd := rfl
  at_ := .inl rfl
  iN := rfl
  len := rfl
  npl := by decide
  sc := ⟨rfl, rfl, rfl, by decide +kernel, rfl, by decide +kernel, by decide +kernel⟩
  bd := .inl ⟨rfl, fun _ _ _ _ _ _ us hl => match us, hl with | [_], _ => rfl⟩
  chk := by decide +kernel
def d_is_kind : He.DefD := ⟨("is_kind", none), "is_kind", "is_kind", defArgs (top 41), defBody (top 41), defScope (top 41), [], []⟩
theorem st_is_kind : StF inf d_is_kind f_is_kind n_is_kind where
  kwd := rfl
  at_ := .inl rfl
  iN := rfl
  len := rfl
  npl := by decide
  sc := ⟨rfl, rfl, rfl, by decide +kernel, rfl, by decide +kernel, by decide +kernel⟩
  bd := .inl ⟨rfl, fun _ _ _ _ _ _ us hl => match us, hl with | [_], _ => rfl⟩
  chk := by decide +kernel
def d_is_given : He.DefD := ⟨("is_given", none), "is_given", "is_given", defArgs (top 42), defBody (top 42), defScope (top 42), [], []⟩
theorem st_is_given : StF inf d_is_given f_is_given n_is_given where
  kwd := rfl
  at_ := .inl rfl
  iN := rfl
  len := rfl
  npl := by decide
  sc := ⟨rfl, rfl, rfl, by decide +kernel, rfl, by decide +kernel, by decide +kernel⟩
  bd := .inl ⟨rfl, fun _ _ _ _ _ _ us hl => match us, hl with | [_, _], _ => rfl⟩
  chk := by decide +kernel
def d_is_example : He.DefD := ⟨("is_example", none), "is_example", "is_example", defArgs (top 43), defBody (top 43), defScope (top 43), [], []⟩
theorem st_is_example : StF inf d_is_example f_is_example n_is_example where
  kwd := rfl
  at_ := .inl rfl
  iN := rfl
  len := rfl
  npl := by decide
  sc := ⟨rfl, rfl, rfl, by decide +kernel, rfl, by decide +kernel, by decide +kernel⟩
  bd := .inl ⟨rfl, fun _ _ _ _ _ _ us hl => match us, hl with | [_, _, _], _ => rfl⟩
  chk := by decide +kernel
def d_are_examples : He.DefD := ⟨("are_examples", none), "are_examples", "are_examples", defArgs (top 44), defBody (top 44), defScope (top 44), [], []⟩
theorem st_are_examples : StF inf d_are_examples f_are_examples n_are_examples where
  kwd := rfl
  at_ := .inl rfl
  iN := rfl
  len := rfl
  npl := by decide
  sc := ⟨rfl, rfl, rfl, by decide +kernel, rfl, by decide +kernel, by decide +kernel⟩
  bd := .inl ⟨rfl, fun _ _ _ _ _ _ us hl => match us, hl with | [_, _, _], _ => rfl⟩
  chk := by decide +kernel
def d_Task___init__ : He.DefD := ⟨("Task", some "__init__"), "__init__", "Task.__init__", defArgs (inClass (top 45) 0), defBody (inClass (top 45) 0), defScope (inClass (top 45) 0), [.non], []⟩
theorem st_Task___init__ : StF inf d_Task___init__ f_Task___init__ n_Task___init__ where
  kwd := rfl
  at_ := .inr ⟨_, rfl⟩
  iN := rfl
  len := rfl
  npl := by decide
  sc := ⟨rfl, rfl, rfl, by decide +kernel, rfl, by decide +kernel, by decide +kernel⟩
  bd := .inr ⟨by simp [d_Task___init__], fun _ _ _ _ _ _ _ us its hl hi => match us, its, hl, hi with | [_, _, _, _, _, _], [_], _, _ => ⟨_, rfl, rfl⟩⟩
  chk := by decide +kernel
def d_Task_given_rows : He.DefD := ⟨("Task", some "given_rows"), "given_rows", "Task.given_rows", defArgs (inClass (top 45) 1), defBody (inClass (top 45) 1), defScope (inClass (top 45) 1), [], []⟩
theorem st_Task_given_rows : StF inf d_Task_given_rows f_Task_given_rows n_Task_given_rows where
  kwd := rfl
  at_ := .inr ⟨_, rfl⟩
  iN := rfl
  len := rfl
  npl := by decide
  sc := ⟨rfl, rfl, rfl, by decide +kernel, rfl, by decide +kernel, by decide +kernel⟩
  bd := .inl ⟨rfl, fun _ _ _ _ _ _ us hl => match us, hl with | [_], _ => rfl⟩
  chk := by decide +kernel
def d_Task_wanted : He.DefD := ⟨("Task", some "wanted"), "wanted", "Task.wanted", defArgs (inClass (top 45) 2), defBody (inClass (top 45) 2), defScope (inClass (top 45) 2), [], []⟩
theorem st_Task_wanted : StF inf d_Task_wanted f_Task_wanted n_Task_wanted where
  kwd := rfl
  at_ := .inr ⟨_, rfl⟩
  iN := rfl
  len := rfl
  npl := by decide
  sc := ⟨rfl, rfl, rfl, by decide +kernel, rfl, by decide +kernel, by decide +kernel⟩
  bd := .inl ⟨rfl, fun _ _ _ _ _ _ us hl => match us, hl with | [_], _ => rfl⟩
  chk := by decide +kernel
def d_Task_takes : He.DefD := ⟨("Task", some "takes"), "takes", "Task.takes", defArgs (inClass (top 45) 3), defBody (inClass (top 45) 3), defScope (inClass (top 45) 3), [], []⟩
theorem st_Task_takes : StF inf d_Task_takes f_Task_takes n_Task_takes where
  kwd := rfl
  at_ := .inr ⟨_, rfl⟩
  iN := rfl
  len := rfl
  npl := by decide
  sc := ⟨rfl, rfl, rfl, by decide +kernel, rfl, by decide +kernel, by decide +kernel⟩
  bd := .inl ⟨rfl, fun _ _ _ _ _ _ us hl => match us, hl with | [_, _], _ => rfl⟩
  chk := by decide +kernel
def d_Task_leaves : He.DefD := ⟨("Task", some "leaves"), "leaves", "Task.leaves", defArgs (inClass (top 45) 4), defBody (inClass (top 45) 4), defScope (inClass (top 45) 4), [], []⟩
theorem st_Task_leaves : StF inf d_Task_leaves f_Task_leaves n_Task_leaves where
  kwd := rfl
  at_ := .inr ⟨_, rfl⟩
  iN := rfl
  len := rfl
  npl := by decide
  sc := ⟨rfl, rfl, rfl, by decide +kernel, rfl, by decide +kernel, by decide +kernel⟩
  bd := .inl ⟨rfl, fun _ _ _ _ _ _ us hl => match us, hl with | [_], _ => rfl⟩
  chk := by decide +kernel
def d_Task_with_examples : He.DefD := ⟨("Task", some "with_examples"), "with_examples", "Task.with_examples", defArgs (inClass (top 45) 5), defBody (inClass (top 45) 5), defScope (inClass (top 45) 5), [], []⟩
theorem st_Task_with_examples : StF inf d_Task_with_examples f_Task_with_examples n_Task_with_examples where
  kwd := rfl
  at_ := .inr ⟨_, rfl⟩
  iN := rfl
  len := rfl
  npl := by decide
  sc := ⟨rfl, rfl, rfl, by decide +kernel, rfl, by decide +kernel, by decide +kernel⟩
  bd := .inl ⟨rfl, fun _ _ _ _ _ _ us hl => match us, hl with | [_, _], _ => rfl⟩
  chk := by decide +kernel
def d_Task_with_example : He.DefD := ⟨("Task", some "with_example"), "with_example", "Task.with_example", defArgs (inClass (top 45) 6), defBody (inClass (top 45) 6), defScope (inClass (top 45) 6), [], []⟩
theorem st_Task_with_example : StF inf d_Task_with_example f_Task_with_example n_Task_with_example where
  kwd := rfl
  at_ := .inr ⟨_, rfl⟩
  iN := rfl
  len := rfl
  npl := by decide
  sc := ⟨rfl, rfl, rfl, by decide +kernel, rfl, by decide +kernel, by decide +kernel⟩
  bd := .inl ⟨rfl, fun _ _ _ _ _ _ us hl => match us, hl with | [_, _, _], _ => rfl⟩
  chk := by decide +kernel
def d_Task_without : He.DefD := ⟨("Task", some "without"), "without", "Task.without", defArgs (inClass (top 45) 7), defBody (inClass (top 45) 7), defScope (inClass (top 45) 7), [], []⟩
theorem st_Task_without : StF inf d_Task_without f_Task_without n_Task_without where
  kwd := rfl
  at_ := .inr ⟨_, rfl⟩
  iN := rfl
  len := rfl
  npl := by decide
  sc := ⟨rfl, rfl, rfl, by decide +kernel, rfl, by decide +kernel, by decide +kernel⟩
  bd := .inl ⟨rfl, fun _ _ _ _ _ _ us hl => match us, hl with | [_, _], _ => rfl⟩
  chk := by decide +kernel
def d__law_state : He.DefD := ⟨("_law_state", none), "_law_state", "_law_state", defArgs (top 47), defBody (top 47), defScope (top 47), [], []⟩
theorem st__law_state : StF inf d__law_state f__law_state n__law_state where
  kwd := rfl
  at_ := .inl rfl
  iN := rfl
  len := rfl
  npl := by decide
  sc := ⟨rfl, rfl, rfl, by decide +kernel, rfl, by decide +kernel, by decide +kernel⟩
  bd := .inl ⟨rfl, fun _ _ _ _ _ _ us hl => match us, hl with | [_, _], _ => rfl⟩
  chk := by decide +kernel
def d__law_next : He.DefD := ⟨("_law_next", none), "_law_next", "_law_next", defArgs (top 48), defBody (top 48), defScope (top 48), [], []⟩
theorem st__law_next : StF inf d__law_next f__law_next n__law_next where
  kwd := rfl
  at_ := .inl rfl
  iN := rfl
  len := rfl
  npl := by decide
  sc := ⟨rfl, rfl, rfl, by decide +kernel, rfl, by decide +kernel, by decide +kernel⟩
  bd := .inl ⟨rfl, fun _ _ _ _ _ _ us hl => match us, hl with | [_, _], _ => rfl⟩
  chk := by decide +kernel
def d__law_value : He.DefD := ⟨("_law_value", none), "_law_value", "_law_value", defArgs (top 49), defBody (top 49), defScope (top 49), [], []⟩
theorem st__law_value : StF inf d__law_value f__law_value n__law_value where
  kwd := rfl
  at_ := .inl rfl
  iN := rfl
  len := rfl
  npl := by decide
  sc := ⟨rfl, rfl, rfl, by decide +kernel, rfl, by decide +kernel, by decide +kernel⟩
  bd := .inl ⟨rfl, fun _ _ _ _ _ _ us hl => match us, hl with | [_, _], _ => rfl⟩
  chk := by decide +kernel
def d__law_all_words : He.DefD := ⟨("_law_all_words", none), "_law_all_words", "_law_all_words", defArgs (top 50), defBody (top 50), defScope (top 50), [], []⟩
theorem st__law_all_words : StF inf d__law_all_words f__law_all_words n__law_all_words where
  kwd := rfl
  at_ := .inl rfl
  iN := rfl
  len := rfl
  npl := by decide
  sc := ⟨rfl, rfl, rfl, by decide +kernel, rfl, by decide +kernel, by decide +kernel⟩
  bd := .inl ⟨rfl, fun _ _ _ _ _ _ us hl => match us, hl with | [], _ => rfl⟩
  chk := by decide +kernel
def d__law_some : He.DefD := ⟨("_law_some", none), "_law_some", "_law_some", defArgs (top 51), defBody (top 51), defScope (top 51), [], []⟩
theorem st__law_some : StF inf d__law_some f__law_some n__law_some where
  kwd := rfl
  at_ := .inl rfl
  iN := rfl
  len := rfl
  npl := by decide
  sc := ⟨rfl, rfl, rfl, by decide +kernel, rfl, by decide +kernel, by decide +kernel⟩
  bd := .inl ⟨rfl, fun _ _ _ _ _ _ us hl => match us, hl with | [_, _, _], _ => rfl⟩
  chk := by decide +kernel
def d__law_inputs : He.DefD := ⟨("_law_inputs", none), "_law_inputs", "_law_inputs", defArgs (top 52), defBody (top 52), defScope (top 52), [], []⟩
theorem st__law_inputs : StF inf d__law_inputs f__law_inputs n__law_inputs where
  kwd := rfl
  at_ := .inl rfl
  iN := rfl
  len := rfl
  npl := by decide
  sc := ⟨rfl, rfl, rfl, by decide +kernel, rfl, by decide +kernel, by decide +kernel⟩
  bd := .inl ⟨rfl, fun _ _ _ _ _ _ us hl => match us, hl with | [_, _], _ => rfl⟩
  chk := by decide +kernel
def d__law_examples : He.DefD := ⟨("_law_examples", none), "_law_examples", "_law_examples", defArgs (top 53), defBody (top 53), defScope (top 53), [], []⟩
theorem st__law_examples : StF inf d__law_examples f__law_examples n__law_examples where
  kwd := rfl
  at_ := .inl rfl
  iN := rfl
  len := rfl
  npl := by decide
  sc := ⟨rfl, rfl, rfl, by decide +kernel, rfl, by decide +kernel, by decide +kernel⟩
  bd := .inl ⟨rfl, fun _ _ _ _ _ _ us hl => match us, hl with | [_, _, _, _], _ => rfl⟩
  chk := by decide +kernel
def d__law_task : He.DefD := ⟨("_law_task", none), "_law_task", "_law_task", defArgs (top 54), defBody (top 54), defScope (top 54), [], []⟩
theorem st__law_task : StF inf d__law_task f__law_task n__law_task where
  kwd := rfl
  at_ := .inl rfl
  iN := rfl
  len := rfl
  npl := by decide
  sc := ⟨rfl, rfl, rfl, by decide +kernel, rfl, by decide +kernel, by decide +kernel⟩
  bd := .inl ⟨rfl, fun _ _ _ _ _ _ us hl => match us, hl with | [_, _, _], _ => rfl⟩
  chk := by decide +kernel
def d__law_word_of : He.DefD := ⟨("_law_word_of", none), "_law_word_of", "_law_word_of", defArgs (top 55), defBody (top 55), defScope (top 55), [], []⟩
theorem st__law_word_of : StF inf d__law_word_of f__law_word_of n__law_word_of where
  kwd := rfl
  at_ := .inl rfl
  iN := rfl
  len := rfl
  npl := by decide
  sc := ⟨rfl, rfl, rfl, by decide +kernel, rfl, by decide +kernel, by decide +kernel⟩
  bd := .inl ⟨rfl, fun _ _ _ _ _ _ us hl => match us, hl with | [_], _ => rfl⟩
  chk := by decide +kernel
def d__law_alike : He.DefD := ⟨("_law_alike", none), "_law_alike", "_law_alike", defArgs (top 56), defBody (top 56), defScope (top 56), [], []⟩
theorem st__law_alike : StF inf d__law_alike f__law_alike n__law_alike where
  kwd := rfl
  at_ := .inl rfl
  iN := rfl
  len := rfl
  npl := by decide
  sc := ⟨rfl, rfl, rfl, by decide +kernel, rfl, by decide +kernel, by decide +kernel⟩
  bd := .inl ⟨rfl, fun _ _ _ _ _ _ us hl => match us, hl with | [_, _], _ => rfl⟩
  chk := by decide +kernel
def d__law_deed : He.DefD := ⟨("_law_deed", none), "_law_deed", "_law_deed", defArgs (top 57), defBody (top 57), defScope (top 57), [], []⟩
theorem st__law_deed : StF inf d__law_deed f__law_deed n__law_deed where
  kwd := rfl
  at_ := .inl rfl
  iN := rfl
  len := rfl
  npl := by decide
  sc := ⟨rfl, rfl, rfl, by decide +kernel, rfl, by decide +kernel, by decide +kernel⟩
  bd := .inl ⟨rfl, fun _ _ _ _ _ _ us hl => match us, hl with | [_, _, _], _ => rfl⟩
  chk := by decide +kernel
def d__law_done : He.DefD := ⟨("_law_done", none), "_law_done", "_law_done", defArgs (top 58), defBody (top 58), defScope (top 58), [], []⟩
theorem st__law_done : StF inf d__law_done f__law_done n__law_done where
  kwd := rfl
  at_ := .inl rfl
  iN := rfl
  len := rfl
  npl := by decide
  sc := ⟨rfl, rfl, rfl, by decide +kernel, rfl, by decide +kernel, by decide +kernel⟩
  bd := .inl ⟨rfl, fun _ _ _ _ _ _ us hl => match us, hl with | [_, _], _ => rfl⟩
  chk := by decide +kernel
def d__law_told : He.DefD := ⟨("_law_told", none), "_law_told", "_law_told", defArgs (top 59), defBody (top 59), defScope (top 59), [], []⟩
theorem st__law_told : StF inf d__law_told f__law_told n__law_told where
  kwd := rfl
  at_ := .inl rfl
  iN := rfl
  len := rfl
  npl := by decide
  sc := ⟨rfl, rfl, rfl, by decide +kernel, rfl, by decide +kernel, by decide +kernel⟩
  bd := .inl ⟨rfl, fun _ _ _ _ _ _ us hl => match us, hl with | [_], _ => rfl⟩
  chk := by decide +kernel
def d_law : He.DefD := ⟨("law", none), "law", "law", defArgs (top 60), defBody (top 60), defScope (top 60), [], []⟩
theorem st_law : StF inf d_law f_law n_law where
  kwd := rfl
  at_ := .inl rfl
  iN := rfl
  len := rfl
  npl := by decide
  sc := ⟨rfl, rfl, rfl, by decide +kernel, rfl, by decide +kernel, by decide +kernel⟩
  bd := .inl ⟨rfl, fun _ _ _ _ _ _ us hl => match us, hl with | [_], _ => rfl⟩
  chk := by decide +kernel
def dfs_0 : List He.DefD := [d__wall, d_words_told, d_is_name, d_are_inputs, d_is_number, d_kind_of, d_are_rising, d_are_words, d_is_figure, d_are_numbers, d_is_kind, d_is_given, d_is_example, d_are_examples, d_Task___init__, d_Task_given_rows, d_Task_wanted, d_Task_takes, d_Task_leaves, d_Task_with_examples, d_Task_with_example, d_Task_without, d__law_state, d__law_next, d__law_value]
def dfs_1 : List He.DefD := [d__law_all_words, d__law_some, d__law_inputs, d__law_examples, d__law_task, d__law_word_of, d__law_alike, d__law_deed, d__law_done, d__law_told, d_law]
def dfs : List He.DefD := dfs_0 ++ dfs_1
theorem st_0 : StFs inf dfs_0 fns_0 nss_0 := (.cons st__wall (.cons st_words_told (.cons st_is_name (.cons st_are_inputs (.cons st_is_number (.cons st_kind_of (.cons st_are_rising (.cons st_are_words (.cons st_is_figure (.cons st_are_numbers (.cons st_is_kind (.cons st_is_given (.cons st_is_example (.cons st_are_examples (.cons st_Task___init__ (.cons st_Task_given_rows (.cons st_Task_wanted (.cons st_Task_takes (.cons st_Task_leaves (.cons st_Task_with_examples (.cons st_Task_with_example (.cons st_Task_without (.cons st__law_state (.cons st__law_next (.cons st__law_value .nil)))))))))))))))))))))))))
theorem st_1 : StFs inf dfs_1 fns_1 nss_1 := (.cons st__law_all_words (.cons st__law_some (.cons st__law_inputs (.cons st__law_examples (.cons st__law_task (.cons st__law_word_of (.cons st__law_alike (.cons st__law_deed (.cons st__law_done (.cons st__law_told (.cons st_law .nil)))))))))))
theorem st : StFs inf dfs tab.fn nss := (st_0.append st_1)
theorem lw : Law dfs tab nss bis fnL := ⟨st, rfl, by decide +kernel, by decide +kernel⟩
def loose_0 : List PySem.Str := [("_wall" : PySem.Str), ("FindError" : PySem.Str), ("NoValue" : PySem.Str), ("NoTask" : PySem.Str), ("NoBook" : PySem.Str), ("NoRule" : PySem.Str), ("NoExample" : PySem.Str), ("NoRow" : PySem.Str), ("TooMany" : PySem.Str), ("NoTerm" : PySem.Str), ("OF_TWO" : PySem.Str), ("ASKED_OF_TWO" : PySem.Str), ("OF_ROW" : PySem.Str), ("ROW_OF_ROW" : PySem.Str), ("ROW_AND_NUMBER" : PySem.Str), ("OTHERS" : PySem.Str), ("words_told" : PySem.Str), ("MOST_INPUTS" : PySem.Str), ("MOST_SIGNS" : PySem.Str), ("SMALL" : PySem.Str), ("LEAVES" : PySem.Str), ("is_name" : PySem.Str), ("are_inputs" : PySem.Str), ("MOST_NUMBER" : PySem.Str), ("MOST_ROW" : PySem.Str)]
def loose_1 : List PySem.Str := [("is_number" : PySem.Str), ("kind_of" : PySem.Str), ("MOST_WORDS" : PySem.Str), ("MOST_NUMBERS" : PySem.Str), ("MOST_EXAMPLES" : PySem.Str), ("GREATEST" : PySem.Str), ("KINDS" : PySem.Str), ("are_rising" : PySem.Str), ("are_words" : PySem.Str), ("is_figure" : PySem.Str), ("are_numbers" : PySem.Str), ("is_kind" : PySem.Str), ("is_given" : PySem.Str), ("is_example" : PySem.Str), ("are_examples" : PySem.Str), ("Task" : PySem.Str), ("_law_state" : PySem.Str), ("_law_next" : PySem.Str), ("_law_value" : PySem.Str), ("_law_all_words" : PySem.Str), ("_law_some" : PySem.Str), ("_law_inputs" : PySem.Str), ("_law_examples" : PySem.Str), ("_law_task" : PySem.Str), ("_law_word_of" : PySem.Str)]
def loose_2 : List PySem.Str := [("_law_alike" : PySem.Str), ("_law_deed" : PySem.Str), ("_law_done" : PySem.Str), ("_law_told" : PySem.Str)]
def loose : List PySem.Str := loose_0 ++ loose_1 ++ loose_2
abbrev R : PySem.W.OpenRow := PySem.W.OpenLaw.row PySem.Challenge.rw_findmill_k42_examples_come_and_go
def fas : List He.Fa := faOf dfs bis cls
abbrev hk : PySem.W.Hook := hookM 4 fas dfs gls [0, 1, 2, 3, 4, 5, 6, 7, 8]
def ob (s : PySem.W.SharedT) : AlM := obsG 4 fas dfs gls (HandSHeadRun.getT s) [0, 1, 2, 3, 4, 5, 6, 7, 8]
theorem ob_eq (s : PySem.W.SharedT) : ob s = hk.obs s.abs := obsG_eq (HandSHeadRun.getT_eq s)
theorem run (w : World) : HandSHeadRun.RunEq R (PySem.W.view R.prog [60]) hk ob 20000 loose w := by
  intro os
  kernel_rfl
end Lw

namespace Lw
open PySem MP
/-- the state of the draws: one cell -/
def Q (q : List D) : Prop := ∃ a : Int, q = [.int a]
abbrev G := List Sl → CR
def Sp__law_next (g : G) : Prop := ∀ q, Q q → ∀ m : Int, 0 < m → ∃ (x : Nat) (q' : List D), Q q' ∧ (x : Int) < m ∧ g [.lst q, .dat (.int m)] = .ok (.dat (.int x)) [.lst q', .dat (.int m)]
def Sp__law_state (g : G) : Prop := ∀ c k : Int, ∃ z : Int, g [.dat (.int c), .dat (.int k)] = .ok (.lst [.int z]) [.dat (.int c), .dat (.int k)]
theorem r__law_next (call : Nat → G) (wf : Nat) : Sp__law_next (runFn call tab.glob wf f__law_next) := by
  rintro q ⟨a, rfl⟩ m h
  have s2 : small 48271 = true := by decide
  have s3 : small 7 = true := by decide
  have hs := small_mod (a * 48271) 2147483647 (by decide) (by decide)
  generalize ht : a * 48271 % 2147483647 = t at hs
  obtain ⟨x, hx, e⟩ := mod_nat ((t * t + 7 * t) % 2147483629 / 3) m h
  refine ⟨x, [.int t], ⟨t, rfl⟩, hx, ?_⟩
  simp -implicitDefEqProofs [f__law_next, b__law_next, s__law_next_0, s__law_next_1, runFn, evSs, evS, evE, evT, evTs, evArgs, evOps, evPairs, evIt, testE, testB, view1_eq, views, takes, putBack, setSlot, finOf, wipeE, L2.atI, L2.ixN, s2, s3, hs, ht, h, e]
theorem r__law_state (call : Nat → G) (wf : Nat) : Sp__law_state (runFn call tab.glob wf f__law_state) := by
  intro c k
  have s1 : small 104729 = true := by decide
  refine ⟨1 + (c + 104729 * k) % 2147483645, ?_⟩
  simp -implicitDefEqProofs [f__law_state, b__law_state, s__law_state_0, runFn, evSs, evS, evE, evT, evTs, evArgs, evOps, evPairs, evIt, testE, testB, view1_eq, views, takes, putBack, setSlot, finOf, wipeE, s1]
theorem c__law_next (wf n : Nat) : Sp__law_next (callN tab wf (n+1) i__law_next) := by
  have e : callN tab wf (n+1) i__law_next = runFn (callN tab wf (n+0)) tab.glob wf f__law_next := funext fun _ => callN_s rfl
  rw [e]
  exact r__law_next (callN tab wf (n+0)) wf  
theorem c__law_state (wf n : Nat) : Sp__law_state (callN tab wf (n+1) i__law_state) := by
  have e : callN tab wf (n+1) i__law_state = runFn (callN tab wf (n+0)) tab.glob wf f__law_state := funext fun _ => callN_s rfl
  rw [e]
  exact r__law_state (callN tab wf (n+0)) wf
end Lw

namespace Lw
open PySem MP
/-! values, answers, words -/
inductive V where
  | n (i : Int) | t (b : Bool) | r (xs : List Int)
  deriving DecidableEq
def tI (xs : List Int) : D := .tup (xs.map .int)
def V.d : V → D
  | .n i => .int i
  | .t b => .bl b
  | .r xs => tI xs
abbrev inB (i : Int) : Prop := -9999 ≤ i ∧ i ≤ 9999
def V.ok : V → Prop
  | .n i => inB i
  | .t _ => True
  | .r xs => xs.length ≤ 8 ∧ ∀ x ∈ xs, inB x
def V.k : V → Nat
  | .n _ => 110
  | .t _ => 116
  | .r _ => 114
inductive A where
  | is (v : V) | fault (f : List Nat)
  deriving DecidableEq
abbrev sIs : List Nat := [105, 115]
abbrev sFault : List Nat := [102, 97, 117, 108, 116]
abbrev fEmpty : List Nat := [101, 109, 112, 116, 121]
abbrev fGreat : List Nat := [103, 114, 101, 97, 116]
abbrev fLong : List Nat := [108, 111, 110, 103]
abbrev fNought : List Nat := [110, 111, 117, 103, 104, 116]
abbrev fPlace : List Nat := [112, 108, 97, 99, 101]
def A.d : A → D
  | .is v => .tup [.str sIs, v.d]
  | .fault f => .tup [.str sFault, .str f]
def aNum (i : Int) : A := if -9999 ≤ i ∧ i ≤ 9999 then .is (.n i) else .fault fGreat
def big (x : Int) : Bool := decide (9999 < if x < 0 then -x else x)
def aRow (xs : List Int) : A := if 8 < xs.length then .fault fLong else if xs.any big then .fault fGreat else .is (.r xs)
inductive Wd where
  | add | adds | at_ | both | cut | div | first | ifW | joined | keeps | len | less | most | mul | not_ | one | put | rem | rest | runs | same | sub | sum | turned
  deriving DecidableEq
def Wd.s : Wd → List Nat
  | .add => [97, 100, 100]
  | .adds => [97, 100, 100, 115]
  | .at_ => [97, 116]
  | .both => [98, 111, 116, 104]
  | .cut => [99, 117, 116]
  | .div => [100, 105, 118]
  | .first => [102, 105, 114, 115, 116]
  | .ifW => [105, 102]
  | .joined => [106, 111, 105, 110, 101, 100]
  | .keeps => [107, 101, 101, 112, 115]
  | .len => [108, 101, 110]
  | .less => [108, 101, 115, 115]
  | .most => [109, 111, 115, 116]
  | .mul => [109, 117, 108]
  | .not_ => [110, 111, 116]
  | .one => [111, 110, 101]
  | .put => [112, 117, 116]
  | .rem => [114, 101, 109]
  | .rest => [114, 101, 115, 116]
  | .runs => [114, 117, 110, 115]
  | .same => [115, 97, 109, 101]
  | .sub => [115, 117, 98]
  | .sum => [115, 117, 109]
  | .turned => [116, 117, 114, 110, 101, 100]
def runS (acc : Int) : List Int → List Int
  | [] => []
  | x :: xs => (x + acc) :: runS (x + acc) xs
def mostL (xs : List Int) : Int := (maxL xs).getD 0
/-- what a word makes of values -/
def work : Wd → List V → A
  | .add, [.n a, .n b] => aNum (a + b)
  | .sub, [.n a, .n b] => aNum (a - b)
  | .mul, [.n a, .n b] => aNum (a * b)
  | .div, [.n a, .n b] => if b = 0 then .fault fNought else aNum (a.fdiv b)
  | .rem, [.n a, .n b] => if b = 0 then .fault fNought else aNum (a.fmod b)
  | .less, [.n a, .n b] => .is (.t (decide (a < b)))
  | .same, [.n a, .n b] => .is (.t (a == b))
  | .len, [.r x] => .is (.n x.length)
  | .sum, [.r x] => aNum x.sum
  | .turned, [.r x] => .is (.r x.reverse)
  | .runs, [.r x] => aRow (runS 0 x)
  | .rest, [.r x] => if x = [] then .fault fEmpty else .is (.r (x.drop 1))
  | .most, [.r x] => if x = [] then .fault fEmpty else .is (.n (mostL x))
  | .first, [.r x] => if x = [] then .fault fEmpty else .is (.n (x.headD 0))
  | .adds, [.r x, .n k] => aRow (x.map (· + k))
  | .keeps, [.r x, .n k] => .is (.r (x.filter fun i => decide (i < k)))
  | .cut, [.r x, .n k] => if 0 ≤ k ∧ k ≤ x.length then .is (.r (x.take k.toNat)) else .fault fPlace
  | .at_, [.r x, .n k] => if 0 ≤ k ∧ k < x.length then .is (.n (x.getD k.toNat 0)) else .fault fPlace
  | .both, [.t a, .t b] => .is (.t (a && b))
  | .not_, [.t a] => .is (.t (!a))
  | .one, [.n a] => .is (.r [a])
  | .put, [.n a, .r x] => aRow (a :: x)
  | .joined, [.r x, .r y] => aRow (x ++ y)
  | _, _ => .fault []
/-- the kinds of a word's parts -/
def Wd.ks : Wd → List Nat
  | .add | .sub | .mul | .div | .rem | .less | .same => [110, 110]
  | .len | .sum | .turned | .runs | .rest | .most | .first => [114]
  | .adds | .keeps | .cut | .at_ => [114, 110]
  | .both => [116, 116]
  | .not_ => [116]
  | .one => [110]
  | .put => [110, 114]
  | .joined => [114, 114]
  | .ifW => []
theorem asInts_map : ∀ xs : List Int, asInts (xs.map .int) = some xs
  | [] => rfl
  | x :: xs => by simp only [List.map_cons, asInts, asInts_map xs, Option.map_some]
theorem plain_ints : ∀ xs : List Int, D.plains (xs.map .int) = true := plains_map _ fun _ => rfl
theorem dep_ints : ∀ xs : List Int, D.deps (xs.map .int) ≤ 0 := deps_map _ 0 fun _ => Nat.le_refl _
theorem eqs_ints : ∀ a b : List Int, D.eqs (a.map .int) (b.map .int) = (a == b)
  | [], [] => rfl
  | [], _ :: _ => rfl
  | _ :: _, [] => rfl
  | x :: a, y :: b => by
    simp only [List.map_cons, D.eqs, D.eq, eqs_ints a b]
    simp
theorem V.plain : ∀ v : V, v.d.plain = true
  | .n _ => rfl
  | .t _ => rfl
  | .r xs => plain_ints xs
theorem V.dep1 : ∀ v : V, v.d.dep ≤ 1
  | .n _ => Nat.zero_le _
  | .t _ => Nat.zero_le _
  | .r xs => Nat.succ_le_succ (dep_ints xs)
theorem cap_tI (xs : List Int) : (Sl.dat (tI xs)).cap = .tup (xs.map .int) := rfl
theorem atI_ints (xs : List Int) (k : Int) : L2.atI (xs.map D.int) k = (L2.atI xs k).map D.int := by
  unfold L2.atI L2.ixN
  simp only [List.length_map]
  split <;> split <;> simp
theorem cutL_map {α β : Type} (f : α → β) (xs : List α) (lo hi : Option Int) : cutL (xs.map f) lo hi = (cutL xs lo hi).map f := by
  unfold cutL
  simp only [List.length_map, List.map_take, List.map_drop]
end Lw

namespace Lw
open PySem MP
/-! names, words, inputs: what is told of them -/
abbrev sInput : List Nat := [105, 110, 112, 117, 116]
abbrev sNumber : List Nat := [110, 117, 109, 98, 101, 114]
abbrev sYes : List Nat := [121, 101, 115]
abbrev sNo : List Nat := [110, 111]
abbrev sNil : List Nat := [110, 105, 108]
abbrev sIf : List Nat := [105, 102]
abbrev InsL := List (List Nat × Nat)
def wdL : List Wd := [.add, .adds, .at_, .both, .cut, .div, .first, .ifW, .joined, .keeps, .len, .less, .most, .mul, .not_, .one, .put, .rem, .rest, .runs, .same, .sub, .sum, .turned]
def wordsL : List (List Nat) := wdL.map Wd.s
def resv : List (List Nat) := wordsL ++ [sYes, sNo, sNil]
structure NameOk (n : List Nat) : Prop where
  pos : 1 ≤ n.length
  le : n.length ≤ 4
  sm : ∀ c ∈ n, 97 ≤ c ∧ c ≤ 122
  fr : n ∉ resv
structure Ins (ins : InsL) : Prop where
  pos : 0 < ins.length
  le : ins.length ≤ 3
  nd : (ins.map (·.1)).Nodup
  ok : ∀ p ∈ ins, NameOk p.1
  kd : ∀ p ∈ ins, p.2 ∈ [110, 114, 116]
def insP (p : List Nat × Nat) : D := .tup [.str p.1, .str [p.2]]
abbrev insD (ins : InsL) : D := .tup (ins.map insP)
theorem cut_to {α : Type} (l : List α) (k : Nat) (h : k ≤ l.length) : cutL l none (some (k : Int)) = l.take k := by
  have e1 : HT.sIx l.length 0 none = 0 := rfl
  have e2 : HT.sIx l.length l.length (some (k : Int)) = k := by
    show (if (k : Int) < 0 then ((k : Int) + (l.length : Int)).toNat else min (k : Int).toNat l.length) = k
    rw [if_neg (by omega)]
    omega
  unfold cutL
  rw [e1, e2]
  simp
theorem cut_from {α : Type} (l : List α) (k : Nat) (h : k ≤ l.length) : cutL l (some (k : Int)) none = l.drop k := by
  have e1 : HT.sIx l.length l.length none = l.length := rfl
  have e2 : HT.sIx l.length 0 (some (k : Int)) = k := by
    show (if (k : Int) < 0 then ((k : Int) + (l.length : Int)).toNat else min (k : Int).toNat l.length) = k
    rw [if_neg (by omega)]
    omega
  unfold cutL
  rw [e1, e2]
  rw [List.take_of_length_le (by simp)]
theorem dep_strs (l : List (List Nat)) : D.deps (l.map .str) ≤ 0 := deps_map _ 0 (fun _ => Nat.le_refl _) l
def lts : List Nat := [97, 98, 99, 100, 101, 102, 103, 104, 105, 106, 107, 108, 109, 110, 111, 112, 113, 114, 115, 116, 117, 118, 119, 120, 121, 122]
theorem evSs_pre2 {C : MP.Ctx} {a b : S} {ss : SL} {ρ ρ' : MP.Env} (h : evSs C (.cons a (.cons b .nil)) ρ = .ok .nx ρ') : evSs C (.cons a (.cons b ss)) ρ = evSs C ss ρ' := by
  simp only [evSs] at h ⊢
  cases h1 : evS C a ρ with
  | ok f ρ1 =>
    rw [h1, rbind_ok] at h; rw [rbind_ok]
    cases f with
    | nx =>
      simp only at h ⊢
      cases h2 : evS C b ρ1 with
      | ok f ρ2 =>
        rw [h2, rbind_ok] at h; rw [rbind_ok]
        cases f with
        | nx => simp only [R.ok.injEq, true_and] at h ⊢; rw [h]
        | _ => simp at h
      | _ => rw [h2] at h; simp [R.bind] at h
    | _ => simp at h
  | _ => rw [h1] at h; simp [R.bind] at h
theorem evSs_pre2R {C : MP.Ctx} {a b : S} {ss : SL} {ρ ρ' : MP.Env} {v : Sl} (h : evSs C (.cons a (.cons b .nil)) ρ = .ok (.ret v) ρ') : evSs C (.cons a (.cons b ss)) ρ = .ok (.ret v) ρ' := by
  simp only [evSs] at h ⊢
  cases h1 : evS C a ρ with
  | ok f ρ1 =>
    rw [h1, rbind_ok] at h; rw [rbind_ok]
    cases f with
    | nx =>
      simp only at h ⊢
      cases h2 : evS C b ρ1 with
      | ok f ρ2 =>
        rw [h2, rbind_ok] at h; rw [rbind_ok]
        cases f with
        | nx => simp at h
        | _ => exact h
      | _ => rw [h2] at h; simp [R.bind] at h
    | _ => exact h
  | _ => rw [h1] at h; simp [R.bind] at h
theorem at0 (a : D) (l : List D) : L2.atI (a :: l) 0 = some a := by
  have := atI_nat (a :: l) 0 (by simp)
  simpa using this
theorem at1 (a b : D) (l : List D) : L2.atI (a :: b :: l) 1 = some b := by
  have := atI_nat (a :: b :: l) 1 (by simp)
  simpa using this
theorem cutT (a : D) (l : List D) : cutL (a :: l) (some 1) none = l := by
  have := cut_from (a :: l) 1 (by simp)
  simpa using this
def leafW (x : List Nat) : Bool := [sYes, sNo, sNil].contains x
def Sp_words_told (g : G) : Prop := g [] = .ok (.lst (wordsL.map .str)) []
theorem r_words_told (call : Nat → G) (wf : Nat) : Sp_words_told (runFn call tab.glob wf f_words_told) := by
  unfold Sp_words_told
  kernel_rfl
theorem c_words_told (wf n : Nat) : Sp_words_told (callN tab wf (n+1) i_words_told) := by
  have e : callN tab wf (n+1) i_words_told = runFn (callN tab wf (n+0)) tab.glob wf f_words_told := funext fun _ => callN_s rfl
  rw [e]
  exact r_words_told (callN tab wf (n+0)) wf  
theorem in_leaf (x : List Nat) : cmpD .In (.str x) (.tup [.str sYes, .str sNo, .str sNil]) = some (leafW x) := by
  have e : [D.str sYes, .str sNo, .str sNil] = [sYes, sNo, sNil].map D.str := rfl
  rw [e, cmp_inT _ (eqOk_of rfl rfl (by decide)), in_strs]
  rfl
end Lw

namespace Lw
open PySem MP
/-! values drawn -/
def Sp__law_val (g : G) : Prop := ∀ q, Q q → ∃ (i : Int) (q' : List D), Q q' ∧ inB i ∧ g [.lst q, .dat (.str [110])] = .ok (.dat (.int i)) [.lst q', .dat (.str [110])]
theorem r__law_val (call : Nat → G) (wf : Nat) (hn : Sp__law_next (call i__law_next)) : Sp__law_val (runFn call tab.glob wf f__law_value) := by
  intro q hq
  obtain ⟨x1, q1, k1, g1, e1⟩ := hn q hq 40 (by omega)
  obtain ⟨x2, q2, k2, g2, e2⟩ := hn q1 k1 8 (by omega)
  obtain ⟨d, ⟨i, hi, rfl⟩, ex⟩ := pickP [D.int 0, .int 1, .int 2, .int (-1), .int 3, .int 9999, .int (-9999), .int ((x1 : Int) - 20)] (fun d => ∃ i, inB i ∧ d = .int i) x2 (by simp; omega) (by
    intro d hd
    simp only [List.mem_cons, List.not_mem_nil, or_false] at hd
    rcases hd with rfl | rfl | rfl | rfl | rfl | rfl | rfl | rfl
    all_goals exact ⟨_, ⟨by omega, by omega⟩, rfl⟩)
  exact ⟨i, q2, k2, hi, by simp -implicitDefEqProofs [f__law_value, b__law_value, s__law_value_0t_0, s__law_value_0t, s__law_value_0, s__law_value_1t_0, s__law_value_1t, s__law_value_1, s__law_value_2, s__law_value_3, runFn, evSs, evS, evE, evT, evTs, evArgs, evOps, evPairs, evIt, testE, testB, view1_eq, views, takes, putBack, setSlot, finOf, wipeE, e1, e2, ex]⟩
def Sp__law_value (g : G) : Prop := ∀ q, Q q → ∀ k ∈ [110, 114, 116], ∃ (v : V) (q' : List D), Q q' ∧ (v.ok ∧ v.k = k) ∧ g [.lst q, .dat (.str [k])] = .ok (.dat v.d) [.lst q', .dat (.str [k])]
theorem ints_of3 {ys : List D} (h : ∀ y ∈ ys, ∃ i, inB i ∧ y = .int i) : ∃ xs : List Int, ys = xs.map .int ∧ ∀ x ∈ xs, inB x := by
  induction ys with
  | nil => exact ⟨[], rfl, by simp⟩
  | cons y ys ih =>
    obtain ⟨i, hi, rfl⟩ := h y List.mem_cons_self
    obtain ⟨xs, rfl, hx⟩ := ih fun z hz => h z (List.mem_cons_of_mem _ hz)
    exact ⟨i :: xs, rfl, by simpa using ⟨hi, hx⟩⟩
theorem r__law_value (call : Nat → G) (wf : Nat) (hn : Sp__law_next (call i__law_next)) (hv : Sp__law_val (call i__law_value)) : Sp__law_value (runFn call tab.glob wf f__law_value) := by
  intro q hq k hk
  simp only [List.mem_cons, List.not_mem_nil, or_false] at hk
  rcases hk with rfl | rfl | rfl
  · obtain ⟨i, q', k', hi, e⟩ := r__law_val call wf hn q hq
    exact ⟨.n i, q', k', ⟨hi, rfl⟩, e⟩
  · obtain ⟨x2, q2, k2, g2, e2⟩ := hn q hq 6 (by omega)
    obtain ⟨d, ⟨m, hm8, rfl⟩, ex⟩ := pickP [D.int 0, .int 1, .int 2, .int 3, .int 3, .int 8] (fun d => ∃ m : Nat, m ≤ 8 ∧ d = .int m) x2 (by simp; omega) (by
      intro d hd
      simp only [List.mem_cons, List.not_mem_nil, or_false] at hd
      rcases hd with rfl | rfl | rfl | rfl | rfl | rfl
      · exact ⟨0, by omega, rfl⟩
      · exact ⟨1, by omega, rfl⟩
      · exact ⟨2, by omega, rfl⟩
      · exact ⟨3, by omega, rfl⟩
      · exact ⟨3, by omega, rfl⟩
      · exact ⟨8, by omega, rfl⟩)
    obtain ⟨ys, ρ, hc, el, ep, q3, k3, rfl⟩ := ev_comp_inv (C := ⟨call, tab.glob, [true, false], wf⟩) (own := [3]) (elt := .call i__law_value (.cons (.mv 0) (.cons (.con (.str [110])) .nil))) (t := .var 3) (it := .rng1 (.var 2)) (ρ := [.lst q2, .dat (.str [114]), .dat (.int m), .un]) (ρ0 := [.lst q2, .dat (.str [114]), .dat (.int m), .un])
      (fun ρ => ∃ q, Q q ∧ ρ = [.lst q, .dat (.str [114]), .dat (.int m), .un]) (fun _ y => ∃ i, inB i ∧ y = .int i) (xs := rngL 0 m) (by simp -implicitDefEqProofs [runFn, evSs, evS, evE, evT, evTs, evArgs, evOps, evPairs, evIt, testE, testB, view1_eq, views, takes, putBack, setSlot, finOf, wipeE, rngOk_of, show (m : Int) ≤ 1000000 by omega, show -1000000 ≤ (m : Int) by omega]) (by
        rintro x _ _ ⟨q, hq, rfl⟩
        obtain ⟨i, q', hq', hi, e⟩ := hv q hq
        exact ⟨_, .dat (.int i), _, by simp -implicitDefEqProofs [bindT]; rfl, by simp -implicitDefEqProofs [runFn, evSs, evS, evE, evT, evTs, evArgs, evOps, evPairs, evIt, testE, testB, view1_eq, views, takes, putBack, setSlot, finOf, wipeE, e]; rfl, ⟨i, hi, rfl⟩, q', hq', rfl⟩) ⟨q2, k2, rfl⟩ (by simp; omega)
    rw [rngL_len] at el
    obtain ⟨xs, rfl, hx⟩ := ints_of3 fun y hy => (ep y hy).choose_spec.2
    rw [List.length_map] at el
    refine ⟨.r xs, q3, k3, ⟨⟨by omega, hx⟩, rfl⟩, ?_⟩
    replace hc : evE ⟨call, tab.glob, [true, false], wf⟩ cm__law_value_0 [.lst q2, .dat (.str [114]), .dat (.int m), .un] = .ok (.lst (xs.map .int)) [.lst q3, .dat (.str [114]), .dat (.int m), .un] := hc
    simp -implicitDefEqProofs [f__law_value, b__law_value, s__law_value_0t_0, s__law_value_0t, s__law_value_0, s__law_value_1t_0, s__law_value_1t, s__law_value_1, s__law_value_2, s__law_value_3, runFn, evSs, evS, evE, evT, evTs, evArgs, evOps, evPairs, evIt, testE, testB, view1_eq, views, takes, putBack, setSlot, finOf, wipeE, e2, ex, hc, V.d, tI]
  · obtain ⟨x, q', k', hi, e⟩ := hn q hq 2 (by omega)
    exact ⟨.t ((x : Int) == 1), q', k', ⟨trivial, rfl⟩, by simp -implicitDefEqProofs [f__law_value, b__law_value, s__law_value_0t_0, s__law_value_0t, s__law_value_0, s__law_value_1t_0, s__law_value_1t, s__law_value_1, s__law_value_2, s__law_value_3, runFn, evSs, evS, evE, evT, evTs, evArgs, evOps, evPairs, evIt, testE, testB, view1_eq, views, takes, putBack, setSlot, finOf, wipeE, e, V.d]⟩
theorem c__law_val (wf n : Nat) : Sp__law_val (callN tab wf (n+2) i__law_value) := by
  have e : callN tab wf (n+2) i__law_value = runFn (callN tab wf (n+1)) tab.glob wf f__law_value := funext fun _ => callN_s rfl
  rw [e]; exact r__law_val _ wf (c__law_next wf n)
theorem c__law_value (wf n : Nat) : Sp__law_value (callN tab wf (n+3) i__law_value) := by
  have e : callN tab wf (n+3) i__law_value = runFn (callN tab wf (n+2)) tab.glob wf f__law_value := funext fun _ => callN_s rfl
  rw [e]; exact r__law_value _ wf (c__law_next wf (n+1)) (c__law_val wf n)
end Lw

namespace Lw
open PySem MP
/-! names and inputs, of any thing -/
def okP (d : D) : Bool := (d.plain && decide (d.dep ≤ 50)) || isDic d
def smL (x : List Nat) : Bool := x.all fun c => lts.contains c
def nameB (x : List Nat) : Bool := decide (1 ≤ x.length ∧ x.length ≤ 4) && (!leafW x && (!wordsL.contains x && smL x))
theorem in_words (x : List Nat) : cmpD .In (.str x) (.lst (wordsL.map .str)) = some (wordsL.contains x) := by
  rw [cmp_inL _ (eqOk_of (d := .str x) (e := .lst (wordsL.map .str)) rfl (plains_map _ (fun _ => rfl) wordsL) (by have := dep_strs wordsL; simp only [D.dep]; omega)), in_strs]
theorem in_small (c : Nat) (l : List Nat) : cmpD .In (.str [c]) (.str l) = some (l.contains c) := by
  show some (l.any (· == c)) = _
  congr 1
  induction l with
  | nil => rfl
  | cons a l ih => simp only [List.any_cons, List.contains_cons, ih]; rw [Bool.beq_comm]
def Sp_is_name (g : G) : Prop := (∀ x : List Nat, x.length ≤ 1000 → g [.dat (.str x)] = .ok (.dat (.bl (nameB x))) [.dat (.str x)]) ∧ ∀ d : D, isiD d .str = some false → g [.dat d] = .ok (.dat (.bl false)) [.dat d]
theorem r_is_name (call : Nat → G) (wf : Nat) (hw : Sp_words_told (call i_words_told)) : Sp_is_name (runFn call tab.glob wf f_is_name) := by
  have h1 : tab.glob g_MOST_SIGNS = some (.int 4) := rfl
  have h2 : tab.glob g_LEAVES = some (.tup [.str sYes, .str sNo, .str sNil]) := rfl
  have h3 : tab.glob g_SMALL = some (.str lts) := rfl
  have hw' : call i_words_told [] = .ok (.lst (wordsL.map .str)) [] := hw
  refine ⟨fun x hx => ?_, fun d hd => ?_⟩
  · have a1 := in_leaf x
    have a2 := in_words x
    have hc : evE ⟨call, tab.glob, [false], wf⟩ cm_is_name_0 [.dat (.str x), .un] = .ok (.lst (x.map fun c => .bl (lts.contains c))) [.dat (.str x), .un] :=
      ev_comp_map (xs := x) (fun c => .str [c]) (fun c => .bl (lts.contains c)) (ρ0 := [.dat (.str x), .un]) (by simp -implicitDefEqProofs [runFn, evSs, evS, evE, evT, evTs, evArgs, evOps, evPairs, evIt, testE, testB, view1_eq, views, takes, putBack, setSlot, finOf, wipeE]) rfl (fun c hc => ⟨[.dat (.str x), .dat (.str [c])], .dat (.bl (lts.contains c)), [.dat (.str x), .dat (.str [c])], rfl, by
        have := in_small c lts
        simp -implicitDefEqProofs [runFn, evSs, evS, evE, evT, evTs, evArgs, evOps, evPairs, evIt, testE, testB, view1_eq, views, takes, putBack, setSlot, finOf, wipeE, h3, this], rfl, rfl⟩) (by omega)
    have ha := all_map (fun c => lts.contains c) x
    unfold nameB smL
    generalize (x.map fun c => D.bl (lts.contains c)) = L at *
    generalize x.all (fun c => lts.contains c) = ab at *
    generalize wordsL.map D.str = WL at *
    generalize leafW x = b1 at *
    generalize wordsL.contains x = b2 at *
    have i1 : (1 : Int) ≤ (x.length : Int) ↔ 1 ≤ x.length := by omega
    have i2 : (x.length : Int) ≤ 4 ↔ x.length ≤ 4 := by omega
    by_cases q1 : 1 ≤ x.length
    · by_cases q2 : x.length ≤ 4
      · cases b1 <;> cases b2 <;> simp -implicitDefEqProofs [f_is_name, b_is_name, s_is_name_0t_0, s_is_name_0t, s_is_name_0, s_is_name_1, runFn, evSs, evS, evE, evT, evTs, evArgs, evOps, evPairs, evIt, testE, testB, view1_eq, views, takes, putBack, setSlot, finOf, wipeE, h1, h2, hw', a1, a2, hc, ha, i1, i2, q1, q2]
      · simp -implicitDefEqProofs [f_is_name, b_is_name, s_is_name_0t_0, s_is_name_0t, s_is_name_0, s_is_name_1, runFn, evSs, evS, evE, evT, evTs, evArgs, evOps, evPairs, evIt, testE, testB, view1_eq, views, takes, putBack, setSlot, finOf, wipeE, h1, h2, hw', a1, a2, hc, ha, i1, i2, q1, q2]
    · simp -implicitDefEqProofs [f_is_name, b_is_name, s_is_name_0t_0, s_is_name_0t, s_is_name_0, s_is_name_1, runFn, evSs, evS, evE, evT, evTs, evArgs, evOps, evPairs, evIt, testE, testB, view1_eq, views, takes, putBack, setSlot, finOf, wipeE, h1, h2, hw', a1, a2, hc, ha, i1, i2, q1]
  · simp -implicitDefEqProofs [f_is_name, b_is_name, s_is_name_0t_0, s_is_name_0t, s_is_name_0, s_is_name_1, runFn, evSs, evS, evE, evT, evTs, evArgs, evOps, evPairs, evIt, testE, testB, view1_eq, views, takes, putBack, setSlot, finOf, wipeE, hd]
theorem c_is_name (wf n : Nat) : Sp_is_name (callN tab wf (n+2) i_is_name) := by
  have e : callN tab wf (n+2) i_is_name = runFn (callN tab wf (n+1)) tab.glob wf f_is_name := funext fun _ => callN_s rfl
  rw [e]
  exact r_is_name (callN tab wf (n+1)) wf (c_words_told wf (n+0)) 
/-! inputs -/
def kindB : D → Bool
  | .str x => x == [110] || (x == [114] || x == [116])
  | _ => false
def stp (ns : List (List Nat)) : D → Option (List Nat)
  | .tup [.str s, k] => if nameB s && (!ns.contains s && kindB k) then some s else none
  | _ => none
def arL : List (List Nat) → List D → Bool
  | _, [] => true
  | ns, d :: r => match stp ns d with
    | some s => arL (ns ++ [s]) r
    | none => false
theorem arL_none {ns : List (List Nat)} {d : D} {r : List D} (h : stp ns d = none) : arL ns (d :: r) = false := by rw [arL, h]
theorem arL_some {ns : List (List Nat)} {d : D} {r : List D} {s : List Nat} (h : stp ns d = some s) : arL ns (d :: r) = arL (ns ++ [s]) r := by rw [arL, h]
def areI : D → Bool
  | .tup xs => decide (1 ≤ xs.length ∧ xs.length ≤ 3) && arL [] xs
  | _ => false
def okO : D → Bool
  | .tup ys => ys.all fun d => okP d && (match d with
    | .str x => decide (x.length ≤ 1000)
    | _ => true)
  | d => okP d
def okI : D → Bool
  | .tup xs => xs.all okO
  | d => okP d
theorem okP_isi {d : D} (h : okP d = true) : ∃ b, isiD d .str = some b := by
  cases d <;> first | exact ⟨_, rfl⟩ | (simp [okP, isDic, D.plain] at h; done)
theorem kind_in3 {k : D} (h : okP k = true) : ∃ b, cmpD .NotIn k (.tup [.str [110], .str [114], .str [116]]) = some b ∧ (b = true → kindB k = false) ∧ (b = false → ∃ x, k = .str x ∧ kindB k = true) := by
  simp only [okP, Bool.or_eq_true, Bool.and_eq_true, decide_eq_true_eq] at h
  rcases h with ⟨h1, h2⟩ | h
  · rw [cmp_ninT _ (eqOk_of h1 rfl (by decide))]
    refine ⟨_, rfl, ?_⟩
    cases k with
    | str x =>
      simp only [inD, List.any_cons, List.any_nil, D.eq, kindB, Bool.or_false]
      rw [Bool.beq_comm (a := [110]), Bool.beq_comm (a := [114]), Bool.beq_comm (a := [116])]
      cases (x == [110] || (x == [114] || x == [116])) <;> simp
    | _ => simp [inD, D.eq, kindB]
  · cases k <;> simp only [isDic, Bool.false_eq_true] at h
    exact ⟨true, rfl, fun _ => rfl, fun z => by cases z⟩
abbrev arC (call : Nat → G) (wf : Nat) : MP.Ctx := ⟨call, tab.glob, [false], wf⟩
def arB (call : Nat → G) (wf : Nat) : D → MP.Env → MP.R Fl := fun x ρ => (evT (arC call wf) (.var 2) (.dat x) ρ).bind fun _ ρ => evSs (arC call wf) s_are_inputs_2l ρ
theorem in_names (s : List Nat) (ns : List (List Nat)) : cmpD .In (.str s) (.lst (ns.map .str)) = some (ns.contains s) := by
  rw [cmp_inL _ (eqOk_of (d := .str s) (e := .lst (ns.map .str)) rfl (plains_map _ (fun _ => rfl) ns) (by have := dep_strs ns; simp only [D.dep]; omega)), in_strs]
theorem ar_step (call : Nat → G) (wf : Nat) (hn : Sp_is_name (call i_is_name)) (td : D) (s2 : Sl) (ns : List (List Nat)) (hl : ns.length ≤ 1000) {d : D} (hd : okO d = true) :
    match stp ns d with
      | some s => arB call wf d [.dat td, .lst (ns.map .str), s2] = .ok .nx [.dat td, .lst ((ns ++ [s]).map .str), .dat d]
      | none => arB call wf d [.dat td, .lst (ns.map .str), s2] = .ok (.ret (.dat (.bl false))) [.dat td, .lst (ns.map .str), .dat d] := by
  have bad : isiD d .tuple = some false → arB call wf d [.dat td, .lst (ns.map .str), s2] = .ok (.ret (.dat (.bl false))) [.dat td, .lst (ns.map .str), .dat d] := fun h => by
    unfold arB
    generalize ns.map D.str = L
    simp -implicitDefEqProofs [s_are_inputs_2l_0t_0, s_are_inputs_2l_0t, s_are_inputs_2l_0, s_are_inputs_2l_1t_0, s_are_inputs_2l_1t, s_are_inputs_2l_1, s_are_inputs_2l_2, s_are_inputs_2l, runFn, evSs, evS, evE, evT, evTs, evArgs, evOps, evPairs, evIt, testE, testB, view1_eq, views, takes, putBack, setSlot, finOf, wipeE, h]
  cases d with
  | tup ys =>
    match ys, hd with
    | [], _ =>
      unfold arB
      simp only [stp]
      generalize ns.map D.str = L
      simp -implicitDefEqProofs [s_are_inputs_2l_0t_0, s_are_inputs_2l_0t, s_are_inputs_2l_0, s_are_inputs_2l_1t_0, s_are_inputs_2l_1t, s_are_inputs_2l_1, s_are_inputs_2l_2, s_are_inputs_2l, runFn, evSs, evS, evE, evT, evTs, evArgs, evOps, evPairs, evIt, testE, testB, view1_eq, views, takes, putBack, setSlot, finOf, wipeE]
    | [a], _ =>
      unfold arB
      simp only [stp]
      generalize ns.map D.str = L
      simp -implicitDefEqProofs [s_are_inputs_2l_0t_0, s_are_inputs_2l_0t, s_are_inputs_2l_0, s_are_inputs_2l_1t_0, s_are_inputs_2l_1t, s_are_inputs_2l_1, s_are_inputs_2l_2, s_are_inputs_2l, runFn, evSs, evS, evE, evT, evTs, evArgs, evOps, evPairs, evIt, testE, testB, view1_eq, views, takes, putBack, setSlot, finOf, wipeE]
    | a :: b :: c :: ys, _ =>
      have n0 : ¬ ((ys.length : Int) + 1 + 1 + 1 = 2) := by omega
      unfold arB
      simp only [stp]
      generalize ns.map D.str = L
      simp -implicitDefEqProofs [s_are_inputs_2l_0t_0, s_are_inputs_2l_0t, s_are_inputs_2l_0, s_are_inputs_2l_1t_0, s_are_inputs_2l_1t, s_are_inputs_2l_1, s_are_inputs_2l_2, s_are_inputs_2l, runFn, evSs, evS, evE, evT, evTs, evArgs, evOps, evPairs, evIt, testE, testB, view1_eq, views, takes, putBack, setSlot, finOf, wipeE, n0]
    | [a, k], hd =>
      simp only [okO, List.all_cons, List.all_nil, Bool.and_true, Bool.and_eq_true] at hd
      obtain ⟨⟨ha, hx⟩, hk, _⟩ := hd
      obtain ⟨bi, hbi⟩ := okP_isi ha
      cases bi with
      | false =>
        have e1 := hn.2 a hbi
        have en : stp ns (.tup [a, k]) = none := by cases a <;> first | rfl | (simp [isiD] at hbi)
        rw [en]
        unfold arB
        generalize ns.map D.str = L
        simp -implicitDefEqProofs [s_are_inputs_2l_0t_0, s_are_inputs_2l_0t, s_are_inputs_2l_0, s_are_inputs_2l_1t_0, s_are_inputs_2l_1t, s_are_inputs_2l_1, s_are_inputs_2l_2, s_are_inputs_2l, runFn, evSs, evS, evE, evT, evTs, evArgs, evOps, evPairs, evIt, testE, testB, view1_eq, views, takes, putBack, setSlot, finOf, wipeE, at0, e1]
      | true =>
        obtain ⟨s, rfl⟩ : ∃ s, a = .str s := by cases a <;> first | exact ⟨_, rfl⟩ | (simp [isiD] at hbi)
        simp only [decide_eq_true_eq] at hx
        have e1 := hn.1 s hx
        have e2 := in_names s ns
        obtain ⟨b, e3, b1, b2⟩ := kind_in3 hk
        have f1 : fitsL (ns.length + 1) = true := fits_of (by omega)
        simp only [stp]
        unfold arB
        cases hnb : nameB s with
        | false =>
          rw [hnb] at e1
          simp only [Bool.false_and, Bool.false_eq_true, if_false]
          generalize ns.map D.str = L at *
          simp -implicitDefEqProofs [s_are_inputs_2l_0t_0, s_are_inputs_2l_0t, s_are_inputs_2l_0, s_are_inputs_2l_1t_0, s_are_inputs_2l_1t, s_are_inputs_2l_1, s_are_inputs_2l_2, s_are_inputs_2l, runFn, evSs, evS, evE, evT, evTs, evArgs, evOps, evPairs, evIt, testE, testB, view1_eq, views, takes, putBack, setSlot, finOf, wipeE, at0, e1]
        | true =>
          rw [hnb] at e1
          cases hc : ns.contains s with
          | true =>
            rw [hc] at e2
            simp only [Bool.true_and, Bool.not_true, Bool.false_and, Bool.and_false, Bool.false_eq_true, if_false]
            generalize ns.map D.str = L at *
            simp -implicitDefEqProofs [s_are_inputs_2l_0t_0, s_are_inputs_2l_0t, s_are_inputs_2l_0, s_are_inputs_2l_1t_0, s_are_inputs_2l_1t, s_are_inputs_2l_1, s_are_inputs_2l_2, s_are_inputs_2l, runFn, evSs, evS, evE, evT, evTs, evArgs, evOps, evPairs, evIt, testE, testB, view1_eq, views, takes, putBack, setSlot, finOf, wipeE, at0, e1, e2]
          | false =>
            rw [hc] at e2
            cases b with
            | true =>
              rw [b1 rfl]
              simp only [Bool.and_false, Bool.false_eq_true, if_false]
              generalize ns.map D.str = L at *
              simp -implicitDefEqProofs [s_are_inputs_2l_0t_0, s_are_inputs_2l_0t, s_are_inputs_2l_0, s_are_inputs_2l_1t_0, s_are_inputs_2l_1t, s_are_inputs_2l_1, s_are_inputs_2l_2, s_are_inputs_2l, runFn, evSs, evS, evE, evT, evTs, evArgs, evOps, evPairs, evIt, testE, testB, view1_eq, views, takes, putBack, setSlot, finOf, wipeE, at0, at1, e1, e2, e3]
            | false =>
              obtain ⟨x, rfl, hkb⟩ := b2 rfl
              rw [hkb]
              simp only [Bool.not_false, Bool.and_self, if_true, List.map_append, List.map_cons, List.map_nil]
              have lm : (ns.map D.str).length = ns.length := by simp
              rw [← lm] at f1
              generalize ns.map D.str = L at *
              simp -implicitDefEqProofs [s_are_inputs_2l_0t_0, s_are_inputs_2l_0t, s_are_inputs_2l_0, s_are_inputs_2l_1t_0, s_are_inputs_2l_1t, s_are_inputs_2l_1, s_are_inputs_2l_2, s_are_inputs_2l, runFn, evSs, evS, evE, evT, evTs, evArgs, evOps, evPairs, evIt, testE, testB, view1_eq, views, takes, putBack, setSlot, finOf, wipeE, at0, at1, e1, e2, e3, f1, mt_app]
  | _ => first | (simp [okO, okP, isDic, D.plain] at hd; done) | exact bad rfl
theorem ar_loop (call : Nat → G) (wf : Nat) (hn : Sp_is_name (call i_is_name)) (td : D) : ∀ (r : List D) (ns : List (List Nat)) (s2 : Sl), ns.length + r.length ≤ 1000 → r.all okO = true →
    ∃ s s', forL (arB call wf) r [.dat td, .lst (ns.map .str), s2] = .ok (if arL ns r then .nx else .ret (.dat (.bl false))) [.dat td, s, s']
  | [], ns, s2, _, _ => ⟨_, _, by simp [arL, forL]; exact ⟨rfl, rfl⟩⟩
  | d :: r, ns, s2, hl, h => by
    simp only [List.all_cons, Bool.and_eq_true] at h
    simp only [List.length_cons] at hl
    have st := ar_step call wf hn td s2 ns (by omega) h.1
    rcases Option.eq_none_or_eq_some (stp ns d) with hs | ⟨s, hs⟩
    · rw [hs] at st
      simp only at st
      rw [arL_none hs]
      exact ⟨_, _, by rw [forL_ret st]; rfl⟩
    · rw [hs] at st
      simp only at st
      rw [arL_some hs]
      obtain ⟨s1, s3, e⟩ := ar_loop call wf hn td r (ns ++ [s]) (.dat d) (by simp; omega) h.2
      exact ⟨s1, s3, by rw [forL_nx st, e]⟩
def Sp_are_inputs (g : G) : Prop := ∀ d : D, okI d = true → (∀ xs, d = .tup xs → xs.length ≤ 900) → g [.dat d] = .ok (.dat (.bl (areI d))) [.dat d]
theorem r_are_inputs (call : Nat → G) (wf : Nat) (hn : Sp_is_name (call i_is_name)) : Sp_are_inputs (runFn call tab.glob wf f_are_inputs) := by
  intro d hd hlen
  have h1 : tab.glob g_MOST_INPUTS = some (.int 3) := rfl
  cases d with
  | tup xs =>
    have hl := hlen xs rfl
    by_cases q : 1 ≤ xs.length ∧ xs.length ≤ 3
    · obtain ⟨s, s', e⟩ := ar_loop call wf hn (.tup xs) xs [] .un (by simp; omega) hd
      have i1 : (1 : Int) ≤ (xs.length : Int) := by omega
      have i2 : (xs.length : Int) ≤ 3 := by omega
      have r0 : evSs (arC call wf) (.cons s_are_inputs_0 (.cons s_are_inputs_1 .nil)) [.dat (.tup xs), .un, .un] = .ok .nx [.dat (.tup xs), .lst [], .un] := by simp -implicitDefEqProofs [s_are_inputs_0, s_are_inputs_1, runFn, evSs, evS, evE, evT, evTs, evArgs, evOps, evPairs, evIt, testE, testB, view1_eq, views, takes, putBack, setSlot, finOf, wipeE, h1, i1, i2]
      have ei : evIt (arC call wf) (.e (.var 0)) [.dat (.tup xs), .lst [], .un] = .ok xs [.dat (.tup xs), .lst [], .un] := by simp -implicitDefEqProofs [runFn, evSs, evS, evE, evT, evTs, evArgs, evOps, evPairs, evIt, testE, testB, view1_eq, views, takes, putBack, setSlot, finOf, wipeE]
      simp only [areI, decide_eq_true q, Bool.true_and]
      cases hb : arL [] xs with
      | true =>
        rw [hb] at e
        have r1 : evS (arC call wf) s_are_inputs_2 [.dat (.tup xs), .lst [], .un] = .ok .nx [.dat (.tup xs), s, s'] := by
          rw [s_are_inputs_2, evS, ei, rbind_ok]; exact e
        have r2 : evS (arC call wf) s_are_inputs_3 [.dat (.tup xs), s, s'] = .ok (.ret (.dat (.bl true))) [.dat (.tup xs), s, s'] := by simp -implicitDefEqProofs [s_are_inputs_3, runFn, evSs, evS, evE, evT, evTs, evArgs, evOps, evPairs, evIt, testE, testB, view1_eq, views, takes, putBack, setSlot, finOf, wipeE]
        exact run_ret2 rfl ((evSs_pre2 r0).trans ((evSs_nx r1).trans (evSs_ret r2))) rfl
      | false =>
        rw [hb] at e
        have r1 : evS (arC call wf) s_are_inputs_2 [.dat (.tup xs), .lst [], .un] = .ok (.ret (.dat (.bl false))) [.dat (.tup xs), s, s'] := by
          rw [s_are_inputs_2, evS, ei, rbind_ok]; exact e
        exact run_ret2 rfl ((evSs_pre2 r0).trans (evSs_ret r1)) rfl
    · simp only [areI, decide_eq_false q, Bool.false_and]
      by_cases q1 : 1 ≤ xs.length
      · have i1 : (1 : Int) ≤ (xs.length : Int) := by omega
        have i2 : ¬ ((xs.length : Int) ≤ 3) := by omega
        simp -implicitDefEqProofs [f_are_inputs, b_are_inputs, s_are_inputs_0t_0, s_are_inputs_0t, s_are_inputs_0, s_are_inputs_1, s_are_inputs_2, s_are_inputs_3, runFn, evSs, evS, evE, evT, evTs, evArgs, evOps, evPairs, evIt, testE, testB, view1_eq, views, takes, putBack, setSlot, finOf, wipeE, h1, i1, i2]
      · have i1 : ¬ ((1 : Int) ≤ (xs.length : Int)) := by omega
        simp -implicitDefEqProofs [f_are_inputs, b_are_inputs, s_are_inputs_0t_0, s_are_inputs_0t, s_are_inputs_0, s_are_inputs_1, s_are_inputs_2, s_are_inputs_3, runFn, evSs, evS, evE, evT, evTs, evArgs, evOps, evPairs, evIt, testE, testB, view1_eq, views, takes, putBack, setSlot, finOf, wipeE, h1, i1]
  | _ => first | (simp -implicitDefEqProofs [okI, okP, isDic, D.plain] at hd; done) | simp -implicitDefEqProofs [f_are_inputs, b_are_inputs, s_are_inputs_0t_0, s_are_inputs_0t, s_are_inputs_0, s_are_inputs_1, s_are_inputs_2, s_are_inputs_3, runFn, evSs, evS, evE, evT, evTs, evArgs, evOps, evPairs, evIt, testE, testB, view1_eq, views, takes, putBack, setSlot, finOf, wipeE, isiD, areI]
theorem c_are_inputs (wf n : Nat) : Sp_are_inputs (callN tab wf (n+3) i_are_inputs) := by
  have e : callN tab wf (n+3) i_are_inputs = runFn (callN tab wf (n+2)) tab.glob wf f_are_inputs := funext fun _ => callN_s rfl
  rw [e]
  exact r_are_inputs (callN tab wf (n+2)) wf (c_is_name wf (n+0))
end Lw

namespace Lw
open PySem MP
/-- what is no object of a class, no error, not the script -/
def okD : D → Bool
  | .obj _ _ => false
  | .exn _ _ => false
  | .scr _ => false
  | .pr _ => false
  | .cdic _ _ => false
  | .tdic _ _ => false
  | _ => true
def okDD : D → Bool
  | .tup xs => xs.all okD
  | d => okD d
def numD : D → Bool
  | .int i => decide (-9999 ≤ i) && decide (i ≤ 9999)
  | _ => false
def kindD : D → D
  | .bl _ => .str [116]
  | .int i => if numD (.int i) then .str [110] else .non
  | .tup xs => if decide (xs.length ≤ 8) && xs.all numD then .str [114] else .non
  | _ => .non
def Sp_is_number (g : G) : Prop := ∀ d : D, okD d = true → g [.dat d] = .ok (.dat (.bl (numD d))) [.dat d]
def Sp_kind_of (g : G) : Prop := ∀ d : D, okDD d = true → g [.dat d] = .ok (.dat (kindD d)) [.dat d]
theorem r_is_number (call : Nat → G) (wf : Nat) : Sp_is_number (runFn call tab.glob wf f_is_number) := by
  intro d h
  have g0 : tab.glob g_MOST_NUMBER = some (.int 9999) := rfl
  cases d with
  | obj _ _ => simp [okD] at h
  | exn _ _ => simp [okD] at h
  | scr _ => simp [okD] at h
  | pr _ => simp [okD] at h
  | cdic _ _ => simp [okD] at h
  | tdic _ _ => simp [okD] at h
  | int i => by_cases h1 : -9999 ≤ i <;> simp -implicitDefEqProofs [f_is_number, b_is_number, s_is_number_0, runFn, evSs, evS, evE, evT, evTs, evArgs, evOps, evPairs, evIt, testE, testB, view1_eq, views, takes, putBack, setSlot, finOf, wipeE, g0, numD, h1]
  | _ => simp -implicitDefEqProofs [f_is_number, b_is_number, s_is_number_0, runFn, evSs, evS, evE, evT, evTs, evArgs, evOps, evPairs, evIt, testE, testB, view1_eq, views, takes, putBack, setSlot, finOf, wipeE, isiD, numD]
theorem r_kind_of (call : Nat → G) (wf : Nat) (hi : Sp_is_number (call i_is_number)) : Sp_kind_of (runFn call tab.glob wf f_kind_of) := by
  intro d h
  have g0 : tab.glob g_MOST_ROW = some (.int 8) := rfl
  cases d with
  | obj _ _ => simp [okDD, okD] at h
  | exn _ _ => simp [okDD, okD] at h
  | scr _ => simp [okDD, okD] at h
  | pr _ => simp [okDD, okD] at h
  | cdic _ _ => simp [okDD, okD] at h
  | tdic _ _ => simp [okDD, okD] at h
  | tup xs =>
    have hd : call i_is_number [.dat (.tup xs)] = .ok (.dat (.bl false)) [.dat (.tup xs)] := hi (.tup xs) rfl
    simp only [okDD, List.all_eq_true] at h
    by_cases hl : xs.length ≤ 8
    · have hle : ((xs.length : Int) ≤ 8) := by omega
      have hc : ∀ own, evE ⟨call, tab.glob, own, wf⟩ cm_kind_of_0 [.dat (.tup xs), .un] = .ok (.lst (xs.map fun d => .bl (numD d))) [.dat (.tup xs), .un] := by
        intro own
        have hf : fitsL (xs.map fun d => D.bl (numD d)).length = true := fits_of (by simp; omega)
        have e : compL (fun x ρ => R.opt (bindT [1] (.var 1) x ρ) fun ρ => (evE ⟨call, tab.glob, own, wf⟩ (.call i_is_number (.cons (.var 1) .nil)) ρ).bind fun s ρ => .ok (some s.cap) (wipeE [1] ρ)) (xs.map id) [.dat (.tup xs), .un] = .ok (xs.map fun d => .bl (numD d)) [.dat (.tup xs), .un] := by
          refine compL_map fun d hd => ?_
          have := hi d (h d hd)
          simp -implicitDefEqProofs [bindT, runFn, evSs, evS, evE, evT, evTs, evArgs, evOps, evPairs, evIt, testE, testB, view1_eq, views, takes, putBack, setSlot, finOf, wipeE, this]
        rw [List.map_id] at e
        unfold cm_kind_of_0
        simp only [evE, evIt, getS_dat, rbind_ok, cap_dat, items_tup, ofO_some, List.set_cons_zero, wipeE, List.set_cons_succ]
        simp only [evE, wipeE] at e
        rw [e, rbind_ok, hf, if_pos rfl]
      have ha := all_map numD xs
      have hk : kindD (.tup xs) = if xs.all numD then .str [114] else .non := by simp [kindD, hl]
      rw [hk]
      generalize xs.all numD = b at ha
      cases b <;> simp -implicitDefEqProofs [f_kind_of, b_kind_of, s_kind_of_0t_0, s_kind_of_0t, s_kind_of_0, s_kind_of_1t_0, s_kind_of_1t, s_kind_of_1, s_kind_of_2t_0, s_kind_of_2t, s_kind_of_2, s_kind_of_3, runFn, evSs, evS, evE, evT, evTs, evArgs, evOps, evPairs, evIt, testE, testB, view1_eq, views, takes, putBack, setSlot, finOf, wipeE, hd, g0, hle, hc, ha]
    · have hle : ¬ ((xs.length : Int) ≤ 8) := by omega
      simp -implicitDefEqProofs [f_kind_of, b_kind_of, s_kind_of_0t_0, s_kind_of_0t, s_kind_of_0, s_kind_of_1t_0, s_kind_of_1t, s_kind_of_1, s_kind_of_2t_0, s_kind_of_2t, s_kind_of_2, s_kind_of_3, runFn, evSs, evS, evE, evT, evTs, evArgs, evOps, evPairs, evIt, testE, testB, view1_eq, views, takes, putBack, setSlot, finOf, wipeE, hd, g0, kindD, hl, hle]
  | int i => cases hq : numD (.int i) <;> simp -implicitDefEqProofs [f_kind_of, b_kind_of, s_kind_of_0t_0, s_kind_of_0t, s_kind_of_0, s_kind_of_1t_0, s_kind_of_1t, s_kind_of_1, s_kind_of_2t_0, s_kind_of_2t, s_kind_of_2, s_kind_of_3, runFn, evSs, evS, evE, evT, evTs, evArgs, evOps, evPairs, evIt, testE, testB, view1_eq, views, takes, putBack, setSlot, finOf, wipeE, hi (.int i) rfl, hq, kindD]
  | non => simp -implicitDefEqProofs [f_kind_of, b_kind_of, s_kind_of_0t_0, s_kind_of_0t, s_kind_of_0, s_kind_of_1t_0, s_kind_of_1t, s_kind_of_1, s_kind_of_2t_0, s_kind_of_2t, s_kind_of_2, s_kind_of_3, runFn, evSs, evS, evE, evT, evTs, evArgs, evOps, evPairs, evIt, testE, testB, view1_eq, views, takes, putBack, setSlot, finOf, wipeE, hi (.non) rfl, isiD, numD, kindD]
  | bl b => simp -implicitDefEqProofs [f_kind_of, b_kind_of, s_kind_of_0t_0, s_kind_of_0t, s_kind_of_0, s_kind_of_1t_0, s_kind_of_1t, s_kind_of_1, s_kind_of_2t_0, s_kind_of_2t, s_kind_of_2, s_kind_of_3, runFn, evSs, evS, evE, evT, evTs, evArgs, evOps, evPairs, evIt, testE, testB, view1_eq, views, takes, putBack, setSlot, finOf, wipeE, hi (.bl b) rfl, isiD, numD, kindD]
  | str x => simp -implicitDefEqProofs [f_kind_of, b_kind_of, s_kind_of_0t_0, s_kind_of_0t, s_kind_of_0, s_kind_of_1t_0, s_kind_of_1t, s_kind_of_1, s_kind_of_2t_0, s_kind_of_2t, s_kind_of_2, s_kind_of_3, runFn, evSs, evS, evE, evT, evTs, evArgs, evOps, evPairs, evIt, testE, testB, view1_eq, views, takes, putBack, setSlot, finOf, wipeE, hi (.str x) rfl, isiD, numD, kindD]
  | lst x => simp -implicitDefEqProofs [f_kind_of, b_kind_of, s_kind_of_0t_0, s_kind_of_0t, s_kind_of_0, s_kind_of_1t_0, s_kind_of_1t, s_kind_of_1, s_kind_of_2t_0, s_kind_of_2t, s_kind_of_2, s_kind_of_3, runFn, evSs, evS, evE, evT, evTs, evArgs, evOps, evPairs, evIt, testE, testB, view1_eq, views, takes, putBack, setSlot, finOf, wipeE, hi (.lst x) rfl, isiD, numD, kindD]
  | dic x y => simp -implicitDefEqProofs [f_kind_of, b_kind_of, s_kind_of_0t_0, s_kind_of_0t, s_kind_of_0, s_kind_of_1t_0, s_kind_of_1t, s_kind_of_1, s_kind_of_2t_0, s_kind_of_2t, s_kind_of_2, s_kind_of_3, runFn, evSs, evS, evE, evT, evTs, evArgs, evOps, evPairs, evIt, testE, testB, view1_eq, views, takes, putBack, setSlot, finOf, wipeE, hi (.dic x y) rfl, isiD, numD, kindD]
theorem c_is_number (wf n : Nat) : Sp_is_number (callN tab wf (n+1) i_is_number) := by
  have e : callN tab wf (n+1) i_is_number = runFn (callN tab wf (n+0)) tab.glob wf f_is_number := funext fun _ => callN_s rfl
  rw [e]
  exact r_is_number (callN tab wf (n+0)) wf  
theorem c_kind_of (wf n : Nat) : Sp_kind_of (callN tab wf (n+2) i_kind_of) := by
  have e : callN tab wf (n+2) i_kind_of = runFn (callN tab wf (n+1)) tab.glob wf f_kind_of := funext fun _ => callN_s rfl
  rw [e]
  exact r_kind_of (callN tab wf (n+1)) wf (c_is_number wf (n+0))
end Lw

namespace Lw
open PySem MP
/-! what makes a task, as the program tells it -/
theorem call_of {wf n i : Nat} {F : Fn} (h : tab.fn[i]? = some F) : callN tab wf (n + 1) i = runFn (callN tab wf n) tab.glob wf F := funext fun _ => callN_s h
/-! rising -/
theorem range1 (n : Nat) (h : n ≤ 1000) : rngL 1 n = (List.range n).map fun (j : Nat) => D.int (((j + 1 : Nat)) : Int) := by
  unfold rngL
  refine List.map_congr_left fun j _ => ?_
  congr 1
  omega
def ltD (x y : D) : Bool := match cmpD .Lt x y with
  | some b => b
  | none => false
theorem lt_str (x y : List Nat) : cmpD .Lt (.str x) (.str y) = some (ltL x y) := rfl
/-- strs or numbers that rise -/
theorem r_are_rising_str (call : Nat → G) (wf : Nat) (ws : List (List Nat)) (hl : ws.length ≤ 900) (hp : ws.Pairwise fun a b => ltL a b = true) :
    runFn call tab.glob wf f_are_rising [.dat (.tup (ws.map .str))] = .ok (.dat (.bl true)) [.dat (.tup (ws.map .str))] := by
  have hn : (((ws.map D.str).length : Int) - 1).toNat = ws.length - 1 := by simp
  have hc : evE ⟨call, tab.glob, [false], wf⟩ cm_are_rising_0 [.dat (.tup (ws.map .str)), .un] = .ok (.lst ((List.range (ws.length - 1)).map fun _ => .bl true)) [.dat (.tup (ws.map .str)), .un] :=
    ev_comp_map (xs := List.range (ws.length - 1)) (fun (j : Nat) => D.int (((j + 1 : Nat)) : Int)) (fun _ => .bl true) (ρ0 := [.dat (.tup (ws.map .str)), .un]) (by
      rw [← range1 _ (by omega)]
      have hr : rngOk 1 (((ws.map D.str).length : Nat) : Int) = true := rngOk_of (by omega) (by omega) (by omega) (by simp; omega)
      generalize ws.map D.str = L at *
      simp -implicitDefEqProofs [runFn, evSs, evS, evE, evT, evTs, evArgs, evOps, evPairs, evIt, testE, testB, view1_eq, views, takes, putBack, setSlot, finOf, wipeE, hr, hn]) rfl (fun j hj => ⟨[.dat (.tup (ws.map .str)), .dat (.int (((j + 1 : Nat)) : Int))], .dat (.bl true), [.dat (.tup (ws.map .str)), .dat (.int (((j + 1 : Nat)) : Int))], rfl, by
      have hj' := List.mem_range.mp hj
      have e1 : L2.atI (ws.map D.str) ((j : Nat) : Int) = some (.str (ws[j]'(by omega))) := by rw [atI_nat _ _ (by simp; omega)]; simp
      have e2 : L2.atI (ws.map D.str) (((j + 1 : Nat)) : Int) = some (.str (ws[j + 1]'(by omega))) := by rw [atI_nat _ _ (by simp; omega)]; simp
      have lt := List.pairwise_iff_getElem.mp hp j (j + 1) (by omega) (by omega) (by omega)
      have cl : cmpD .Lt (.str (ws[j]'(by omega))) (.str (ws[j + 1]'(by omega))) = some true := by rw [lt_str, lt]
      generalize ws[j] = a at *
      generalize ws[j + 1] = b at *
      generalize ws.map D.str = L at *
      have ej : (((j + 1 : Nat)) : Int) = (j : Int) + 1 := by omega
      rw [ej] at e2 ⊢
      have ej2 : (j : Int) + 1 - 1 = (j : Int) := by omega
      simp -implicitDefEqProofs [runFn, evSs, evS, evE, evT, evTs, evArgs, evOps, evPairs, evIt, testE, testB, view1_eq, views, takes, putBack, setSlot, finOf, wipeE, ej2, e1, e2, cl], rfl, rfl⟩) (by simp; omega)
  have ha := all_map (fun _ => true) (List.range (ws.length - 1))
  have hb : (List.range (ws.length - 1)).all (fun _ => true) = true := by simp
  rw [hb] at ha
  generalize ws.map D.str = L at *
  generalize (List.range (ws.length - 1)).map (fun _ => D.bl true) = L2 at *
  simp -implicitDefEqProofs [f_are_rising, b_are_rising, s_are_rising_0, runFn, evSs, evS, evE, evT, evTs, evArgs, evOps, evPairs, evIt, testE, testB, view1_eq, views, takes, putBack, setSlot, finOf, wipeE, hc, ha]
theorem r_are_rising_int (call : Nat → G) (wf : Nat) (ws : List Int) (hl : ws.length ≤ 900) (hp : ws.Pairwise fun a b => a < b) :
    runFn call tab.glob wf f_are_rising [.dat (.tup (ws.map .int))] = .ok (.dat (.bl true)) [.dat (.tup (ws.map .int))] := by
  have hn : (((ws.map D.int).length : Int) - 1).toNat = ws.length - 1 := by simp
  have hc : evE ⟨call, tab.glob, [false], wf⟩ cm_are_rising_0 [.dat (.tup (ws.map .int)), .un] = .ok (.lst ((List.range (ws.length - 1)).map fun _ => .bl true)) [.dat (.tup (ws.map .int)), .un] :=
    ev_comp_map (xs := List.range (ws.length - 1)) (fun (j : Nat) => D.int (((j + 1 : Nat)) : Int)) (fun _ => .bl true) (ρ0 := [.dat (.tup (ws.map .int)), .un]) (by
      rw [← range1 _ (by omega)]
      have hr : rngOk 1 (((ws.map D.int).length : Nat) : Int) = true := rngOk_of (by omega) (by omega) (by omega) (by simp; omega)
      generalize ws.map D.int = L at *
      simp -implicitDefEqProofs [runFn, evSs, evS, evE, evT, evTs, evArgs, evOps, evPairs, evIt, testE, testB, view1_eq, views, takes, putBack, setSlot, finOf, wipeE, hr, hn]) rfl (fun j hj => ⟨[.dat (.tup (ws.map .int)), .dat (.int (((j + 1 : Nat)) : Int))], .dat (.bl true), [.dat (.tup (ws.map .int)), .dat (.int (((j + 1 : Nat)) : Int))], rfl, by
      have hj' := List.mem_range.mp hj
      have e1 : L2.atI (ws.map D.int) ((j : Nat) : Int) = some (.int (ws[j]'(by omega))) := by rw [atI_nat _ _ (by simp; omega)]; simp
      have e2 : L2.atI (ws.map D.int) (((j + 1 : Nat)) : Int) = some (.int (ws[j + 1]'(by omega))) := by rw [atI_nat _ _ (by simp; omega)]; simp
      have lt := List.pairwise_iff_getElem.mp hp j (j + 1) (by omega) (by omega) (by omega)
      generalize ws[j] = a at *
      generalize ws[j + 1] = b at *
      generalize ws.map D.int = L at *
      have ej : (((j + 1 : Nat)) : Int) = (j : Int) + 1 := by omega
      rw [ej] at e2 ⊢
      have ej2 : (j : Int) + 1 - 1 = (j : Int) := by omega
      simp -implicitDefEqProofs [runFn, evSs, evS, evE, evT, evTs, evArgs, evOps, evPairs, evIt, testE, testB, view1_eq, views, takes, putBack, setSlot, finOf, wipeE, ej2, e1, e2, lt], rfl, rfl⟩) (by simp; omega)
  have ha := all_map (fun _ => true) (List.range (ws.length - 1))
  have hb : (List.range (ws.length - 1)).all (fun _ => true) = true := by simp
  rw [hb] at ha
  generalize ws.map D.int = L at *
  generalize (List.range (ws.length - 1)).map (fun _ => D.bl true) = L2 at *
  simp -implicitDefEqProofs [f_are_rising, b_are_rising, s_are_rising_0, runFn, evSs, evS, evE, evT, evTs, evArgs, evOps, evPairs, evIt, testE, testB, view1_eq, views, takes, putBack, setSlot, finOf, wipeE, hc, ha]
structure Sp_are_rising (g : G) : Prop where
  str : ∀ ws : List (List Nat), ws.length ≤ 900 → ws.Pairwise (fun a b => ltL a b = true) → g [.dat (.tup (ws.map .str))] = .ok (.dat (.bl true)) [.dat (.tup (ws.map .str))]
  int : ∀ ws : List Int, ws.length ≤ 900 → ws.Pairwise (fun a b => a < b) → g [.dat (.tup (ws.map .int))] = .ok (.dat (.bl true)) [.dat (.tup (ws.map .int))]
theorem c_are_rising (wf n : Nat) : Sp_are_rising (callN tab wf (n + 1) i_are_rising) := by
  rw [call_of (F := f_are_rising) rfl]
  exact ⟨fun ws hl hp => r_are_rising_str _ wf ws hl hp, fun ws hl hp => r_are_rising_int _ wf ws hl hp⟩
/-! words -/
theorem words_sorted : wordsL.Pairwise fun a b => ltL a b = true := by decide
def Sp_are_words (g : G) : Prop := ∀ ws : List (List Nat), ws.Sublist wordsL → ws.length ≤ 8 → g [.dat (.tup (ws.map .str))] = .ok (.dat (.bl true)) [.dat (.tup (ws.map .str))]
theorem r_are_words (call : Nat → G) (wf : Nat) (hw : Sp_words_told (call i_words_told)) (hr : Sp_are_rising (call i_are_rising)) : Sp_are_words (runFn call tab.glob wf f_are_words) := by
  intro ws hs hl
  have h1 : tab.glob g_MOST_WORDS = some (.int 8) := rfl
  have hw' : call i_words_told [] = .ok (.lst (wordsL.map .str)) [] := hw
  have e := hr.str ws (by omega) (words_sorted.sublist hs)
  have hc : evE ⟨call, tab.glob, [false], wf⟩ cm_are_words_0 [.dat (.tup (ws.map .str)), .un] = .ok (.lst (ws.map fun _ => .bl true)) [.dat (.tup (ws.map .str)), .un] :=
    ev_comp_map (xs := ws) D.str (fun _ => .bl true) (ρ0 := [.dat (.tup (ws.map .str)), .un]) (by simp -implicitDefEqProofs [runFn, evSs, evS, evE, evT, evTs, evArgs, evOps, evPairs, evIt, testE, testB, view1_eq, views, takes, putBack, setSlot, finOf, wipeE]) rfl (fun x hx => ⟨[.dat (.tup (ws.map .str)), .dat (.str x)], .dat (.bl true), [.dat (.tup (ws.map .str)), .dat (.str x)], rfl, by
      have a2 := in_words x
      have hm : wordsL.contains x = true := by simpa using hs.subset hx
      rw [hm] at a2
      generalize ws.map D.str = L at *
      generalize wordsL.map D.str = WL at *
      simp -implicitDefEqProofs [runFn, evSs, evS, evE, evT, evTs, evArgs, evOps, evPairs, evIt, testE, testB, view1_eq, views, takes, putBack, setSlot, finOf, wipeE, hw', a2], rfl, rfl⟩) (by omega)
  have ha := all_map (fun _ => true) ws
  have hb : ws.all (fun _ => true) = true := by simp
  rw [hb] at ha
  have n8 : ¬ ((8 : Int) < ((ws.map D.str).length : Int)) := by simp; omega
  generalize ws.map D.str = L at *
  generalize ws.map (fun _ => D.bl true) = L2 at *
  simp -implicitDefEqProofs [f_are_words, b_are_words, s_are_words_0t_0, s_are_words_0t, s_are_words_0, s_are_words_1, runFn, evSs, evS, evE, evT, evTs, evArgs, evOps, evPairs, evIt, testE, testB, view1_eq, views, takes, putBack, setSlot, finOf, wipeE, h1, n8, hc, ha, e]
theorem c_are_words (wf n : Nat) : Sp_are_words (callN tab wf (n + 2) i_are_words) := by
  rw [call_of (F := f_are_words) rfl]; exact r_are_words _ wf (c_words_told wf n) (c_are_rising wf n)
/-! numbers -/
def Sp_is_figure (g : G) : Prop := ∀ i : Int, -9 ≤ i → i ≤ 9 → g [.dat (.int i)] = .ok (.dat (.bl true)) [.dat (.int i)]
theorem c_is_figure (wf n : Nat) : Sp_is_figure (callN tab wf (n + 1) i_is_figure) := by
  rw [call_of (F := f_is_figure) rfl]
  intro i h1 h2
  have g0 : tab.glob g_GREATEST = some (.int 9) := rfl
  simp -implicitDefEqProofs [f_is_figure, b_is_figure, s_is_figure_0, runFn, evSs, evS, evE, evT, evTs, evArgs, evOps, evPairs, evIt, testE, testB, view1_eq, views, takes, putBack, setSlot, finOf, wipeE, g0, h1, h2]
def Sp_are_numbers (g : G) : Prop := ∀ ws : List Int, ws.Pairwise (fun a b => a < b) → (∀ i ∈ ws, -9 ≤ i ∧ i ≤ 9) → ws.length ≤ 4 → g [.dat (.tup (ws.map .int))] = .ok (.dat (.bl true)) [.dat (.tup (ws.map .int))]
theorem r_are_numbers (call : Nat → G) (wf : Nat) (hf : Sp_is_figure (call i_is_figure)) (hr : Sp_are_rising (call i_are_rising)) : Sp_are_numbers (runFn call tab.glob wf f_are_numbers) := by
  intro ws hp hi hl
  have h1 : tab.glob g_MOST_NUMBERS = some (.int 4) := rfl
  have e := hr.int ws (by omega) hp
  have hc : evE ⟨call, tab.glob, [false], wf⟩ cm_are_numbers_0 [.dat (.tup (ws.map .int)), .un] = .ok (.lst (ws.map fun _ => .bl true)) [.dat (.tup (ws.map .int)), .un] :=
    ev_comp_map (xs := ws) D.int (fun _ => .bl true) (ρ0 := [.dat (.tup (ws.map .int)), .un]) (by simp -implicitDefEqProofs [runFn, evSs, evS, evE, evT, evTs, evArgs, evOps, evPairs, evIt, testE, testB, view1_eq, views, takes, putBack, setSlot, finOf, wipeE]) rfl (fun x hx => ⟨[.dat (.tup (ws.map .int)), .dat (.int x)], .dat (.bl true), [.dat (.tup (ws.map .int)), .dat (.int x)], rfl, by
      have a2 := hf x (hi x hx).1 (hi x hx).2
      generalize ws.map D.int = L at *
      simp -implicitDefEqProofs [runFn, evSs, evS, evE, evT, evTs, evArgs, evOps, evPairs, evIt, testE, testB, view1_eq, views, takes, putBack, setSlot, finOf, wipeE, a2], rfl, rfl⟩) (by omega)
  have ha := all_map (fun _ => true) ws
  have hb : ws.all (fun _ => true) = true := by simp
  rw [hb] at ha
  have n8 : ¬ ((4 : Int) < ((ws.map D.int).length : Int)) := by simp; omega
  generalize ws.map D.int = L at *
  generalize ws.map (fun _ => D.bl true) = L2 at *
  simp -implicitDefEqProofs [f_are_numbers, b_are_numbers, s_are_numbers_0t_0, s_are_numbers_0t, s_are_numbers_0, s_are_numbers_1, runFn, evSs, evS, evE, evT, evTs, evArgs, evOps, evPairs, evIt, testE, testB, view1_eq, views, takes, putBack, setSlot, finOf, wipeE, h1, n8, hc, ha, e]
theorem c_are_numbers (wf n : Nat) : Sp_are_numbers (callN tab wf (n + 2) i_are_numbers) := by
  rw [call_of (F := f_are_numbers) rfl]; exact r_are_numbers _ wf (c_is_figure wf n) (c_are_rising wf n)
/-! examples, of nearly any thing -/
def kB (d : D) (c : Nat) : Bool := D.eq (kindD d) (.str [c])
theorem kindD_plain (d : D) : (kindD d).plain = true := by
  cases d with
  | int i => simp only [kindD]; split <;> rfl
  | tup xs => simp only [kindD]; split <;> rfl
  | _ => rfl
theorem kindD_eq (d : D) (c : Nat) : cmpD .Eq (kindD d) (.str [c]) = some (kB d c) := cmp_eq (eqOk_of (kindD_plain d) rfl (by simp [D.dep]))
def givB (ins : InsL) : D → Bool
  | .tup l => decide (l.length = ins.length) && (l.zip ins).all fun p => kB p.1 p.2.2
  | _ => false
def exB (ins : InsL) (k : Nat) : D → Bool
  | .tup [a, b] => givB ins a && kB b k
  | _ => false
def exsB (ins : InsL) (k : Nat) : D → Bool
  | .tup l => decide (l.length ≤ 6) && l.all (exB ins k)
  | _ => false
def okGv : D → Bool
  | .tup l => l.all okDD && decide (l.length ≤ 900)
  | d => okD d
def okEx : D → Bool
  | .tup [a, b] => okGv a && okDD b
  | .tup l => decide (l.length ≤ 900)
  | d => okD d
def okEs : D → Bool
  | .tup l => l.all okEx && decide (l.length ≤ 900)
  | d => okD d
theorem okGv_nt {d : D} (h : okGv d = true) (n : ∀ l, d ≠ .tup l) (ins : InsL) : isiD d .tuple = some false ∧ givB ins d = false := by
  cases d <;> first | exact ⟨rfl, rfl⟩ | exact absurd rfl (n _) | (simp [okGv, okD] at h; done)
theorem okEx_nt {d : D} (h : okEx d = true) (n : ∀ l, d ≠ .tup l) (ins : InsL) (k : Nat) : isiD d .tuple = some false ∧ exB ins k d = false := by
  cases d <;> first | exact ⟨rfl, rfl⟩ | exact absurd rfl (n _) | (simp [okEx, okD] at h; done)
theorem okEs_nt {d : D} (h : okEs d = true) (n : ∀ l, d ≠ .tup l) (ins : InsL) (k : Nat) : isiD d .tuple = some false ∧ exsB ins k d = false := by
  cases d <;> first | exact ⟨rfl, rfl⟩ | exact absurd rfl (n _) | (simp [okEs, okD] at h; done)
def Sp_is_given (g : G) : Prop := ∀ (ins : InsL) (d : D), Ins ins → okGv d = true → g [.dat d, .dat (insD ins)] = .ok (.dat (.bl (givB ins d))) [.dat d, .dat (insD ins)]
theorem zip_pr : ∀ (l : List D) (ins : InsL), zipL l (ins.map insP) = (l.zip ins).map fun p => D.pr [p.1, insP p.2]
  | [], _ => rfl
  | _ :: _, [] => rfl
  | a :: l, p :: ins => by simp only [List.map_cons, zipL, List.zip_cons_cons, zip_pr l ins]
theorem r_is_given (call : Nat → G) (wf : Nat) (hk : Sp_kind_of (call i_kind_of)) : Sp_is_given (runFn call tab.glob wf f_is_given) := by
  intro ins d hi hd
  have nt : (∀ l, d ≠ .tup l) → runFn call tab.glob wf f_is_given [.dat d, .dat (insD ins)] = .ok (.dat (.bl (givB ins d))) [.dat d, .dat (insD ins)] := fun n => by
    obtain ⟨hf, ef⟩ := okGv_nt hd n ins
    rw [ef]
    generalize insD ins = id at *
    simp -implicitDefEqProofs [f_is_given, b_is_given, s_is_given_0t_0, s_is_given_0t, s_is_given_0, s_is_given_1, runFn, evSs, evS, evE, evT, evTs, evArgs, evOps, evPairs, evIt, testE, testB, view1_eq, views, takes, putBack, setSlot, finOf, wipeE, hf]
  cases d with
  | tup l =>
    simp only [okGv, Bool.and_eq_true, decide_eq_true_eq, List.all_eq_true] at hd
    by_cases hl : l.length = ins.length
    · have hc : evE ⟨call, tab.glob, [false, false], wf⟩ cm_is_given_0 [.dat (.tup l), .dat (insD ins), .un, .un] = .ok (.lst ((l.zip ins).map fun p => .bl (kB p.1 p.2.2))) [.dat (.tup l), .dat (insD ins), .un, .un] :=
        ev_comp_map (xs := l.zip ins) (fun p => D.pr [p.1, insP p.2]) (fun p => .bl (kB p.1 p.2.2)) (ρ0 := [.dat (.tup l), .dat (insD ins), .un, .un]) (by
          rw [← zip_pr]
          simp only [insD]
          generalize ins.map insP = IL
          simp -implicitDefEqProofs [runFn, evSs, evS, evE, evT, evTs, evArgs, evOps, evPairs, evIt, testE, testB, view1_eq, views, takes, putBack, setSlot, finOf, wipeE, seqP, seqOf, rowL]) rfl (fun p hp => ⟨[.dat (.tup l), .dat (insD ins), .dat p.1, .dat (insP p.2)], .dat (.bl (kB p.1 p.2.2)), [.dat (.tup l), .dat (insD ins), .dat p.1, .dat (insP p.2)], rfl, by
          have e := hk p.1 (hd.1 _ (List.of_mem_zip hp).1)
          have c := kindD_eq p.1 p.2.2
          have a1 := at1 (D.str p.2.1) (.str [p.2.2]) []
          simp only [insP] at *
          generalize kindD p.1 = kd at *
          generalize kB p.1 p.2.2 = kb at *
          generalize p.1 = pd at *
          simp -implicitDefEqProofs [runFn, evSs, evS, evE, evT, evTs, evArgs, evOps, evPairs, evIt, testE, testB, view1_eq, views, takes, putBack, setSlot, finOf, wipeE, e, c, a1], rfl, rfl⟩) (by simp; omega)
      have ha := all_map (fun p : D × (List Nat × Nat) => kB p.1 p.2.2) (l.zip ins)
      have il : (ins.map insP).length = ins.length := by simp
      simp only [givB, hl, decide_true, Bool.true_and]
      generalize (l.zip ins).all (fun p => kB p.1 p.2.2) = bb at *
      generalize (l.zip ins).map (fun p => D.bl (kB p.1 p.2.2)) = L at *
      simp only [insD] at *
      generalize ins.map insP = IL at *
      have e1 : l.length = IL.length := by omega
      simp -implicitDefEqProofs [f_is_given, b_is_given, s_is_given_0t_0, s_is_given_0t, s_is_given_0, s_is_given_1, runFn, evSs, evS, evE, evT, evTs, evArgs, evOps, evPairs, evIt, testE, testB, view1_eq, views, takes, putBack, setSlot, finOf, wipeE, hc, ha, e1]
    · have il : (ins.map insP).length = ins.length := by simp
      simp only [givB, hl, decide_false, Bool.false_and, insD]
      generalize ins.map insP = IL at *
      have e1 : ¬ l.length = IL.length := by omega
      have e2 : ¬ (l.length : Int) = (IL.length : Int) := by omega
      simp -implicitDefEqProofs [f_is_given, b_is_given, s_is_given_0t_0, s_is_given_0t, s_is_given_0, s_is_given_1, runFn, evSs, evS, evE, evT, evTs, evArgs, evOps, evPairs, evIt, testE, testB, view1_eq, views, takes, putBack, setSlot, finOf, wipeE, e1, e2]
  | _ => exact nt (fun l h => by cases h)
theorem c_is_given (wf n : Nat) : Sp_is_given (callN tab wf (n + 3) i_is_given) := by
  rw [call_of (F := f_is_given) rfl]; exact r_is_given _ wf (c_kind_of wf n)
def Sp_is_example (g : G) : Prop := ∀ (ins : InsL) (k : Nat) (d : D), Ins ins → okEx d = true → g [.dat d, .dat (insD ins), .dat (.str [k])] = .ok (.dat (.bl (exB ins k d))) [.dat d, .dat (insD ins), .dat (.str [k])]
theorem r_is_example (call : Nat → G) (wf : Nat) (hg : Sp_is_given (call i_is_given)) (hk : Sp_kind_of (call i_kind_of)) : Sp_is_example (runFn call tab.glob wf f_is_example) := by
  intro ins k d hi hd
  have nt : (∀ l, d ≠ .tup l) → runFn call tab.glob wf f_is_example [.dat d, .dat (insD ins), .dat (.str [k])] = .ok (.dat (.bl (exB ins k d))) [.dat d, .dat (insD ins), .dat (.str [k])] := fun n => by
    obtain ⟨hf, ef⟩ := okEx_nt hd n ins k
    rw [ef]
    generalize insD ins = id at *
    simp -implicitDefEqProofs [f_is_example, b_is_example, s_is_example_0t_0, s_is_example_0t, s_is_example_0, s_is_example_1, runFn, evSs, evS, evE, evT, evTs, evArgs, evOps, evPairs, evIt, testE, testB, view1_eq, views, takes, putBack, setSlot, finOf, wipeE, hf]
  cases d with
  | tup l =>
    match l, hd with
    | [], _ =>
      simp only [exB]
      generalize insD ins = id at *
      simp -implicitDefEqProofs [f_is_example, b_is_example, s_is_example_0t_0, s_is_example_0t, s_is_example_0, s_is_example_1, runFn, evSs, evS, evE, evT, evTs, evArgs, evOps, evPairs, evIt, testE, testB, view1_eq, views, takes, putBack, setSlot, finOf, wipeE]
    | [a], _ =>
      simp only [exB]
      generalize insD ins = id at *
      simp -implicitDefEqProofs [f_is_example, b_is_example, s_is_example_0t_0, s_is_example_0t, s_is_example_0, s_is_example_1, runFn, evSs, evS, evE, evT, evTs, evArgs, evOps, evPairs, evIt, testE, testB, view1_eq, views, takes, putBack, setSlot, finOf, wipeE]
    | a :: b :: c :: l, _ =>
      simp only [exB]
      generalize insD ins = id at *
      have n0 : ¬ ((l.length : Int) + 1 + 1 + 1 = 2) := by omega
      simp -implicitDefEqProofs [f_is_example, b_is_example, s_is_example_0t_0, s_is_example_0t, s_is_example_0, s_is_example_1, runFn, evSs, evS, evE, evT, evTs, evArgs, evOps, evPairs, evIt, testE, testB, view1_eq, views, takes, putBack, setSlot, finOf, wipeE, n0]
    | [a, b], hd =>
      simp only [okEx, Bool.and_eq_true] at hd
      have e1 := hg ins a hi hd.1
      have e2 := hk b hd.2
      have c := kindD_eq b k
      have a0 := at0 a [b]
      have a1 := at1 a b []
      simp only [exB]
      generalize insD ins = id at *
      generalize givB ins a = gb at *
      generalize kB b k = kb at *
      generalize kindD b = kd at *
      cases gb <;> simp -implicitDefEqProofs [f_is_example, b_is_example, s_is_example_0t_0, s_is_example_0t, s_is_example_0, s_is_example_1, runFn, evSs, evS, evE, evT, evTs, evArgs, evOps, evPairs, evIt, testE, testB, view1_eq, views, takes, putBack, setSlot, finOf, wipeE, a0, a1, e1, e2, c]
  | _ => exact nt (fun l h => by cases h)
theorem c_is_example (wf n : Nat) : Sp_is_example (callN tab wf (n + 4) i_is_example) := by
  rw [call_of (F := f_is_example) rfl]; exact r_is_example _ wf (c_is_given wf n) (c_kind_of wf (n+1))
def Sp_are_examples (g : G) : Prop := ∀ (ins : InsL) (k : Nat) (d : D), Ins ins → okEs d = true → g [.dat d, .dat (insD ins), .dat (.str [k])] = .ok (.dat (.bl (exsB ins k d))) [.dat d, .dat (insD ins), .dat (.str [k])]
theorem r_are_examples (call : Nat → G) (wf : Nat) (he : Sp_is_example (call i_is_example)) : Sp_are_examples (runFn call tab.glob wf f_are_examples) := by
  intro ins k d hi hd
  have h1 : tab.glob g_MOST_EXAMPLES = some (.int 6) := rfl
  have nt : (∀ l, d ≠ .tup l) → runFn call tab.glob wf f_are_examples [.dat d, .dat (insD ins), .dat (.str [k])] = .ok (.dat (.bl (exsB ins k d))) [.dat d, .dat (insD ins), .dat (.str [k])] := fun n => by
    obtain ⟨hf, ef⟩ := okEs_nt hd n ins k
    rw [ef]
    generalize insD ins = id at *
    simp -implicitDefEqProofs [f_are_examples, b_are_examples, s_are_examples_0t_0, s_are_examples_0t, s_are_examples_0, s_are_examples_1, runFn, evSs, evS, evE, evT, evTs, evArgs, evOps, evPairs, evIt, testE, testB, view1_eq, views, takes, putBack, setSlot, finOf, wipeE, hf]
  cases d with
  | tup l =>
    simp only [okEs, Bool.and_eq_true, decide_eq_true_eq, List.all_eq_true] at hd
    have hc : evE ⟨call, tab.glob, [false, false, false], wf⟩ cm_are_examples_0 [.dat (.tup l), .dat (insD ins), .dat (.str [k]), .un] = .ok (.lst (l.map fun x => .bl (exB ins k x))) [.dat (.tup l), .dat (insD ins), .dat (.str [k]), .un] := by
      have := ev_comp_map (C := ⟨call, tab.glob, [false, false, false], wf⟩) (own := [3]) (elt := .call i_is_example (.cons (.var 3) (.cons (.var 1) (.cons (.var 2) .nil)))) (t := .var 3) (it := .e (.var 0)) (ρ := [.dat (.tup l), .dat (insD ins), .dat (.str [k]), .un]) (ρz := [.dat (.tup l), .dat (insD ins), .dat (.str [k]), .un]) (xs := l) id (fun x => .bl (exB ins k x)) (ρ0 := [.dat (.tup l), .dat (insD ins), .dat (.str [k]), .un]) (by
        generalize insD ins = id at *
        simp -implicitDefEqProofs [runFn, evSs, evS, evE, evT, evTs, evArgs, evOps, evPairs, evIt, testE, testB, view1_eq, views, takes, putBack, setSlot, finOf, wipeE]) rfl (fun x hx => ⟨[.dat (.tup l), .dat (insD ins), .dat (.str [k]), .dat x], .dat (.bl (exB ins k x)), [.dat (.tup l), .dat (insD ins), .dat (.str [k]), .dat x], rfl, by
          have e := he ins k x hi (hd.1 x hx)
          generalize insD ins = id at *
          simp -implicitDefEqProofs [runFn, evSs, evS, evE, evT, evTs, evArgs, evOps, evPairs, evIt, testE, testB, view1_eq, views, takes, putBack, setSlot, finOf, wipeE, e], rfl, rfl⟩) (by omega)
      exact this
    have ha := all_map (exB ins k) l
    simp only [exsB]
    generalize l.all (exB ins k) = bb at *
    generalize l.map (fun x => D.bl (exB ins k x)) = L at *
    generalize insD ins = id at *
    by_cases q : l.length ≤ 6
    · have n6 : ¬ ((6 : Int) < (l.length : Int)) := by omega
      simp -implicitDefEqProofs [f_are_examples, b_are_examples, s_are_examples_0t_0, s_are_examples_0t, s_are_examples_0, s_are_examples_1, runFn, evSs, evS, evE, evT, evTs, evArgs, evOps, evPairs, evIt, testE, testB, view1_eq, views, takes, putBack, setSlot, finOf, wipeE, h1, n6, q, hc, ha]
    · have n6 : (6 : Int) < (l.length : Int) := by omega
      simp -implicitDefEqProofs [f_are_examples, b_are_examples, s_are_examples_0t_0, s_are_examples_0t, s_are_examples_0, s_are_examples_1, runFn, evSs, evS, evE, evT, evTs, evArgs, evOps, evPairs, evIt, testE, testB, view1_eq, views, takes, putBack, setSlot, finOf, wipeE, h1, n6, q]
  | _ => exact nt (fun l h => by cases h)
theorem c_are_examples (wf n : Nat) : Sp_are_examples (callN tab wf (n + 5) i_are_examples) := by
  rw [call_of (F := f_are_examples) rfl]; exact r_are_examples _ wf (c_is_example wf n)
/-! the making of a task -/
def noExc (a b c d e : D) : Sl := .ins 0 [.dat a, .dat b, .dat c, .dat d, .dat e]
structure Mk5 (call : Nat → G) (a b c d e : D) (r : Bool) : Prop where
  good : r = true → call i_are_inputs [.dat a] = .ok (.dat (.bl true)) [.dat a] ∧ call i_are_words [.dat b] = .ok (.dat (.bl true)) [.dat b] ∧ call i_are_numbers [.dat c] = .ok (.dat (.bl true)) [.dat c] ∧ call i_is_kind [.dat d] = .ok (.dat (.bl true)) [.dat d] ∧ (e ≠ .non ∧ call i_are_examples [.dat e, .dat a, .dat d] = .ok (.dat (.bl true)) [.dat e, .dat a, .dat d])
  bad : r = false → call i_are_inputs [.dat a] = .ok (.dat (.bl false)) [.dat a] ∨ call i_are_inputs [.dat a] = .ok (.dat (.bl true)) [.dat a] ∧ (call i_are_words [.dat b] = .ok (.dat (.bl false)) [.dat b] ∨ call i_are_words [.dat b] = .ok (.dat (.bl true)) [.dat b] ∧ (call i_are_numbers [.dat c] = .ok (.dat (.bl false)) [.dat c] ∨ call i_are_numbers [.dat c] = .ok (.dat (.bl true)) [.dat c] ∧ (call i_is_kind [.dat d] = .ok (.dat (.bl false)) [.dat d] ∨ call i_is_kind [.dat d] = .ok (.dat (.bl true)) [.dat d] ∧ (e ≠ .non ∧ call i_are_examples [.dat e, .dat a, .dat d] = .ok (.dat (.bl false)) [.dat e, .dat a, .dat d]))))
theorem isnot_ne {d : D} (h : d ≠ .non) : cmpD .IsNot d .non = some true ∧ cmpD .Is d .non = some false := by
  cases d <;> first | exact absurd rfl h | exact ⟨rfl, rfl⟩
theorem r_init_good (call : Nat → G) (wf : Nat) {a b c d e : D} (h : Mk5 call a b c d e true) : runFn call tab.glob wf f_Task___init__ [.ins 0 [], .dat a, .dat b, .dat c, .dat d, .dat e] = .ok (.dat .non) [noExc a b c d e, .dat a, .dat b, .dat c, .dat d, .dat e] := by
  obtain ⟨e1, e2, e3, e4, ne, e5⟩ := h.good rfl
  obtain ⟨n1, n2⟩ := isnot_ne ne
  simp -implicitDefEqProofs [f_Task___init__, b_Task___init__, s_Task___init___0t_0, s_Task___init___0t, s_Task___init___0, s_Task___init___1t_0, s_Task___init___1t, s_Task___init___1, s_Task___init___2, s_Task___init___3, s_Task___init___4, s_Task___init___5, s_Task___init___6, runFn, evSs, evS, evE, evT, evTs, evArgs, evOps, evPairs, evIt, testE, testB, view1_eq, views, takes, putBack, setSlot, finOf, wipeE, e1, e2, e3, e4, e5, n1, n2, noExc]
theorem r_init_bad (call : Nat → G) (wf : Nat) {a b c d e : D} (h : Mk5 call a b c d e false) : runFn call tab.glob wf f_Task___init__ [.ins 0 [], .dat a, .dat b, .dat c, .dat d, .dat e] = .exc 2 [] [.ins 0 [], .dat a, .dat b, .dat c, .dat d, .dat e] := by
  rcases h.bad rfl with e1 | ⟨e1, h⟩
  · simp -implicitDefEqProofs [f_Task___init__, b_Task___init__, s_Task___init___0t_0, s_Task___init___0t, s_Task___init___0, s_Task___init___1t_0, s_Task___init___1t, s_Task___init___1, s_Task___init___2, s_Task___init___3, s_Task___init___4, s_Task___init___5, s_Task___init___6, runFn, evSs, evS, evE, evT, evTs, evArgs, evOps, evPairs, evIt, testE, testB, view1_eq, views, takes, putBack, setSlot, finOf, wipeE, e1, raiseOk]
  · rcases h with e2 | ⟨e2, h⟩
    · simp -implicitDefEqProofs [f_Task___init__, b_Task___init__, s_Task___init___0t_0, s_Task___init___0t, s_Task___init___0, s_Task___init___1t_0, s_Task___init___1t, s_Task___init___1, s_Task___init___2, s_Task___init___3, s_Task___init___4, s_Task___init___5, s_Task___init___6, runFn, evSs, evS, evE, evT, evTs, evArgs, evOps, evPairs, evIt, testE, testB, view1_eq, views, takes, putBack, setSlot, finOf, wipeE, e1, e2, raiseOk]
    · rcases h with e3 | ⟨e3, h⟩
      · simp -implicitDefEqProofs [f_Task___init__, b_Task___init__, s_Task___init___0t_0, s_Task___init___0t, s_Task___init___0, s_Task___init___1t_0, s_Task___init___1t, s_Task___init___1, s_Task___init___2, s_Task___init___3, s_Task___init___4, s_Task___init___5, s_Task___init___6, runFn, evSs, evS, evE, evT, evTs, evArgs, evOps, evPairs, evIt, testE, testB, view1_eq, views, takes, putBack, setSlot, finOf, wipeE, e1, e2, e3, raiseOk]
      · rcases h with e4 | ⟨e4, ne, e5⟩
        · simp -implicitDefEqProofs [f_Task___init__, b_Task___init__, s_Task___init___0t_0, s_Task___init___0t, s_Task___init___0, s_Task___init___1t_0, s_Task___init___1t, s_Task___init___1, s_Task___init___2, s_Task___init___3, s_Task___init___4, s_Task___init___5, s_Task___init___6, runFn, evSs, evS, evE, evT, evTs, evArgs, evOps, evPairs, evIt, testE, testB, view1_eq, views, takes, putBack, setSlot, finOf, wipeE, e1, e2, e3, e4, raiseOk]
        · obtain ⟨n1, n2⟩ := isnot_ne ne
          simp -implicitDefEqProofs [f_Task___init__, b_Task___init__, s_Task___init___0t_0, s_Task___init___0t, s_Task___init___0, s_Task___init___1t_0, s_Task___init___1t, s_Task___init___1, s_Task___init___2, s_Task___init___3, s_Task___init___4, s_Task___init___5, s_Task___init___6, runFn, evSs, evS, evE, evT, evTs, evArgs, evOps, evPairs, evIt, testE, testB, view1_eq, views, takes, putBack, setSlot, finOf, wipeE, e1, e2, e3, e4, e5, n1, raiseOk]
end Lw

namespace Lw
open PySem MP
/-! the law's own makers of tasks -/
def Sp__law_all_words (g : G) : Prop := g [] = .ok (.lst (wordsL.map .str)) []
theorem c__law_all_words (wf n : Nat) : Sp__law_all_words (callN tab wf (n + 1) i__law_all_words) := by
  unfold Sp__law_all_words
  kernel_rfl
def Sp__law_some (g : G) : Prop := ∀ q, Q q → ∀ (L : List D) (m : Nat), L.length ≤ 30 → ∃ (L' q' : List D), Q q' ∧ L'.Sublist L ∧ L'.length ≤ m ∧ g [.lst q, .lst L, .dat (.int (m : Int))] = .ok (.lst L') [.lst q', .lst L, .dat (.int (m : Int))]
abbrev S1 (call : Nat → G) (wf : Nat) : MP.Ctx := ⟨call, tab.glob, [true, true, false], wf⟩
theorem so_ct (call : Nat → G) (wf : Nat) (q L X : List D) (m : Nat) (b : Bool) (h : decide (m < X.length) = b) : testE (S1 call wf) (.cmp .Gt (.bi .len (.cons (.var 3) .nil)) (.var 2)) [.lst q, .lst L, .dat (.int (m : Int)), .lst X] = .ok b [.lst q, .lst L, .dat (.int (m : Int)), .lst X] := by
  subst h
  simp -implicitDefEqProofs [runFn, evSs, evS, evE, evT, evTs, evArgs, evOps, evPairs, evIt, testE, testB, view1_eq, views, takes, putBack, setSlot, finOf, wipeE]
theorem so_st (call : Nat → G) (wf : Nat) (q q1 L X Y : List D) (m : D) (i : Nat) (xi : D) (e1 : call i__law_next [.lst q, .dat (.int (X.length : Int))] = .ok (.dat (.int (i : Int))) [.lst q1, .dat (.int (X.length : Int))]) (ep : mtD .pop1 (.lst X) [.int (i : Int)] = some (.dat xi, some (.lst Y))) :
    evSs (S1 call wf) s__law_some_1l [.lst q, .lst L, .dat m, .lst X] = .ok .nx [.lst q1, .lst L, .dat m, .lst Y] := by
  simp -implicitDefEqProofs [s__law_some_1l, s__law_some_1l_0, runFn, evSs, evS, evE, evT, evTs, evArgs, evOps, evPairs, evIt, testE, testB, view1_eq, views, takes, putBack, setSlot, finOf, wipeE, e1, ep]
theorem so_while (call : Nat → G) (wf : Nat) (hn : Sp__law_next (call i__law_next)) (L : List D) (m : Nat) : ∀ (n : Nat) (X q : List D) (u : Nat), Q q → X.length ≤ n → n + 1 ≤ u → n ≤ 1000 → X.Sublist L →
    ∃ (X' q' : List D), Q q' ∧ X'.Sublist L ∧ X'.length ≤ m ∧ whileL (testE (S1 call wf) (.cmp .Gt (.bi .len (.cons (.var 3) .nil)) (.var 2))) (evSs (S1 call wf) s__law_some_1l) u [.lst q, .lst L, .dat (.int (m : Int)), .lst X] = .ok .nx [.lst q', .lst L, .dat (.int (m : Int)), .lst X'] := by
  intro n
  induction n with
  | zero =>
    intro X q u hq hx hu hn1 hs
    obtain ⟨u, rfl⟩ : ∃ v, u = v + 1 := ⟨u - 1, by omega⟩
    have ct := so_ct call wf q L X m false (decide_eq_false (by omega))
    exact ⟨X, q, hq, hs, by omega, by
      rw [whileL, ct, rbind_ok, if_neg (by simp)]⟩
  | succ n ih =>
    intro X q u hq hx hu hn1 hs
    obtain ⟨u, rfl⟩ : ∃ v, u = v + 1 := ⟨u - 1, by omega⟩
    by_cases h : m < X.length
    · obtain ⟨i, q1, k1, h1, e1⟩ := hn q hq ((X.length : Nat) : Int) (by omega)
      have hi : i < X.length := by omega
      have ep := mt_pop1 (u := X) (i := i) (List.getElem?_eq_getElem hi) (by omega)
      have hlen : (X.eraseIdx i).length = X.length - 1 := List.length_eraseIdx_of_lt hi
      obtain ⟨X', q', k2, s2, l2, e2⟩ := ih (X.eraseIdx i) q1 u k1 (by omega) (by omega) (by omega) ((List.eraseIdx_sublist X i).trans hs)
      have ct := so_ct call wf q L X m true (decide_eq_true h)
      have st := so_st call wf q q1 L X _ (.int (m : Int)) i _ e1 ep
      refine ⟨X', q', k2, s2, l2, ?_⟩
      rw [whileL, ct, rbind_ok, if_pos rfl, st, rbind_ok]
      simp only
      rw [e2]
    · have ct := so_ct call wf q L X m false (decide_eq_false h)
      exact ⟨X, q, hq, hs, by omega, by
        rw [whileL, ct, rbind_ok, if_neg (by simp)]⟩
theorem r__law_some (call : Nat → G) (wf : Nat) (hw : 40 ≤ wf) (hn : Sp__law_next (call i__law_next)) : Sp__law_some (runFn call tab.glob wf f__law_some) := by
  intro q hq L m hL
  obtain ⟨X', q', k1, s1, l1, e1⟩ := so_while call wf hn L m L.length L q wf hq (Nat.le_refl _) (by omega) (by omega) (List.Sublist.refl L)
  refine ⟨X', q', k1, s1, l1, ?_⟩
  have e2 : evS (S1 call wf) s__law_some_1 [.lst q, .lst L, .dat (.int (m : Int)), .lst L] = .ok .nx [.lst q', .lst L, .dat (.int (m : Int)), .lst X'] := by
    rw [s__law_some_1, evS]; exact e1
  simp -implicitDefEqProofs [f__law_some, b__law_some, s__law_some_0, s__law_some_2, runFn, evSs, evS, evE, evT, evTs, evArgs, evOps, evPairs, evIt, testE, testB, view1_eq, views, takes, putBack, setSlot, finOf, wipeE, e2]
theorem c__law_some (wf n : Nat) (hw : 40 ≤ wf) : Sp__law_some (callN tab wf (n + 2) i__law_some) := by
  rw [call_of (F := f__law_some) rfl]; exact r__law_some _ wf hw (c__law_next wf n)
/-! inputs -/
theorem erase_map {α β : Type} (f : α → β) : ∀ (l : List α) (i : Nat), (l.map f).eraseIdx i = (l.eraseIdx i).map f
  | [], i => by simp
  | a :: l, 0 => by simp
  | a :: l, i + 1 => by simp [erase_map f l i]
theorem perm_erase {α : Type} : ∀ (l : List α) (i : Nat) (h : i < l.length), (l[i] :: l.eraseIdx i).Perm l
  | a :: l, 0, h => by simp
  | a :: l, i + 1, h => by
    have hl : i < l.length := by simpa using h
    have := perm_erase l i hl
    simp only [List.getElem_cons_succ, List.eraseIdx_cons_succ]
    exact (List.Perm.swap a l[i] (l.eraseIdx i)).trans (List.Perm.cons a this)
def six : List (List Nat) := [[120], [121], [97, 98], [108, 105, 115, 116], [122, 122], [97, 97, 97, 97]]
theorem six_ok : ∀ n ∈ six, NameOk n := by
  intro n hn
  simp only [six, List.mem_cons, List.not_mem_nil, or_false] at hn
  rcases hn with rfl | rfl | rfl | rfl | rfl | rfl <;> exact ⟨by decide, by decide, by decide, by decide⟩
abbrev I1 (call : Nat → G) (wf : Nat) : MP.Ctx := ⟨call, tab.glob, [true, false], wf⟩
theorem in_loop (call : Nat → G) (wf : Nat) (hn : Sp__law_next (call i__law_next)) (m : D) : ∀ (xs : List D) (ins : InsL) (N : List (List Nat)) (q : List D) (s4 : Sl), Q q → xs.length < N.length → N.length ≤ 10 → ins.length + xs.length ≤ 10 → ((ins.map (·.1)) ++ N).Nodup → (∀ n ∈ N, n ∈ six) → (∀ p ∈ ins, p.1 ∈ six ∧ p.2 ∈ [110, 114, 116]) →
    ∃ (ins' : InsL) (N' : List (List Nat)) (q' : List D) (s4' : Sl), Q q' ∧ ins'.length = ins.length + xs.length ∧ (ins'.map (·.1)).Nodup ∧ (∀ p ∈ ins', p.1 ∈ six ∧ p.2 ∈ [110, 114, 116]) ∧
    forL (fun x ρ => (evT (I1 call wf) (.var 4) (.dat x) ρ).bind fun _ ρ => evSs (I1 call wf) s__law_inputs_2l ρ) xs [.lst q, .dat m, .lst (N.map .str), .lst (ins.map insP), s4] = .ok .nx [.lst q', .dat m, .lst (N'.map .str), .lst (ins'.map insP), s4']
  | [], ins, N, q, s4, hq, _, _, _, nd, hN, hi => ⟨ins, N, q, s4, hq, rfl, (List.nodup_append.mp nd).1, hi, rfl⟩
  | x :: xs, ins, N, q, s4, hq, hl, h10, hil, nd, hN, hi => by
    simp only [List.length_cons] at hl hil
    obtain ⟨i, q1, k1, h1, e1⟩ := hn q hq ((N.length : Nat) : Int) (by omega)
    have hiN : i < N.length := by omega
    obtain ⟨y, q2, k2, h2, e2⟩ := hn q1 k1 5 (by omega)
    obtain ⟨d, ⟨c, hc, rfl⟩, e3⟩ := pickP [D.str [110], .str [110], .str [114], .str [114], .str [116]] (fun d => ∃ c, c ∈ [110, 114, 116] ∧ d = .str [c]) y (by simp; omega) (by
      intro d hd
      simp only [List.mem_cons, List.not_mem_nil, or_false] at hd
      rcases hd with rfl | rfl | rfl | rfl | rfl
      · exact ⟨110, by simp, rfl⟩
      · exact ⟨110, by simp, rfl⟩
      · exact ⟨114, by simp, rfl⟩
      · exact ⟨114, by simp, rfl⟩
      · exact ⟨116, by simp, rfl⟩)
    have ep := mt_pop1 (u := N.map D.str) (i := i) (y := .str N[i]) (by simp [hiN]) (by omega)
    have ee : (N.map D.str).eraseIdx i = (N.eraseIdx i).map D.str := erase_map D.str N i
    rw [ee] at ep
    have hle : (N.eraseIdx i).length = N.length - 1 := List.length_eraseIdx_of_lt hiN
    have perm : ((ins.map (·.1)) ++ N).Perm (((ins ++ [(N[i], c)]).map (·.1)) ++ N.eraseIdx i) := by
      rw [List.map_append, List.append_assoc]
      exact List.Perm.append_left _ (perm_erase N i hiN).symm
    obtain ⟨ins', N', q', s4', k3, l3, nd3, p3, e4⟩ := in_loop call wf hn m xs (ins ++ [(N[i], c)]) (N.eraseIdx i) q2 (.dat x) k2 (by omega) (by omega) (by simp; omega) (perm.nodup nd) (fun n hn => hN n (List.mem_of_mem_eraseIdx hn)) (by
      intro p hp
      rcases List.mem_append.mp hp with hp | hp
      · exact hi p hp
      · rw [List.mem_singleton.mp hp]; exact ⟨hN _ (List.getElem_mem _), hc⟩)
    refine ⟨ins', N', q', s4', k3, by rw [l3]; simp; omega, nd3, p3, ?_⟩
    have st : ((evT (I1 call wf) (.var 4) (.dat x) [.lst q, .dat m, .lst (N.map .str), .lst (ins.map insP), s4]).bind fun _ ρ => evSs (I1 call wf) s__law_inputs_2l ρ) = .ok .nx [.lst q2, .dat m, .lst ((N.eraseIdx i).map .str), .lst ((ins ++ [(N[i], c)]).map insP), .dat x] := by
      have em : (ins ++ [(N[i], c)]).map insP = ins.map insP ++ [.tup [.str N[i], .str [c]]] := by simp [insP]
      have lm : (N.map D.str).length = N.length := by simp
      have li : (ins.map insP).length = ins.length := by simp
      have f1 : fitsL ((ins.map insP).length + 1) = true := fits_of (by omega)
      rw [em]
      rw [← lm] at e1
      clear em lm li ee perm e4 hle
      generalize (N.eraseIdx i).map D.str = NE at *
      generalize N[i] = ni at *
      generalize N.map D.str = NL at *
      generalize ins.map insP = IL at *
      simp -implicitDefEqProofs [s__law_inputs_2l, s__law_inputs_2l_0, runFn, evSs, evS, evE, evT, evTs, evArgs, evOps, evPairs, evIt, testE, testB, view1_eq, views, takes, putBack, setSlot, finOf, wipeE, e1, e2, e3, ep, f1]
    rw [forL_nx (f := fun x ρ => (evT (I1 call wf) (.var 4) (.dat x) ρ).bind fun _ ρ => evSs (I1 call wf) s__law_inputs_2l ρ) st]
    exact e4
def Sp__law_inputs (g : G) : Prop := ∀ q, Q q → ∀ m : Nat, 1 ≤ m → m ≤ 3 → ∃ (ins : InsL) (q' : List D), Q q' ∧ Ins ins ∧ g [.lst q, .dat (.int (m : Int))] = .ok (.dat (insD ins)) [.lst q', .dat (.int (m : Int))]
theorem r__law_inputs (call : Nat → G) (wf : Nat) (hn : Sp__law_next (call i__law_next)) : Sp__law_inputs (runFn call tab.glob wf f__law_inputs) := by
  intro q hq m h1 h3
  obtain ⟨ins, N, q', s4, k1, l1, nd, hp, e1⟩ := in_loop call wf hn (.int (m : Int)) (rngL 0 m) [] six q .un hq (by simp [six]; omega) (by simp [six]) (by simp; omega) (by decide) (fun n h => h) (by simp)
  rw [rngL_len] at l1
  simp only [List.length_nil, Nat.zero_add] at l1
  refine ⟨ins, q', k1, ⟨by omega, by omega, nd, fun p h => six_ok _ (hp p h).1, fun p h => (hp p h).2⟩, ?_⟩
  have e2 : evS (I1 call wf) s__law_inputs_2 [.lst q, .dat (.int (m : Int)), .lst (six.map .str), .lst [], .un] = .ok .nx [.lst q', .dat (.int (m : Int)), .lst (N.map .str), .lst (ins.map insP), s4] := by
    have hr : rngOk 0 (m : Int) = true := rngOk_of (by omega) (by omega) (by omega) (by omega)
    have ei : evIt (I1 call wf) (.rng1 (.var 1)) [.lst q, .dat (.int (m : Int)), .lst (six.map .str), .lst [], .un] = .ok (rngL 0 m) [.lst q, .dat (.int (m : Int)), .lst (six.map .str), .lst [], .un] := by
      generalize six.map D.str = SL at *
      simp -implicitDefEqProofs [runFn, evSs, evS, evE, evT, evTs, evArgs, evOps, evPairs, evIt, testE, testB, view1_eq, views, takes, putBack, setSlot, finOf, wipeE, hr]
    rw [s__law_inputs_2, evS, ei, rbind_ok]
    exact e1
  have e0 : evSs (I1 call wf) (.cons s__law_inputs_0 (.cons s__law_inputs_1 .nil)) [.lst q, .dat (.int (m : Int)), .un, .un, .un] = .ok .nx [.lst q, .dat (.int (m : Int)), .lst (six.map .str), .lst [], .un] := rfl
  have e3 : evS (I1 call wf) s__law_inputs_3 [.lst q', .dat (.int (m : Int)), .lst (N.map .str), .lst (ins.map insP), s4] = .ok (.ret (.dat (insD ins))) [.lst q', .dat (.int (m : Int)), .lst (N.map .str), .lst (ins.map insP), s4] := by
    generalize N.map D.str = NL at *
    simp only [insD]
    generalize ins.map insP = IL at *
    simp -implicitDefEqProofs [s__law_inputs_3, runFn, evSs, evS, evE, evT, evTs, evArgs, evOps, evPairs, evIt, testE, testB, view1_eq, views, takes, putBack, setSlot, finOf, wipeE]
  exact run_ret2 rfl ((evSs_pre2 e0).trans ((evSs_nx e2).trans (evSs_ret e3))) rfl
theorem c__law_inputs (wf n : Nat) : Sp__law_inputs (callN tab wf (n + 2) i__law_inputs) := by
  rw [call_of (F := f__law_inputs) rfl]; exact r__law_inputs _ wf (c__law_next wf n)
/-! examples -/
def GvOk (ins : InsL) (vs : List V) : Prop := All2 (fun (p : List Nat × Nat) (v : V) => v.ok ∧ v.k = p.2) ins vs
def gvD (vs : List V) : D := .tup (vs.map V.d)
def exD (e : List V × V) : D := .tup [gvD e.1, e.2.d]
def ExOk (ins : InsL) (k : Nat) (e : List V × V) : Prop := GvOk ins e.1 ∧ e.2.ok ∧ e.2.k = k
theorem vals_of : ∀ {ins : InsL} {ys : List D}, All2 (fun x y => ∃ (p : List Nat × Nat) (v : V), x = insP p ∧ y = v.d ∧ v.ok ∧ v.k = p.2) (ins.map insP) ys → ∃ vs : List V, ys = vs.map V.d ∧ GvOk ins vs
  | [], _, .nil => ⟨[], rfl, .nil⟩
  | p :: ins, _, .cons ⟨p', v, e, r, h1, h2⟩ tl => by
    obtain ⟨vs, e1, e2⟩ := vals_of tl
    obtain ⟨a, b⟩ := p
    obtain ⟨a', b'⟩ := p'
    simp only [insP, D.tup.injEq, List.cons.injEq, D.str.injEq, and_true] at e
    obtain ⟨rfl, rfl⟩ := e
    exact ⟨v :: vs, by rw [r, e1]; rfl, .cons ⟨h1, h2⟩ e2⟩
abbrev X1 (call : Nat → G) (wf : Nat) : MP.Ctx := ⟨call, tab.glob, [true, false, false, false], wf⟩
theorem gv_comp (call : Nat → G) (wf : Nat) (own : List Bool) (hv : Sp__law_value (call i__law_value)) {ins : InsL} (hi : Ins ins) (a b : List Sl) : True := trivial
theorem ex_turn (call : Nat → G) (wf : Nat) (hv : Sp__law_value (call i__law_value)) {ins : InsL} (hi : Ins ins) {k : Nat} (hk : k ∈ [110, 114, 116]) (m x : D) (es : List (List V × V)) (hl : es.length ≤ 20) (q : List D) (hq : Q q) (s5 s6 s7 : Sl) :
    ∃ (e : List V × V) (q' : List D) (s6' s7' : Sl), Q q' ∧ ExOk ins k e ∧
    ((evT (X1 call wf) (.var 5) (.dat x) [.lst q, .dat (insD ins), .dat (.str [k]), .dat m, .lst (es.map exD), s5, s6, s7]).bind fun _ ρ => evSs (X1 call wf) s__law_examples_1l ρ) = .ok .nx [.lst q', .dat (insD ins), .dat (.str [k]), .dat m, .lst ((es ++ [e]).map exD), .dat x, s6', s7'] := by
  obtain ⟨ys, ρ, hc, hp, q1, k1, rfl⟩ := ev_comp_all2 (C := X1 call wf) (own := [6]) (elt := .call i__law_value (.cons (.mv 0) (.cons (.ix (.var 6) (.con (.int 1))) .nil))) (t := .var 6) (it := .e (.var 1))
    (ρ := [.lst q, .dat (insD ins), .dat (.str [k]), .dat m, .lst (es.map exD), .dat x, s6, s7]) (ρ0 := [.lst q, .dat (insD ins), .dat (.str [k]), .dat m, .lst (es.map exD), .dat x, s6, s7])
    (fun ρ => ∃ q, Q q ∧ ρ = [.lst q, .dat (insD ins), .dat (.str [k]), .dat m, .lst (es.map exD), .dat x, .un, s7]) (fun x y => ∃ (p : List Nat × Nat) (v : V), x = insP p ∧ y = v.d ∧ v.ok ∧ v.k = p.2) (xs := ins.map insP) (by
      generalize es.map exD = EL
      simp -implicitDefEqProofs [runFn, evSs, evS, evE, evT, evTs, evArgs, evOps, evPairs, evIt, testE, testB, view1_eq, views, takes, putBack, setSlot, finOf, wipeE]) (by
      rintro x' hx _ ⟨q, hq, rfl⟩
      obtain ⟨p, hp, rfl⟩ := List.mem_map.mp hx
      obtain ⟨v, q', hq', ⟨v1, v2⟩, ev⟩ := hv q hq p.2 (hi.kd p hp)
      refine ⟨[.lst q, .dat (insD ins), .dat (.str [k]), .dat m, .lst (es.map exD), .dat x, .dat (insP p), s7], .dat v.d, [.lst q', .dat (insD ins), .dat (.str [k]), .dat m, .lst (es.map exD), .dat x, .dat (insP p), s7], rfl, ?_, ⟨p, v, rfl, rfl, v1, v2⟩, q', hq', rfl⟩
      have a1 := at1 (D.str p.1) (.str [p.2]) []
      clear hx
      generalize es.map exD = EL at *
      generalize insD ins = id at *
      simp only [insP]
      simp -implicitDefEqProofs [runFn, evSs, evS, evE, evT, evTs, evArgs, evOps, evPairs, evIt, testE, testB, view1_eq, views, takes, putBack, setSlot, finOf, wipeE, a1, ev]) ⟨q, hq, rfl⟩ (by have := hi.le; simp; omega)
  obtain ⟨vs, rfl, hg⟩ := vals_of hp
  obtain ⟨v, q2, k2, ⟨v1, v2⟩, ev⟩ := hv q1 k1 k hk
  replace hc : evE (X1 call wf) cm__law_examples_0 [.lst q, .dat (insD ins), .dat (.str [k]), .dat m, .lst (es.map exD), .dat x, s6, s7] = .ok (.lst (vs.map V.d)) [.lst q1, .dat (insD ins), .dat (.str [k]), .dat m, .lst (es.map exD), .dat x, .un, s7] := hc
  refine ⟨(vs, v), q2, .un, .dat (gvD vs), k2, ⟨hg, v1, v2⟩, ?_⟩
  have em : (es ++ [(vs, v)]).map exD = es.map exD ++ [.tup [.tup (vs.map V.d), v.d]] := by simp [exD, gvD]
  have li : (es.map exD).length = es.length := by simp
  have f1 : fitsL ((es.map exD).length + 1) = true := fits_of (by omega)
  rw [em]
  unfold gvD
  clear em li hp
  generalize es.map exD = EL at *
  generalize insD ins = id at *
  generalize vs.map V.d = VL at *
  generalize v.d = vd at *
  simp -implicitDefEqProofs [s__law_examples_1l, s__law_examples_1l_0, s__law_examples_1l_1, runFn, evSs, evS, evE, evT, evTs, evArgs, evOps, evPairs, evIt, testE, testB, view1_eq, views, takes, putBack, setSlot, finOf, wipeE, hc, ev, f1]
theorem ex_loop (call : Nat → G) (wf : Nat) (hv : Sp__law_value (call i__law_value)) {ins : InsL} (hi : Ins ins) {k : Nat} (hk : k ∈ [110, 114, 116]) (m : D) : ∀ (xs : List D) (es : List (List V × V)) (q : List D) (s5 s6 s7 : Sl), Q q → es.length + xs.length ≤ 20 → (∀ e ∈ es, ExOk ins k e) →
    ∃ (es' : List (List V × V)) (q' : List D) (s5' s6' s7' : Sl), Q q' ∧ es'.length = es.length + xs.length ∧ (∀ e ∈ es', ExOk ins k e) ∧
    forL (fun x ρ => (evT (X1 call wf) (.var 5) (.dat x) ρ).bind fun _ ρ => evSs (X1 call wf) s__law_examples_1l ρ) xs [.lst q, .dat (insD ins), .dat (.str [k]), .dat m, .lst (es.map exD), s5, s6, s7] = .ok .nx [.lst q', .dat (insD ins), .dat (.str [k]), .dat m, .lst (es'.map exD), s5', s6', s7']
  | [], es, q, s5, s6, s7, hq, _, he => ⟨es, q, s5, s6, s7, hq, rfl, he, rfl⟩
  | x :: xs, es, q, s5, s6, s7, hq, hl, he => by
    simp only [List.length_cons] at hl
    obtain ⟨e, q1, s6', s7', k1, ho, e1⟩ := ex_turn call wf hv hi hk m x es (by omega) q hq s5 s6 s7
    obtain ⟨es', q', s5', s6'', s7'', k2, l2, h2, e2⟩ := ex_loop call wf hv hi hk m xs (es ++ [e]) q1 (.dat x) s6' s7' k1 (by simp; omega) (by
      intro e' h'
      rcases List.mem_append.mp h' with h' | h'
      · exact he e' h'
      · rw [List.mem_singleton.mp h']; exact ho)
    refine ⟨es', q', s5', s6'', s7'', k2, by rw [l2]; simp; omega, h2, ?_⟩
    rw [forL_nx (f := fun x ρ => (evT (X1 call wf) (.var 5) (.dat x) ρ).bind fun _ ρ => evSs (X1 call wf) s__law_examples_1l ρ) e1]
    exact e2
def Sp__law_examples (g : G) : Prop := ∀ q, Q q → ∀ (ins : InsL) (k m : Nat), Ins ins → k ∈ [110, 114, 116] → m ≤ 8 → ∃ (es : List (List V × V)) (q' : List D), Q q' ∧ es.length = m ∧ (∀ e ∈ es, ExOk ins k e) ∧ g [.lst q, .dat (insD ins), .dat (.str [k]), .dat (.int (m : Int))] = .ok (.dat (.tup (es.map exD))) [.lst q', .dat (insD ins), .dat (.str [k]), .dat (.int (m : Int))]
theorem r__law_examples (call : Nat → G) (wf : Nat) (hv : Sp__law_value (call i__law_value)) : Sp__law_examples (runFn call tab.glob wf f__law_examples) := by
  intro q hq ins k m hi hk hm
  obtain ⟨es, q', s5, s6, s7, k1, l1, he, e1⟩ := ex_loop call wf hv hi hk (.int (m : Int)) (rngL 0 m) [] q .un .un .un hq (by simp; omega) (by simp)
  rw [rngL_len] at l1
  simp only [List.length_nil, Nat.zero_add] at l1
  refine ⟨es, q', k1, l1, he, ?_⟩
  generalize insD ins = id at *
  have e2 : evS (X1 call wf) s__law_examples_1 [.lst q, .dat id, .dat (.str [k]), .dat (.int (m : Int)), .lst [], .un, .un, .un] = .ok .nx [.lst q', .dat id, .dat (.str [k]), .dat (.int (m : Int)), .lst (es.map exD), s5, s6, s7] := by
    have hr : rngOk 0 (m : Int) = true := rngOk_of (by omega) (by omega) (by omega) (by omega)
    have ei : evIt (X1 call wf) (.rng1 (.var 3)) [.lst q, .dat id, .dat (.str [k]), .dat (.int (m : Int)), .lst [], .un, .un, .un] = .ok (rngL 0 m) [.lst q, .dat id, .dat (.str [k]), .dat (.int (m : Int)), .lst [], .un, .un, .un] := by
      simp -implicitDefEqProofs [runFn, evSs, evS, evE, evT, evTs, evArgs, evOps, evPairs, evIt, testE, testB, view1_eq, views, takes, putBack, setSlot, finOf, wipeE, hr]
    rw [s__law_examples_1, evS, ei, rbind_ok]
    exact e1
  generalize es.map exD = EL at *
  simp -implicitDefEqProofs [f__law_examples, b__law_examples, s__law_examples_0, s__law_examples_2, runFn, evSs, evS, evE, evT, evTs, evArgs, evOps, evPairs, evIt, testE, testB, view1_eq, views, takes, putBack, setSlot, finOf, wipeE, e2]
theorem c__law_examples (wf n : Nat) : Sp__law_examples (callN tab wf (n + 4) i__law_examples) := by
  rw [call_of (F := f__law_examples) rfl]; exact r__law_examples _ wf (c__law_value wf n)
/-! a whole task -/
structure TaskP where
  ins : InsL
  ws : List (List Nat)
  ns : List Int
  k : Nat
  es : List (List V × V)
def eight : List Int := [-9, -2, -1, 0, 1, 2, 3, 9]
structure TaskP.Ok (T : TaskP) (mw me : Nat) : Prop where
  ins : Ins T.ins
  ws : T.ws.Sublist wordsL
  wl : T.ws.length ≤ mw
  ns : T.ns.Sublist eight
  nl : T.ns.length ≤ 2
  k : T.k ∈ [110, 114, 116]
  es : ∀ e ∈ T.es, ExOk T.ins T.k e
  el : T.es.length ≤ me
def TaskP.at_ (T : TaskP) : List D := [insD T.ins, .tup (T.ws.map .str), .tup (T.ns.map .int), .str [T.k], .tup (T.es.map exD)]
def TaskP.d (T : TaskP) : D := .tup T.at_
theorem sub_map {α : Type} (f : α → D) (hf : ∀ a b, f a = f b → a = b) : ∀ {L : List α} {X : List D}, X.Sublist (L.map f) → ∃ Y : List α, X = Y.map f ∧ Y.Sublist L := by
  intro L X h
  obtain ⟨Y, h1, h2⟩ := List.sublist_map_iff.mp h
  exact ⟨Y, h2, h1⟩
def Sp__law_task (mw me : Nat) (g : G) : Prop := ∀ q, Q q → ∃ (T : TaskP) (q' : List D), Q q' ∧ T.Ok mw me ∧ g [.lst q, .dat (.int (mw : Int)), .dat (.int (me : Int))] = .ok (.dat T.d) [.lst q', .dat (.int (mw : Int)), .dat (.int (me : Int))]
theorem r__law_task (call : Nat → G) (wf mw me : Nat) (h8 : me ≤ 8) (hn : Sp__law_next (call i__law_next)) (hi : Sp__law_inputs (call i__law_inputs)) (hs : Sp__law_some (call i__law_some)) (ha : Sp__law_all_words (call i__law_all_words)) (he : Sp__law_examples (call i__law_examples)) : Sp__law_task mw me (runFn call tab.glob wf f__law_task) := by
  intro q hq
  have ha' : call i__law_all_words [] = .ok (.lst (wordsL.map .str)) [] := ha
  obtain ⟨x1, q1, k1, g1, e1⟩ := hn q hq 5 (by omega)
  obtain ⟨d, ⟨m1, hm1, rfl⟩, e2⟩ := pickP [D.int 1, .int 1, .int 2, .int 2, .int 3] (fun d => ∃ m : Nat, (1 ≤ m ∧ m ≤ 3) ∧ d = .int m) x1 (by simp; omega) (by
    intro d hd
    simp only [List.mem_cons, List.not_mem_nil, or_false] at hd
    rcases hd with rfl | rfl | rfl | rfl | rfl
    · exact ⟨1, by omega, rfl⟩
    · exact ⟨1, by omega, rfl⟩
    · exact ⟨2, by omega, rfl⟩
    · exact ⟨2, by omega, rfl⟩
    · exact ⟨3, by omega, rfl⟩)
  obtain ⟨ins, q2, k2, ii, e3⟩ := hi q1 k1 m1 hm1.1 hm1.2
  obtain ⟨m2, q3, k3, g3, e4⟩ := hn q2 k2 ((mw : Int) + 1) (by omega)
  obtain ⟨W, q4, k4, sW, lW, e5⟩ := hs q3 k3 (wordsL.map .str) m2 (by simp [wordsL, wdL])
  obtain ⟨ws, rfl, sw⟩ := sub_map D.str (fun a b h => by injection h) sW
  obtain ⟨m3, q5, k5, g5, e6⟩ := hn q4 k4 3 (by omega)
  obtain ⟨N, q6, k6, sN, lN, e7⟩ := hs q5 k5 (eight.map .int) m3 (by simp [eight])
  obtain ⟨ns, rfl, sn⟩ := sub_map D.int (fun a b h => by injection h) sN
  obtain ⟨x4, q7, k7, g7, e8⟩ := hn q6 k6 3 (by omega)
  obtain ⟨d, ⟨k, hk, rfl⟩, e9⟩ := pickP [D.str [110], .str [114], .str [116]] (fun d => ∃ c, c ∈ [110, 114, 116] ∧ d = .str [c]) x4 (by simp; omega) (by
    intro d hd
    simp only [List.mem_cons, List.not_mem_nil, or_false] at hd
    rcases hd with rfl | rfl | rfl
    · exact ⟨110, by simp, rfl⟩
    · exact ⟨114, by simp, rfl⟩
    · exact ⟨116, by simp, rfl⟩)
  obtain ⟨m5, q8, k8, g8, e10⟩ := hn q7 k7 ((me : Int) + 1) (by omega)
  obtain ⟨es, q9, k9, le, oe, e11⟩ := he q8 k8 ins k m5 ii hk (by omega)
  refine ⟨⟨ins, ws, ns, k, es⟩, q9, k9, ⟨ii, sw, by
    rw [List.length_map] at lW
    show ws.length ≤ mw
    omega, sn, by
    rw [List.length_map] at lN
    show ns.length ≤ 2
    omega, hk, oe, by
    show es.length ≤ me
    omega⟩, ?_⟩
  simp only [TaskP.d, TaskP.at_]
  have e7' : call i__law_some [.lst q5, .lst [.int (-9), .int (-2), .int (-1), .int 0, .int 1, .int 2, .int 3, .int 9], .dat (.int (m3 : Int))] = .ok (.lst (ns.map .int)) [.lst q6, .lst [.int (-9), .int (-2), .int (-1), .int 0, .int 1, .int 2, .int 3, .int 9], .dat (.int (m3 : Int))] := e7
  clear sW sN lW lN e7
  generalize wordsL.map D.str = WL at *
  generalize ws.map D.str = WS at *
  generalize ns.map D.int = NS at *
  generalize es.map exD = EL at *
  generalize insD ins = id at *
  simp -implicitDefEqProofs [f__law_task, b__law_task, s__law_task_0, s__law_task_1, s__law_task_2, s__law_task_3, s__law_task_4, runFn, evSs, evS, evE, evT, evTs, evArgs, evOps, evPairs, evIt, testE, testB, view1_eq, views, takes, putBack, setSlot, finOf, wipeE, e1, e2, e3, ha', e4, e5, e6, e7', e8, e9, e10, e11]
theorem c__law_task (wf n mw me : Nat) (h8 : me ≤ 8) (hw : 40 ≤ wf) : Sp__law_task mw me (callN tab wf (n + 5) i__law_task) := by
  rw [call_of (F := f__law_task) rfl]; exact r__law_task _ wf mw me h8 (c__law_next wf (n+3)) (c__law_inputs wf (n+2)) (c__law_some wf (n+2) hw) (c__law_all_words wf (n+3)) (c__law_examples wf n)
end Lw

namespace Lw
open PySem MP
/-! repr has a text: the measure of data -/
structure Rb (d : D) (n w : Nat) : Prop where
  p : d.plain = true
  dp : d.dep ≤ n
  wt : d.py.weight ≤ w
  sh : d.py.showable = true
  sm : d.py.intsShort 13 = true
theorem log_le {m k : Nat} (h : m < 2 ^ k) : m.log2 ≤ k := by
  rcases Nat.eq_zero_or_pos m with rfl | hm
  · simp
  · exact Nat.le_of_lt ((Nat.log2_lt (by omega)).mpr h)
theorem rb_int {i : Int} (h : inB i) : Rb (.int i) 0 20 := by
  obtain ⟨h1, h2⟩ := h
  have na : i.natAbs < 2 ^ 15 := by simp; omega
  have lg := log_le na
  refine ⟨rfl, Nat.le_refl _, ?_, ?_, ?_⟩
  · simp only [D.py, PyData.weight]
    split <;> omega
  · simp only [D.py, PyData.showable, decide_eq_true_eq]; omega
  · exact PyProof.Rows.intsShort_of_noneOrIn (lo := -10000) (hi := 10000) (by omega) (by omega) (.int i) (by simp [PyProof.Rows.noneOrIn]; omega)
theorem rb_bl (b : Bool) : Rb (.bl b) 0 0 := ⟨rfl, Nat.le_refl _, Nat.le_refl _, rfl, rfl⟩
theorem rb_str (x : List Nat) : Rb (.str x) 0 x.length := ⟨rfl, Nat.le_refl _, by simp [D.py, PyData.weight, SX], rfl, rfl⟩
theorem Rb.mono {d : D} {n w n' w' : Nat} (h : Rb d n w) (a : n ≤ n') (b : w ≤ w') : Rb d n' w' := ⟨h.p, Nat.le_trans h.dp a, Nat.le_trans h.wt b, h.sh, h.sm⟩
theorem rb_all {n w : Nat} : ∀ {ds : List D}, (∀ d ∈ ds, Rb d n w) → D.plains ds = true ∧ D.deps ds ≤ n ∧ PyData.weightAll (D.pys ds) ≤ ds.length * (w + 1) ∧ PyData.showableAll (D.pys ds) = true ∧ PyData.intsShortAll 13 (D.pys ds) = true
  | [], _ => ⟨rfl, Nat.zero_le _, by simp [D.pys, PyData.weightAll], rfl, rfl⟩
  | d :: ds, h => by
    have h1 := h d List.mem_cons_self
    obtain ⟨a, b, c, e, f⟩ := rb_all (ds := ds) fun x hx => h x (List.mem_cons_of_mem _ hx)
    refine ⟨by simp only [D.plains, h1.p, a, Bool.and_self], ?_, ?_, by simp only [D.pys, PyData.showableAll, h1.sh, e, Bool.and_self], by simp only [D.pys, PyData.intsShortAll, h1.sm, f, Bool.and_self]⟩
    · simp only [D.deps]; have := h1.dp; omega
    · simp only [D.pys, PyData.weightAll, List.length_cons, Nat.add_mul]; have := h1.wt; omega
theorem rb_tup {ds : List D} {n w : Nat} (k : Nat) (h : ∀ d ∈ ds, Rb d n w) (l : ds.length ≤ k) : Rb (.tup ds) (n + 1) (k * (w + 1)) := by
  obtain ⟨a, b, c, e, f⟩ := rb_all h
  exact ⟨by simpa only [D.plain] using a, by simp only [D.dep]; omega, by simp only [D.py, PyData.weight]; exact Nat.le_trans c (Nat.mul_le_mul_right _ l), by simpa only [D.py, PyData.showable] using e, by simpa only [D.py, PyData.intsShort] using f⟩
theorem rb_lst {ds : List D} {n w : Nat} (k : Nat) (h : ∀ d ∈ ds, Rb d n w) (l : ds.length ≤ k) : Rb (.lst ds) (n + 1) (k * (w + 1)) := by
  obtain ⟨a, b, c, e, f⟩ := rb_all h
  exact ⟨by simpa only [D.plain] using a, by simp only [D.dep]; omega, by simp only [D.py, PyData.weight]; exact Nat.le_trans c (Nat.mul_le_mul_right _ l), by simpa only [D.py, PyData.showable] using e, by simpa only [D.py, PyData.intsShort] using f⟩
mutual
theorem pyy_dep : ∀ d : D, d.plain = true → d.py.depth = d.dep
  | .non, _ => by simp [D.py, PyData.depth, D.dep]
  | .bl b, _ => by simp [D.py, PyData.depth, D.dep]
  | .int i, _ => by simp [D.py, PyData.depth, D.dep]
  | .str x, _ => by simp [D.py, PyData.depth, D.dep]
  | .tup xs, g => by simp only [D.py, PyData.depth, D.dep]; rw [pyys_dep xs (by simpa [D.plain] using g)]
  | .lst xs, g => by simp only [D.py, PyData.depth, D.dep]; rw [pyys_dep xs (by simpa [D.plain] using g)]
  | .dic _ _, g => by simp [D.plain] at g
  | .obj _ _, g => by simp [D.plain] at g
  | .exn _ _, g => by simp [D.plain] at g
  | .scr _, g => by simp [D.plain] at g
  | .pr _, g => by simp [D.plain] at g
  | .cdic _ _, g => by simp [D.plain] at g
  | .tdic _ _, g => by simp [D.plain] at g
theorem pyys_dep : ∀ ds : List D, D.plains ds = true → PyData.depthAll (D.pys ds) = D.deps ds
  | [], _ => by simp [D.pys, PyData.depthAll, D.deps]
  | d :: ds, g => by
    simp only [D.plains, Bool.and_eq_true] at g
    simp only [D.pys, PyData.depthAll, D.deps]
    rw [pyy_dep d g.1, pyys_dep ds g.2]
end
theorem repOk_of {d : D} {n w : Nat} (h : Rb d n w) (a : n ≤ 50) (b : w ≤ 1048576) : repOk d = true := by
  have := h.dp
  have := h.wt
  simp only [repOk, h.p, h.sh, h.sm, Bool.true_and, Bool.and_true, Bool.and_eq_true, decide_eq_true_eq]
  refine ⟨by omega, ?_, by omega⟩
  rw [pyy_dep d h.p]; omega
theorem V.rb {v : V} (h : v.ok) : Rb v.d 1 200 := by
  cases v with
  | n i => exact (rb_int h).mono (by omega) (by omega)
  | t b => exact (rb_bl b).mono (by omega) (by omega)
  | r xs => exact (rb_tup (n := 0) (w := 20) 8 (fun d hd => by obtain ⟨i, hi, rfl⟩ := List.mem_map.mp hd; exact rb_int (h.2 i hi)) (by simpa using h.1)).mono (by omega) (by omega)
def A.okF : A → Prop
  | .is v => v.ok
  | .fault f => f.length ≤ 10
theorem A.rb {a : A} (h : a.okF) : Rb a.d 2 402 := by
  cases a with
  | is v => exact (rb_tup (n := 1) (w := 200) 2 (fun d hd => by
      simp only [List.mem_cons, List.not_mem_nil, or_false] at hd
      rcases hd with rfl | rfl
      · exact (rb_str _).mono (by omega) (by simp)
      · exact V.rb h) (by simp)).mono (by omega) (by omega)
  | fault f => exact (rb_tup (n := 1) (w := 200) 2 (fun d hd => by
      simp only [List.mem_cons, List.not_mem_nil, or_false] at hd
      rcases hd with rfl | rfl
      · exact (rb_str _).mono (by omega) (by simp)
      · exact (rb_str f).mono (by omega) (by have : f.length ≤ 10 := h; omega)) (by simp)).mono (by omega) (by omega)
@[simp] theorem bi_reprL (u : List D) : biD .repr [.lst u] = if repOk (.lst u) then some (.dat (.str (repL (.lst u)))) else none := rfl
@[simp] theorem bi_reprT (u : List D) : biD .repr [.tup u] = if repOk (.tup u) then some (.dat (.str (repL (.tup u)))) else none := rfl
end Lw

namespace Lw
open PySem MP
/-! good parts of a task -/
theorem okD_v (v : V) : okDD v.d = true := by
  cases v with
  | n i => rfl
  | t b => rfl
  | r xs => simp [V.d, tI, okDD, okD]
theorem okDD_or {d : D} (h : okDD d = true) : okD d = true := by cases d <;> first | exact h | rfl
theorem cut_lt (l : List D) (h : 0 < l.length) : (cutL l none (some (-1))).length < l.length := by
  unfold cutL
  have e1 : HT.sIx l.length 0 none = 0 := rfl
  have e2 : HT.sIx l.length l.length (some (-1)) = l.length - 1 := by
    show (if (-1 : Int) < 0 then ((-1 : Int) + (l.length : Int)).toNat else min (-1 : Int).toNat l.length) = l.length - 1
    rw [if_pos (by omega)]
    omega
  rw [e1, e2]
  simp; omega
theorem cut_sub (l : List D) : ∀ x ∈ cutL l none (some (-1)), x ∈ l := fun x h => List.mem_of_mem_drop (List.mem_of_mem_take h)
/-! good parts -/
theorem lts_all : ∀ c < 123, 97 ≤ c → lts.contains c = true := by decide
theorem nameB_ok {n : List Nat} (h : NameOk n) : nameB n = true := by
  have f := h.fr
  simp only [resv, List.mem_append, not_or] at f
  have f1 : wordsL.contains n = false := by simpa using f.1
  have f2 : leafW n = false := by
    have := f.2
    simp only [leafW]
    simpa using this
  have f3 : smL n = true := by
    simp only [smL, List.all_eq_true]
    intro c hc
    have := h.sm c hc
    exact lts_all c (by omega) this.1
  unfold nameB
  rw [f1, f2, f3, decide_eq_true ⟨h.pos, h.le⟩]
  rfl
theorem kindB_ok {k : Nat} (h : k ∈ [110, 114, 116]) : kindB (.str [k]) = true := by
  simp only [List.mem_cons, List.not_mem_nil, or_false] at h
  rcases h with rfl | rfl | rfl <;> decide
theorem arL_ins : ∀ (l : InsL) (ns : List (List Nat)), (∀ p ∈ l, NameOk p.1 ∧ p.2 ∈ [110, 114, 116]) → (ns ++ l.map (·.1)).Nodup → arL ns (l.map insP) = true
  | [], ns, _, _ => rfl
  | p :: l, ns, h, nd => by
    obtain ⟨h1, h2⟩ := h p (by simp)
    have hn : ns.contains p.1 = false := by
      simp only [List.map_cons] at nd
      have := (List.nodup_append.mp nd).2.2
      cases q : ns.contains p.1 with
      | false => rfl
      | true =>
        simp only [List.contains_eq_mem, decide_eq_true_eq] at q
        exact absurd rfl (this _ q _ (by simp))
    have hs : stp ns (insP p) = some p.1 := by
      simp only [insP, stp, nameB_ok h1, hn, kindB_ok h2]
      rfl
    rw [List.map_cons, arL_some hs]
    refine arL_ins l (ns ++ [p.1]) (fun q hq => h q (List.mem_cons_of_mem _ hq)) ?_
    simpa using nd
theorem areI_ins {ins : InsL} (hi : Ins ins) : areI (insD ins) = true := by
  simp only [areI]
  rw [decide_eq_true ⟨by have := hi.pos; simp; omega, by simpa using hi.le⟩, arL_ins ins [] (fun p hp => ⟨hi.ok p hp, hi.kd p hp⟩) (by simpa using hi.nd)]
  rfl
theorem okO_ins {p : List Nat × Nat} (h : NameOk p.1) : okO (insP p) = true := by
  have := h.le
  simp [okO, insP, okP, D.plain, D.dep]
  omega
theorem okI_ins {ins : InsL} (hi : Ins ins) : okI (insD ins) = true := by
  simp only [okI, List.all_eq_true]
  intro d hd
  obtain ⟨p, hp, rfl⟩ := List.mem_map.mp hd
  exact okO_ins (hi.ok p hp)
theorem kB_v {v : V} {k : Nat} (h : v.ok) (e : v.k = k) : kB v.d k = true := by
  subst e
  cases v with
  | n i =>
    obtain ⟨h1, h2⟩ := h
    have : numD (.int i) = true := by simp [numD]; omega
    simp [kB, V.d, kindD, this, V.k, D.eq]
  | t b => rfl
  | r xs =>
    have h8 := h.1
    have ha : (xs.map D.int).all numD = true := by
      simp only [List.all_eq_true]
      intro d hd
      obtain ⟨i, hi, rfl⟩ := List.mem_map.mp hd
      obtain ⟨h1, h2⟩ := h.2 i hi
      simp [numD]; omega
    have hl : (xs.map D.int).length ≤ 8 := by simpa using h8
    simp only [kB, V.d, tI, kindD, ha, hl, decide_true, Bool.and_self, if_true, V.k]
    rfl
theorem giv_ok : ∀ {ins : InsL} {vs : List V}, GvOk ins vs → ((vs.map V.d).zip ins).all (fun p => kB p.1 p.2.2) = true
  | [], _, .nil => rfl
  | p :: ins, _, .cons ⟨h1, h2⟩ t => by
    simp only [List.map_cons, List.zip_cons_cons, List.all_cons, kB_v h1 h2, giv_ok t, Bool.and_self]
theorem exB_ok {ins : InsL} {k : Nat} {e : List V × V} (h : ExOk ins k e) : exB ins k (exD e) = true := by
  have gl : e.1.length = ins.length := h.1.length.symm
  simp only [exD, exB, gvD, givB, giv_ok h.1, kB_v h.2.1 h.2.2, Bool.and_true, decide_eq_true_eq, List.length_map]
  exact gl
theorem exsB_ok {ins : InsL} {k : Nat} {es : List (List V × V)} (h : ∀ e ∈ es, ExOk ins k e) (hl : es.length ≤ 6) : exsB ins k (.tup (es.map exD)) = true := by
  simp only [exsB, List.length_map, decide_eq_true hl, Bool.true_and, List.all_eq_true]
  intro d hd
  obtain ⟨e, he, rfl⟩ := List.mem_map.mp hd
  exact exB_ok (h e he)
theorem okEs_ok {ins : InsL} {k : Nat} (hi : Ins ins) {es : List (List V × V)} (h : ∀ e ∈ es, ExOk ins k e) (hl : es.length ≤ 6) : okEs (.tup (es.map exD)) = true := by
  simp only [okEs, List.length_map, Bool.and_eq_true, decide_eq_true_eq, List.all_eq_true]
  refine ⟨?_, by omega⟩
  intro d hd
  obtain ⟨e, he, rfl⟩ := List.mem_map.mp hd
  have gl : e.1.length = ins.length := (h e he).1.length.symm
  have := hi.le
  simp only [exD, okEx, gvD, okGv, okD_v, Bool.and_true, Bool.and_eq_true, decide_eq_true_eq, List.all_eq_true, List.length_map]
  refine ⟨?_, by omega⟩
  intro x hx
  obtain ⟨u, _, rfl⟩ := List.mem_map.mp hx
  exact okD_v u
theorem eight_sorted : eight.Pairwise fun a b => a < b := by decide
theorem eight_mem : ∀ i ∈ eight, -9 ≤ i ∧ i ≤ 9 := by decide
theorem c_is_kind (wf n : Nat) {k : Nat} (h : k ∈ [110, 114, 116]) : callN tab wf (n + 1) i_is_kind [.dat (.str [k])] = .ok (.dat (.bl true)) [.dat (.str [k])] := by
  simp only [List.mem_cons, List.not_mem_nil, or_false] at h
  rcases h with rfl | rfl | rfl <;> kernel_rfl
theorem mk_good (n : Nat) {T : TaskP} {mw me : Nat} (hT : T.Ok mw me) (h8 : mw ≤ 8) (h6 : me ≤ 6) : Mk5 (callN tab 60 (n + 5)) (insD T.ins) (.tup (T.ws.map .str)) (.tup (T.ns.map .int)) (.str [T.k]) (.tup (T.es.map exD)) true := by
  refine ⟨fun _ => ⟨?_, ?_, ?_, c_is_kind 60 (n+4) hT.k, by simp, ?_⟩, fun h => by cases h⟩
  · have := c_are_inputs 60 (n + 2) (insD T.ins) (okI_ins hT.ins) (fun xs h => by cases h; have := hT.ins.le; simp; omega)
    rw [areI_ins hT.ins] at this
    exact this
  · exact c_are_words 60 (n + 3) T.ws hT.ws (by have := hT.wl; omega)
  · exact c_are_numbers 60 (n + 3) T.ns (eight_sorted.sublist hT.ns) (fun i h => eight_mem i (hT.ns.subset h)) (by have := hT.nl; omega)
  · have := c_are_examples 60 n T.ins T.k (.tup (T.es.map exD)) hT.ins (okEs_ok hT.ins hT.es (by have := hT.el; omega))
    rw [exsB_ok hT.es (by have := hT.el; omega)] at this
    exact this
/-! the text of a task -/
theorem words_len : ∀ w ∈ wordsL, w.length ≤ 8 := by decide
theorem all2_mem {α β : Type} {P : α → β → Prop} : ∀ {as : List α} {bs : List β}, All2 P as bs → ∀ b ∈ bs, ∃ a ∈ as, P a b
  | _, _, .nil, b, h => by cases h
  | _, _, .cons (a := a) r t, b, h => by
    rcases List.mem_cons.mp h with rfl | h
    · exact ⟨a, by simp, r⟩
    · obtain ⟨a', h1, h2⟩ := all2_mem t b h
      exact ⟨a', List.mem_cons_of_mem _ h1, h2⟩
theorem rb_ex {ins : InsL} {k : Nat} (hi : Ins ins) {e : List V × V} (h : ExOk ins k e) : Rb (exD e) 3 2000 := by
  refine (rb_tup (n := 2) (w := 700) 2 (fun d hd => ?_) (by simp)).mono (by omega) (by omega)
  simp only [List.mem_cons, List.not_mem_nil, or_false] at hd
  rcases hd with rfl | rfl
  · refine (rb_tup (n := 1) (w := 200) 3 (fun d hd => ?_) (by have := h.1.length; have := hi.le; simp; omega)).mono (by omega) (by omega)
    obtain ⟨v, hv, rfl⟩ := List.mem_map.mp hd
    obtain ⟨p, _, h1⟩ := all2_mem h.1 v hv
    exact V.rb h1.1
  · exact (V.rb h.2.1).mono (by omega) (by omega)
theorem rb_at {T : TaskP} {mw me : Nat} (hT : T.Ok mw me) (h8 : mw ≤ 8) (h6 : me ≤ 6) : ∀ d ∈ T.at_, Rb d 5 20000 := by
  intro d hd
  simp only [TaskP.at_, List.mem_cons, List.not_mem_nil, or_false] at hd
  rcases hd with rfl | rfl | rfl | rfl | rfl
  · refine (rb_tup (n := 1) (w := 20) 3 (fun d hd => ?_) (by have := hT.ins.le; simpa using this)).mono (by omega) (by omega)
    obtain ⟨p, hp, rfl⟩ := List.mem_map.mp hd
    have := (hT.ins.ok p hp).le
    refine (rb_tup (n := 0) (w := 4) 2 (fun d hd => ?_) (by simp)).mono (by omega) (by omega)
    simp only [List.mem_cons, List.not_mem_nil, or_false] at hd
    rcases hd with rfl | rfl
    · exact (rb_str _).mono (by omega) (by omega)
    · exact (rb_str _).mono (by omega) (by simp)
  · refine (rb_tup (n := 0) (w := 8) 8 (fun d hd => ?_) (by have := hT.wl; simp; omega)).mono (by omega) (by omega)
    obtain ⟨w, hw, rfl⟩ := List.mem_map.mp hd
    exact (rb_str w).mono (by omega) (words_len w (hT.ws.subset hw))
  · refine (rb_tup (n := 0) (w := 20) 2 (fun d hd => ?_) (by have := hT.nl; simpa using this)).mono (by omega) (by omega)
    obtain ⟨i, hi, rfl⟩ := List.mem_map.mp hd
    have := eight_mem i (hT.ns.subset hi)
    exact rb_int ⟨by omega, by omega⟩
  · exact (rb_str _).mono (by omega) (by simp)
  · refine (rb_tup (n := 3) (w := 2000) 6 (fun d hd => ?_) (by have := hT.el; simp; omega)).mono (by omega) (by omega)
    obtain ⟨e, he, rfl⟩ := List.mem_map.mp hd
    exact rb_ex hT.ins (hT.es e he)
theorem rep_task {T : TaskP} {mw me : Nat} (hT : T.Ok mw me) (h8 : mw ≤ 8) (h6 : me ≤ 6) : repOk T.d = true :=
  repOk_of (rb_tup (n := 5) (w := 20000) 5 (rb_at hT h8 h6) (by simp [TaskP.at_])) (by omega) (by omega)
theorem t0 (a b c d e : D) : L2.atI [a, b, c, d, e] 0 = some a := at0 _ _
theorem t1 (a b c d e : D) : L2.atI [a, b, c, d, e] 1 = some b := at1 _ _ _
theorem t2 (a b c d e : D) : L2.atI [a, b, c, d, e] 2 = some c := atI_nat [a, b, c, d, e] 2 (by simp)
theorem t3 (a b c d e : D) : L2.atI [a, b, c, d, e] 3 = some d := atI_nat [a, b, c, d, e] 3 (by simp)
theorem t4 (a b c d e : D) : L2.atI [a, b, c, d, e] 4 = some e := atI_nat [a, b, c, d, e] 4 (by simp)
end Lw

namespace Lw
open PySem MP
/-! a deed, and what is due behind it -/
def sPut : List Nat := [112, 117, 116]
def sTake : List Nat := [116, 97, 107, 101]
abbrev ExL := List (List V × V)
/-- what is no place -/
inductive NoAt (n : Nat) : D → Prop
  | non : NoAt n .non
  | bl (b : Bool) : NoAt n (.bl b)
  | str (x : List Nat) : NoAt n (.str x)
  | tup (l : List D) : NoAt n (.tup l)
  | int (i : Int) : ¬ (0 ≤ i ∧ i < (n : Int)) → NoAt n (.int i)
inductive Deed (T : TaskP) (rows : ExL) : D → D → Prop
  | bad (g v : D) : okEx (.tup [g, v]) = true → (rows.length = 6 ∨ exB T.ins T.k (.tup [g, v]) = false) → Deed T rows (.tup [.str sPut, g, v]) .non
  | put (e : List V × V) : ExOk T.ins T.k e → rows.length < 6 → Deed T rows (.tup [.str sPut, gvD e.1, e.2.d]) (.lst ((rows ++ [e]).map exD))
  | noat (a : D) : NoAt rows.length a → Deed T rows (.tup [.str sTake, a, .non]) .non
  | take (i : Nat) : i < rows.length → Deed T rows (.tup [.str sTake, .int (i : Int), .non]) (.lst ((rows.take i ++ rows.drop (i + 1)).map exD))
structure RowsOk (T : TaskP) (rows : ExL) : Prop where
  ok : ∀ e ∈ rows, ExOk T.ins T.k e
  le : rows.length ≤ 6
abbrev D1 (call : Nat → G) (wf : Nat) : MP.Ctx := ⟨call, tab.glob, [true, false, false], wf⟩
def bad42 (k : Nat) : List D := if k = 110 then [.bl true, .str [48], .int 10000, .non] else if k = 116 then [.int 1, .int 0, .str [110, 111]] else [.lst [.int 1], .tup [.bl true], .tup [.int 10000], .int 5]
theorem bad42_ok {k : Nat} (hk : k ∈ [110, 114, 116]) : ∀ b ∈ bad42 k, okDD b = true ∧ kB b k = false := by
  simp only [List.mem_cons, List.not_mem_nil, or_false] at hk
  rcases hk with rfl | rfl | rfl <;> decide
/-- things that give no value to each input -/
def gv42 (gl : List D) : List D := [.lst gl, .tup (cutL gl none (some (-1))), .tup (gl ++ [.int 1]), .non, .int 7, .tup (List.replicate gl.length .non), .str [120, 121]]
theorem gv42_ok {T : TaskP} (hi : Ins T.ins) {gs : List V} (hg : GvOk T.ins gs) (v : V) : ∀ g ∈ gv42 (gs.map V.d), okEx (.tup [g, v.d]) = true ∧ exB T.ins T.k (.tup [g, v.d]) = false := by
  have gl : gs.length = T.ins.length := hg.length.symm
  have ml : (gs.map V.d).length = gs.length := by simp
  have i3 := hi.le
  have i0 := hi.pos
  have ok1 : (gs.map V.d).all okDD = true := by
    simp only [List.all_eq_true]
    intro x hx
    obtain ⟨u, _, rfl⟩ := List.mem_map.mp hx
    exact okD_v u
  have okv := okD_v v
  have cl := cut_lt (gs.map V.d) (by omega)
  have okc : (cutL (gs.map V.d) none (some (-1))).all okDD = true := by
    simp only [List.all_eq_true] at ok1 ⊢
    exact fun x hx => ok1 x (cut_sub _ x hx)
  intro d hd
  simp only [gv42, List.mem_cons, List.not_mem_nil, or_false] at hd
  rcases hd with rfl | rfl | rfl | rfl | rfl | rfl | rfl
  · exact ⟨by simp [okEx, okGv, okD, okv], by simp [exB, givB]⟩
  · refine ⟨by simp [okEx, okGv, okc, okv]; omega, ?_⟩
    have : ¬ (cutL (gs.map V.d) none (some (-1))).length = T.ins.length := by omega
    simp [exB, givB, this]
  · refine ⟨by
      have : (gs.map V.d ++ [D.int 1]).all okDD = true := by rw [List.all_append, ok1]; rfl
      simp only [okEx, okGv, this, okv, Bool.and_true, Bool.true_and, decide_eq_true_eq, List.length_append, List.length_cons, List.length_nil]
      omega, ?_⟩
    have : ¬ (gs.map V.d ++ [D.int 1]).length = T.ins.length := by simp; omega
    simp only [exB, givB, this, decide_false, Bool.false_and, Bool.and_false]
  · exact ⟨by simp [okEx, okGv, okD, okv], by simp [exB, givB]⟩
  · exact ⟨by simp [okEx, okGv, okD, okv], by simp [exB, givB]⟩
  · obtain ⟨p, r, e, _⟩ : ∃ p r, T.ins = p :: r ∧ True := by
      cases h : T.ins with
      | nil => rw [h] at i0; simp at i0
      | cons p r => exact ⟨p, r, rfl, trivial⟩
    have e1 : (List.replicate (gs.map V.d).length D.non) = .non :: List.replicate ((gs.map V.d).length - 1) .non := by
      rw [← List.replicate_succ]; congr 1; omega
    refine ⟨?_, ?_⟩
    · have : (List.replicate (gs.map V.d).length D.non).all okDD = true := by
        simp only [List.all_eq_true]
        intro x hx
        rw [(List.mem_replicate.mp hx).2]; rfl
      simp only [okEx, okGv, this, okv, Bool.and_true, Bool.true_and, decide_eq_true_eq, List.length_replicate]
      omega
    · have z : kB .non p.2 = false := rfl
      simp only [exB, givB]
      rw [e1, e]
      simp [z]
  · exact ⟨by simp [okEx, okGv, okD, okv], by simp [exB, givB]⟩
theorem rows_plain (rows : ExL) : D.plains (rows.map exD) = true := plains_map _ (fun e => by
  have h : D.plains (e.1.map V.d) = true := plains_map _ V.plain e.1
  simp [exD, gvD, D.plain, D.plains, h, e.2.plain]) rows
theorem eq_nilP {u : List D} (h : D.plains u = true) : cmpD .Eq (.lst u) (.lst []) = some u.isEmpty := by
  rw [cmp_eq (eqOk_of (d := .lst u) (e := .lst []) h rfl (by decide))]
  cases u <;> rfl
def Sp__law_deed (g : G) : Prop := ∀ q, Q q → ∀ (T : TaskP) (rows : ExL), T.Ok 3 6 → RowsOk T rows → ∃ (dd due : D) (q' : List D), Q q' ∧ Deed T rows dd due ∧ g [.lst q, .dat T.d, .dat (.lst (rows.map exD))] = .ok (.dat (.tup [dd, due])) [.lst q', .dat T.d, .dat (.lst (rows.map exD))]
/-- the rows ahead: what is given, a value, the sort -/
theorem de_head (call : Nat → G) (wf : Nat) (hn : Sp__law_next (call i__law_next)) (hv : Sp__law_value (call i__law_value)) (q : List D) (hq : Q q) {T : TaskP} (hT : T.Ok 3 6) (rd : D) :
    ∃ (gs : List V) (v : V) (x : Nat) (q' : List D), Q q' ∧ GvOk T.ins gs ∧ (v.ok ∧ v.k = T.k) ∧ x < 7 ∧
    evSs (D1 call wf) (.cons s__law_deed_0 (.cons s__law_deed_1 (.cons s__law_deed_2 .nil))) [.lst q, .dat T.d, .dat rd, .un, .un, .un, .un, .un, .un, .un] = .ok .nx [.lst q', .dat T.d, .dat rd, .un, .dat (gvD gs), .dat v.d, .dat (.int (x : Int)), .un, .un, .un] := by
  obtain ⟨ys, ρ, hc, hp, q1, k1, rfl⟩ := ev_comp_all2 (C := D1 call wf) (own := [3]) (elt := .call i__law_value (.cons (.mv 0) (.cons (.ix (.var 3) (.con (.int 1))) .nil))) (t := .var 3) (it := .e (.ix (.var 1) (.con (.int 0))))
    (ρ := [.lst q, .dat T.d, .dat rd, .un, .un, .un, .un, .un, .un, .un]) (ρ0 := [.lst q, .dat T.d, .dat rd, .un, .un, .un, .un, .un, .un, .un])
    (fun ρ => ∃ q, Q q ∧ ρ = [.lst q, .dat T.d, .dat rd, .un, .un, .un, .un, .un, .un, .un]) (fun x y => ∃ (p : List Nat × Nat) (v : V), x = insP p ∧ y = v.d ∧ v.ok ∧ v.k = p.2) (xs := T.ins.map insP) (by
      have a := t0 (insD T.ins) (.tup (T.ws.map .str)) (.tup (T.ns.map .int)) (.str [T.k]) (.tup (T.es.map exD))
      simp only [TaskP.d, TaskP.at_, insD] at *
      generalize T.ins.map insP = IL at *
      generalize T.ws.map D.str = WL at *
      generalize T.ns.map D.int = NL at *
      generalize T.es.map exD = EL at *
      simp -implicitDefEqProofs [runFn, evSs, evS, evE, evT, evTs, evArgs, evOps, evPairs, evIt, testE, testB, view1_eq, views, takes, putBack, setSlot, finOf, wipeE, a]) (by
      rintro x' hx _ ⟨q, hq, rfl⟩
      obtain ⟨p, hp, rfl⟩ := List.mem_map.mp hx
      obtain ⟨v, q', hq', ⟨v1, v2⟩, ev⟩ := hv q hq p.2 (hT.ins.kd p hp)
      refine ⟨[.lst q, .dat T.d, .dat rd, .dat (insP p), .un, .un, .un, .un, .un, .un], .dat v.d, [.lst q', .dat T.d, .dat rd, .dat (insP p), .un, .un, .un, .un, .un, .un], rfl, ?_, ⟨p, v, rfl, rfl, v1, v2⟩, q', hq', rfl⟩
      have a1 := at1 (D.str p.1) (.str [p.2]) []
      clear hx
      generalize T.d = td at *
      simp only [insP]
      simp -implicitDefEqProofs [runFn, evSs, evS, evE, evT, evTs, evArgs, evOps, evPairs, evIt, testE, testB, view1_eq, views, takes, putBack, setSlot, finOf, wipeE, a1, ev]) ⟨q, hq, rfl⟩ (by have := hT.ins.le; simp; omega)
  replace hc : evE (D1 call wf) cm__law_deed_0 [.lst q, .dat T.d, .dat rd, .un, .un, .un, .un, .un, .un, .un] = .ok (.lst ys) [.lst q1, .dat T.d, .dat rd, .un, .un, .un, .un, .un, .un, .un] := hc
  obtain ⟨gs, rfl, hg⟩ := vals_of hp
  obtain ⟨v, q2, k2, hv2, ev⟩ := hv q1 k1 T.k hT.k
  obtain ⟨x, q3, k3, h3, e3⟩ := hn q2 k2 7 (by omega)
  refine ⟨gs, v, x, q3, k3, hg, hv2, by omega, ?_⟩
  have a3 := t3 (insD T.ins) (.tup (T.ws.map .str)) (.tup (T.ns.map .int)) (.str [T.k]) (.tup (T.es.map exD))
  clear hp hT
  unfold gvD
  simp only [TaskP.d, TaskP.at_] at *
  generalize insD T.ins = id at *
  generalize T.ws.map D.str = WL at *
  generalize T.ns.map D.int = NL at *
  generalize T.es.map exD = EL at *
  generalize gs.map V.d = GL at *
  generalize v.d = vd at *
  generalize T.k = kk at *
  simp -implicitDefEqProofs [s__law_deed_0, s__law_deed_1, s__law_deed_2, runFn, evSs, evS, evE, evT, evTs, evArgs, evOps, evPairs, evIt, testE, testB, view1_eq, views, takes, putBack, setSlot, finOf, wipeE, hc, a3, ev, e3]
abbrev dRest : SL := .cons s__law_deed_3 (.cons s__law_deed_4 (.cons s__law_deed_5 (.cons s__law_deed_6 (.cons s__law_deed_7 (.cons s__law_deed_8 (.cons s__law_deed_9 .nil))))))
theorem b3 {α : Type} [DecidableEq α] (a b : α) : L2.atI [a, b] (b2i true) = some b := rfl
/-- a good put, or one too many -/
theorem de_a (call : Nat → G) (wf : Nat) (q R : List D) (hR : R.length ≤ 6) (td g v : D) (x : Nat) (hx : x < 3) :
    evSs (D1 call wf) dRest [.lst q, .dat td, .dat (.lst R), .un, .dat g, .dat v, .dat (.int (x : Int)), .un, .un, .un] = .ok (.ret (.dat (.tup [.tup [.str sPut, g, v], if R.length = 6 then .non else .lst (R ++ [.tup [g, v]])]))) [.lst q, .dat td, .dat (.lst R), .un, .dat g, .dat v, .dat (.int (x : Int)), .un, .un, .un] := by
  have h : (x : Int) < 3 := by omega
  have f : fitsL (R.length + 1) = true := fits_of (by omega)
  have a0 := at0 (D.lst (R ++ [.tup [g, v]])) [.non]
  have a1 := at1 (D.lst (R ++ [.tup [g, v]])) .non []
  unfold sPut
  by_cases q6 : R.length = 6
  · have q6' : (R.length : Int) = 6 := by omega
    have f7 : fitsL 7 = true := rfl
    simp -implicitDefEqProofs [s__law_deed_3, s__law_deed_3t, s__law_deed_3t_0, runFn, evSs, evS, evE, evT, evTs, evArgs, evOps, evPairs, evIt, testE, testB, view1_eq, views, takes, putBack, setSlot, finOf, wipeE, hx, h, f, f7, q6, b2i, a1]
  · have q6' : ¬ (R.length : Int) = 6 := by omega
    simp -implicitDefEqProofs [s__law_deed_3, s__law_deed_3t, s__law_deed_3t_0, runFn, evSs, evS, evE, evT, evTs, evArgs, evOps, evPairs, evIt, testE, testB, view1_eq, views, takes, putBack, setSlot, finOf, wipeE, hx, h, f, q6, q6', b2i, a0]
theorem de_b (call : Nat → G) (wf : Nat) (hn : Sp__law_next (call i__law_next)) (q R : List D) (hq : Q q) (I W N E : D) (k : Nat) (hk : k ∈ [110, 114, 116]) (g v : D) :
    ∃ (b : D) (q' : List D) (s7 : Sl), Q q' ∧ b ∈ bad42 k ∧ evSs (D1 call wf) dRest [.lst q, .dat (.tup [I, W, N, .str [k], E]), .dat (.lst R), .un, .dat g, .dat v, .dat (.int 3), .un, .un, .un] = .ok (.ret (.dat (.tup [.tup [.str sPut, g, b], .non]))) [.lst q', .dat (.tup [I, W, N, .str [k], E]), .dat (.lst R), .un, .dat g, .dat v, .dat (.int 3), s7, .un, .un] := by
  have hbl : 0 < (bad42 k).length := by unfold bad42; split <;> (try split) <;> simp
  obtain ⟨x, q3, k3, h3, e3⟩ := hn q hq (((bad42 k).length : Nat) : Int) (by omega)
  obtain ⟨b, hb, e4⟩ := pickP (bad42 k) (fun d => d ∈ bad42 k) x (by omega) (fun _ h => h)
  have hd : dGet [.str [110], .str [116], .str [114]] [.lst (bad42 110), .lst (bad42 116), .lst (bad42 114)] (.str [k]) = some (.lst (bad42 k)) := by
    simp only [List.mem_cons, List.not_mem_nil, or_false] at hk
    rcases hk with h | h | h <;> rw [h] <;> rfl
  have b110 : bad42 110 = [.bl true, .str [48], .int 10000, .non] := rfl
  have b116 : bad42 116 = [.int 1, .int 0, .str [110, 111]] := rfl
  have b114 : bad42 114 = [.lst [.int 1], .tup [.bl true], .tup [.int 10000], .int 5] := rfl
  rw [b110, b116, b114] at hd
  have a3 := t3 I W N (.str [k]) E
  refine ⟨b, q3, .dat (.lst (bad42 k)), k3, hb, ?_⟩
  unfold sPut
  clear hb hbl h3 hk
  generalize bad42 k = BL at *
  simp -implicitDefEqProofs [s__law_deed_3, s__law_deed_4, s__law_deed_4t, s__law_deed_4t_0, s__law_deed_4t_1, runFn, evSs, evS, evE, evT, evTs, evArgs, evOps, evPairs, evIt, testE, testB, view1_eq, views, takes, putBack, setSlot, finOf, wipeE, a3, hd, e3, e4, dMerge, dPut, D.eq, isKey]
theorem rep_non (n : Nat) : (List.replicate n [D.non]).flatten = List.replicate n .non := by
  induction n with
  | zero => rfl
  | succ n ih => rw [List.replicate_succ, List.flatten_cons, ih]; rfl
theorem mul_non (n : Nat) (h0 : 1 ≤ n) (h3 : n ≤ 3) : binD .Mult (.tup [.non]) (.int (n : Int)) = some (.dat (.tup (List.replicate n .non))) := by
  have : n = 1 ∨ n = 2 ∨ n = 3 := by omega
  rcases this with rfl | rfl | rfl <;> rfl
theorem de_c (call : Nat → G) (wf : Nat) (hn : Sp__law_next (call i__law_next)) (q R : List D) (hq : Q q) (td : D) (gl : List D) (h0 : 1 ≤ gl.length) (h3 : gl.length ≤ 3) (v : D) :
    ∃ (b : D) (q' : List D) (s8 : Sl), Q q' ∧ b ∈ gv42 gl ∧ evSs (D1 call wf) dRest [.lst q, .dat td, .dat (.lst R), .un, .dat (.tup gl), .dat v, .dat (.int 4), .un, .un, .un] = .ok (.ret (.dat (.tup [.tup [.str sPut, b, v], .non]))) [.lst q', .dat td, .dat (.lst R), .un, .dat (.tup gl), .dat v, .dat (.int 4), .un, s8, .un] := by
  obtain ⟨x, q3, k3, h7, e3⟩ := hn q hq 7 (by omega)
  obtain ⟨b, hb, e4⟩ := pickP (gv42 gl) (fun d => d ∈ gv42 gl) x (by simp [gv42]; omega) (fun _ h => h)
  refine ⟨b, q3, .lst (gv42 gl), k3, hb, ?_⟩
  have f : fitsL (gl.length + 1) = true := fits_of (by omega)
  have mn := mul_non gl.length h0 h3
  unfold sPut
  clear hb h7
  unfold gv42 at *
  simp -implicitDefEqProofs [s__law_deed_3, s__law_deed_4, s__law_deed_5, s__law_deed_5t, s__law_deed_5t_0, s__law_deed_5t_1, runFn, evSs, evS, evE, evT, evTs, evArgs, evOps, evPairs, evIt, testE, testB, view1_eq, views, takes, putBack, setSlot, finOf, wipeE, f, mn, e3, e4]
def at42 (n x : Nat) : List D := [.int (n : Int), .int (-1), .bl true, .non, .str [48], .int (7 + (x : Int)), .tup [.int 0]]
theorem at42_ok {n x : Nat} (h : n ≤ 6) : ∀ a ∈ at42 n x, NoAt n a := by
  intro a ha
  simp only [at42, List.mem_cons, List.not_mem_nil, or_false] at ha
  rcases ha with rfl | rfl | rfl | rfl | rfl | rfl | rfl
  · exact .int _ (by omega)
  · exact .int _ (by omega)
  · exact .bl _
  · exact .non
  · exact .str _
  · exact .int _ (by omega)
  · exact .tup _
theorem de_d (call : Nat → G) (wf : Nat) (hn : Sp__law_next (call i__law_next)) (q R : List D) (hq : Q q) (td g v : D) :
    ∃ (b : D) (x : Nat) (q' : List D) (s8 : Sl), Q q' ∧ b ∈ at42 R.length x ∧ evSs (D1 call wf) dRest [.lst q, .dat td, .dat (.lst R), .un, .dat g, .dat v, .dat (.int 5), .un, .un, .un] = .ok (.ret (.dat (.tup [.tup [.str sTake, b, .non], .non]))) [.lst q', .dat td, .dat (.lst R), .un, .dat g, .dat v, .dat (.int 5), .un, s8, .un] := by
  obtain ⟨y, q2, k2, h2, e2⟩ := hn q hq 9 (by omega)
  obtain ⟨x, q3, k3, h7, e3⟩ := hn q2 k2 7 (by omega)
  obtain ⟨b, hb, e4⟩ := pickP (at42 R.length y) (fun d => d ∈ at42 R.length y) x (by simp [at42]; omega) (fun _ h => h)
  refine ⟨b, y, q3, .lst (at42 R.length y), k3, hb, ?_⟩
  unfold sTake
  clear hb h7
  unfold at42 at *
  simp -implicitDefEqProofs [s__law_deed_3, s__law_deed_4, s__law_deed_5, s__law_deed_6, s__law_deed_6t, s__law_deed_6t_0, s__law_deed_6t_1, runFn, evSs, evS, evE, evT, evTs, evArgs, evOps, evPairs, evIt, testE, testB, view1_eq, views, takes, putBack, setSlot, finOf, wipeE, e2, e3, e4]
theorem de_e (call : Nat → G) (wf : Nat) (q : List D) (td g v : D) :
    evSs (D1 call wf) dRest [.lst q, .dat td, .dat (.lst []), .un, .dat g, .dat v, .dat (.int 6), .un, .un, .un] = .ok (.ret (.dat (.tup [.tup [.str sTake, .int 0, .non], .non]))) [.lst q, .dat td, .dat (.lst []), .un, .dat g, .dat v, .dat (.int 6), .un, .un, .un] := by
  have e := eq_nilP (u := []) rfl
  unfold sTake
  simp -implicitDefEqProofs [s__law_deed_3, s__law_deed_4, s__law_deed_5, s__law_deed_6, s__law_deed_7, s__law_deed_7t, s__law_deed_7t_0, runFn, evSs, evS, evE, evT, evTs, evArgs, evOps, evPairs, evIt, testE, testB, view1_eq, views, takes, putBack, setSlot, finOf, wipeE, e]
theorem de_f (call : Nat → G) (wf : Nat) (hn : Sp__law_next (call i__law_next)) (q R : List D) (hq : Q q) (hp : D.plains R = true) (h0 : 0 < R.length) (h6 : R.length ≤ 6) (td g v : D) :
    ∃ (i : Nat) (q' : List D), Q q' ∧ i < R.length ∧ evSs (D1 call wf) dRest [.lst q, .dat td, .dat (.lst R), .un, .dat g, .dat v, .dat (.int 6), .un, .un, .un] = .ok (.ret (.dat (.tup [.tup [.str sTake, .int (i : Int), .non], .lst (R.take i ++ R.drop (i + 1))]))) [.lst q', .dat td, .dat (.lst R), .un, .dat g, .dat v, .dat (.int 6), .un, .un, .dat (.int (i : Int))] := by
  obtain ⟨i, q1, k1, h1, e1⟩ := hn q hq ((R.length : Nat) : Int) (by omega)
  have hi : i < R.length := by omega
  refine ⟨i, q1, k1, hi, ?_⟩
  have e := eq_nilP hp
  have ne : R.isEmpty = false := by cases R with
    | nil => simp at h0
    | cons a b => rfl
  rw [ne] at e
  have c1 := cut_to R i (by omega)
  have c2 := cut_from R (i + 1) (by omega)
  have ei : (((i + 1 : Nat)) : Int) = (i : Int) + 1 := by omega
  rw [ei] at c2
  have f : fitsL ((R.take i).length + (R.drop (i + 1)).length) = true := fits_of (by simp; omega)
  generalize R.take i = A at *
  generalize R.drop (i + 1) = B at *
  unfold sTake
  simp -implicitDefEqProofs [s__law_deed_3, s__law_deed_4, s__law_deed_5, s__law_deed_6, s__law_deed_7, s__law_deed_8, s__law_deed_9, runFn, evSs, evS, evE, evT, evTs, evArgs, evOps, evPairs, evIt, testE, testB, view1_eq, views, takes, putBack, setSlot, finOf, wipeE, e, e1, c1, c2, f]
theorem evSs_app3 {C : MP.Ctx} {a b c : S} {ss : SL} {ρ ρ' : MP.Env} {z : MP.R Fl} (h : evSs C (.cons a (.cons b (.cons c .nil))) ρ = .ok .nx ρ') (h2 : evSs C ss ρ' = z) : evSs C (.cons a (.cons b (.cons c ss))) ρ = z := by
  simp only [evSs] at h ⊢
  cases h1 : evS C a ρ with
  | ok f ρ1 =>
    rw [h1, rbind_ok] at h; rw [rbind_ok]
    cases f with
    | nx =>
      simp only at h ⊢
      cases h3 : evS C b ρ1 with
      | ok f ρ2 =>
        rw [h3, rbind_ok] at h; rw [rbind_ok]
        cases f with
        | nx =>
          simp only at h ⊢
          cases h4 : evS C c ρ2 with
          | ok f ρ3 =>
            rw [h4, rbind_ok] at h; rw [rbind_ok]
            cases f with
            | nx =>
              simp only [R.ok.injEq, true_and] at h ⊢
              rw [h]; exact h2
            | _ => simp at h
          | _ => rw [h4] at h; simp [R.bind] at h
        | _ => simp at h
      | _ => rw [h3] at h; simp [R.bind] at h
    | _ => simp at h
  | _ => rw [h1] at h; simp [R.bind] at h
theorem r__law_deed (call : Nat → G) (wf : Nat) (hn : Sp__law_next (call i__law_next)) (hv : Sp__law_value (call i__law_value)) : Sp__law_deed (runFn call tab.glob wf f__law_deed) := by
  intro q hq T rows hT hR
  obtain ⟨gs, v, x, q1, k1, hg, ⟨v1, v2⟩, hx, e0⟩ := de_head call wf hn hv q hq hT (.lst (rows.map exD))
  have lr : (rows.map exD).length = rows.length := by simp
  have h6 := hR.le
  have gl : gs.length = T.ins.length := hg.length.symm
  have ml : (gs.map V.d).length = gs.length := by simp
  have i3 := hT.ins.le
  have i0 := hT.ins.pos
  have okg : okGv (gvD gs) = true := by
    have ok1 : (gs.map V.d).all okDD = true := by
      simp only [List.all_eq_true]
      intro x hx
      obtain ⟨u, _, rfl⟩ := List.mem_map.mp hx
      exact okD_v u
    simp only [gvD, okGv, ok1, Bool.true_and, decide_eq_true_eq]; omega
  by_cases x3 : x < 3
  · have e := de_a call wf q1 (rows.map exD) (by omega) T.d (gvD gs) v.d x x3
    rw [lr] at e
    by_cases r6 : rows.length = 6
    · rw [if_pos r6] at e
      exact ⟨_, _, q1, k1, .bad _ _ (by simp [okEx, okg, okD_v]) (.inl r6), run_ret2 rfl (evSs_app3 e0 e) rfl⟩
    · rw [if_neg r6] at e
      have em : rows.map exD ++ [.tup [gvD gs, v.d]] = (rows ++ [(gs, v)]).map exD := by simp [exD]
      rw [em] at e
      exact ⟨_, _, q1, k1, .put (gs, v) ⟨hg, v1, v2⟩ (by omega), run_ret2 rfl (evSs_app3 e0 e) rfl⟩
  · have hx' : x = 3 ∨ x = 4 ∨ x = 5 ∨ x = 6 := by omega
    rcases hx' with rfl | rfl | rfl | rfl
    · obtain ⟨b, q2, s7, k2, hb, e⟩ := de_b call wf hn q1 (rows.map exD) k1 (insD T.ins) (.tup (T.ws.map .str)) (.tup (T.ns.map .int)) (.tup (T.es.map exD)) T.k hT.k (gvD gs) v.d
      obtain ⟨b1, b2⟩ := bad42_ok hT.k b hb
      exact ⟨_, _, q2, k2, .bad _ b (by simp [okEx, okg, b1]) (.inr (by simp [exB, b2])), run_ret2 rfl (evSs_app3 e0 e) rfl⟩
    · obtain ⟨b, q2, s8, k2, hb, e⟩ := de_c call wf hn q1 (rows.map exD) k1 T.d (gs.map V.d) (by omega) (by omega) v.d
      obtain ⟨b1, b2⟩ := gv42_ok hT.ins hg v b hb
      exact ⟨_, _, q2, k2, .bad b _ b1 (.inr b2), run_ret2 rfl (evSs_app3 e0 e) rfl⟩
    · obtain ⟨b, y, q2, s8, k2, hb, e⟩ := de_d call wf hn q1 (rows.map exD) k1 T.d (gvD gs) v.d
      rw [lr] at hb
      exact ⟨_, _, q2, k2, .noat b (at42_ok h6 b hb), run_ret2 rfl (evSs_app3 e0 e) rfl⟩
    · cases rows with
      | nil =>
        have e := de_e call wf q1 T.d (gvD gs) v.d
        exact ⟨_, _, q1, k1, .noat _ (.int 0 (by simp)), run_ret2 rfl (evSs_app3 e0 e) rfl⟩
      | cons r rs =>
        obtain ⟨i, q2, k2, hi, e⟩ := de_f call wf hn q1 ((r :: rs).map exD) k1 (rows_plain _) (by simp) (by omega) T.d (gvD gs) v.d
        rw [← List.map_take, ← List.map_drop, ← List.map_append] at e
        exact ⟨_, _, q2, k2, .take i (by omega), run_ret2 rfl (evSs_app3 e0 e) rfl⟩
theorem c__law_deed (wf n : Nat) : Sp__law_deed (callN tab wf (n + 4) i__law_deed) := by
  rw [call_of (F := f__law_deed) rfl]; exact r__law_deed _ wf (c__law_next wf (n+2)) (c__law_value wf n)
end Lw

namespace Lw
open PySem MP
/-! the deeds done -/
def tkV (T : TaskP) (rows : ExL) : List D := [insD T.ins, .tup (T.ws.map .str), .tup (T.ns.map .int), .str [T.k], .tup (rows.map exD)]
def tkD (T : TaskP) (rows : ExL) : D := .obj 0 (tkV T rows)
def tkF (T : TaskP) (rows : ExL) : List Sl := (tkV T rows).map .dat
def tkS (T : TaskP) (rows : ExL) : Sl := .ins 0 (tkF T rows)
theorem cap_tk (T : TaskP) (rows : ExL) : (tkS T rows).cap = tkD T rows := rfl
def upd (T : TaskP) (rows : ExL) : TaskP := ⟨T.ins, T.ws, T.ns, T.k, rows⟩
theorem upd_ok {T : TaskP} (hT : T.Ok 3 6) {rows : ExL} (hR : RowsOk T rows) : (upd T rows).Ok 3 6 := ⟨hT.ins, hT.ws, hT.wl, hT.ns, hT.nl, hT.k, hR.ok, hR.le⟩
theorem upd_d (T : TaskP) (rows : ExL) : (upd T rows).d = .tup (tkV T rows) := rfl
def Sp_init (g : G) : Prop := ∀ (T : TaskP) (rows : ExL), T.Ok 3 6 → RowsOk T rows → g [.ins 0 [], .dat (insD T.ins), .dat (.tup (T.ws.map .str)), .dat (.tup (T.ns.map .int)), .dat (.str [T.k]), .dat (.tup (rows.map exD))] = .ok (.dat .non) [tkS T rows, .dat (insD T.ins), .dat (.tup (T.ws.map .str)), .dat (.tup (T.ns.map .int)), .dat (.str [T.k]), .dat (.tup (rows.map exD))]
theorem c_init (n : Nat) : Sp_init (callN tab 60 (n + 6) i_Task___init__) := by
  intro T rows hT hR
  rw [call_of (F := f_Task___init__) rfl]
  exact r_init_good _ 60 (mk_good n (upd_ok hT hR) (by omega) (by omega))
def Sp_with_examples (g : G) : Prop := ∀ (T : TaskP) (rows X : ExL), T.Ok 3 6 → RowsOk T X → g [.dat (tkD T rows), .dat (.tup (X.map exD))] = .ok (tkS T X) [.dat (tkD T rows), .dat (.tup (X.map exD))]
theorem r_with_examples (call : Nat → G) (wf : Nat) (hi : Sp_init (call i_Task___init__)) : Sp_with_examples (runFn call tab.glob wf f_Task_with_examples) := by
  intro T rows X hT hX
  have e := hi T X hT hX
  unfold tkD tkS tkF tkV at *
  generalize insD T.ins = id at *
  generalize T.ws.map D.str = WL at *
  generalize T.ns.map D.int = NL at *
  generalize rows.map exD = RL at *
  generalize X.map exD = XL at *
  simp only [List.map_cons, List.map_nil] at *
  simp -implicitDefEqProofs [f_Task_with_examples, b_Task_with_examples, s_Task_with_examples_0, runFn, evSs, evS, evE, evT, evTs, evArgs, evOps, evPairs, evIt, testE, testB, view1_eq, views, takes, putBack, setSlot, finOf, wipeE, e]
theorem c_with_examples (n : Nat) : Sp_with_examples (callN tab 60 (n + 7) i_Task_with_examples) := by
  rw [call_of (F := f_Task_with_examples) rfl]; exact r_with_examples _ 60 (c_init n)
structure Sp_with_example (g : G) : Prop where
  bad : ∀ (T : TaskP) (rows : ExL) (x v : D), T.Ok 3 6 → okEx (.tup [x, v]) = true → (rows.length = 6 ∨ exB T.ins T.k (.tup [x, v]) = false) → g [.dat (tkD T rows), .dat x, .dat v] = .exc 5 [] [.dat (tkD T rows), .dat x, .dat v]
  good : ∀ (T : TaskP) (rows : ExL) (e : List V × V), T.Ok 3 6 → RowsOk T rows → ExOk T.ins T.k e → rows.length < 6 → g [.dat (tkD T rows), .dat (gvD e.1), .dat e.2.d] = .ok (tkS T (rows ++ [e])) [.dat (tkD T rows), .dat (gvD e.1), .dat e.2.d]
theorem rows_put {T : TaskP} {rows : ExL} (h : RowsOk T rows) {e : List V × V} (he : ExOk T.ins T.k e) (h6 : rows.length < 6) : RowsOk T (rows ++ [e]) := ⟨fun x hx => by
  rcases List.mem_append.mp hx with hx | hx
  · exact h.ok x hx
  · rw [List.mem_singleton.mp hx]; exact he, by simp; omega⟩
theorem rows_take {T : TaskP} {rows : ExL} (h : RowsOk T rows) (i : Nat) : RowsOk T (rows.take i ++ rows.drop (i + 1)) := ⟨fun x hx => by
  rcases List.mem_append.mp hx with hx | hx
  · exact h.ok x (List.mem_of_mem_take hx)
  · exact h.ok x (List.mem_of_mem_drop hx), by have := h.le; simp; omega⟩
theorem okEx_ok {ins : InsL} {k : Nat} (hi : Ins ins) {e : List V × V} (h : ExOk ins k e) : okEx (.tup [gvD e.1, e.2.d]) = true := by
  have gl : e.1.length = ins.length := h.1.length.symm
  have := hi.le
  simp only [okEx, gvD, okGv, okD_v, Bool.and_true, Bool.and_eq_true, decide_eq_true_eq, List.all_eq_true, List.length_map]
  refine ⟨?_, by omega⟩
  intro x hx
  obtain ⟨u, _, rfl⟩ := List.mem_map.mp hx
  exact okD_v u
theorem r_with_example (call : Nat → G) (wf : Nat) (hx : Sp_is_example (call i_is_example)) (hw : Sp_with_examples (call i_Task_with_examples)) : Sp_with_example (runFn call tab.glob wf f_Task_with_example) := by
  have g6 : tab.glob g_MOST_EXAMPLES = some (.int 6) := rfl
  refine ⟨fun T rows x v hT ho hb => ?_, fun T rows e hT hR he h6 => ?_⟩
  · have e := hx T.ins T.k (.tup [x, v]) hT.ins ho
    have lr : (rows.map exD).length = rows.length := by simp
    unfold tkD tkV
    by_cases r6 : rows.length = 6
    · have r6' : ((rows.map exD).length : Int) = 6 := by omega
      have r6'' : (rows.map exD).length = 6 := by omega
      clear e
      generalize insD T.ins = id at *
      generalize T.ws.map D.str = WL at *
      generalize T.ns.map D.int = NL at *
      generalize rows.map exD = RL at *
      simp -implicitDefEqProofs [f_Task_with_example, b_Task_with_example, s_Task_with_example_0t_0, s_Task_with_example_0t, s_Task_with_example_0, s_Task_with_example_1, runFn, evSs, evS, evE, evT, evTs, evArgs, evOps, evPairs, evIt, testE, testB, view1_eq, views, takes, putBack, setSlot, finOf, wipeE, g6, r6', r6'', raiseOk]
    · have r6' : ¬ ((rows.map exD).length : Int) = 6 := by omega
      have r6'' : ¬ (rows.map exD).length = 6 := by omega
      rw [hb.resolve_left r6] at e
      generalize insD T.ins = id at *
      generalize T.ws.map D.str = WL at *
      generalize T.ns.map D.int = NL at *
      generalize rows.map exD = RL at *
      simp -implicitDefEqProofs [f_Task_with_example, b_Task_with_example, s_Task_with_example_0t_0, s_Task_with_example_0t, s_Task_with_example_0, s_Task_with_example_1, runFn, evSs, evS, evE, evT, evTs, evArgs, evOps, evPairs, evIt, testE, testB, view1_eq, views, takes, putBack, setSlot, finOf, wipeE, g6, r6', r6'', e, raiseOk]
  · have e1 := hx T.ins T.k (.tup [gvD e.1, e.2.d]) hT.ins (okEx_ok hT.ins he)
    rw [show exB T.ins T.k (.tup [gvD e.1, e.2.d]) = true from exB_ok he] at e1
    have e2 := hw T rows (rows ++ [e]) hT (rows_put hR he h6)
    have lr : (rows.map exD).length = rows.length := by simp
    have r6' : ¬ ((rows.map exD).length : Int) = 6 := by omega
    have r6'' : ¬ (rows.map exD).length = 6 := by omega
    have f : fitsL ((rows.map exD).length + 1) = true := fits_of (by omega)
    have em : (rows ++ [e]).map exD = rows.map exD ++ [.tup [gvD e.1, e.2.d]] := by simp [exD]
    rw [em] at e2
    generalize tkS T (rows ++ [e]) = tk at *
    unfold tkD tkV at *
    generalize insD T.ins = id at *
    generalize T.ws.map D.str = WL at *
    generalize T.ns.map D.int = NL at *
    generalize rows.map exD = RL at *
    generalize gvD e.1 = gd at *
    generalize e.2.d = vd at *
    simp -implicitDefEqProofs [f_Task_with_example, b_Task_with_example, s_Task_with_example_0t_0, s_Task_with_example_0t, s_Task_with_example_0, s_Task_with_example_1, runFn, evSs, evS, evE, evT, evTs, evArgs, evOps, evPairs, evIt, testE, testB, view1_eq, views, takes, putBack, setSlot, finOf, wipeE, g6, r6', r6'', e1, e2, f]
theorem c_with_example (n : Nat) : Sp_with_example (callN tab 60 (n + 8) i_Task_with_example) := by
  rw [call_of (F := f_Task_with_example) rfl]; exact r_with_example _ 60 (c_is_example 60 (n + 3)) (c_with_examples n)
structure Sp_without (g : G) : Prop where
  bad : ∀ (T : TaskP) (rows : ExL) (a : D), NoAt rows.length a → g [.dat (tkD T rows), .dat a] = .exc 5 [] [.dat (tkD T rows), .dat a]
  good : ∀ (T : TaskP) (rows : ExL) (i : Nat), T.Ok 3 6 → RowsOk T rows → i < rows.length → g [.dat (tkD T rows), .dat (.int (i : Int))] = .ok (tkS T (rows.take i ++ rows.drop (i + 1))) [.dat (tkD T rows), .dat (.int (i : Int))]
theorem r_without (call : Nat → G) (wf : Nat) (hw : Sp_with_examples (call i_Task_with_examples)) : Sp_without (runFn call tab.glob wf f_Task_without) := by
  refine ⟨fun T rows a ha => ?_, fun T rows i hT hR hi => ?_⟩
  · have lr : (rows.map exD).length = rows.length := by simp
    rw [← lr] at ha
    unfold tkD tkV
    generalize insD T.ins = id at *
    generalize T.ws.map D.str = WL at *
    generalize T.ns.map D.int = NL at *
    generalize rows.map exD = RL at *
    cases ha with
    | int i h =>
      by_cases h0 : 0 ≤ i
      · have h1 : ¬ i < (RL.length : Int) := fun z => h ⟨h0, z⟩
        simp -implicitDefEqProofs [f_Task_without, b_Task_without, s_Task_without_0t_0, s_Task_without_0t, s_Task_without_0, s_Task_without_1, runFn, evSs, evS, evE, evT, evTs, evArgs, evOps, evPairs, evIt, testE, testB, view1_eq, views, takes, putBack, setSlot, finOf, wipeE, h0, h1, raiseOk]
      · simp -implicitDefEqProofs [f_Task_without, b_Task_without, s_Task_without_0t_0, s_Task_without_0t, s_Task_without_0, s_Task_without_1, runFn, evSs, evS, evE, evT, evTs, evArgs, evOps, evPairs, evIt, testE, testB, view1_eq, views, takes, putBack, setSlot, finOf, wipeE, h0, raiseOk]
    | non => simp -implicitDefEqProofs [f_Task_without, b_Task_without, s_Task_without_0t_0, s_Task_without_0t, s_Task_without_0, s_Task_without_1, runFn, evSs, evS, evE, evT, evTs, evArgs, evOps, evPairs, evIt, testE, testB, view1_eq, views, takes, putBack, setSlot, finOf, wipeE, isiD, raiseOk]
    | bl b => simp -implicitDefEqProofs [f_Task_without, b_Task_without, s_Task_without_0t_0, s_Task_without_0t, s_Task_without_0, s_Task_without_1, runFn, evSs, evS, evE, evT, evTs, evArgs, evOps, evPairs, evIt, testE, testB, view1_eq, views, takes, putBack, setSlot, finOf, wipeE, raiseOk]
    | str x => simp -implicitDefEqProofs [f_Task_without, b_Task_without, s_Task_without_0t_0, s_Task_without_0t, s_Task_without_0, s_Task_without_1, runFn, evSs, evS, evE, evT, evTs, evArgs, evOps, evPairs, evIt, testE, testB, view1_eq, views, takes, putBack, setSlot, finOf, wipeE, raiseOk]
    | tup l => simp -implicitDefEqProofs [f_Task_without, b_Task_without, s_Task_without_0t_0, s_Task_without_0t, s_Task_without_0, s_Task_without_1, runFn, evSs, evS, evE, evT, evTs, evArgs, evOps, evPairs, evIt, testE, testB, view1_eq, views, takes, putBack, setSlot, finOf, wipeE, raiseOk]
  · have e2 := hw T rows (rows.take i ++ rows.drop (i + 1)) hT (rows_take hR i)
    have lr : (rows.map exD).length = rows.length := by simp
    have h6 := hR.le
    have h1 : (i : Int) < ((rows.map exD).length : Int) := by omega
    have h1' : i < (rows.map exD).length := by omega
    have h1'' : i < rows.length := hi
    have c1 := cut_to (rows.map exD) i (by omega)
    have c2 := cut_from (rows.map exD) (i + 1) (by omega)
    have ei : (((i + 1 : Nat)) : Int) = (i : Int) + 1 := by omega
    rw [ei] at c2
    rw [← List.map_take] at c1
    rw [← List.map_drop] at c2
    have f : fitsL (((rows.take i).map exD).length + ((rows.drop (i + 1)).map exD).length) = true := fits_of (by simp; omega)
    rw [List.map_append] at e2
    generalize tkS T (rows.take i ++ rows.drop (i + 1)) = tk at *
    generalize (rows.take i).map exD = A at *
    generalize (rows.drop (i + 1)).map exD = B at *
    unfold tkD tkV at *
    generalize insD T.ins = id at *
    generalize T.ws.map D.str = WL at *
    generalize T.ns.map D.int = NL at *
    generalize rows.map exD = RL at *
    simp -implicitDefEqProofs [f_Task_without, b_Task_without, s_Task_without_0t_0, s_Task_without_0t, s_Task_without_0, s_Task_without_1, runFn, evSs, evS, evE, evT, evTs, evArgs, evOps, evPairs, evIt, testE, testB, view1_eq, views, takes, putBack, setSlot, finOf, wipeE, h1, h1', c1, c2, e2, f]
theorem c_without (n : Nat) : Sp_without (callN tab 60 (n + 8) i_Task_without) := by
  rw [call_of (F := f_Task_without) rfl]; exact r_without _ 60 (c_with_examples n)
/-! a deed done, or refused -/
def sEx : List Nat := [101, 120, 97, 109, 112, 108, 101]
theorem c_word_of (wf n : Nat) : callN tab wf (n + 1) i__law_word_of [.dat (.exn 5 [])] = .ok (.dat (.str sEx)) [.dat (.exn 5 [])] := by kernel_rfl
inductive Res (T : TaskP) : D → Sl → Prop
  | no : Res T .non (.dat (.str sEx))
  | yes (rows : ExL) : RowsOk T rows → Res T (.lst (rows.map exD)) (tkS T rows)
def Sp__law_done (g : G) : Prop := ∀ (T : TaskP) (rows : ExL) (dd due : D), T.Ok 3 6 → RowsOk T rows → Deed T rows dd due → ∃ r, Res T due r ∧ g [.dat (tkD T rows), .dat dd] = .ok r [.dat (tkD T rows), .dat dd]
theorem dn_exc (call : Nat → G) (wf : Nat) (td : D) (hw : call i__law_word_of [.dat (.exn 5 [])] = .ok (.dat (.str sEx)) [.dat (.exn 5 [])]) (dd : D) (h : evSs ⟨call, tab.glob, [false, false], wf⟩ s__law_done_2t [.dat td, .dat dd, .dat .non, .dat .non, .un] = .exc 5 [] [.dat td, .dat dd, .dat .non, .dat .non, .un]) :
    runFn call tab.glob wf f__law_done [.dat td, .dat dd] = .ok (.dat (.str sEx)) [.dat td, .dat dd] := by
  have n1 : cmpD .Is (.exn 5 []) .non = some false := rfl
  simp -implicitDefEqProofs [f__law_done, b__law_done, s__law_done_0, s__law_done_1, s__law_done_2, s__law_done_2h, s__law_done_2h_0, s__law_done_3, s__law_done_4, runFn, evSs, evS, evE, evT, evTs, evArgs, evOps, evPairs, evIt, testE, testB, view1_eq, views, takes, putBack, setSlot, finOf, wipeE, h, catchS, hands, n1, hw]
theorem dn_ok (call : Nat → G) (wf : Nat) (td : D) (dd : D) (fs : List Sl) (h : evSs ⟨call, tab.glob, [false, false], wf⟩ s__law_done_2t [.dat td, .dat dd, .dat .non, .dat .non, .un] = .ok .nx [.dat td, .dat dd, .dat .non, .ins 0 fs, .un]) :
    runFn call tab.glob wf f__law_done [.dat td, .dat dd] = .ok (.ins 0 fs) [.dat td, .dat dd] := by
  have n1 : cmpD .Is .non .non = some true := rfl
  simp -implicitDefEqProofs [f__law_done, b__law_done, s__law_done_0, s__law_done_1, s__law_done_2, s__law_done_3, s__law_done_3t, s__law_done_3t_0, runFn, evSs, evS, evE, evT, evTs, evArgs, evOps, evPairs, evIt, testE, testB, view1_eq, views, takes, putBack, setSlot, finOf, wipeE, h, n1]
theorem str_eq (x y : List Nat) : cmpD .Eq (.str x) (.str y) = some (decide (x = y)) := by
  have : (x == y) = decide (x = y) := by by_cases h : x = y <;> simp [h]
  simp [cmpD, eqOk, D.plain, D.dep, D.eq, this]
theorem r__law_done (call : Nat → G) (wf : Nat) (h1 : Sp_with_example (call i_Task_with_example)) (h2 : Sp_without (call i_Task_without)) (hw : call i__law_word_of [.dat (.exn 5 [])] = .ok (.dat (.str sEx)) [.dat (.exn 5 [])]) : Sp__law_done (runFn call tab.glob wf f__law_done) := by
  intro T rows dd due hT hR hd
  have e1 := str_eq sPut [112, 117, 116]
  have e2 := str_eq sTake [112, 117, 116]
  have ob : ∀ d, tkD T rows = d → objB 0 (.dat d) = true := fun d h => by subst h; rfl
  cases hd with
  | bad x v ho hb =>
    refine ⟨_, .no, dn_exc call wf _ hw _ ?_⟩
    have e := h1.bad T rows x v hT ho hb
    have a0 := at0 (D.str sPut) [x, v]
    have a1 := at1 (D.str sPut) x [v]
    have a2 : L2.atI [D.str sPut, x, v] 2 = some v := atI_nat [D.str sPut, x, v] 2 (by simp)
    generalize hk : tkD T rows = tk at *
    have ob' := ob tk rfl
    unfold sPut at *
    simp -implicitDefEqProofs [s__law_done_2t, s__law_done_2t_0, s__law_done_2t_0t, s__law_done_2t_0t_0, runFn, evSs, evS, evE, evT, evTs, evArgs, evOps, evPairs, evIt, testE, testB, view1_eq, views, takes, putBack, setSlot, finOf, wipeE, a0, a1, a2, e1, e, ob']
  | put ex he h6 =>
    refine ⟨_, .yes _ (rows_put hR he h6), dn_ok call wf _ _ _ ?_⟩
    have e := h1.good T rows ex hT hR he h6
    have a0 := at0 (D.str sPut) [gvD ex.1, ex.2.d]
    have a1 := at1 (D.str sPut) (gvD ex.1) [ex.2.d]
    have a2 : L2.atI [D.str sPut, gvD ex.1, ex.2.d] 2 = some ex.2.d := atI_nat [D.str sPut, gvD ex.1, ex.2.d] 2 (by simp)
    unfold tkS at e
    generalize tkF T (rows ++ [ex]) = fs at *
    generalize hk : tkD T rows = tk at *
    have ob' := ob tk rfl
    generalize gvD ex.1 = gd at *
    generalize ex.2.d = vd at *
    unfold sPut at *
    simp -implicitDefEqProofs [s__law_done_2t, s__law_done_2t_0, s__law_done_2t_0t, s__law_done_2t_0t_0, runFn, evSs, evS, evE, evT, evTs, evArgs, evOps, evPairs, evIt, testE, testB, view1_eq, views, takes, putBack, setSlot, finOf, wipeE, a0, a1, a2, e1, e, ob']
  | noat a ha =>
    refine ⟨_, .no, dn_exc call wf _ hw _ ?_⟩
    have e := h2.bad T rows a ha
    have a0 := at0 (D.str sTake) [a, .non]
    have a1 := at1 (D.str sTake) a [.non]
    generalize hk : tkD T rows = tk at *
    have ob' := ob tk rfl
    unfold sTake at *
    simp -implicitDefEqProofs [s__law_done_2t, s__law_done_2t_0, s__law_done_2t_0e, s__law_done_2t_0e_0, runFn, evSs, evS, evE, evT, evTs, evArgs, evOps, evPairs, evIt, testE, testB, view1_eq, views, takes, putBack, setSlot, finOf, wipeE, a0, a1, e2, e, ob']
  | take i hi =>
    refine ⟨_, .yes _ (rows_take hR i), dn_ok call wf _ _ _ ?_⟩
    have e := h2.good T rows i hT hR hi
    have a0 := at0 (D.str sTake) [.int (i : Int), .non]
    have a1 := at1 (D.str sTake) (.int (i : Int)) [.non]
    unfold tkS at e
    generalize tkF T (rows.take i ++ rows.drop (i + 1)) = fs at *
    generalize hk : tkD T rows = tk at *
    have ob' := ob tk rfl
    unfold sTake at *
    simp -implicitDefEqProofs [s__law_done_2t, s__law_done_2t_0, s__law_done_2t_0e, s__law_done_2t_0e_0, runFn, evSs, evS, evE, evT, evTs, evArgs, evOps, evPairs, evIt, testE, testB, view1_eq, views, takes, putBack, setSlot, finOf, wipeE, a0, a1, e2, e, ob']
theorem c__law_done (n : Nat) : Sp__law_done (callN tab 60 (n + 9) i__law_done) := by
  rw [call_of (F := f__law_done) rfl]; exact r__law_done _ 60 (c_with_example n) (c_without n) (c_word_of 60 (n + 7))
/-! told, alike -/
theorem c__law_told (wf n : Nat) (T : TaskP) (rows : ExL) : callN tab wf (n + 1) i__law_told [.dat (tkD T rows)] = .ok (.dat (.tup (tkV T rows))) [.dat (tkD T rows)] := by
  rw [call_of (F := f__law_told) rfl]
  unfold tkD tkV
  generalize insD T.ins = id at *
  generalize T.ws.map D.str = WL at *
  generalize T.ns.map D.int = NL at *
  generalize rows.map exD = RL at *
  simp -implicitDefEqProofs [f__law_told, b__law_told, s__law_told_0, runFn, evSs, evS, evE, evT, evTs, evArgs, evOps, evPairs, evIt, testE, testB, view1_eq, views, takes, putBack, setSlot, finOf, wipeE]
theorem c__law_alike (wf n : Nat) (l : List D) (h : repOk (.tup l) = true) : callN tab wf (n + 1) i__law_alike [.dat (.tup l), .dat (.tup l)] = .ok (.dat (.bl true)) [.dat (.tup l), .dat (.tup l)] := by
  rw [call_of (F := f__law_alike) rfl]
  have e := str_eq (repL (.tup l)) (repL (.tup l))
  simp only [decide_true] at e
  generalize hx : repL (.tup l) = rx at *
  simp -implicitDefEqProofs [f__law_alike, b__law_alike, s__law_alike_0, runFn, evSs, evS, evE, evT, evTs, evArgs, evOps, evPairs, evIt, testE, testB, view1_eq, views, takes, putBack, setSlot, finOf, wipeE, h, hx, e]
end Lw

namespace Lw
open PySem MP
abbrev C1 (call : Nat → G) (wf : Nat) : MP.Ctx := ⟨call, tab.glob, [false], wf⟩
theorem enum_mem {x : D} : ∀ {xs : List Int} {m : Nat}, x ∈ enumL m (xs.map .int) → ∃ (k : Nat) (c : Int), x = .pr [.int (k : Int), .int c]
  | [], _, h => by simp [enumL] at h
  | y :: ys, m, h => by
    simp only [List.map_cons, enumL, List.mem_cons] at h
    rcases h with rfl | h
    · exact ⟨m, y, rfl⟩
    · exact enum_mem h
theorem ne_str (x y : List Nat) : cmpD .NotEq (.str x) (.str y) = some (!decide (x = y)) := by
  have : (x == y) = decide (x = y) := by by_cases h : x = y <;> simp [h]
  simp [cmpD, eqOk, D.plain, D.dep, D.eq, this]
/-- within the deeds -/
def InvD (ns : List Int) (k : Nat) (c : Int) (T : TaskP) (ρ : MP.Env) : Prop := ∃ (q : List D) (rows : ExL) (s5 s6 s7 s8 s9 s10 : Sl), Q q ∧ RowsOk T rows ∧ (s5 = tkS T rows ∨ s5 = .dat (tkD T rows)) ∧ (s6 = .lst (rows.map exD) ∨ s6 = .dat (.lst (rows.map exD))) ∧
  ρ = [.dat (.scr ns), .dat (.int (k : Int)), .dat (.int c), .lst q, .dat T.d, s5, s6, s7, s8, s9, s10]
theorem cut4 (a b c d e : D) : cutL [a, b, c, d, e] none (some 4) = [a, b, c, d] := by
  have := cut_to [a, b, c, d, e] 4 (by simp)
  simpa using this
theorem deed_turn (call : Nat → G) (wf : Nat) (hde : Sp__law_deed (call i__law_deed)) (hdo : Sp__law_done (call i__law_done)) (hto : ∀ (T : TaskP) (rows : ExL), call i__law_told [.dat (tkD T rows)] = .ok (.dat (.tup (tkV T rows))) [.dat (tkD T rows)]) (hal : ∀ l : List D, repOk (.tup l) = true → call i__law_alike [.dat (.tup l), .dat (.tup l)] = .ok (.dat (.bl true)) [.dat (.tup l), .dat (.tup l)])
    (ns : List Int) (k : Nat) (c : Int) {T : TaskP} (hT : T.Ok 3 6) (x : D) (ρ : MP.Env) (i : InvD ns k c T ρ) :
    ∃ ρ', ((evT (C1 call wf) (.var 7) (.dat x) ρ).bind fun _ ρ => evSs (C1 call wf) s_law_0l_4l ρ) = .ok .nx ρ' ∧ InvD ns k c T ρ' := by
  obtain ⟨q, rows, s5, s6, s7, s8, s9, s10, hq, hR, h5, h6, rfl⟩ := i
  obtain ⟨dd, due, q1, k1, hd, e0⟩ := hde q hq T rows hT hR
  obtain ⟨r, hr, e1⟩ := hdo T rows dd due hT hR hd
  have e2 := hto T rows
  have a1 := hal (tkV T rows) (by have := rep_task (upd_ok hT hR) (by omega) (by omega); exact this)
  have f1 : fitsL 5 = true := rfl
  have c1 : cutL T.at_ none (some 4) = [insD T.ins, .tup (T.ws.map .str), .tup (T.ns.map .int), .str [T.k]] := cut4 _ _ _ _ _
  have hc5 : s5.cap = tkD T rows := by rcases h5 with rfl | rfl <;> rfl
  have r0 : ((evT (C1 call wf) (.var 7) (.dat x) [.dat (.scr ns), .dat (.int (k : Int)), .dat (.int c), .lst q, .dat T.d, s5, s6, s7, s8, s9, s10]).bind fun _ ρ => evSs (C1 call wf) (.cons s_law_0l_4l_0 (.cons s_law_0l_4l_1 (.cons s_law_0l_4l_2 .nil))) ρ) = .ok .nx [.dat (.scr ns), .dat (.int (k : Int)), .dat (.int c), .lst q1, .dat T.d, .dat (tkD T rows), .dat (.lst (rows.map exD)), .dat x, .dat dd, .dat due, r] := by
    have ev4 : tkV T rows = [insD T.ins, .tup (T.ws.map .str), .tup (T.ns.map .int), .str [T.k]] ++ [.tup (rows.map exD)] := rfl
    have ti : ∀ z, tkS T rows = z → getS [Sl.dat (.scr ns)] 0 = some (.dat (.scr ns)) := fun _ _ => rfl
    have td : T.d = .tup T.at_ := rfl
    have hrr : ∀ z, r = z → True := fun _ _ => trivial
    have tc : Sl.caps (tkF T rows) = tkV T rows := rfl
    have tk2 : tkD T rows = .obj 0 (tkV T rows) := rfl
    rw [td] at e0 ⊢
    clear ti hrr hd hr hc5
    unfold tkS at h5
    rw [tk2] at e1 e2 h5 ⊢
    generalize tkF T rows = fs at *
    rw [ev4] at e1 e2 a1 tc h5 ⊢
    clear ev4 tk2
    generalize T.at_ = A at *
    generalize insD T.ins = id at *
    generalize T.ws.map D.str = WL at *
    generalize T.ns.map D.int = NL at *
    generalize rows.map exD = RL at *
    simp only [List.cons_append, List.nil_append] at *
    rcases h5 with rfl | rfl <;> rcases h6 with rfl | rfl <;> simp -implicitDefEqProofs [s_law_0l_4l_0, s_law_0l_4l_1, s_law_0l_4l_2, runFn, evSs, evS, evE, evT, evTs, evArgs, evOps, evPairs, evIt, testE, testB, view1_eq, views, takes, putBack, setSlot, finOf, wipeE, e0, e1, e2, a1, f1, c1, tc, Sl.cap, seqOf, TL.len]
  have app : evSs (C1 call wf) s_law_0l_4l = evSs (C1 call wf) (.cons s_law_0l_4l_0 (.cons s_law_0l_4l_1 (.cons s_law_0l_4l_2 (.cons s_law_0l_4l_3 (.cons s_law_0l_4l_4 .nil))))) := rfl
  have key : ∀ ρ', evSs (C1 call wf) (.cons s_law_0l_4l_3 (.cons s_law_0l_4l_4 .nil)) [.dat (.scr ns), .dat (.int (k : Int)), .dat (.int c), .lst q1, .dat T.d, .dat (tkD T rows), .dat (.lst (rows.map exD)), .dat x, .dat dd, .dat due, r] = .ok .nx ρ' → ((evT (C1 call wf) (.var 7) (.dat x) [.dat (.scr ns), .dat (.int (k : Int)), .dat (.int c), .lst q, .dat T.d, s5, s6, s7, s8, s9, s10]).bind fun _ ρ => evSs (C1 call wf) s_law_0l_4l ρ) = .ok .nx ρ' := by
    intro ρ' h
    rw [app]
    generalize hv : evT (C1 call wf) (.var 7) (.dat x) [.dat (.scr ns), .dat (.int (k : Int)), .dat (.int c), .lst q, .dat T.d, s5, s6, s7, s8, s9, s10] = z at *
    cases z with
    | ok u ρ1 =>
      rw [rbind_ok] at r0 ⊢
      exact evSs_app3 r0 h
    | exc _ _ _ => simp [R.bind] at r0
    | stuck => simp [R.bind] at r0
  cases hr with
  | no =>
    refine ⟨_, key _ ?_, q1, rows, .dat (tkD T rows), .dat (.lst (rows.map exD)), .dat x, .dat dd, .dat .non, .dat (.str sEx), k1, hR, .inr rfl, .inr rfl, rfl⟩
    have n1 := ne_str sEx [101, 120, 97, 109, 112, 108, 101]
    have n2 : cmpD .Is .non .non = some true := rfl
    have n3 : cmpD .IsNot .non .non = some false := rfl
    generalize tkD T rows = tk at *
    generalize rows.map exD = RL at *
    generalize T.d = td at *
    unfold sEx at *
    simp only [decide_true, Bool.not_true] at n1
    simp -implicitDefEqProofs [s_law_0l_4l_3, s_law_0l_4l_4, runFn, evSs, evS, evE, evT, evTs, evArgs, evOps, evPairs, evIt, testE, testB, view1_eq, views, takes, putBack, setSlot, finOf, wipeE, n1, n2, n3]
  | yes rows' hR' =>
    have e3 := hto T rows'
    have a2 := hal (tkV T rows') (by have := rep_task (upd_ok hT hR') (by omega) (by omega); exact this)
    refine ⟨_, key _ ?_, q1, rows', .dat (tkD T rows'), .dat (.lst (rows'.map exD)), .dat x, .dat dd, .dat (.lst (rows'.map exD)), .dat (tkD T rows'), k1, hR', .inr rfl, .inr rfl, rfl⟩
    have n2 : ∀ l, cmpD .Is (.lst l) .non = some false := fun _ => rfl
    have n3 : ∀ l, cmpD .IsNot (.lst l) .non = some true := fun _ => rfl
    have n4 : ∀ l, isiD (.obj 0 l) .str = some false := fun _ => rfl
    have ev4 : tkV T rows' = [insD T.ins, .tup (T.ws.map .str), .tup (T.ns.map .int), .str [T.k]] ++ [.tup (rows'.map exD)] := rfl
    have tc : Sl.caps (tkF T rows') = tkV T rows' := rfl
    have tk2 : tkD T rows' = .obj 0 (tkV T rows') := rfl
    have td : T.d = .tup T.at_ := rfl
    rw [td]
    clear r0 key e0 e1 e2 a1
    generalize tkD T rows = tk at *
    generalize rows.map exD = RL0 at *
    rw [tk2] at e3 ⊢
    unfold tkS
    generalize tkF T rows' = fs at *
    rw [ev4] at e3 a2 tc ⊢
    clear ev4 tk2
    generalize T.at_ = A at *
    generalize insD T.ins = id at *
    generalize T.ws.map D.str = WL at *
    generalize T.ns.map D.int = NL at *
    generalize rows'.map exD = RL at *
    simp only [List.cons_append, List.nil_append] at *
    simp -implicitDefEqProofs [s_law_0l_4l_3, s_law_0l_4l_4, s_law_0l_4l_4t, s_law_0l_4l_4t_0, s_law_0l_4l_4t_1, s_law_0l_4l_4t_2, runFn, evSs, evS, evE, evT, evTs, evArgs, evOps, evPairs, evIt, testE, testB, view1_eq, views, takes, putBack, setSlot, finOf, wipeE, n2, n3, n4, e3, a2, f1, c1, tc, Sl.cap]
def Inv (ns : List Int) (ρ : MP.Env) : Prop := ∃ s1 s2 s3 s4 s5 s6 s7 s8 s9 s10, ρ = [.dat (.scr ns), s1, s2, s3, s4, s5, s6, s7, s8, s9, s10]
theorem turn (call : Nat → G) (wf : Nat) (hs : Sp__law_state (call i__law_state)) (ht : Sp__law_task 3 6 (call i__law_task)) (hin : Sp_init (call i_Task___init__)) (hde : Sp__law_deed (call i__law_deed)) (hdo : Sp__law_done (call i__law_done)) (hto : ∀ (T : TaskP) (rows : ExL), call i__law_told [.dat (tkD T rows)] = .ok (.dat (.tup (tkV T rows))) [.dat (tkD T rows)]) (hal : ∀ l : List D, repOk (.tup l) = true → call i__law_alike [.dat (.tup l), .dat (.tup l)] = .ok (.dat (.bl true)) [.dat (.tup l), .dat (.tup l)])
    (ns : List Int) (k : Nat) (c : Int) (ρ : MP.Env) (i : Inv ns ρ) :
    ∃ ρ', ((evT (C1 call wf) (.tup (.cons (.var 1) (.cons (.var 2) .nil))) (.dat (.pr [.int (k : Int), .int c])) ρ).bind fun _ ρ => evSs (C1 call wf) s_law_0l ρ) = .ok .nx ρ' ∧ Inv ns ρ' := by
  obtain ⟨s1, s2, s3, s4, s5, s6, s7, s8, s9, s10, rfl⟩ := i
  obtain ⟨z, e0⟩ := hs c k
  obtain ⟨T, q1, k1, hT, e1⟩ := ht [.int z] ⟨z, rfl⟩
  have hR : RowsOk T T.es := ⟨hT.es, hT.el⟩
  have e2 := hin T T.es hT hR
  obtain ⟨ρ', e4, q2, rows, t5, t6, t7, t8, t9, t10, k2, hR2, h5, h6, rfl⟩ := forL_inv (xs := rngL 0 8) (f := fun x ρ => (evT (C1 call wf) (.var 7) (.dat x) ρ).bind fun _ ρ => evSs (C1 call wf) s_law_0l_4l ρ) (Inv := InvD ns k c T) (fun x _ ρ i => deed_turn call wf hde hdo hto hal ns k c hT x ρ i) (ρ := [.dat (.scr ns), .dat (.int (k : Int)), .dat (.int c), .lst q1, .dat T.d, tkS T T.es, .lst (T.es.map exD), s7, s8, s9, s10]) ⟨q1, T.es, _, _, _, _, _, _, k1, hR, .inl rfl, .inl rfl, rfl⟩
  have r4 : evS (C1 call wf) s_law_0l_4 [.dat (.scr ns), .dat (.int (k : Int)), .dat (.int c), .lst q1, .dat T.d, tkS T T.es, .lst (T.es.map exD), s7, s8, s9, s10] = .ok .nx [.dat (.scr ns), .dat (.int (k : Int)), .dat (.int c), .lst q2, .dat T.d, t5, t6, t7, t8, t9, t10] := by
    have ei : evIt (C1 call wf) (.rng1 (.con (.int 8))) [.dat (.scr ns), .dat (.int (k : Int)), .dat (.int c), .lst q1, .dat T.d, tkS T T.es, .lst (T.es.map exD), s7, s8, s9, s10] = .ok (rngL 0 8) [.dat (.scr ns), .dat (.int (k : Int)), .dat (.int c), .lst q1, .dat T.d, tkS T T.es, .lst (T.es.map exD), s7, s8, s9, s10] := rfl
    rw [s_law_0l_4, evS, ei, rbind_ok]
    exact e4
  refine ⟨[.dat (.scr ns), .dat (.int (k : Int)), .dat (.int c), .lst q2, .dat T.d, t5, t6, t7, t8, t9, t10], ?_, _, _, _, _, _, _, _, _, _, _, rfl⟩
  have a0 := t0 (insD T.ins) (.tup (T.ws.map .str)) (.tup (T.ns.map .int)) (.str [T.k]) (.tup (T.es.map exD))
  have a1 := t1 (insD T.ins) (.tup (T.ws.map .str)) (.tup (T.ns.map .int)) (.str [T.k]) (.tup (T.es.map exD))
  have a2 := t2 (insD T.ins) (.tup (T.ws.map .str)) (.tup (T.ns.map .int)) (.str [T.k]) (.tup (T.es.map exD))
  have a3 := t3 (insD T.ins) (.tup (T.ws.map .str)) (.tup (T.ns.map .int)) (.str [T.k]) (.tup (T.es.map exD))
  have a4 := t4 (insD T.ins) (.tup (T.ws.map .str)) (.tup (T.ns.map .int)) (.str [T.k]) (.tup (T.es.map exD))
  clear e4 hT hR hR2 h5 h6
  unfold tkS at *
  generalize tkF T T.es = fs at *
  simp only [TaskP.d, TaskP.at_] at *
  have e1' : call i__law_task [.lst [.int z], .dat (.int 3), .dat (.int 6)] = _ := e1
  clear e1
  generalize insD T.ins = id at *
  generalize T.ws.map D.str = WL at *
  generalize T.ns.map D.int = NL at *
  generalize T.es.map exD = EL at *
  simp -implicitDefEqProofs [s_law_0l, s_law_0l_0, s_law_0l_1, s_law_0l_2, s_law_0l_3, runFn, evSs, evS, evE, evT, evTs, evArgs, evOps, evPairs, evIt, testE, testB, view1_eq, views, takes, putBack, setSlot, finOf, wipeE, e0, e1', e2, a0, a1, a2, a3, a4, r4, seqOf, TL.len]
theorem law_true (ns : List Int) (h : ns.length ≤ 63) : ∃ fin, callN tab 60 11 i_law [.dat (.scr ns)] = .ok (.dat (.bl true)) fin := by
  rw [callN_s (F := f_law) rfl]
  have hs := c__law_state 60 9
  have ht := c__law_task 60 5 3 6 (by omega) (by omega)
  have hin := c_init 4
  have hde := c__law_deed 60 6
  have hdo := c__law_done 1
  have hto := c__law_told 60 9
  have hal := c__law_alike 60 9
  generalize callN tab 60 10 = call at hs ht hin hde hdo hto hal ⊢
  obtain ⟨ρ', e, s1, s2, s3, s4, s5, s6, s7, s8, s9, s10, rfl⟩ := forL_inv (xs := enumL 0 (ns.map .int)) (f := fun x ρ => (evT (C1 call 60) (.tup (.cons (.var 1) (.cons (.var 2) .nil))) (.dat x) ρ).bind fun _ ρ => evSs (C1 call 60) s_law_0l ρ) (Inv := Inv ns) (by
    intro x hx' ρ i
    obtain ⟨k, c, rfl⟩ := enum_mem hx'
    exact turn call 60 hs ht hin hde hdo hto hal ns k c ρ i) (ρ := [.dat (.scr ns), .un, .un, .un, .un, .un, .un, .un, .un, .un, .un]) ⟨_, _, _, _, _, _, _, _, _, _, rfl⟩
  refine ⟨[.dat (.scr ns)], ?_⟩
  have e0 : evS (C1 call 60) s_law_0 [.dat (.scr ns), .un, .un, .un, .un, .un, .un, .un, .un, .un, .un] = .ok .nx [.dat (.scr ns), s1, s2, s3, s4, s5, s6, s7, s8, s9, s10] := by
    have ei : evIt (C1 call 60) (.enum (.var 0)) [.dat (.scr ns), .un, .un, .un, .un, .un, .un, .un, .un, .un, .un] = .ok (enumL 0 (ns.map .int)) [.dat (.scr ns), .un, .un, .un, .un, .un, .un, .un, .un, .un, .un] := rfl
    rw [s_law_0, evS, ei, rbind_ok, e]
  have e1 : ∀ ρ, evS (C1 call 60) s_law_1 ρ = .ok (.ret (.dat (.bl true))) ρ := fun ρ => rfl
  simp -implicitDefEqProofs [runFn, f_law, b_law, evSs, e0, e1, finOf]
end Lw

open PySem PySem.W PySem.Calls PyProof.Rows MP
theorem PySem.Challenge.cw_findmill_k42_examples_come_and_go_holds : PySem.Challenge.rw_findmill_k42_examples_come_and_go.Holds := by
  w_on; o_law
  refine HandSHeadRun.head_any (r := OpenLaw.row PySem.Challenge.rw_findmill_k42_examples_come_and_go) (q := view (OpenLaw.row PySem.Challenge.rw_findmill_k42_examples_come_and_go).prog [60]) (H := Lw.hk) (ob := Lw.ob) (M := 20000) (loose := Lw.loose) (d := HandSHeadRun.topDef (OpenLaw.row PySem.Challenge.rw_findmill_k42_examples_come_and_go).prog 60) (kwd := []) Lw.ob_eq
    (by kernel_rfl) (fun s => by kernel_rfl) Lw.run (by kernel_rfl) (by kernel_rfl) (by kernel_rfl) (by rfl) (by first | assumption | decide +kernel) (by decide +kernel) ⟨rfl, rfl, rfl, rfl, rfl, by decide +kernel⟩ ?hw ?hc
  case hw => w_witness2
  case hc =>
    refine MP.walk_ofG (l := PySem.Challenge.rw_findmill_k42_examples_come_and_go) (n := 63) (k := 2 * 11 + 1) (x := "_law_script") (CX := CXA PySem.Challenge.rw_findmill_k42_examples_come_and_go.prog) rfl (by decide) (by kernel_rfl) ⟨rfl, by decide, by decide⟩ ?F (fun _ _ _ _ z => CXA.no z)
    intro w mg fa h Y G hmg0
    obtain ⟨K, KX, c⟩ := Y
    letI : MP.HasW := ⟨w⟩
    have hmg : mg ("law" : PySem.Str) = some (.ref fa) := by
      have e : (HandSHeadRun.topDef (OpenLaw.row PySem.Challenge.rw_findmill_k42_examples_come_and_go).prog 60).name = ("law" : PySem.Str) := by kernel_rfl
      rw [← e]
      exact hmg0
    obtain ⟨fd, sp, h1, h2, h3⟩ := Lw.lw.facts (P := PySem.Challenge.rw_findmill_k42_examples_come_and_go.prog) (w := w) (most := 63) (n := 11) (wf := 60) (x := "_law_script") KX G c rfl (f := Lw.i_law) (d := Lw.d_law) (F := Lw.f_law) (N := Lw.n_law) rfl rfl rfl rfl rfl rfl hmg Lw.law_true
    exact ⟨K, fd, sp, KX, h1, h2, h3⟩


