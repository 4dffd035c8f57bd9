import PyProof.Rows.All
import KE.DatumMoreOrd
import KE.SortData
import KE.DataFind
import KE.DataAny
import KE.DataIsa
import HandS.List
import Wide.All
import OpenK.AllK
import Wide.FinOn
import HandS.ForMost
import HandS.TupAny
import HandS.Style
import HandS.Deep
import HandS.Zip
import KE.DatumIndex
import HandS.SortInts
import KE.DataMinMax
import HandS.IsInst
import HandS.TupSets
import PyProof.SeqIndex
import HandS.SetFor
import HandS.Strs
import HandS.TupLen
import HandS.IterVal
import HandS.More
import PySem.Challenge.RW_nightbus_k16_fuel
set_option linter.all false
set_option autoImplicit false
/-! Q: the subset of Python that the laws use, as plain functions of data (PyData), slots and a stream of draws. -/
namespace Q
open PySem PySem.W

abbrev D := PyData
abbrev Env := List (Option D)
/-- the draws that are left; none: no dict of draws is about -/
abbrev Wd := Option (List Int)
abbrev E := Env → Wd → Option (D × Wd)
abbrev T := Env → Wd → Option (Bool × Wd)
abbrev Es := Env → Wd → Option (List D × Wd)
inductive Out where
  | nx (g : Env) | rt (d : D) | bk (g : Env) | ct (g : Env)
abbrev S := Env → Wd → Option (Out × Wd)
/-- a target -/
abbrev G := D → Env → Option Env
abbrev Fn := List D → Wd → Option (D × Wd)

def bnd {α β : Type} (x : Option (α × Wd)) (f : α → Wd → Option β) : Option β := match x with
  | some (a, w) => f a w
  | none => none
@[simp] theorem bnd_some {α β : Type} (a : α) (w : Wd) (f : α → Wd → Option β) : bnd (some (a, w)) f = f a w := rfl
@[simp] theorem bnd_none {α β : Type} (f : α → Wd → Option β) : bnd (none : Option (α × Wd)) f = none := rfl
theorem bnd_eq {α β : Type} {x : Option (α × Wd)} {f : α → Wd → Option β} {r : β} (h : bnd x f = some r) : ∃ a w, x = some (a, w) ∧ f a w = some r := by
  cases x with
  | none => simp at h
  | some p => exact ⟨p.1, p.2, rfl, h⟩
def lft {α : Type} (o : Option α) (w : Wd) : Option (α × Wd) := match o with
  | some a => some (a, w)
  | none => none
@[simp] theorem lft_some {α : Type} (a : α) (w : Wd) : lft (some a) w = some (a, w) := rfl
@[simp] theorem lft_none {α : Type} (w : Wd) : lft (none : Option α) w = none := rfl
theorem lft_eq {α : Type} {o : Option α} {w : Wd} {r : α × Wd} (h : lft o w = some r) : o = some r.1 ∧ w = r.2 := by
  cases o with
  | none => simp at h
  | some a => simp at h; subst h; exact ⟨rfl, rfl⟩

/-! ### expressions -/
def cVar (i : Nat) : E := fun g w => lft (g[i]?).join w
def cK (d : D) : E := fun _ w => some (d, w)
def cArgs : List E → Es
  | [], _, w => some ([], w)
  | e :: es, g, w => bnd (e g w) fun d w1 => bnd (cArgs es g w1) fun ds w2 => some (d :: ds, w2)
def cTup (es : List E) : E := fun g w => bnd (cArgs es g w) fun ds w1 => some (.tuple ds, w1)
def cLst (es : List E) : E := fun g w => bnd (cArgs es g w) fun ds w1 => some (.list ds, w1)
def cOp1 (f : D → Option D) (a : E) : E := fun g w => bnd (a g w) fun x w1 => lft (f x) w1
def cOp2 (f : D → D → Option D) (a b : E) : E := fun g w => bnd (a g w) fun x w1 => bnd (b g w1) fun y w2 => lft (f x y) w2
def cIf (c : T) (a b : E) : E := fun g w => bnd (c g w) fun k w1 => if k = true then a g w1 else b g w1
def cCall (f : Fn) (es : List E) : E := fun g w => bnd (cArgs es g w) fun ds w1 => f ds w1
/-- a value that is a bool, as a test -/
def boolD : D → Option Bool
  | .bool b => some b
  | _ => none
def tVal (a : E) : T := fun g w => bnd (a g w) fun x w1 => lft (boolD x) w1
def tCmp (f : D → D → Option Bool) (a b : E) : T := fun g w => bnd (a g w) fun x w1 => bnd (b g w1) fun y w2 => lft (f x y) w2
def tNot (a : T) : T := fun g w => bnd (a g w) fun k w1 => some (!k, w1)
def tAnd (a b : T) : T := fun g w => bnd (a g w) fun k w1 => if k = true then b g w1 else some (false, w1)
def tOr (a b : T) : T := fun g w => bnd (a g w) fun k w1 => if k = true then some (true, w1) else b g w1
/-- a < b < c -/
def tChain (f f' : D → D → Option Bool) (a b c : E) : T := fun g w => bnd (a g w) fun x w1 => bnd (b g w1) fun y w2 => bnd (lft (f x y) w2) fun k w3 =>
  if k = true then bnd (c g w3) fun z w4 => lft (f' y z) w4 else some (false, w3)
/-- a test as a value -/
def cT (t : T) : E := fun g w => bnd (t g w) fun k w1 => some (.bool k, w1)

/-- x and y, x or y, not x as values: all but the last are bools -/
def cAnd (a b : E) : E := fun g w => bnd (a g w) fun x w1 => bnd (lft (boolD x) w1) fun k w2 => if k = true then b g w2 else some (.bool false, w2)
def cOr (a b : E) : E := fun g w => bnd (a g w) fun x w1 => bnd (lft (boolD x) w1) fun k w2 => if k = true then some (.bool true, w2) else b g w2
def cNot (a : E) : E := fun g w => bnd (a g w) fun x w1 => bnd (lft (boolD x) w1) fun k w2 => some (.bool (!k), w2)

/-! ### operators on data -/
def addD : D → D → Option D
  | .int i, .int j => some (.int (i + j))
  | .str x, .str y => if x.length + y.length ≤ sizeLine then some (.str (x ++ y)) else none
  | .list xs, .list ys => if xs.length + ys.length ≤ sizeLine then some (.list (xs ++ ys)) else none
  | .tuple xs, .tuple ys => if xs.length + ys.length ≤ sizeLine then some (.tuple (xs ++ ys)) else none
  | _, _ => none
def subD : D → D → Option D
  | .int i, .int j => some (.int (i - j))
  | _, _ => none
/-- the numbers that * takes: one of them below 2^64 -/
def small64 (i : Int) : Bool := decide (-(2 ^ 64) < i) && decide (i < 2 ^ 64)
def mulD : D → D → Option D
  | .int i, .int j => if (small64 i || small64 j) = true then some (.int (i * j)) else none
  | .list xs, .int k => if -(2 ^ 63) ≤ k ∧ k < 2 ^ 63 ∧ xs.length * k.toNat ≤ sizeLine then some (.list (List.replicate k.toNat xs).flatten) else none
  | _, _ => none
def divD : D → D → Option D
  | .int i, .int j => if j ≠ 0 ∧ j.natAbs < 1073741824 then some (.int (i.fdiv j)) else none
  | _, _ => none
def modD : D → D → Option D
  | .int i, .int j => if j ≠ 0 then some (.int (i.fmod j)) else none
  | _, _ => none
def powD : D → D → Option D
  | .int i, .int j => if 0 ≤ j ∧ j ≤ 1000000 ∧ i.natAbs < 2 ^ 64 then some (.int (i ^ j.toNat)) else none
  | _, _ => none
def negD : D → Option D
  | .int i => some (.int (-i))
  | _ => none
/-- the depth that comparisons may go down -/
def lowD (d : D) : Bool := decide (d.depth ≤ 60)
def eqD (x y : D) : Option Bool := if (x.plain && y.plain && lowD x && lowD y) = true then some (PyData.eqv x y) else none
def neD (x y : D) : Option Bool := (eqD x y).map (!·)
def isNoneD : D → Bool
  | .none => true
  | _ => false
def okLt (x y : D) : Bool := x.plain && y.plain && alike x y && !isNoneD x && lowD x
def ltD (x y : D) : Option Bool := if okLt x y = true then some (dataLt x y) else none
def gtD (x y : D) : Option Bool := if okLt x y = true then some (dataLt y x) else none
def leD (x y : D) : Option Bool := if okLt x y = true then some (!dataLt y x) else none
def geD (x y : D) : Option Bool := if okLt x y = true then some (!dataLt x y) else none
/-- is None -/
def isND (x y : D) : Option Bool := if isNoneD y = true then some (isNoneD x) else none
def isNotND (x y : D) : Option Bool := if isNoneD y = true then some (!isNoneD x) else none
/-- keys of dicts: ints, texts, tuples of these -/
def atomD : D → Bool
  | .int _ => true
  | .str _ => true
  | _ => false
def keyD : D → Bool
  | .int _ => true
  | .str _ => true
  | .tuple ds => ds.all atomD
  | _ => false
def lookD (kvs : List (D × D)) (k : D) : Option D := (kvs.find? fun p => PyData.eqv p.1 k).map (·.2)
def putD (kvs : List (D × D)) (k v : D) : List (D × D) := if (lookD kvs k).isSome = true then kvs.map (fun p => if PyData.eqv p.1 k = true then (p.1, v) else p) else kvs ++ [(k, v)]
def inD (x c : D) : Option Bool := match c with
  | .list ys => if (PyData.plainAll ys && x.plain && lowD x && lowD c) = true then some (ys.any fun y => PyData.eqv y x) else none
  | .tuple ys => if (PyData.plainAll ys && x.plain && lowD x && lowD c) = true then some (ys.any fun y => PyData.eqv y x) else none
  | _ => none
def notInD (x c : D) : Option Bool := (inD x c).map (!·)
/-- the script is told by an odd dict -/
def scrOf : List (D × D) → Option (List D)
  | [(.none, .list xs)] => some xs
  | _ => none
/-- c[i] -/
def ixD (c i : D) : Option D := match c, i with
  | .list xs, .int k => L2.atI xs k
  | .tuple xs, .int k => L2.atI xs k
  | .str z, .int k => if z.length ≤ sizeLine then (L2.atI z.cps.toList k).map fun c => .str ⟨#[c]⟩ else none
  | .dict kvs, .int k => (scrOf kvs).bind fun xs => L2.atI xs k
  | _, _ => none
/-- the dict of draws, a def that is handed on, the script: as data -/
def tokW : D := .dict [(.none, .none)]
def tokF (x : Str) : D := .dict [(.none, .str x)]
def tokS (ns : List Int) : D := .dict [(.none, .list (ns.map .int))]
def cutL {α : Type} (xs : List α) (lo hi : Option Int) : List α := (xs.drop (HT.sIx xs.length 0 lo)).take (HT.sIx xs.length xs.length hi - HT.sIx xs.length 0 lo)
def cutD (c : D) (lo hi : Option Int) : Option D := match c with
  | .list xs => some (.list (cutL xs lo hi))
  | .tuple xs => some (.tuple (cutL xs lo hi))
  | _ => none
def optE : Option E → Env → Wd → Option (Option Int × Wd)
  | none, _, w => some (none, w)
  | some e, g, w => bnd (e g w) fun d w1 => match d with
    | .int i => some (some i, w1)
    | _ => none
def cCut (a : E) (lo hi : Option E) : E := fun g w => bnd (a g w) fun x w1 => bnd (optE lo g w1) fun l w2 => bnd (optE hi g w2) fun h w3 => lft (cutD x l h) w3
def lenD : D → Option D
  | .list xs => some (.int xs.length)
  | .tuple xs => some (.int xs.length)
  | .str z => if z.length ≤ sizeLine then some (.int z.length) else none
  | .dict kvs => (scrOf kvs).map fun xs => .int xs.length
  | _ => none
def intsOf : List D → Option (List Int)
  | [] => some []
  | .int i :: r => (intsOf r).map (i :: ·)
  | _ :: _ => none
def boolsOf : List D → Option (List Bool)
  | [] => some []
  | .bool i :: r => (boolsOf r).map (i :: ·)
  | _ :: _ => none
def itemsD : D → Option (List D)
  | .list xs => some xs
  | .tuple xs => some xs
  | _ => none
def sumD : D → Option D
  | .list xs => (intsOf xs).map fun ns => .int ns.sum
  | _ => none
def allD : D → Option D
  | .list xs => (boolsOf xs).map fun bs => .bool (bs.all id)
  | _ => none
def anyD : D → Option D
  | .list xs => (boolsOf xs).map fun bs => .bool (bs.any id)
  | _ => none
def alikeB (xs : List D) : Bool := xs.all fun x => xs.all fun y => alike x y
def noNoneB (xs : List D) : Bool := xs.all fun x => !isNoneD x
def minD1 (d : D) : Option D := match itemsD d with
  | some (x :: xs) => if (d.plain && alikeB (x :: xs) && noNoneB (x :: xs) && lowD d) = true then some (minD x xs) else none
  | _ => none
def maxD1 (d : D) : Option D := match itemsD d with
  | some (x :: xs) => if (d.plain && alikeB (x :: xs) && noNoneB (x :: xs) && lowD d) = true then some (maxD x xs) else none
  | _ => none
def max2D : D → D → Option D
  | .int i, .int j => some (.int (if j > i then j else i))
  | _, _ => none
def min2D : D → D → Option D
  | .int i, .int j => some (.int (if j < i then j else i))
  | _, _ => none
def absD : D → Option D
  | .int i => some (.int (if i < 0 then -i else i))
  | _ => none
def intD : D → Option D
  | .int i => some (.int i)
  | .bool b => some (.int (if b then 1 else 0))
  | _ => none
def tupD : D → Option D
  | .list xs => some (.tuple xs)
  | .tuple xs => some (.tuple xs)
  | _ => none
def lstD : D → Option D
  | .list xs => some (.list xs)
  | .tuple xs => some (.list xs)
  | .dict kvs => some (.list (kvs.map (·.1)))
  | _ => none
/-- sorted(..): tuples with an item at least, or other things than None and tuples -/
def sortableB (xs : List D) : Bool := (xs.all fun x => match x with | .tuple (_ :: _) => true | _ => false) || (xs.all fun x => match x with | .none => false | .tuple _ => false | _ => true)
def sortD (d : D) : Option D := match itemsD d with
  | some xs => if (d.plain && alikeB xs && sortableB xs && lowD d && decide (xs.length ≤ sizeLine)) = true then some (.list (xs.mergeSort (dataLe false id))) else none
  | none => none
def indexD (c x : D) : Option D := match itemsD c with
  | some ys => if (PyData.plainAll ys && x.plain && lowD x && lowD c) = true then (ys.findIdx? fun y => PyData.eqv y x).map fun j => .int (j : Nat) else none
  | none => none
def countD (c x : D) : Option D := match itemsD c with
  | some ys => if (PyData.plainAll ys && x.plain && lowD x && lowD c) = true then some (.int (ys.countP fun y => PyData.eqv y x : Nat)) else none
  | none => none

/-! ### what is walked -/
def itSeq (a : E) : Es := fun g w => bnd (a g w) fun x w1 => lft (itemsD x) w1
def small62 (i : Int) : Bool := decide (-(2 ^ 62) ≤ i) && decide (i < 2 ^ 62)
def rangeL (lo : Int) (n : Nat) : List D := (List.range n).map fun i => .int (lo + (i : Nat))
def range1 : D → Option (List D)
  | .int n => if small62 n = true then some (rangeL 0 n.toNat) else none
  | _ => none
def range2 : D → D → Option (List D)
  | .int i, .int j => if (small62 i && small62 j) = true then some (rangeL i (j - i).toNat) else none
  | _, _ => none
def itR1 (a : E) : Es := fun g w => bnd (a g w) fun x w1 => lft (range1 x) w1
def itR2 (a b : E) : Es := fun g w => bnd (a g w) fun x w1 => bnd (b g w1) fun y w2 => lft (range2 x y) w2
def zipD : D → D → Option (List D)
  | .list xs, .list ys => some ((xs.zip ys).map fun p => .tuple [p.1, p.2])
  | .tuple xs, .tuple ys => some ((xs.zip ys).map fun p => .tuple [p.1, p.2])
  | _, _ => none
def itZip (a b : E) : Es := fun g w => bnd (a g w) fun x w1 => bnd (b g w1) fun y w2 => lft (zipD x y) w2

/-! ### targets -/
def wipeE (g : Env) : List Nat → Env
  | [] => g
  | v :: vs => (wipeE g vs).set v none
def gName (i : Nat) : G := fun d g => if i < g.length then some (g.set i (some d)) else none
def gList : List G → List D → Env → Option Env
  | [], [], g => some g
  | t :: ts, d :: ds, g => match t d g with
    | some g1 => gList ts ds g1
    | none => none
  | _, _, _ => none
def gTup (ts : List G) : G := fun d g => match d with
  | .tuple ds => gList ts ds g
  | _ => none

/-! ### comprehensions -/
def lcLoop (t : G) (c : T) (e : E) (g : Env) : List D → Wd → Option (List D × Wd)
  | [], w => some ([], w)
  | x :: xs, w => match t x g with
    | none => none
    | some g1 => bnd (c g1 w) fun k w1 => if k = true then bnd (e g1 w1) fun d w2 => bnd (lcLoop t c e g xs w2) fun ds w3 => some (d :: ds, w3) else lcLoop t c e g xs w1
def tYes : T := fun _ w => some (true, w)
/-- [e for t in it if c], vs the slots of its own names -/
def cLc (it : Es) (t : G) (c : T) (e : E) (vs : List Nat) : E := fun g w => bnd (it g w) fun xs w1 => bnd (lcLoop t c e (wipeE g vs) xs w1) fun ds w2 => if xs.length ≤ sizeLine then some (.list ds, w2) else none

/-! ### statements -/
def sSeq (a b : S) : S := fun g w => bnd (a g w) fun o w1 => match o with
  | .nx g1 => b g1 w1
  | .rt d => some (.rt d, w1)
  | .bk g1 => some (.bk g1, w1)
  | .ct g1 => some (.ct g1, w1)
def sPass : S := fun g w => some (.nx g, w)
def sSet (t : G) (e : E) : S := fun g w => bnd (e g w) fun d w1 => match t d g with
  | some g1 => some (.nx g1, w1)
  | none => none
/-- a, b, .. = x, y, .. -/
def sPar (ts : List G) (es : List E) : S := fun g w => bnd (cArgs es g w) fun ds w1 => match gList ts ds g with
  | some g1 => some (.nx g1, w1)
  | none => none
def sRet (e : E) : S := fun g w => bnd (e g w) fun d w1 => some (.rt d, w1)
def sIf (c : T) (a b : S) : S := fun g w => bnd (c g w) fun k w1 => if k = true then a g w1 else b g w1
def sBreak : S := fun g w => some (.bk g, w)
def sCont : S := fun g w => some (.ct g, w)
def sDrop (e : E) : S := fun g w => bnd (e g w) fun _ w1 => some (.nx g, w1)
/-- slots forgotten -/
def sForget (vs : List Nat) : S := fun g w => some (.nx (wipeE g vs), w)
def apD : D → D → Option D
  | .list xs, d => if xs.length < sizeLine then some (.list (xs ++ [d])) else none
  | _, _ => none
def exD : D → D → Option D
  | .list xs, .list ys => if xs.length + ys.length ≤ sizeLine then some (.list (xs ++ ys)) else none
  | _, _ => none
def setD : D → D → D → Option D
  | .list xs, .int k, d => (L2.ixN xs.length k).map fun j => .list (xs.set j d)
  | .dict kvs, k, d => if (keyD k && decide (kvs.length < sizeLine)) = true then some (.dict (putD kvs k d)) else none
  | _, _, _ => none
/-- the object in slot i is changed -/
def mutS (i : Nat) (f : D → Option D) (g : Env) (w : Wd) : Option (Out × Wd) := match (g[i]?).join with
  | some x => match f x with
    | some y => some (.nx (g.set i (some y)), w)
    | none => none
  | none => none
def sApp (i : Nat) (e : E) : S := fun g w => bnd (e g w) fun d w1 => mutS i (apD · d) g w1
def sExt (i : Nat) (e : E) : S := fun g w => bnd (e g w) fun d w1 => mutS i (exD · d) g w1
/-- x[k] = e: e first -/
def sPut (i : Nat) (k e : E) : S := fun g w => bnd (e g w) fun d w1 => bnd (k g w1) fun kd w2 => mutS i (setD · kd d) g w2
/-- x[k] += e -/
def sAug (i : Nat) (f : D → D → Option D) (k e : E) : S := fun g w => bnd (k g w) fun kd w1 => match (g[i]?).join with
  | some x => match ixD x kd with
    | some old => bnd (e g w1) fun d w2 => match f old d with
      | some new => mutS i (setD · kd new) g w2
      | none => none
    | none => none
  | none => none
def loopS (t : G) (b : S) (vs : List Nat) : List D → Env → Wd → Option (Out × Wd)
  | [], g, w => some (.nx (wipeE g vs), w)
  | x :: xs, g, w => match t x (wipeE g vs) with
    | none => none
    | some g1 => bnd (b g1 w) fun o w1 => match o with
      | .nx g2 => loopS t b vs xs g2 w1
      | .ct g2 => loopS t b vs xs g2 w1
      | .bk g2 => some (.nx (wipeE g2 vs), w1)
      | .rt d => some (.rt d, w1)
/-- vs: the slots forgotten at each turn's start and behind the loop -/
def sFor (it : Es) (t : G) (b : S) (vs : List Nat) : S := fun g w => bnd (it g w) fun xs w1 => loopS t b vs xs g w1
def whileS (c : T) (b : S) (vs : List Nat) : Nat → Env → Wd → Option (Out × Wd)
  | 0, _, _ => none
  | n + 1, g, w => bnd (c (wipeE g vs) w) fun k w1 => if k = true then bnd (b (wipeE g vs) w1) fun o w2 => match o with
      | .nx g2 => whileS c b vs n g2 w2
      | .ct g2 => whileS c b vs n g2 w2
      | .bk g2 => some (.nx (wipeE g2 vs), w2)
      | .rt d => some (.rt d, w2)
    else some (.nx (wipeE g vs), w1)
def sWhile (c : T) (b : S) (vs : List Nat) (n : Nat) : S := fun g w => whileS c b vs n g w

/-! ### defs -/
def bodyFn (n locals : Nat) (b : S) : Fn := fun ds w => if ds.length = n then bnd (b (ds.map some ++ List.replicate locals none) w) fun o w1 => match o with
    | .rt d => some (d, w1)
    | .nx _ => some (.none, w1)
    | _ => none
  else none
/-- the next draw below many -/
def fnNext : Fn := fun ds w => match ds, w with
  | [.dict [(.none, .none)], .int many], some l => match l with
    | [] => some (.int 0, some [])
    | x :: r => if many ≠ 0 then some (.int (x.fmod many), some r) else none
  | _, _ => none
end Q

set_option Elab.async false
set_option linter.all false
set_option autoImplicit false
set_option maxRecDepth 100000
/-! QS1: how slots and heaps bear data; the readings. -/
namespace Q
open PySem PySem.Spec PyProof.Rows L2

def keyOf : Key → D
  | .inl i => .int i
  | .inr x => .str x

/-- the dict of draws, and where the defs stand that are handed on -/
structure Tk (Kx : PySem.W.Frag) (mx : Str → Option Value) (zf : Bool) where
  pw : Option Addr
/-- how a tuple stands: with its object (zf), or not -/
def tupO (zf : Bool) (ob : Obj) (xs : List V) : HO := if zf = true then .frz ob (.tup xs) else .tup xs
def TupAt (zf : Bool) (F : Hp) (a : Addr) (xs : List V) : Prop := ∃ ob : Obj, F a = some (tupO zf ob xs) ∧ ob.dict = none
theorem TupAt.rd {zf : Bool} {F : Hp} {a : Addr} {xs : List V} (h : TupAt zf F a xs) : Rd F a (.tup xs) := by
  obtain ⟨ob, h, _⟩ := h
  unfold tupO at h
  cases zf
  · exact .inl h
  · exact .inr ⟨ob, h⟩
theorem TupAt.sq {K : PySem.W.Frag} {zf : Bool} {F : Hp} {a : Addr} {xs : List V} (h : TupAt zf F a xs) : SqT K F a xs := .inl h.rd
theorem TupAt.same {zf : Bool} {F F' : Hp} {a : Addr} {xs : List V} (h : TupAt zf F a xs) (s : Same F F') : TupAt zf F' a xs := by
  obtain ⟨ob, h, k⟩ := h
  exact ⟨ob, s _ _ h, k⟩
mutual
/-- v bears d in the frozen heap F; two odd dicts stand for the dict of draws and for defs -/
def Rep {Kx : PySem.W.Frag} {mx : Str → Option Value} {zf : Bool} (tk : Tk Kx mx zf) (F : Hp) : D → V → Prop
  | .none, v => v = .non
  | .bool b, v => v = .bl b
  | .int i, v => v = .int i
  | .str x, v => v = .str x
  | .list ds, v => ∃ a xs, v = .ref a ∧ Rd F a (.lst xs) ∧ RepL tk F ds xs
  | .tuple ds, v => ∃ a xs, v = .ref a ∧ TupAt zf F a xs ∧ RepL tk F ds xs
  | .dict kvs, v => ∃ a, v = .ref a ∧ ((∃ es, F a = some (.dK es) ∧ RepK tk F kvs es) ∨ (∃ es, F a = some (.dT es) ∧ RepT tk F kvs es) ∨ (kvs = [(.none, .none)] ∧ tk.pw = some a) ∨ (∃ x : Str, kvs = [(.none, .str x)] ∧ mx x = some (.ref a)) ∨ ∃ ns : List Int, kvs = [(.none, .list (ns.map .int))] ∧ SqL Kx F a (ns.map V.int))
def RepL {Kx : PySem.W.Frag} {mx : Str → Option Value} {zf : Bool} (tk : Tk Kx mx zf) (F : Hp) : List D → List V → Prop
  | [], [] => True
  | d :: ds, v :: vs => Rep tk F d v ∧ RepL tk F ds vs
  | [], _ :: _ => False
  | _ :: _, [] => False
def RepK {Kx : PySem.W.Frag} {mx : Str → Option Value} {zf : Bool} (tk : Tk Kx mx zf) (F : Hp) : List (D × D) → List (Key × V) → Prop
  | [], [] => True
  | (k, d) :: r, (k', v) :: r' => k = keyOf k' ∧ Rep tk F d v ∧ RepK tk F r r'
  | [], _ :: _ => False
  | _ :: _, [] => False
def RepT {Kx : PySem.W.Frag} {mx : Str → Option Value} {zf : Bool} (tk : Tk Kx mx zf) (F : Hp) : List (D × D) → List (List Key × V) → Prop
  | [], [] => True
  | (k, d) :: r, (k', v) :: r' => k = .tuple (k'.map keyOf) ∧ Rep tk F d v ∧ RepT tk F r r'
  | [], _ :: _ => False
  | _ :: _, [] => False
end

theorem Rd.same {F F' : Hp} {a : Addr} {u : HO} (s : Same F F') (h : Rd F a u) : Rd F' a u := by
  rcases h with h | ⟨o, h⟩
  · exact .inl (s _ _ h)
  · exact .inr ⟨o, s _ _ h⟩

mutual
theorem Rep.same {Kx : PySem.W.Frag} {mx : Str → Option Value} {zf : Bool} {tk : Tk Kx mx zf} {F F' : Hp} (s : Same F F') : ∀ (d : D) (v : V), Rep tk F d v → Rep tk F' d v
  | .none, _, h => by simpa only [Rep] using h
  | .bool _, _, h => by simpa only [Rep] using h
  | .int _, _, h => by simpa only [Rep] using h
  | .str _, _, h => by simpa only [Rep] using h
  | .list ds, v, h => by
    simp only [Rep] at h ⊢
    obtain ⟨a, xs, e, r, l⟩ := h
    exact ⟨a, xs, e, Rd.same s r, RepL.same s ds xs l⟩
  | .tuple ds, v, h => by
    simp only [Rep] at h ⊢
    obtain ⟨a, xs, e, r, l⟩ := h
    exact ⟨a, xs, e, r.same s, RepL.same s ds xs l⟩
  | .dict kvs, v, h => by
    simp only [Rep] at h ⊢
    obtain ⟨a, e, h⟩ := h
    refine ⟨a, e, ?_⟩
    rcases h with ⟨es, r, l⟩ | ⟨es, r, l⟩ | h
    · exact .inl ⟨es, s _ _ r, RepK.same s kvs es l⟩
    · exact .inr (.inl ⟨es, s _ _ r, RepT.same s kvs es l⟩)
    · refine .inr (.inr ?_)
      rcases h with h | h | ⟨ns, e, h⟩
      · exact .inl h
      · exact .inr (.inl h)
      · exact .inr (.inr ⟨ns, e, s.seq h⟩)
theorem RepL.same {Kx : PySem.W.Frag} {mx : Str → Option Value} {zf : Bool} {tk : Tk Kx mx zf} {F F' : Hp} (s : Same F F') : ∀ (ds : List D) (vs : List V), RepL tk F ds vs → RepL tk F' ds vs
  | [], [], _ => by simp only [RepL]
  | [], _ :: _, h => by simp only [RepL] at h
  | _ :: _, [], h => by simp only [RepL] at h
  | d :: ds, v :: vs, h => by
    simp only [RepL] at h ⊢
    exact ⟨Rep.same s d v h.1, RepL.same s ds vs h.2⟩
theorem RepK.same {Kx : PySem.W.Frag} {mx : Str → Option Value} {zf : Bool} {tk : Tk Kx mx zf} {F F' : Hp} (s : Same F F') : ∀ (kvs : List (D × D)) (es : List (Key × V)), RepK tk F kvs es → RepK tk F' kvs es
  | [], [], _ => by simp only [RepK]
  | [], _ :: _, h => by simp only [RepK] at h
  | _ :: _, [], h => by simp only [RepK] at h
  | (k, d) :: r, (k', v) :: r', h => by
    simp only [RepK] at h ⊢
    exact ⟨h.1, Rep.same s d v h.2.1, RepK.same s r r' h.2.2⟩
theorem RepT.same {Kx : PySem.W.Frag} {mx : Str → Option Value} {zf : Bool} {tk : Tk Kx mx zf} {F F' : Hp} (s : Same F F') : ∀ (kvs : List (D × D)) (es : List (List Key × V)), RepT tk F kvs es → RepT tk F' kvs es
  | [], [], _ => by simp only [RepT]
  | [], _ :: _, h => by simp only [RepT] at h
  | _ :: _, [], h => by simp only [RepT] at h
  | (k, d) :: r, (k', v) :: r', h => by
    simp only [RepT] at h ⊢
    exact ⟨h.1, Rep.same s d v h.2.1, RepT.same s r r' h.2.2⟩
end
theorem RepL.length {Kx : PySem.W.Frag} {mx : Str → Option Value} {zf : Bool} {tk : Tk Kx mx zf} {F : Hp} : ∀ {ds : List D} {vs : List V}, RepL tk F ds vs → ds.length = vs.length
  | [], [], _ => rfl
  | [], _ :: _, h => by simp only [RepL] at h
  | _ :: _, [], h => by simp only [RepL] at h
  | d :: ds, v :: vs, h => by
    simp only [RepL] at h
    simp [RepL.length h.2]
theorem RepL.at {Kx : PySem.W.Frag} {mx : Str → Option Value} {zf : Bool} {tk : Tk Kx mx zf} {F : Hp} : ∀ {ds : List D} {vs : List V} {i : Nat} {d : D}, RepL tk F ds vs → ds[i]? = some d → ∃ v, vs[i]? = some v ∧ Rep tk F d v
  | [], [], _, _, _, h => by simp at h
  | [], _ :: _, _, _, h, _ => by simp only [RepL] at h
  | _ :: _, [], _, _, h, _ => by simp only [RepL] at h
  | d :: ds, v :: vs, 0, x, h, e => by
    simp only [RepL] at h
    simp at e
    subst e
    exact ⟨v, rfl, h.1⟩
  | d :: ds, v :: vs, i + 1, x, h, e => by
    simp only [RepL] at h
    exact RepL.at (i := i) h.2 (by simpa using e)
theorem RepL.append {Kx : PySem.W.Frag} {mx : Str → Option Value} {zf : Bool} {tk : Tk Kx mx zf} {F : Hp} : ∀ {ds : List D} {vs : List V} {es : List D} {ws : List V}, RepL tk F ds vs → RepL tk F es ws → RepL tk F (ds ++ es) (vs ++ ws)
  | [], [], _, _, _, h => h
  | [], _ :: _, _, _, h, _ => by simp only [RepL] at h
  | _ :: _, [], _, _, h, _ => by simp only [RepL] at h
  | d :: ds, v :: vs, es, ws, h, k => by
    simp only [RepL] at h
    simp only [List.cons_append, RepL]
    exact ⟨h.1, RepL.append h.2 k⟩
theorem RepL.take {Kx : PySem.W.Frag} {mx : Str → Option Value} {zf : Bool} {tk : Tk Kx mx zf} {F : Hp} : ∀ {ds : List D} {vs : List V} (n : Nat), RepL tk F ds vs → RepL tk F (ds.take n) (vs.take n)
  | _, _, 0, _ => by simp only [List.take_zero, RepL]
  | [], [], n + 1, h => by simp only [List.take_nil, RepL]
  | [], _ :: _, _, h => by simp only [RepL] at h
  | _ :: _, [], _, h => by simp only [RepL] at h
  | d :: ds, v :: vs, n + 1, h => by
    simp only [RepL] at h
    simp only [List.take_succ_cons, RepL]
    exact ⟨h.1, RepL.take n h.2⟩
theorem RepL.drop {Kx : PySem.W.Frag} {mx : Str → Option Value} {zf : Bool} {tk : Tk Kx mx zf} {F : Hp} : ∀ {ds : List D} {vs : List V} (n : Nat), RepL tk F ds vs → RepL tk F (ds.drop n) (vs.drop n)
  | _, _, 0, h => h
  | [], [], n + 1, h => by simp only [List.drop_nil, RepL]
  | [], _ :: _, _, h => by simp only [RepL] at h
  | _ :: _, [], _, h => by simp only [RepL] at h
  | d :: ds, v :: vs, n + 1, h => by
    simp only [RepL] at h
    simp only [List.drop_succ_cons]
    exact RepL.drop n h.2
theorem RepL.set {Kx : PySem.W.Frag} {mx : Str → Option Value} {zf : Bool} {tk : Tk Kx mx zf} {F : Hp} {d : D} {v : V} (hd : Rep tk F d v) : ∀ {ds : List D} {vs : List V} (n : Nat), RepL tk F ds vs → RepL tk F (ds.set n d) (vs.set n v)
  | [], [], _, _ => by simp only [List.set_nil, RepL]
  | [], _ :: _, _, h => by simp only [RepL] at h
  | _ :: _, [], _, h => by simp only [RepL] at h
  | e :: ds, u :: vs, 0, h => by
    simp only [RepL] at h
    simp only [List.set_cons_zero, RepL]
    exact ⟨hd, h.2⟩
  | e :: ds, u :: vs, n + 1, h => by
    simp only [RepL] at h
    simp only [List.set_cons_succ, RepL]
    exact ⟨h.1, RepL.set hd n h.2⟩
theorem RepL.snoc {Kx : PySem.W.Frag} {mx : Str → Option Value} {zf : Bool} {tk : Tk Kx mx zf} {F : Hp} {ds : List D} {vs : List V} {d : D} {v : V} (h : RepL tk F ds vs) (k : Rep tk F d v) : RepL tk F (ds ++ [d]) (vs ++ [v]) :=
  h.append (by simp only [RepL]; exact ⟨k, trivial⟩)

/-- what an own object holds -/
def RepO {Kx : PySem.W.Frag} {mx : Str → Option Value} {zf : Bool} (tk : Tk Kx mx zf) (F : Hp) : D → HO → Prop
  | .list ds, .lst xs => RepL tk F ds xs
  | .dict kvs, .dK es => RepK tk F kvs es
  | .dict kvs, .dT es => RepT tk F kvs es
  | _, _ => False
theorem RepO.same {Kx : PySem.W.Frag} {mx : Str → Option Value} {zf : Bool} {tk : Tk Kx mx zf} {F F' : Hp} (s : Same F F') {d : D} {o : HO} (h : RepO tk F d o) : RepO tk F' d o := by
  cases d <;> cases o <;> simp only [RepO] at h ⊢
  · exact RepL.same s _ _ h
  · exact RepK.same s _ _ h
  · exact RepT.same s _ _ h
/-- an own object frozen -/
theorem RepO.frz {Kx : PySem.W.Frag} {mx : Str → Option Value} {zf : Bool} {tk : Tk Kx mx zf} {F : Hp} {d : D} {o : HO} {a : Addr} (h : RepO tk F d o) (hn : F a = none) : Rep tk (upd F a o) d (.ref a) := by
  have s : Same F (upd F a o) := fun b u e => by rw [upd_ne (ne_of_none e hn)]; exact e
  cases d <;> cases o <;> simp only [RepO] at h <;> simp only [Rep]
  · exact ⟨a, _, rfl, .inl upd_same, RepL.same s _ _ h⟩
  · exact ⟨a, rfl, .inl ⟨_, upd_same, RepK.same s _ _ h⟩⟩
  · exact ⟨a, rfl, .inr (.inl ⟨_, upd_same, RepT.same s _ _ h⟩)⟩

def isDictO : HO → Bool
  | .dK _ => true
  | .dT _ => true
  | _ => false
/-- the frozen heap lies in the heap (a dict may be locked) -/
def Sub (F H : Hp) : Prop := ∀ a o, F a = some o → H a = some o ∨ (isDictO o = true ∧ ∃ ob, H a = some (.frz ob o))
theorem Sub.rdL {F H : Hp} {a : Addr} {xs : List V} (s : Sub F H) (h : Rd F a (.lst xs)) : Rd H a (.lst xs) := by
  rcases h with h | ⟨o, h⟩
  · rcases s _ _ h with k | ⟨k, _⟩
    · exact .inl k
    · cases k
  · rcases s _ _ h with k | ⟨k, _⟩
    · exact .inr ⟨o, k⟩
    · cases k
theorem Sub.tup {zf : Bool} {F H : Hp} {a : Addr} {xs : List V} (s : Sub F H) (h : TupAt zf F a xs) : TupAt zf H a xs := by
  obtain ⟨ob, h, k⟩ := h
  refine ⟨ob, ?_, k⟩
  rcases s _ _ h with e | ⟨e, _⟩
  · exact e
  · unfold tupO at e
    cases zf <;> cases e
theorem Sub.tup0 {F H : Hp} {a : Addr} {xs : List V} (s : Sub F H) (h : F a = some (.tup xs)) : H a = some (.tup xs) := by
  rcases s _ _ h with k | ⟨k, _⟩
  · exact k
  · cases k
theorem Sub.dict {F H : Hp} {a : Addr} {o : HO} (s : Sub F H) (h : F a = some o) (hd : isDictO o = true) : Rd H a o := by
  rcases s _ _ h with k | ⟨_, ob, k⟩
  · exact .inl k
  · exact .inr ⟨ob, k⟩
theorem Sub.none {F H : Hp} {a : Addr} (s : Sub F H) (h : H a = none) : F a = none := by
  cases e : F a with
  | none => rfl
  | some o =>
    rcases s _ _ e with k | ⟨_, ob, k⟩ <;> rw [h] at k <;> cases k

/-- a value that is read where it stands: a list or a dict that is still being made too -/
def RepB {Kx : PySem.W.Frag} {mx : Str → Option Value} {zf : Bool} (tk : Tk Kx mx zf) (F H : Hp) : D → V → Prop
  | .list ds, v => ∃ a xs, v = .ref a ∧ tk.pw ≠ some a ∧ Rd H a (.lst xs) ∧ RepL tk F ds xs
  | .dict kvs, v => ∃ a, v = .ref a ∧ ((tk.pw ≠ some a ∧ ((∃ es, Rd H a (.dK es) ∧ RepK tk F kvs es) ∨ ∃ es, Rd H a (.dT es) ∧ RepT tk F kvs es)) ∨ (kvs = [(.none, .none)] ∧ tk.pw = some a) ∨ (∃ x : Str, kvs = [(.none, .str x)] ∧ mx x = some (.ref a)) ∨ ∃ ns : List Int, kvs = [(.none, .list (ns.map .int))] ∧ SqL Kx F a (ns.map V.int))
  | d, v => Rep tk F d v

/-- all but the dict of draws stands -/
def Grow {Kx : PySem.W.Frag} {mx : Str → Option Value} {zf : Bool} (tk : Tk Kx mx zf) (H F' H' : Hp) : Prop := ∀ a o, H a = some o → tk.pw ≠ some a → H' a = some o ∨ (isDictO o = true ∧ F' a ≠ none ∧ ∃ ob, H' a = some (.frz ob o))
section
variable {Kx : PySem.W.Frag} {mx : Str → Option Value} {zf : Bool} {tk : Tk Kx mx zf} {H H' H2 F F' : Hp}
theorem Grow.refl : Grow tk H F H := fun _ _ h _ => .inl h
theorem Grow.ne (g : Grow tk H F' H') {a : Addr} {o : HO} (h : H a = some o) (n : tk.pw ≠ some a) : H' a ≠ none := by
  rcases g a o h n with e | ⟨_, _, ob, e⟩ <;> rw [e] <;> exact fun z => nomatch z
theorem Grow.ex (g : Grow tk H F' H') {a : Addr} {o : HO} (h : H a = some o) (n : tk.pw ≠ some a) (f : F' a = none) : H' a = some o := by
  rcases g a o h n with e | ⟨_, k, _⟩
  · exact e
  · exact absurd f k
theorem Grow.exL (g : Grow tk H F' H') {a : Addr} {o : HO} (h : H a = some o) (n : tk.pw ≠ some a) (f : isDictO o = false) : H' a = some o := by
  rcases g a o h n with e | ⟨k, _⟩
  · exact e
  · rw [f] at k; cases k
theorem Grow.to (g : Grow tk H F H') (s : Same F F') (k : ∀ a u, tk.pw ≠ some a → H' a = some u → H2 a = some u) : Grow tk H F' H2 := fun a o h n => by
  rcases g a o h n with e | ⟨d, f, ob, e⟩
  · exact .inl (k _ _ n e)
  · refine .inr ⟨d, fun z => ?_, ob, k _ _ n e⟩
    cases q : F a with
    | none => exact f q
    | some u => rw [s _ _ q] at z; cases z
theorem Grow.trans {H1 F1 H2 F2 : Hp} (a : Grow tk H F1 H1) (s : Same F1 F2) (b : Grow tk H1 F2 H2) : Grow tk H F2 H2 := fun c o h n => by
  rcases a c o h n with e | ⟨d, f, ob, e⟩
  · exact b c o e n
  · refine .inr ⟨d, fun z => ?_, ob, b.exL e n rfl⟩
    cases q : F1 c with
    | none => exact f q
    | some u => rw [s _ _ q] at z; cases z
theorem Grow.of (k : ∀ a u, tk.pw ≠ some a → H a = some u → H' a = some u) : Grow tk H F H' := fun a o h n => .inl (k a o n h)
end
/-- what was not frozen is not -/
def New {Kx : PySem.W.Frag} {mx : Str → Option Value} {zf : Bool} (tk : Tk Kx mx zf) (H F F' : Hp) : Prop := ∀ a, tk.pw ≠ some a → H a ≠ none → F a = none → F' a = none
structure Ex {Kx : PySem.W.Frag} {mx : Str → Option Value} {zf : Bool} (tk : Tk Kx mx zf) (F H F' H' : Hp) : Prop where
  sm : Same F F'
  gr : Grow tk H F' H'
  nw : New tk H F F'
theorem Ex.refl {Kx : PySem.W.Frag} {mx : Str → Option Value} {zf : Bool} (tk : Tk Kx mx zf) (F H : Hp) : Ex tk F H F H := ⟨Same.refl F, Grow.refl, fun _ _ _ h => h⟩
theorem Ex.trans {Kx : PySem.W.Frag} {mx : Str → Option Value} {zf : Bool} {tk : Tk Kx mx zf} {F H F1 H1 F2 H2 : Hp} (a : Ex tk F H F1 H1) (b : Ex tk F1 H1 F2 H2) : Ex tk F H F2 H2 :=
  ⟨a.sm.trans b.sm, a.gr.trans b.sm b.gr, fun c n h f => b.nw c n (by
    cases e : H c with
    | none => exact absurd e h
    | some o => exact a.gr.ne e n) (a.nw c n h f)⟩
theorem Rd.grow {Kx : PySem.W.Frag} {mx : Str → Option Value} {zf : Bool} {tk : Tk Kx mx zf} {H F' H' : Hp} {a : Addr} {u : HO} (g : Grow tk H F' H') (n : tk.pw ≠ some a) (h : Rd H a u) : Rd H' a u := by
  rcases h with h | ⟨o, h⟩
  · rcases g _ _ h n with e | ⟨_, _, ob, e⟩
    · exact .inl e
    · exact .inr ⟨ob, e⟩
  · exact .inr ⟨o, g.exL h n rfl⟩
theorem RepB.ex {Kx : PySem.W.Frag} {mx : Str → Option Value} {zf : Bool} {tk : Tk Kx mx zf} {F H F' H' : Hp} (x : Ex tk F H F' H') {d : D} {v : V} (h : RepB tk F H d v) : RepB tk F' H' d v := by
  cases d <;> simp only [RepB] at h ⊢
  case list ds =>
    obtain ⟨a, xs, e, n, r, l⟩ := h
    exact ⟨a, xs, e, n, Rd.grow x.gr n r, RepL.same x.sm _ _ l⟩
  case dict kvs =>
    obtain ⟨a, e, h⟩ := h
    refine ⟨a, e, ?_⟩
    rcases h with ⟨n, ⟨es, r, l⟩ | ⟨es, r, l⟩⟩ | h
    · exact .inl ⟨n, .inl ⟨es, Rd.grow x.gr n r, RepK.same x.sm _ _ l⟩⟩
    · exact .inl ⟨n, .inr ⟨es, Rd.grow x.gr n r, RepT.same x.sm _ _ l⟩⟩
    · refine .inr ?_
      rcases h with h | h | ⟨ns, e, h⟩
      · exact .inl h
      · exact .inr (.inl h)
      · exact .inr (.inr ⟨ns, e, x.sm.seq h⟩)
  all_goals exact Rep.same x.sm _ _ h

/-- the dict of draws -/
def WAt {Kx : PySem.W.Frag} {mx : Str → Option Value} {zf : Bool} (tk : Tk Kx mx zf) (H F : Hp) (w : Wd) : Prop := match tk.pw, w with
  | none, none => True
  | some p, some l => F p = none ∧ ∃ (b : Addr) (n : Nat) (full : List Int), H p = some (.dK [(.inr "draws", .ref b), (.inr "at", .int n)]) ∧ Rd F b (.lst (full.map V.int)) ∧ l = full.drop n
  | _, _ => False
theorem WAt.free {Kx : PySem.W.Frag} {mx : Str → Option Value} {zf : Bool} {tk : Tk Kx mx zf} {H F : Hp} {w : Wd} (h : WAt tk H F w) : ∀ p, tk.pw = some p → F p = none ∧ H p ≠ none := by
  intro p e
  unfold WAt at h
  rw [e] at h
  cases w with
  | none => exact h.elim
  | some l =>
    obtain ⟨f, b, n, full, e, _⟩ := h
    exact ⟨f, by rw [e]; exact fun z => nomatch z⟩
theorem WAt.to {Kx : PySem.W.Frag} {mx : Str → Option Value} {zf : Bool} {tk : Tk Kx mx zf} {H F H' F' : Hp} {w : Wd} (h : WAt tk H F w) (hk : ∀ p, tk.pw = some p → H' p = H p) (s : Same F F') (hf : ∀ q, tk.pw = some q → F' q = none) : WAt tk H' F' w := by
  unfold WAt at h ⊢
  cases e : tk.pw with
  | none =>
    rw [e] at h
    cases w <;> exact h
  | some q =>
    rw [e] at h
    cases w with
    | none => exact h.elim
    | some l =>
      obtain ⟨f, b, n, full, e1, r, z⟩ := h
      exact ⟨hf q e, b, n, full, by rw [hk q e]; exact e1, Rd.same s r, z⟩
theorem WAt.upd {Kx : PySem.W.Frag} {mx : Str → Option Value} {zf : Bool} {tk : Tk Kx mx zf} {H F F' : Hp} {w : Wd} {p : Addr} {o : HO} (h : WAt tk H F w) (hn : H p = none) (s : Same F F') (hf : ∀ q, tk.pw = some q → F' q = none) : WAt tk (upd H p o) F' w :=
  h.to (fun q e => upd_ne fun z => (h.free q e).2 (by rw [z]; exact hn)) s hf

structure Rel {Kx : PySem.W.Frag} {mx : Str → Option Value} {zf : Bool} (tk : Tk Kx mx zf) (H0 F0 : Hp) (O : List Nat) (σ : L2.St) (H F : Hp) (g : Env) (w : Wd) : Prop where
  len : g.length = σ.length
  sub : Sub F H
  f0 : Same F0 F
  k0 : Grow tk H0 F H
  n0 : New tk H0 F0 F
  val : ∀ i d, i ∉ O → g[i]? = some (some d) → ∃ v, σ[i]? = some (some v) ∧ Rep tk F d v
  own : ∀ i d, i ∈ O → g[i]? = some (some d) → ∃ a o, σ[i]? = some (some (.ref a)) ∧ H a = some o ∧ F a = none ∧ H0 a = none ∧ tk.pw ≠ some a ∧ RepO tk F d o
  sep : ∀ i j a d e, i ∈ O → j ∈ O → g[i]? = some (some d) → g[j]? = some (some e) → σ[i]? = some (some (.ref a)) → σ[j]? = some (some (.ref a)) → i = j
  wat : WAt tk H F w

theorem Rep.b {Kx : PySem.W.Frag} {mx : Str → Option Value} {zf : Bool} {tk : Tk Kx mx zf} {F H : Hp} {d : D} {v : V} (s : Sub F H) (f : ∀ p, tk.pw = some p → F p = none) (h : Rep tk F d v) : RepB tk F H d v := by
  have ne : ∀ {a o}, F a = some o → tk.pw ≠ some a := fun {a o} e z => by rw [f _ z] at e; cases e
  cases d <;> simp only [RepB] <;> try exact h
  case list ds =>
    simp only [Rep] at h
    obtain ⟨a, xs, e, r, l⟩ := h
    refine ⟨a, xs, e, ?_, s.rdL r, l⟩
    rcases r with r | ⟨o, r⟩ <;> exact ne r
  case dict kvs =>
    simp only [Rep] at h
    obtain ⟨a, e, h⟩ := h
    rcases h with ⟨es, r, l⟩ | ⟨es, r, l⟩ | h
    · exact ⟨a, e, .inl ⟨ne r, .inl ⟨es, s.dict r rfl, l⟩⟩⟩
    · exact ⟨a, e, .inl ⟨ne r, .inr ⟨es, s.dict r rfl, l⟩⟩⟩
    · exact ⟨a, e, .inr h⟩
section
variable {Kx : PySem.W.Frag} {mx : Str → Option Value} {zf : Bool} {tk : Tk Kx mx zf} {H0 F0 : Hp} {O : List Nat} {σ : L2.St} {H F : Hp} {g : Env} {w : Wd}
theorem Rel.fw (R : Rel tk H0 F0 O σ H F g w) : ∀ p, tk.pw = some p → F p = none := fun p e => (R.wat.free p e).1
theorem Rel.b (R : Rel tk H0 F0 O σ H F g w) {d : D} {v : V} (h : Rep tk F d v) : RepB tk F H d v := h.b R.sub R.fw
theorem same_new {F : Hp} {p : Addr} {o : HO} (h : F p = none) : Same F (upd F p o) := fun b u e => by rw [upd_ne (ne_of_none e h)]; exact e
/-- a new frozen object -/
theorem Rel.alloc (R : Rel tk H0 F0 O σ H F g w) {p : Addr} (hp : H p = none) (o : HO) : Rel tk H0 F0 O σ (upd H p o) (upd F p o) g w ∧ Ex tk F H (upd F p o) (upd H p o) := by
  have hf : F p = none := R.sub.none hp
  have s := same_new (o := o) hf
  have npw : tk.pw ≠ some p := fun e => (R.wat.free p e).2 hp
  refine ⟨⟨R.len, fun a u e => ?_, R.f0.trans s, R.k0.to s fun a u n e => by rw [upd_ne (ne_of_none e hp)]; exact e, fun a n e f => ?_, fun i d hi e => ?_, fun i d hi e => ?_, R.sep, R.wat.upd hp s fun q e => ?_⟩, s, fun a u e n => .inl (by rw [upd_ne (ne_of_none e hp)]; exact e), fun a n e f => ?_⟩
  · by_cases h : a = p
    · subst h; rw [upd_same] at e; exact .inl (by rw [upd_same]; exact e)
    · rw [upd_ne h] at e
      rcases R.sub a u e with k | ⟨k, ob, q⟩
      · exact .inl (by rw [upd_ne h]; exact k)
      · exact .inr ⟨k, ob, by rw [upd_ne h]; exact q⟩
  · have h1 := R.n0 a n e f
    cases q : H0 a with
    | none => exact absurd q e
    | some u =>
      have ne : a ≠ p := fun z => R.k0.ne q n (by rw [z]; exact hp)
      rw [upd_ne ne]; exact h1
  · obtain ⟨v, h1, h2⟩ := R.val i d hi e
    exact ⟨v, h1, Rep.same s _ _ h2⟩
  · obtain ⟨a, u, h1, h2, h3, h4, h5, h6⟩ := R.own i d hi e
    have ne := ne_of_none h2 hp
    exact ⟨a, u, h1, by rw [upd_ne ne]; exact h2, by rw [upd_ne ne]; exact h3, h4, h5, h6.same s⟩
  · rw [upd_ne (fun z => npw (by rw [e, z]))]; exact R.fw q e
  · have ne : a ≠ p := fun z => e (by rw [z]; exact hp)
    rw [upd_ne ne]; exact f
/-- a new object that is not frozen -/
theorem Rel.allocO (R : Rel tk H0 F0 O σ H F g w) {p : Addr} (hp : H p = none) (o : HO) : Rel tk H0 F0 O σ (upd H p o) F g w ∧ Ex tk F H F (upd H p o) := by
  refine ⟨⟨R.len, fun a u e => ?_, R.f0, R.k0.to (Same.refl F) fun a u n e => by rw [upd_ne (ne_of_none e hp)]; exact e, R.n0, R.val, fun i d hi e => ?_, R.sep, R.wat.upd hp (Same.refl F) R.fw⟩, Same.refl F, fun a u e n => .inl (by rw [upd_ne (ne_of_none e hp)]; exact e), fun a n e f => f⟩
  · have ne : a ≠ p := fun z => by rw [z, R.sub.none hp] at e; cases e
    rcases R.sub a u e with k | ⟨k, ob, q⟩
    · exact .inl (by rw [upd_ne ne]; exact k)
    · exact .inr ⟨k, ob, by rw [upd_ne ne]; exact q⟩
  · obtain ⟨a, u, h1, h2, h3⟩ := R.own i d hi e
    exact ⟨a, u, h1, by rw [upd_ne (ne_of_none h2 hp)]; exact h2, h3⟩
/-- a standing object frozen: it is no slot's own -/
theorem Rel.frz (R : Rel tk H0 F0 O σ H F g w) {p : Addr} {o : HO} (hp : H p = some o) (hf : F p = none) (h0 : H0 p = none) (npw : tk.pw ≠ some p) (no : ∀ i d, i ∈ O → g[i]? = some (some d) → σ[i]? ≠ some (some (.ref p))) :
    Rel tk H0 F0 O σ H (upd F p o) g w := by
  have s := same_new (o := o) hf
  refine ⟨R.len, fun a u e => ?_, R.f0.trans s, R.k0.to s fun _ _ _ e => e, fun a n e f => ?_, fun i d hi e => ?_, fun i d hi e => ?_, R.sep, ?_⟩
  · by_cases h : a = p
    · subst h; rw [upd_same] at e; cases e; exact .inl hp
    · rw [upd_ne h] at e; exact R.sub a u e
  · have ne : a ≠ p := fun z => e (by rw [z]; exact h0)
    rw [upd_ne ne]; exact R.n0 a n e f
  · obtain ⟨v, h1, h2⟩ := R.val i d hi e
    exact ⟨v, h1, Rep.same s _ _ h2⟩
  · obtain ⟨a, u, h1, h2, h3, h4, h5, h6⟩ := R.own i d hi e
    have ne : a ≠ p := fun z => no i d hi e (by rw [← z]; exact h1)
    exact ⟨a, u, h1, h2, by rw [upd_ne ne]; exact h3, h4, h5, h6.same s⟩
  · exact R.wat.to (fun _ _ => rfl) s fun q e => by rw [upd_ne (fun z => npw (by rw [e, z]))]; exact R.fw q e
end

/-! ### the readings -/
abbrev KE {Kx : PySem.W.Frag} {mx : Str → Option Value} {zf : Bool} (tk : Tk Kx mx zf) (H0 F0 : Hp) (O : List Nat) (σ : L2.St) (F H : Hp) (g : Env) (w' : Wd) (P : Hp → Hp → V → Prop) (Q : VK) : Prop :=
  ∀ v H' F', Rel tk H0 F0 O σ H' F' g w' → Ex tk F H F' H' → P F' H' v → Q v H'
def rd (Kx : PySem.W.Frag) (mx : Str → Option Value) (zf : Bool) (O : List Nat) (f : E) : TE := fun σ H Q => ∃ tk : Tk Kx mx zf, ∃ H0 F0 F g w d w', Rel tk H0 F0 O σ H F g w ∧ f g w = some (d, w') ∧ KE tk H0 F0 O σ F H g w' (fun F' _ v => Rep tk F' d v) Q
def rdB (Kx : PySem.W.Frag) (mx : Str → Option Value) (zf : Bool) (O : List Nat) (f : E) : TE := fun σ H Q => ∃ tk : Tk Kx mx zf, ∃ H0 F0 F g w d w', Rel tk H0 F0 O σ H F g w ∧ f g w = some (d, w') ∧ KE tk H0 F0 O σ F H g w' (fun F' H' v => RepB tk F' H' d v) Q
/-- a new object, not frozen yet -/
def IsOwn {Kx : PySem.W.Frag} {mx : Str → Option Value} {zf : Bool} (tk : Tk Kx mx zf) (H F' H' : Hp) (d : D) (v : V) : Prop := ∃ a o, v = .ref a ∧ H' a = some o ∧ F' a = none ∧ H a = none ∧ tk.pw ≠ some a ∧ RepO tk F' d o
def rdO (Kx : PySem.W.Frag) (mx : Str → Option Value) (zf : Bool) (O : List Nat) (f : E) : TE := fun σ H Q => ∃ tk : Tk Kx mx zf, ∃ H0 F0 F g w d w', Rel tk H0 F0 O σ H F g w ∧ f g w = some (d, w') ∧ KE tk H0 F0 O σ F H g w' (fun F' H' v => IsOwn tk H F' H' d v) Q
def rdT (Kx : PySem.W.Frag) (mx : Str → Option Value) (zf : Bool) (O : List Nat) (f : T) : TT := fun σ H Q => ∃ tk : Tk Kx mx zf, ∃ H0 F0 F g w k w', Rel tk H0 F0 O σ H F g w ∧ f g w = some (k, w') ∧ ∀ H' F', Rel tk H0 F0 O σ H' F' g w' → Ex tk F H F' H' → Q k H'
def rdA (Kx : PySem.W.Frag) (mx : Str → Option Value) (zf : Bool) (O : List Nat) (f : Es) : TA := fun σ H Q => ∃ tk : Tk Kx mx zf, ∃ H0 F0 F g w ds w', Rel tk H0 F0 O σ H F g w ∧ f g w = some (ds, w') ∧ ∀ vs H' F', Rel tk H0 F0 O σ H' F' g w' → Ex tk F H F' H' → RepL tk F' ds vs → Q vs H'
def RepBL {Kx : PySem.W.Frag} {mx : Str → Option Value} {zf : Bool} (tk : Tk Kx mx zf) (F H : Hp) : List D → List V → Prop
  | [], [] => True
  | d :: ds, v :: vs => RepB tk F H d v ∧ RepBL tk F H ds vs
  | _, _ => False
theorem RepBL.ex {Kx : PySem.W.Frag} {mx : Str → Option Value} {zf : Bool} {tk : Tk Kx mx zf} {F H F' H' : Hp} (x : Ex tk F H F' H') : ∀ {ds : List D} {vs : List V}, RepBL tk F H ds vs → RepBL tk F' H' ds vs
  | [], [], _ => by simp only [RepBL]
  | [], _ :: _, h => by simp only [RepBL] at h
  | _ :: _, [], h => by simp only [RepBL] at h
  | d :: ds, v :: vs, h => by
    simp only [RepBL] at h ⊢
    exact ⟨h.1.ex x, RepBL.ex x h.2⟩
def rdAB (Kx : PySem.W.Frag) (mx : Str → Option Value) (zf : Bool) (O : List Nat) (f : Es) : TA := fun σ H Q => ∃ tk : Tk Kx mx zf, ∃ H0 F0 F g w ds w', Rel tk H0 F0 O σ H F g w ∧ f g w = some (ds, w') ∧ ∀ vs H' F', Rel tk H0 F0 O σ H' F' g w' → Ex tk F H F' H' → RepBL tk F' H' ds vs → Q vs H'
/-- a statement: O' the own slots behind it, Ol those at a break or continue -/
def SOut {Kx : PySem.W.Frag} {mx : Str → Option Value} {zf : Bool} (tk : Tk Kx mx zf) (H0 F0 : Hp) (O' Ol : List Nat) (D : Ends) (w' : Wd) : Out → Prop
  | .nx g' => ∀ σ' H' F', Rel tk H0 F0 O' σ' H' F' g' w' → D.nx σ' H'
  | .rt d => ∀ v H' F', Sub F' H' → Same F0 F' → Grow tk H0 F' H' → New tk H0 F0 F' → WAt tk H' F' w' → Rep tk F' d v → D.rt v H'
  | .bk g' => ∀ σ' H' F', Rel tk H0 F0 Ol σ' H' F' g' w' → D.bk σ' H'
  | .ct g' => ∀ σ' H' F', Rel tk H0 F0 Ol σ' H' F' g' w' → D.ct σ' H'
def rdS (Kx : PySem.W.Frag) (mx : Str → Option Value) (zf : Bool) (O O' Ol : List Nat) (f : S) : TS := fun D σ H => ∃ tk : Tk Kx mx zf, ∃ H0 F0 F g w o w', Rel tk H0 F0 O σ H F g w ∧ f g w = some (o, w') ∧ SOut tk H0 F0 O' Ol D w' o

section
variable (X : Cx) (zf : Bool)
abbrev EV (O : List Nat) (e : Expr) (f : E) : Prop := PE X e (rd X.K X.mg zf O f)
abbrev EB (O : List Nat) (e : Expr) (f : E) : Prop := PE X e (rdB X.K X.mg zf O f)
abbrev EO (O : List Nat) (e : Expr) (f : E) : Prop := PE X e (rdO X.K X.mg zf O f)
abbrev ET (O : List Nat) (e : Expr) (f : T) : Prop := PT X e (rdT X.K X.mg zf O f)
abbrev EA (O : List Nat) (es : List Expr) (f : Es) : Prop := PA X es (rdA X.K X.mg zf O f)
abbrev EAB (O : List Nat) (es : List Expr) (f : Es) : Prop := PA X es (rdAB X.K X.mg zf O f)
abbrev ES (O O' Ol : List Nat) (st : Stmt) (f : S) : Prop := PS X st (rdS X.K X.mg zf O O' Ol f)
abbrev ESs (O O' Ol : List Nat) (st : List Stmt) (f : S) : Prop := PSs X st (rdS X.K X.mg zf O O' Ol f)
end
section
variable {X : Cx} {zf : Bool}
theorem PE.imp {e : Expr} {t t' : TE} (h : PE X e t) (k : ∀ σ H Q, t' σ H Q → t σ H Q) : PE X e t' := ⟨fun pins s σ H Q I hw => h.run pins s σ H Q I (k σ H Q hw)⟩
theorem PT.imp {e : Expr} {t t' : TT} (h : PT X e t) (k : ∀ σ H Q, t' σ H Q → t σ H Q) : PT X e t' := ⟨fun pins s σ H Q I hw => h.run pins s σ H Q I (k σ H Q hw)⟩
theorem PA.imp {e : List Expr} {t t' : TA} (h : PA X e t) (k : ∀ σ H Q, t' σ H Q → t σ H Q) : PA X e t' := ⟨fun pos pins s σ H Q I hw => h.run pos pins s σ H Q I (k σ H Q hw)⟩
theorem PS.imp {st : Stmt} {t t' : TS} (h : PS X st t) (k : ∀ D σ H, t' D σ H → t D σ H) : PS X st t' := ⟨fun pins s σ H D I hw => h.run pins s σ H D I (k D σ H hw)⟩
theorem PSs.imp {st : List Stmt} {t t' : TS} (h : PSs X st t) (k : ∀ D σ H, t' D σ H → t D σ H) : PSs X st t' := ⟨fun pins s σ H D I hw => h.run pins s σ H D I (k D σ H hw)⟩
/-- what the state tells is at hand in a reading -/
theorem PE.inv {e : Expr} {t : TE} {P : L2.St → Hp → Prop} (h : PE X e t) (hp : ∀ pins s σ H, Inv X pins σ H s → P σ H) : PE X e (fun σ H Q => P σ H → t σ H Q) :=
  ⟨fun pins s σ H Q I hw => h.run pins s σ H Q I (hw (hp pins s σ H I))⟩

theorem EV.b {O : List Nat} {e : Expr} {f : E} (h : EV X zf O e f) : EB X zf O e f := PE.imp h fun σ H Q ⟨tk, H0, F0, F, g, w, d, w', R, ef, k⟩ =>
  ⟨tk, H0, F0, F, g, w, d, w', R, ef, fun v H' F' R' x r => k v H' F' R' x (R'.b r)⟩
/-- an own object as a value: frozen at once -/
theorem EO.v {O : List Nat} {e : Expr} {f : E} (h : EO X zf O e f) : EV X zf O e f := PE.imp h fun σ H Q ⟨tk, H0, F0, F, g, w, d, w', R, ef, k⟩ => by
  refine ⟨tk, H0, F0, F, g, w, d, w', R, ef, fun v H' F' R' x r => ?_⟩
  obtain ⟨a, o, rfl, h1, h2, h3, h4, h5⟩ := r
  have h0 : H0 a = none := by
    cases q : H0 a with
    | none => rfl
    | some u => exact absurd h3 (R.k0.ne q h4)
  have no : ∀ i d, i ∈ O → g[i]? = some (some d) → σ[i]? ≠ some (some (.ref a)) := fun i d hi hg z => by
    obtain ⟨b, u, k1, k2, _⟩ := R.own i d hi hg
    rw [z] at k1
    cases k1
    rw [h3] at k2; cases k2
  refine k (.ref a) H' (upd F' a o) (R'.frz h1 h2 h0 h4 no) ⟨x.sm.trans (same_new h2), x.gr.to (same_new h2) (fun _ _ _ e => e), fun b n hb f => ?_⟩ (h5.frz h2)
  have ne : b ≠ a := fun z => hb (by rw [z]; exact h3)
  rw [upd_ne ne]
  exact x.nw b n hb f
theorem EO.b {O : List Nat} {e : Expr} {f : E} (h : EO X zf O e f) : EB X zf O e f := EV.b (EO.v h)

/-! ### names, constants -/
theorem EV.var {O : List Nat} {x : Str} {pos : Pos} (i : Nat) (hO : i ∉ O := by decide) (hN : X.N[i]? = some x := by rfl) (hv : Vis X.env.scope x := by first | exact Or.inl rfl | exact Or.inr (Or.inl rfl) | exact Or.inr (Or.inr rfl)) (hd : (x == ("__debug__" : Str)) = false := by decide)
    (hcd : (x == ("__classdict__" : Str)) = false := by decide) : EV X zf O (.Name x pos) (cVar i) := PE.imp (pe_var (i := i) hN hv hd hcd) fun σ H Q ⟨tk, H0, F0, F, g, w, d, w', R, ef, k⟩ => by
  obtain ⟨e0, e2⟩ := lft_eq (show lft (g[i]?).join w = _ from ef)
  have e1 : g[i]? = some (some d) := Option.join_eq_some_iff.mp e0
  obtain ⟨v, h1, h2⟩ := R.val i d hO e1
  have e2 : w = w' := e2
  subst e2
  exact ⟨v, h1, k v H F R (Ex.refl ..) h2⟩
theorem EB.var {O : List Nat} {x : Str} {pos : Pos} (i : Nat) (hN : X.N[i]? = some x := by rfl) (hv : Vis X.env.scope x := by first | exact Or.inl rfl | exact Or.inr (Or.inl rfl) | exact Or.inr (Or.inr rfl)) (hd : (x == ("__debug__" : Str)) = false := by decide)
    (hcd : (x == ("__classdict__" : Str)) = false := by decide) : EB X zf O (.Name x pos) (cVar i) := PE.imp (pe_var (i := i) hN hv hd hcd) fun σ H Q ⟨tk, H0, F0, F, g, w, d, w', R, ef, k⟩ => by
  obtain ⟨e0, e2⟩ := lft_eq (show lft (g[i]?).join w = _ from ef)
  have e1 : g[i]? = some (some d) := Option.join_eq_some_iff.mp e0
  have e2 : w = w' := e2
  subst e2
  by_cases hO : i ∈ O
  · obtain ⟨a, o, h1, h2, h3, h4, h5, h6⟩ := R.own i d hO e1
    refine ⟨.ref a, h1, k _ H F R (Ex.refl ..) ?_⟩
    cases d <;> cases o <;> simp only [RepO] at h6 <;> simp only [RepB]
    · exact ⟨a, _, rfl, h5, .inl h2, h6⟩
    · exact ⟨a, rfl, .inl ⟨h5, .inl ⟨_, .inl h2, h6⟩⟩⟩
    · exact ⟨a, rfl, .inl ⟨h5, .inr ⟨_, .inl h2, h6⟩⟩⟩
  · obtain ⟨v, h1, h2⟩ := R.val i d hO e1
    exact ⟨v, h1, k v H F R (Ex.refl ..) (R.b h2)⟩
theorem ev_const {O : List Nat} {e : Expr} {v : V} {d : D} (h : PE X e (tC v)) (r : ∀ (tk : Tk X.K X.mg zf) F, Rep tk F d v) : EV X zf O e (cK d) := PE.imp h fun σ H Q ⟨tk, H0, F0, F, g, w, d', w', R, ef, k⟩ => by
  have ef : some (d, w) = some (d', w') := ef
  cases ef
  exact k v H F R (Ex.refl ..) (r tk F)
theorem EV.int {O : List Nat} {i j pos} : EV X zf O (.Constant (.int i) j pos) (cK (.int i)) := ev_const pe_int fun _ _ => by simp only [Rep]
theorem EV.bl {O : List Nat} {b j pos} : EV X zf O (.Constant (.bool b) j pos) (cK (.bool b)) := ev_const pe_bl fun _ _ => by simp only [Rep]
theorem EV.non {O : List Nat} {j pos} : EV X zf O (.Constant .none j pos) (cK .none) := ev_const pe_non fun _ _ => by simp only [Rep]
theorem EV.str {O : List Nat} {x j pos} : EV X zf O (.Constant (.str x) j pos) (cK (.str x)) := ev_const pe_str fun _ _ => by simp only [Rep]

/-! ### argument lists, displays -/
theorem EA.nil {O : List Nat} : EA X zf O [] (cArgs []) := PA.imp pa_nil fun σ H Q ⟨tk, H0, F0, F, g, w, ds, w', R, ef, k⟩ => by
  have ef : some (([] : List D), w) = some (ds, w') := ef
  cases ef
  exact k [] H F R (Ex.refl ..) (by simp only [RepL])
theorem EA.cons {O : List Nat} {e : Expr} {es : List Expr} {f : E} {fs : List E} (h : EV X zf O e f) (hs : EA X zf O es (cArgs fs)) (ho : starEach (e :: es) X.env = (false, eval e X.env) :: starEach es X.env := by rfl) : EA X zf O (e :: es) (cArgs (f :: fs)) :=
  PA.imp (pa_cons h hs ho) fun σ H Q ⟨tk, H0, F0, F, g, w, ds, w', R, ef, k⟩ => by
  obtain ⟨d, w1, e1, ef⟩ := bnd_eq (show bnd (f g w) _ = _ from ef)
  obtain ⟨ds', w2, e2, ef⟩ := bnd_eq ef
  cases ef
  refine ⟨tk, H0, F0, F, g, w, d, w1, R, e1, fun v H1 F1 R1 x1 r1 => ?_⟩
  refine ⟨tk, H0, F0, F1, g, w1, ds', w', R1, e2, fun vs H2 F2 R2 x2 r2 => ?_⟩
  exact k (v :: vs) H2 F2 R2 (x1.trans x2) (by simp only [RepL]; exact ⟨Rep.same x2.sm _ _ r1, r2⟩)
theorem EAB.nil {O : List Nat} : EAB X zf O [] (cArgs []) := PA.imp pa_nil fun σ H Q ⟨tk, H0, F0, F, g, w, ds, w', R, ef, k⟩ => by
  have ef : some (([] : List D), w) = some (ds, w') := ef
  cases ef
  exact k [] H F R (Ex.refl ..) (by simp only [RepBL])
theorem EAB.cons {O : List Nat} {e : Expr} {es : List Expr} {f : E} {fs : List E} (h : EB X zf O e f) (hs : EAB X zf O es (cArgs fs)) (ho : starEach (e :: es) X.env = (false, eval e X.env) :: starEach es X.env := by rfl) : EAB X zf O (e :: es) (cArgs (f :: fs)) :=
  PA.imp (pa_cons h hs ho) fun σ H Q ⟨tk, H0, F0, F, g, w, ds, w', R, ef, k⟩ => by
  obtain ⟨d, w1, e1, ef⟩ := bnd_eq (show bnd (f g w) _ = _ from ef)
  obtain ⟨ds', w2, e2, ef⟩ := bnd_eq ef
  cases ef
  refine ⟨tk, H0, F0, F, g, w, d, w1, R, e1, fun v H1 F1 R1 x1 r1 => ?_⟩
  refine ⟨tk, H0, F0, F1, g, w1, ds', w', R1, e2, fun vs H2 F2 R2 x2 r2 => ?_⟩
  exact k (v :: vs) H2 F2 R2 (x1.trans x2) (by simp only [RepBL]; exact ⟨r1.ex x2, r2⟩)
theorem cArgs_len : ∀ {fs : List E} {g : Env} {w : Wd} {ds : List D} {w' : Wd}, cArgs fs g w = some (ds, w') → ds.length = fs.length
  | [], g, w, ds, w', h => by
    have h : some (([] : List D), w) = some (ds, w') := h
    cases h; rfl
  | f :: fs, g, w, ds, w', h => by
    obtain ⟨d, w1, e1, ef⟩ := bnd_eq (show bnd (f g w) _ = _ from h)
    obtain ⟨ds', w2, e2, ef⟩ := bnd_eq ef
    cases ef
    simp [cArgs_len e2]
/-- a tuple of written items, with its object -/
def tTupZ (zf : Bool) (t : TA) : TE := fun σ H Q => t σ H fun xs H1 => xs.length ≤ sizeLine ∧ ∀ p ob, H1 p = none → ob.dict = none → Q (.ref p) (upd H1 p (tupO zf ob xs))
theorem objOk_tup {P : Program} {w : World} {H : Hp} {h : Heap} {p : Addr} {xs : List V} {us : List Value} {ob : Obj} (hz : xs.length ≤ sizeLine) (r : Vals xs us) (e : h.get? p = some ob) (hc : ob.cls = .type "tuple") (hd : ∃ n, ob.data = .seq us.toArray n) : ObjOk P w H h p (tupO zf ob xs) := by
  have k : ObjOk P w H h p (.tup xs) := ⟨hz, us, r, ob, e, hc, hd⟩
  unfold tupO
  cases zf
  · exact k
  · exact ⟨e, k⟩
theorem pe_tupZ {es : List Expr} {t : TA} {pos : Pos} {x1} (h : PA X es t) : PE X (.Tuple es x1 pos) (tTupZ zf t) := by
  refine ⟨fun pins s σ H Q I hq => ?_⟩
  refine wpAny_Tuple_spliced (thn (h.run pos pins s σ H _ I hq) fun us s1 ⟨xs, H1, I1, r, z, q⟩ => ⟨by rw [← r.length]; exact z, ?_⟩)
  have hf : H1 s1.heap.objs.size = none := I1.hok.fresh (Nat.le_refl _)
  exact ⟨.ref s1.heap.objs.size, _, I1.laid (t' := s1.toks) (fun b u e => Heap.get?_push_of_some _ e) (Nat.le_refl _) (objOk_tup z r (Heap.get?_push_size _ rfl) rfl ⟨_, rfl⟩), rfl, q _ _ hf rfl⟩
theorem EV.tup {O : List Nat} {es : List Expr} {x1 : Nat} {pos : Pos} {fs : List E} (h : EA X zf O es (cArgs fs)) (hl : fs.length ≤ sizeLine := by decide) : EV X zf O (.Tuple es x1 pos) (cTup fs) := PE.imp (pe_tupZ h) fun σ H Q ⟨tk, H0, F0, F, g, w, d, w', R, ef, k⟩ => by
  obtain ⟨ds, w1, e1, ef⟩ := bnd_eq (show bnd (cArgs fs g w) _ = _ from ef)
  cases ef
  refine ⟨tk, H0, F0, F, g, w, ds, w', R, e1, fun vs H1 F1 R1 x1 r1 => ⟨by rw [← r1.length, cArgs_len e1]; exact hl, fun p ob hp hob => ?_⟩⟩
  obtain ⟨R2, x2⟩ := R1.alloc hp (tupO zf ob vs)
  refine k (.ref p) _ _ R2 (x1.trans x2) ?_
  simp only [Rep]
  exact ⟨p, vs, rfl, ⟨ob, upd_same, hob⟩, RepL.same x2.sm _ _ r1⟩
theorem EO.lst {O : List Nat} {es : List Expr} {pos : Pos} {fs : List E} (h : EA X zf O es (cArgs fs)) (hl : fs.length ≤ sizeLine := by decide) : EO X zf O (.List es pos) (cLst fs) := PE.imp (pe_lst h) fun σ H Q ⟨tk, H0, F0, F, g, w, d, w', R, ef, k⟩ => by
  obtain ⟨ds, w1, e1, ef⟩ := bnd_eq (show bnd (cArgs fs g w) _ = _ from ef)
  cases ef
  refine ⟨tk, H0, F0, F, g, w, ds, w', R, e1, fun vs H1 F1 R1 x1 r1 => ⟨by rw [← r1.length, cArgs_len e1]; exact hl, fun p hp => ?_⟩⟩
  obtain ⟨R2, x2⟩ := R1.allocO hp (.lst vs)
  have npw : tk.pw ≠ some p := fun e => (R1.wat.free p e).2 hp
  have hp0 : H p = none := by
    cases q : H p with
    | none => rfl
    | some u => exact absurd hp (x1.gr.ne q npw)
  refine k (.ref p) _ _ R2 (x1.trans x2) ⟨p, .lst vs, rfl, upd_same, R1.sub.none hp, hp0, npw, ?_⟩
  simp only [RepO]
  exact r1
end
end Q

set_option Elab.async false
set_option linter.all false
set_option autoImplicit false
set_option maxRecDepth 100000
/-! QS2: operators, tests, built-in functions. -/
namespace Q
open PySem PySem.Spec PyProof.Rows L2
section
variable {X : Cx} {zf : Bool} {Kx : PySem.W.Frag} {mx : Str → Option Value} {zf : Bool} {tk : Tk Kx mx zf} {pins : List (Addr × Obj)} {σ : L2.St} {H F : Hp} {s : Shared}
theorem lstAt (I : Inv X pins σ H s) {a : Addr} {xs : List V} (h : Rd H a (.lst xs)) :
    xs.length ≤ sizeLine ∧ ∃ (its : List Value) (n : Nat), Vals xs its ∧ xs.length = its.length ∧ s.heap.get? a = some { cls := .type "list", data := .seq its.toArray n } := by
  have k : ObjOk X.prog X.w H s.heap a (.lst xs) := by
    rcases h with h | ⟨o, h⟩
    · exact I.hok a _ h
    · exact (I.hok a _ h).2
  obtain ⟨z, its, n, r, e⟩ := k
  exact ⟨z, its, n, r, r.length, e⟩
mutual
/-- what stands in the heap reads as the data -/
theorem Rep.reads (I : Inv X pins σ H s) (sb : Sub F H) : ∀ (d : D) (v : V) (u : Value), d.plain = true → Rep tk F d v → RelV v u → ∃ as, Reads s.heap u d as
  | .none, v, u, _, h, r => by simp only [Rep] at h; subst h; cases r; exact ⟨_, .none⟩
  | .bool b, v, u, _, h, r => by simp only [Rep] at h; subst h; cases r; exact ⟨_, .bool b⟩
  | .int i, v, u, _, h, r => by simp only [Rep] at h; subst h; obtain ⟨t, rfl⟩ := r; exact ⟨_, .int i t⟩
  | .str x, v, u, _, h, r => by simp only [Rep] at h; subst h; obtain ⟨t, rfl⟩ := r; exact ⟨_, .str x t⟩
  | .list ds, v, u, hp, h, r => by
    simp only [Rep] at h
    obtain ⟨a, xs, e, hr, l⟩ := h
    subst e
    cases r
    obtain ⟨z, its, n, rv, hl, e⟩ := lstAt I (sb.rdL hr)
    obtain ⟨as, q⟩ := RepL.reads I sb ds xs its (by simpa only [PyData.plain] using hp) l rv
    exact ⟨_, .list e rfl rfl q⟩
  | .tuple ds, v, u, hp, h, r => by
    simp only [Rep] at h
    obtain ⟨a, xs, e, hr, l⟩ := h
    subst e
    cases r
    obtain ⟨its, rv, ⟨o, e, hc, n, hd⟩, z⟩ := I.tuple (sb.tup hr).sq
    obtain ⟨as, q⟩ := RepL.reads I sb ds xs its (by simpa only [PyData.plain] using hp) l rv
    exact ⟨_, .tuple e hc hd q⟩
  | .dict kvs, v, u, hp, h, r => by simp only [PyData.plain] at hp; cases hp
theorem RepL.reads (I : Inv X pins σ H s) (sb : Sub F H) : ∀ (ds : List D) (vs : List V) (us : List Value), PyData.plainAll ds = true → RepL tk F ds vs → Vals vs us → ∃ as, ReadsAll s.heap us ds as
  | [], [], us, _, _, r => by cases r; exact ⟨_, .nil⟩
  | [], _ :: _, us, _, h, r => by simp only [RepL] at h
  | _ :: _, [], us, _, h, r => by simp only [RepL] at h
  | d :: ds, v :: vs, us, hp, h, r => by
    simp only [RepL] at h
    simp only [PyData.plainAll, Bool.and_eq_true] at hp
    cases r with
    | cons r1 r2 =>
      obtain ⟨as, q1⟩ := Rep.reads I sb d v _ hp.1 h.1 r1
      obtain ⟨bs, q2⟩ := RepL.reads I sb ds vs _ hp.2 h.2 r2
      exact ⟨_, .cons q1 q2⟩
end
theorem RepB.reads (I : Inv X pins σ H s) (sb : Sub F H) {d : D} {v : V} {u : Value} (hp : d.plain = true) (h : RepB tk F H d v) (r : RelV v u) : ∃ as, Reads s.heap u d as := by
  cases d with
  | list ds =>
    simp only [RepB] at h
    obtain ⟨a, xs, e, _, hr, l⟩ := h
    subst e
    cases r
    obtain ⟨z, its, n, rv, hl, e⟩ := lstAt I hr
    obtain ⟨as, q⟩ := RepL.reads I sb ds xs its (by simpa only [PyData.plain] using hp) l rv
    exact ⟨_, .list e rfl rfl q⟩
  | dict kvs => simp only [PyData.plain] at hp; cases hp
  | _ => simp only [RepB] at h; exact Rep.reads I sb _ v u hp h r
end

/-! ### two operands -/
section
variable {X : Cx} {zf : Bool}
/-- r lets f through: the result is data, where nothing that stood changes -/
def Ok2 (Kx : PySem.W.Frag) (mx : Str → Option Value) (zf : Bool) (f : D → D → Option D) (r : R2) : Prop := ∀ (tk : Tk Kx mx zf) H0 F0 O σ F H g w x y d vx vy Q, Rel tk H0 F0 O σ H F g w → RepB tk F H x vx → RepB tk F H y vy → f x y = some d → KE tk H0 F0 O σ F H g w (fun F' _ v => Rep tk F' d v) Q → r vx vy H Q
theorem EV.op2 {op : Operator} {r : R2} {f : D → D → Option D} {O : List Nat} {a b : Expr} {fa fb : E} {pos : Pos} (ho : OpR X (binaryOp op) r) (hk : Ok2 X.K X.mg zf f r) (ha : EB X zf O a fa) (hb : EB X zf O b fb) : EV X zf O (.BinOp a op b pos) (cOp2 f fa fb) :=
  PE.imp (pe_op ho ha hb) fun σ H Q ⟨tk, H0, F0, F, g, w, d, w', R, ef, k⟩ => by
  obtain ⟨x, w1, e1, ef⟩ := bnd_eq (show bnd (fa g w) _ = _ from ef)
  obtain ⟨y, w2, e2, ef⟩ := bnd_eq ef
  obtain ⟨e3, e4⟩ := lft_eq ef
  have e4 : w2 = w' := e4
  subst e4
  refine ⟨tk, H0, F0, F, g, w, x, w1, R, e1, fun vx H1 F1 R1 x1 r1 => ?_⟩
  refine ⟨tk, H0, F0, F1, g, w1, y, w2, R1, e2, fun vy H2 F2 R2 x2 r2 => ?_⟩
  exact hk tk H0 F0 O σ F2 H2 g w2 x y d vx vy Q R2 (r1.ex x2) r2 e3 fun v H' F' R' x' r' => k v H' F' R' ((x1.trans x2).trans x') r'
theorem Ok2.or {Kx : PySem.W.Frag} {mx : Str → Option Value} {zf : Bool} {f : D → D → Option D} {r r' : R2} (h : ∀ (tk : Tk Kx mx zf) H0 F0 O σ F H g w x y d vx vy Q, Rel tk H0 F0 O σ H F g w → RepB tk F H x vx → RepB tk F H y vy → f x y = some d → KE tk H0 F0 O σ F H g w (fun F' _ v => Rep tk F' d v) Q → r vx vy H Q ∨ r' vx vy H Q) :
    Ok2 Kx mx zf f (fun x y H Q => r x y H Q ∨ r' x y H Q) := h
theorem ok2_int {Kx : PySem.W.Frag} {mx : Str → Option Value} {zf : Bool} {f : D → D → Option D} {C : Int → Int → Prop} {gi : Int → Int → Int} (hf : ∀ x y d, f x y = some d → ∃ i j, x = .int i ∧ y = .int j ∧ C i j ∧ d = .int (gi i j)) : Ok2 Kx mx zf f (rI C fun i j => .int (gi i j)) :=
  fun tk H0 F0 O σ F H g w x y d vx vy Q R rx ry e k => by
  obtain ⟨i, j, rfl, rfl, c, rfl⟩ := hf x y d e
  simp only [RepB, Rep] at rx ry
  subst rx
  subst ry
  exact ⟨i, j, rfl, rfl, c, k _ H F R (Ex.refl ..) (by simp only [Rep])⟩
theorem op_sub' : OpR X (binaryOp .Sub) (rI (fun _ _ => True) fun i j => .int (i - j)) := opI fun _ _ _ _ _ _ _ _ q => sub_int q
theorem op_add' : OpR X (binaryOp .Add) (rI (fun _ _ => True) fun i j => .int (i + j)) := opI fun _ _ _ _ _ _ _ _ q => add_int q
theorem EV.sub {O : List Nat} {a b : Expr} {fa fb : E} {pos : Pos} (ha : EB X zf O a fa) (hb : EB X zf O b fb) : EV X zf O (.BinOp a .Sub b pos) (cOp2 subD fa fb) :=
  EV.op2 op_sub' (ok2_int (C := fun _ _ => True) fun x y d e => by
    cases x <;> cases y <;> simp only [subD] at e <;> first | cases e | skip
    exact ⟨_, _, rfl, rfl, trivial, rfl⟩) ha hb
theorem EV.div {O : List Nat} {a b : Expr} {fa fb : E} {pos : Pos} (ha : EB X zf O a fa) (hb : EB X zf O b fb) : EV X zf O (.BinOp a .FloorDiv b pos) (cOp2 divD fa fb) :=
  EV.op2 op_fdivN (ok2_int (C := CDivN) fun x y d e => by
    cases x <;> cases y <;> simp only [divD] at e <;> first | cases e | skip
    split at e <;> first | cases e | skip
    rename_i h
    exact ⟨_, _, rfl, rfl, h, rfl⟩) ha hb
theorem EV.mod {O : List Nat} {a b : Expr} {fa fb : E} {pos : Pos} (ha : EB X zf O a fa) (hb : EB X zf O b fb) : EV X zf O (.BinOp a .Mod b pos) (cOp2 modD fa fb) :=
  EV.op2 op_modN (ok2_int (C := fun _ j => j ≠ 0) fun x y d e => by
    cases x <;> cases y <;> simp only [modD] at e <;> first | cases e | skip
    split at e <;> first | cases e | skip
    rename_i h
    exact ⟨_, _, rfl, rfl, h, rfl⟩) ha hb
theorem EV.pow {O : List Nat} {a b : Expr} {fa fb : E} {pos : Pos} (ha : EB X zf O a fa) (hb : EB X zf O b fb) : EV X zf O (.BinOp a .Pow b pos) (cOp2 powD fa fb) :=
  EV.op2 op_pow (ok2_int (C := CPow) (gi := fun i j => i ^ j.toNat) fun x y d e => by
    cases x <;> cases y <;> simp only [powD] at e <;> first | cases e | skip
    split at e <;> first | cases e | skip
    rename_i h
    exact ⟨_, _, rfl, rfl, h, rfl⟩) ha hb

/-! + -/
def rCatR : R2 := fun x y H Q => ∃ l b xs zs, x = .ref l ∧ y = .ref b ∧ Rd H l (.lst xs) ∧ Rd H b (.lst zs) ∧ xs.length + zs.length ≤ sizeLine ∧ ∀ p, H p = none → Q (.ref p) (upd H p (.lst (xs ++ zs)))
theorem op_catR : OpR X (binaryOp .Add) rCatR := by
  intro pins s σ H x y v u Q I hx hy hq
  obtain ⟨l, b, xs, zs, rfl, rfl, h1, h2, hz, q⟩ := hq
  cases hx
  cases hy
  obtain ⟨za, its, n, ra, la, ea⟩ := lstAt I h1
  obtain ⟨zb, jts, m, rb, lb, eb⟩ := lstAt I h2
  have hn : its.toArray.size + jts.toArray.size ≤ sizeLine := by simp only [List.size_toArray]; omega
  refine PySem.P.add_list ea eb ?_ hn
  have eq : its.toArray ++ jts.toArray = (its ++ jts).toArray := by simp
  rw [eq]
  have hzz : (xs ++ zs).length ≤ sizeLine := by simpa using hz
  exact ⟨.ref _, _, I.lnew (t' := s.toks) (ra.append rb) hzz, rfl, q _ I.fresh⟩
/-- t + u of tuples, the new one with its object -/
def rCatZ (K : PySem.W.Frag) (zf : Bool) : R2 := fun x y H Q => ∃ a b xs ys, x = .ref a ∧ y = .ref b ∧ SqT K H a xs ∧ SqT K H b ys ∧ xs.length + ys.length ≤ sizeLine ∧
  (xs = [] → Q (.ref b) H) ∧ (xs ≠ [] → ys = [] → Q (.ref a) H) ∧ (xs ≠ [] → ys ≠ [] → ∀ p ob, H p = none → ob.dict = none → Q (.ref p) (upd H p (tupO zf ob (xs ++ ys))))
theorem op_catZ : OpR X (binaryOp .Add) (rCatZ X.K zf) := by
  intro pins s σ H x y v u Q I rx ry h
  obtain ⟨a, b, xs, ys, rfl, rfl, ha, hb, hz, q0, q1, q2⟩ := h
  cases rx
  cases ry
  obtain ⟨its, r1, p1, _⟩ := I.tuple ha
  obtain ⟨its2, r2, p2, _⟩ := I.tuple hb
  by_cases hx : xs = []
  · subst hx
    cases r1
    exact cat_tup0 p1 p2 ⟨.ref b, H, I, rfl, q0 rfl⟩
  · refine HT.cat_tup p1 p2 (fun z => hx (r1.nil_iff.mp z)) (fun z => ⟨.ref a, H, I, rfl, q1 hx (r2.nil_iff.mp z)⟩) (fun z => ?_) (by rw [← r1.length, ← r2.length]; exact hz)
    exact ⟨.ref s.heap.objs.size, _, I.laid (t' := s.toks) (fun b ob q => Heap.get?_push_of_some _ q) (Nat.le_refl _) (objOk_tup (by rw [List.length_append]; exact hz) (r1.append r2) (Heap.get?_push_size _ rfl) rfl ⟨_, rfl⟩), rfl, q2 hx (fun w => z (r2.nil_iff.mpr w)) _ _ (I.hok.fresh (Nat.le_refl _)) rfl⟩
def rAddA (K : PySem.W.Frag) (zf : Bool) : R2 := fun x y H Q => rI (fun _ _ => True) (fun i j => .int (i + j)) x y H Q ∨ ((∃ i j, x = .str i ∧ y = .str j ∧ i.length + j.length ≤ sizeLine ∧ Q (.str (i ++ j)) H) ∨ (rCatR x y H Q ∨ rCatZ K zf x y H Q))
theorem op_addA : OpR X (binaryOp .Add) (rAddA X.K zf) := OpR.or op_add' (OpR.or op_add_str (OpR.or op_catR op_catZ))
theorem ok_addA {Kx : PySem.W.Frag} {mx : Str → Option Value} {zf : Bool} : Ok2 Kx mx zf addD (rAddA Kx zf) := fun tk H0 F0 O σ F H g w x y d vx vy Q R rx ry e k => by
  cases x <;> cases y <;> simp only [addD] at e <;> first | cases e | skip
  · simp only [RepB, Rep] at rx ry
    subst rx; subst ry
    exact .inl ⟨_, _, rfl, rfl, trivial, k _ H F R (Ex.refl ..) (by simp only [Rep])⟩
  · simp only [RepB, Rep] at rx ry
    subst rx; subst ry
    split at e <;> first | cases e | skip
    rename_i h
    exact .inr (.inl ⟨_, _, rfl, rfl, h, k _ H F R (Ex.refl ..) (by simp only [Rep])⟩)
  · simp only [RepB] at rx ry
    obtain ⟨a, xs, rfl, na, ra, la⟩ := rx
    obtain ⟨b, ys, rfl, nb, rb, lb⟩ := ry
    split at e <;> first | cases e | skip
    rename_i h
    rw [la.length, lb.length] at h
    refine .inr (.inr (.inl ⟨a, b, xs, ys, rfl, rfl, ra, rb, h, fun p hp => ?_⟩))
    obtain ⟨R2, x2⟩ := R.alloc hp (.lst (xs ++ ys))
    refine k _ _ _ R2 x2 ?_
    simp only [Rep]
    exact ⟨p, _, rfl, .inl upd_same, RepL.same x2.sm _ _ (la.append lb)⟩
  · simp only [RepB, Rep] at rx ry
    obtain ⟨a, xs, rfl, ra, la⟩ := rx
    obtain ⟨b, ys, rfl, rb, lb⟩ := ry
    split at e <;> first | cases e | skip
    rename_i h
    rw [la.length, lb.length] at h
    refine .inr (.inr (.inr ⟨a, b, xs, ys, rfl, rfl, (R.sub.tup ra).sq, (R.sub.tup rb).sq, h, fun he => ?_, fun _ he => ?_, fun _ _ p ob hp hob => ?_⟩))
    · subst he
      have := la.length
      refine k _ H F R (Ex.refl ..) ?_
      rw [List.eq_nil_of_length_eq_zero this, List.nil_append]
      simp only [Rep]
      exact ⟨b, ys, rfl, rb, lb⟩
    · subst he
      have := lb.length
      refine k _ H F R (Ex.refl ..) ?_
      rw [List.eq_nil_of_length_eq_zero this, List.append_nil]
      simp only [Rep]
      exact ⟨a, xs, rfl, ra, la⟩
    · obtain ⟨R2, x2⟩ := R.alloc hp (tupO zf ob (xs ++ ys))
      refine k _ _ _ R2 x2 ?_
      simp only [Rep]
      exact ⟨p, _, rfl, ⟨ob, upd_same, hob⟩, RepL.same x2.sm _ _ (la.append lb)⟩
theorem EV.add {O : List Nat} {a b : Expr} {fa fb : E} {pos : Pos} (ha : EB X zf O a fa) (hb : EB X zf O b fb) : EV X zf O (.BinOp a .Add b pos) (cOp2 addD fa fb) := EV.op2 op_addA ok_addA ha hb

/-! * -/
def rRepR : R2 := fun x y H Q => ∃ l k xs, x = .ref l ∧ y = .int k ∧ Rd H l (.lst xs) ∧ (-(2 ^ 63) ≤ k ∧ k < 2 ^ 63 ∧ xs.length * k.toNat ≤ sizeLine) ∧ ∀ p, H p = none → Q (.ref p) (upd H p (.lst (List.replicate k.toNat xs).flatten))
theorem RepL.rep {Kx : PySem.W.Frag} {mx : Str → Option Value} {zf : Bool} {tk : Tk Kx mx zf} {F : Hp} {ds : List D} {vs : List V} (h : RepL tk F ds vs) : ∀ n : Nat, RepL tk F (List.replicate n ds).flatten (List.replicate n vs).flatten
  | 0 => by simp only [List.replicate_zero, List.flatten_nil, RepL]
  | n + 1 => by
    simp only [List.replicate_succ, List.flatten_cons]
    exact h.append (RepL.rep h n)
theorem ok_mul {Kx : PySem.W.Frag} {mx : Str → Option Value} {zf : Bool} : Ok2 Kx mx zf mulD (fun x y H Q => rI CMul (fun i j => .int (i * j)) x y H Q ∨ rRepR x y H Q) := fun tk H0 F0 O σ F H g w x y d vx vy Q R rx ry e k => by
  cases x <;> cases y <;> simp only [mulD] at e <;> first | cases e | skip
  · simp only [RepB, Rep] at rx ry
    subst rx; subst ry
    split at e <;> first | cases e | skip
    rename_i h
    refine .inl ⟨_, _, rfl, rfl, ?_, k _ H F R (Ex.refl ..) (by simp only [Rep])⟩
    simpa [small64, CMul] using h
  · simp only [RepB] at rx ry
    simp only [Rep] at ry
    subst ry
    obtain ⟨a, xs, rfl, na, ra, la⟩ := rx
    split at e <;> first | cases e | skip
    rename_i h
    rw [la.length] at h
    refine .inr ⟨a, _, xs, rfl, rfl, ra, h, fun p hp => ?_⟩
    obtain ⟨R2, x2⟩ := R.alloc hp (.lst (List.replicate _ xs).flatten)
    refine k _ _ _ R2 x2 ?_
    simp only [Rep]
    exact ⟨p, _, rfl, .inl upd_same, RepL.same x2.sm _ _ (la.rep _)⟩
/-- of ints alone -/
def mulI : D → D → Option D
  | .int i, .int j => mulD (.int i) (.int j)
  | _, _ => none
theorem EV.mul {O : List Nat} {a b : Expr} {fa fb : E} {pos : Pos} (ha : EB X zf O a fa) (hb : EB X zf O b fb) : EV X zf O (.BinOp a .Mult b pos) (cOp2 mulI fa fb) :=
  EV.op2 op_mul (ok2_int (C := CMul) fun x y d e => by
    cases x <;> cases y <;> simp only [mulI] at e <;> first | cases e | skip
    simp only [mulD] at e
    split at e <;> first | cases e | skip
    rename_i h
    exact ⟨_, _, rfl, rfl, by simpa [small64, CMul] using h, rfl⟩) ha hb
theorem EV.neg {O : List Nat} {a : Expr} {fa : E} {pos : Pos} (ha : EB X zf O a fa) : EV X zf O (.UnaryOp .USub a pos) (cOp1 negD fa) := PE.imp (pe_un un_neg ha) fun σ H Q ⟨tk, H0, F0, F, g, w, d, w', R, ef, k⟩ => by
  obtain ⟨x, w1, e1, ef⟩ := bnd_eq (show bnd (fa g w) _ = _ from ef)
  obtain ⟨e3, e4⟩ := lft_eq ef
  have e4 : w1 = w' := e4
  subst e4
  refine ⟨tk, H0, F0, F, g, w, x, w1, R, e1, fun vx H1 F1 R1 x1 r1 => ?_⟩
  cases x <;> simp only [negD] at e3 <;> first | cases e3 | skip
  simp only [RepB, Rep] at r1
  subst r1
  exact ⟨_, rfl, k _ H1 F1 R1 x1 (by simp only [Rep])⟩

/-! ### comparisons: a Bool, nothing changes -/
def OkC (X : Cx) (op : CmpOp) (f : D → D → Option Bool) : Prop :=
  ∀ (pins : List (Addr × Obj)) (s : Shared) (σ : L2.St) (H F : Hp) (tk : Tk X.K X.mg zf) (x y : D) (vx vy : V) (v u : Value) (b : Bool) (Q : Value → Shared → Prop), Inv X pins σ H s → Sub F H → RepB tk F H x vx → RepB tk F H y vy → RelV vx v → RelV vy u → f x y = some b →
    (∀ s', Inv X pins σ H s' → Q (.bool b) s') → wpAny (model X.prog X.w) X.A (compareOp op v u) Q X.xe s
def rC (Kx : PySem.W.Frag) (mx : Str → Option Value) (zf : Bool) (f : D → D → Option Bool) : R2 := fun vx vy H Q => ∃ tk : Tk Kx mx zf, ∃ F x y b, Sub F H ∧ RepB tk F H x vx ∧ RepB tk F H y vy ∧ f x y = some b ∧ Q (.bl b) H
theorem OkC.op {op : CmpOp} {f : D → D → Option Bool} (h : OkC (zf := zf) X op f) : OpR X (compareOp op) (rC X.K X.mg zf f) := by
  intro pins s σ H vx vy v u Q I rx ry ⟨tk, F, x, y, b, sb, hx, hy, e, q⟩
  exact h pins s σ H F tk x y vx vy v u b _ I sb hx hy rx ry e fun s' I' => ⟨.bl b, H, I', rfl, q⟩
theorem ET.cmp {op : CmpOp} {f : D → D → Option Bool} {O : List Nat} {a b : Expr} {fa fb : E} {pos : Pos} (h : OkC (zf := zf) X op f) (ha : EB X zf O a fa) (hb : EB X zf O b fb) (hm : behindInMarks op b = false := by first | exact nomark _ | rfl) : ET X zf O (.Compare a [op] [b] pos) (tCmp f fa fb) :=
  PT.imp (pt_cmpR h.op ha hb hm) fun σ H Q ⟨tk, H0, F0, F, g, w, d, w', R, ef, k⟩ => by
  obtain ⟨x, w1, e1, ef⟩ := bnd_eq (show bnd (fa g w) _ = _ from ef)
  obtain ⟨y, w2, e2, ef⟩ := bnd_eq ef
  obtain ⟨e3, e4⟩ := lft_eq ef
  have e4 : w2 = w' := e4
  subst e4
  refine ⟨tk, H0, F0, F, g, w, x, w1, R, e1, fun vx H1 F1 R1 x1 r1 => ?_⟩
  refine ⟨tk, H0, F0, F1, g, w1, y, w2, R1, e2, fun vy H2 F2 R2 x2 r2 => ?_⟩
  exact ⟨tk, F2, x, y, d, R2.sub, r1.ex x2, r2, e3, d, rfl, k H2 F2 R2 (x1.trans x2)⟩
theorem EV.cmp {op : CmpOp} {f : D → D → Option Bool} {O : List Nat} {a b : Expr} {fa fb : E} {pos : Pos} (h : OkC (zf := zf) X op f) (ha : EB X zf O a fa) (hb : EB X zf O b fb) (hm : behindInMarks op b = false := by first | exact nomark _ | rfl) : EV X zf O (.Compare a [op] [b] pos) (cT (tCmp f fa fb)) :=
  PE.imp (pe_cmpR h.op ha hb hm) fun σ H Q ⟨tk, H0, F0, F, g, w, d, w', R, ef, k⟩ => by
  obtain ⟨t, w0, e0, ef⟩ := bnd_eq (show bnd (tCmp f fa fb g w) _ = _ from ef)
  cases ef
  obtain ⟨x, w1, e1, ef⟩ := bnd_eq (show bnd (fa g w) _ = _ from e0)
  obtain ⟨y, w2, e2, ef⟩ := bnd_eq ef
  obtain ⟨e3, e4⟩ := lft_eq ef
  have e4 : w2 = w' := e4
  subst e4
  refine ⟨tk, H0, F0, F, g, w, x, w1, R, e1, fun vx H1 F1 R1 x1 r1 => ?_⟩
  refine ⟨tk, H0, F0, F1, g, w1, y, w2, R1, e2, fun vy H2 F2 R2 x2 r2 => ?_⟩
  exact ⟨tk, F2, x, y, t, R2.sub, r1.ex x2, r2, e3, k _ H2 F2 R2 (x1.trans x2) (by simp only [Rep])⟩

theorem low60 {x : D} (h : lowD x = true) : x.depth ≤ 60 := of_decide_eq_true h
theorem min60 {x y : D} (h : lowD x = true) : min x.depth y.depth ≤ 60 := Nat.le_trans (Nat.min_le_left _ _) (low60 h)
variable {k : Nat}
theorem ok_eq (hr : Room k X.A) : OkC (zf := zf) X .Eq eqD := fun pins s σ H F tk x y vx vy v u b Q I sb hx hy rx ry e q => by
  simp only [eqD] at e
  split at e <;> first | cases e | skip
  rename_i h
  simp only [Bool.and_eq_true] at h
  obtain ⟨as, r1⟩ := RepB.reads I sb h.1.1.1 hx rx
  obtain ⟨bs, r2⟩ := RepB.reads I sb h.1.1.2 hy ry
  have := hr.units
  have := min60 (y := y) h.1.2
  exact SeqAt.eq_plain r1 r2 h.1.1.1 h.1.1.2 (by omega) (q s I)
theorem ok_ne (hr : Room k X.A) : OkC (zf := zf) X .NotEq neD := fun pins s σ H F tk x y vx vy v u b Q I sb hx hy rx ry e q => by
  simp only [neD, eqD] at e
  split at e <;> simp only [Option.map_some, Option.map_none] at e <;> first | cases e | skip
  rename_i h
  simp only [Bool.and_eq_true] at h
  obtain ⟨as, r1⟩ := RepB.reads I sb h.1.1.1 hx rx
  obtain ⟨bs, r2⟩ := RepB.reads I sb h.1.1.2 hy ry
  have := hr.units
  have := min60 (y := y) h.1.2
  exact SeqAt.ne_plain r1 r2 h.1.1.1 h.1.1.2 (by omega) (q s I)
theorem okLt_of {x y : D} (h : okLt x y = true) : x.plain = true ∧ y.plain = true ∧ PySem.W.alike x y = true ∧ x ≠ .none ∧ min x.depth y.depth ≤ 60 := by
  simp only [okLt, Bool.and_eq_true] at h
  exact ⟨h.1.1.1.1, h.1.1.1.2, h.1.1.2, fun e => (by have := h.1.2; rw [e] at this; cases this), min60 h.2⟩
theorem ok_ord (hr : Room k X.A) {op : CmpOp} {f : D → D → Option Bool} {gb : D → D → Bool} (hf : ∀ x y b, f x y = some b → okLt x y = true ∧ b = gb x y)
    (rule : ∀ (s : Shared) (v u : Value) (x y : D) (as bs : List Addr) (Q E : Value → Shared → Prop), Reads s.heap v x as → Reads s.heap u y bs → PySem.W.alike x y = true → x ≠ .none → X.A.units + min x.depth y.depth < cLine → Q (.bool (gb x y)) s → wpAny (model X.prog X.w) X.A (compareOp op v u) Q E s) :
    OkC (zf := zf) X op f := fun pins s σ H F tk x y vx vy v u b Q I sb hx hy rx ry e q => by
  obtain ⟨h, rfl⟩ := hf x y b e
  obtain ⟨p1, p2, p3, p4, p5⟩ := okLt_of h
  obtain ⟨as, r1⟩ := RepB.reads I sb p1 hx rx
  obtain ⟨bs, r2⟩ := RepB.reads I sb p2 hy ry
  have := hr.units
  exact rule s v u x y as bs Q _ r1 r2 p3 p4 (by omega) (q s I)
theorem ord_of {g : D → D → Bool} {f : D → D → Option Bool} (hf : ∀ x y, f x y = if okLt x y = true then some (g x y) else none) (x y : D) (b : Bool) (e : f x y = some b) : okLt x y = true ∧ b = g x y := by
  rw [hf] at e
  split at e
  · rename_i h
    exact ⟨h, (Option.some.inj e).symm⟩
  · cases e
theorem ok_lt (hr : Room k X.A) : OkC (zf := zf) X .Lt ltD := ok_ord hr (ord_of (g := PySem.W.dataLt) fun _ _ => rfl) fun _ _ _ _ _ _ _ _ _ r1 r2 a b c d => PySem.W.lt_data r1 r2 a b c d
theorem ok_gt (hr : Room k X.A) : OkC (zf := zf) X .Gt gtD := ok_ord hr (ord_of (g := fun x y => PySem.W.dataLt y x) fun _ _ => rfl) fun _ _ _ _ _ _ _ _ _ r1 r2 a b c d => PySem.W.gt_data r1 r2 a b c d
theorem ok_le (hr : Room k X.A) : OkC (zf := zf) X .LtE leD := ok_ord hr (ord_of (g := fun x y => !PySem.W.dataLt y x) fun _ _ => rfl) fun _ _ _ _ _ _ _ _ _ r1 r2 a b c d => PySem.W.le_data r1 r2 a b c d
theorem ok_ge (hr : Room k X.A) : OkC (zf := zf) X .GtE geD := ok_ord hr (ord_of (g := fun x y => !PySem.W.dataLt x y) fun _ _ => rfl) fun _ _ _ _ _ _ _ _ _ r1 r2 a b c d => PySem.W.ge_data r1 r2 a b c d
theorem rep_none {Kx : PySem.W.Frag} {mx : Str → Option Value} {zf : Bool} {tk : Tk Kx mx zf} {F H : Hp} {x : D} {v : V} (h : RepB tk F H x v) : isNoneD x = decide (v = .non) := by
  cases x <;> simp only [RepB, Rep] at h <;> simp only [isNoneD]
  case none => subst h; rfl
  case list => obtain ⟨a, xs, rfl, _⟩ := h; rfl
  case tuple => obtain ⟨a, xs, rfl, _⟩ := h; rfl
  case dict => obtain ⟨a, rfl, _⟩ := h; rfl
  all_goals subst h; rfl
theorem ok_is : OkC (zf := zf) X .Is isND := fun pins s σ H F tk x y vx vy v u b Q I sb hx hy rx ry e q => by
  simp only [isND] at e
  split at e <;> first | cases e | skip
  rename_i h
  cases y <;> simp only [isNoneD] at h <;> first | cases h | skip
  simp only [RepB, Rep] at hy
  subst hy
  cases ry
  refine is_none_gen ?_
  rw [rx.none_iff, ← rep_none hx]
  exact q s I
theorem ok_isNot : OkC (zf := zf) X .IsNot isNotND := fun pins s σ H F tk x y vx vy v u b Q I sb hx hy rx ry e q => by
  simp only [isNotND] at e
  split at e <;> first | cases e | skip
  rename_i h
  cases y <;> simp only [isNoneD] at h <;> first | cases h | skip
  simp only [RepB, Rep] at hy
  subst hy
  cases ry
  refine isnot_none_gen ?_
  rw [rx.none_iff, ← rep_none hx]
  exact q s I

/-! in, not in: of lists and tuples -/
theorem ok_in (hr : Room k X.A) : OkC (zf := zf) X .In inD := fun pins s σ H F tk x y vx vy v u b Q I sb hx hy rx ry e q => by
  cases y <;> simp only [inD] at e <;> first | cases e | skip
  all_goals
    split at e <;> first | cases e | skip
    rename_i h
    simp only [Bool.and_eq_true] at h
    obtain ⟨as, r1⟩ := RepB.reads I sb h.1.1.2 hx rx
    obtain ⟨bs, r2⟩ := RepB.reads I sb (by simp only [PyData.plain]; exact h.1.1.1) hy ry
    have := hr.units
    have l1 := low60 h.1.2
    first
      | exact SeqAt.in_list_data r2 r1 h.1.1.1 h.1.1.2 (by omega) (q s I)
      | exact SeqAt.in_tuple_data r2 r1 h.1.1.1 h.1.1.2 (by omega) (q s I)
theorem ok_notIn (hr : Room k X.A) : OkC (zf := zf) X .NotIn notInD := fun pins s σ H F tk x y vx vy v u b Q I sb hx hy rx ry e q => by
  cases y <;> simp only [notInD, inD, Option.map_none] at e <;> first | cases e | skip
  all_goals
    split at e <;> simp only [Option.map_some, Option.map_none] at e <;> first | cases e | skip
    rename_i h
    simp only [Bool.and_eq_true] at h
    obtain ⟨as, r1⟩ := RepB.reads I sb h.1.1.2 hx rx
    obtain ⟨bs, r2⟩ := RepB.reads I sb (by simp only [PyData.plain]; exact h.1.1.1) hy ry
    have := hr.units
    have l1 := low60 h.1.2
    first
      | exact SeqAt.notIn_list_data r2 r1 h.1.1.1 h.1.1.2 (by omega) (q s I)
      | exact SeqAt.notIn_tuple_data r2 r1 h.1.1.1 h.1.1.2 (by omega) (q s I)

/-! ### and, or, not, a if c else b -/
theorem ET.and1 {O : List Nat} {a : Expr} {fa : T} {pos : Pos} (h : ET X zf O a fa) : PW X (.BoolOp .And [a] pos) (rdT X.K X.mg zf O fa) := pw_and1 h
theorem PW.imp {e : Expr} {t t' : TT} (h : PW X e t) (k : ∀ σ H Q, t' σ H Q → t σ H Q) : PW X e t' := ⟨fun wh pins s σ H Q I hw => h.run wh pins s σ H Q I (k σ H Q hw)⟩
theorem andW {O : List Nat} {a b : Expr} {rest : List Expr} {fa fb : T} {pos : Pos} (ha : ET X zf O a fa) (hb : PW X (.BoolOp .And (b :: rest) pos) (rdT X.K X.mg zf O fb)) : PW X (.BoolOp .And (a :: b :: rest) pos) (rdT X.K X.mg zf O (tAnd fa fb)) :=
  PW.imp (pw_and ha hb) fun σ H Q ⟨tk, H0, F0, F, g, w, d, w', R, ef, kk⟩ => by
  obtain ⟨c, w1, e1, ef⟩ := bnd_eq (show bnd (fa g w) _ = _ from ef)
  refine ⟨tk, H0, F0, F, g, w, c, w1, R, e1, fun H1 F1 R1 x1 => ?_⟩
  cases c with
  | true =>
    rw [if_pos rfl] at ef ⊢
    exact ⟨tk, H0, F0, F1, g, w1, d, w', R1, ef, fun H2 F2 R2 x2 => kk H2 F2 R2 (x1.trans x2)⟩
  | false =>
    rw [if_neg Bool.false_ne_true] at ef ⊢
    cases ef
    exact kk H1 F1 R1 x1
theorem orW {O : List Nat} {a b : Expr} {rest : List Expr} {fa fb : T} {pos : Pos} (ha : ET X zf O a fa) (hb : PW X (.BoolOp .Or (b :: rest) pos) (rdT X.K X.mg zf O fb)) : PW X (.BoolOp .Or (a :: b :: rest) pos) (rdT X.K X.mg zf O (tOr fa fb)) :=
  PW.imp (pw_or ha hb) fun σ H Q ⟨tk, H0, F0, F, g, w, d, w', R, ef, kk⟩ => by
  obtain ⟨c, w1, e1, ef⟩ := bnd_eq (show bnd (fa g w) _ = _ from ef)
  refine ⟨tk, H0, F0, F, g, w, c, w1, R, e1, fun H1 F1 R1 x1 => ?_⟩
  cases c with
  | true =>
    rw [if_pos rfl] at ef ⊢
    cases ef
    exact kk H1 F1 R1 x1
  | false =>
    rw [if_neg Bool.false_ne_true] at ef ⊢
    exact ⟨tk, H0, F0, F1, g, w1, d, w', R1, ef, fun H2 F2 R2 x2 => kk H2 F2 R2 (x1.trans x2)⟩
theorem ET.not {O : List Nat} {a : Expr} {fa : T} {pos : Pos} (ha : ET X zf O a fa) : ET X zf O (.UnaryOp .Not a pos) (tNot fa) := PT.imp (pt_not ha) fun σ H Q ⟨tk, H0, F0, F, g, w, d, w', R, ef, kk⟩ => by
  obtain ⟨c, w1, e1, ef⟩ := bnd_eq (show bnd (fa g w) _ = _ from ef)
  cases ef
  exact ⟨tk, H0, F0, F, g, w, c, w', R, e1, fun H1 F1 R1 x1 => kk H1 F1 R1 x1⟩
/-- a value that is a bool, as a test -/
theorem ET.val {O : List Nat} {a : Expr} {fa : E} (ha : EB X zf O a fa) (he : ∀ whole, isTrue a X.env whole = (do let v ← whole; standAt a.pos; holding [v] (truthy v)) := by intro _; rfl) : ET X zf O a (tVal fa) := PT.imp (pt_val ha he) fun σ H Q ⟨tk, H0, F0, F, g, w, d, w', R, ef, kk⟩ => by
  obtain ⟨x, w1, e1, ef⟩ := bnd_eq (show bnd (fa g w) _ = _ from ef)
  obtain ⟨e3, e4⟩ := lft_eq ef
  have e4 : w1 = w' := e4
  subst e4
  refine ⟨tk, H0, F0, F, g, w, x, w1, R, e1, fun vx H1 F1 R1 x1 r1 => ?_⟩
  cases x <;> simp only [boolD] at e3 <;> first | cases e3 | skip
  simp only [RepB, Rep] at r1
  exact ⟨_, r1, kk H1 F1 R1 x1⟩
theorem EV.if {O : List Nat} {c a b : Expr} {fc : T} {fa fb : E} {pos : Pos} (hc : ET X zf O c fc) (ha : EV X zf O a fa) (hb : EV X zf O b fb) : EV X zf O (.IfExp c a b pos) (cIf fc fa fb) := PE.imp (pe_ifExp hc ha hb) fun σ H Q ⟨tk, H0, F0, F, g, w, d, w', R, ef, kk⟩ => by
  obtain ⟨c, w1, e1, ef⟩ := bnd_eq (show bnd (fc g w) _ = _ from ef)
  refine ⟨tk, H0, F0, F, g, w, c, w1, R, e1, fun H1 F1 R1 x1 => ?_⟩
  cases c with
  | true =>
    rw [if_pos rfl] at ef ⊢
    exact ⟨tk, H0, F0, F1, g, w1, d, w', R1, ef, fun v H2 F2 R2 x2 => kk v H2 F2 R2 (x1.trans x2)⟩
  | false =>
    rw [if_neg Bool.false_ne_true] at ef ⊢
    exact ⟨tk, H0, F0, F1, g, w1, d, w', R1, ef, fun v H2 F2 R2 x2 => kk v H2 F2 R2 (x1.trans x2)⟩
/-! the same as values -/
theorem EV.one {O : List Nat} {op : BoolOp} {a : Expr} {fa : E} {pos : Pos} (h : EV X zf O a fa) : EV X zf O (.BoolOp op [a] pos) fa := pe_one h
theorem EV.and {O : List Nat} {a b : Expr} {rest : List Expr} {fa fb : E} {pos : Pos} (ha : EB X zf O a fa) (hb : EV X zf O (.BoolOp .And (b :: rest) pos) fb) : EV X zf O (.BoolOp .And (a :: b :: rest) pos) (cAnd fa fb) :=
  PE.imp (pe_and ha hb) fun σ H Q ⟨tk, H0, F0, F, g, w, d, w', R, ef, kk⟩ => by
  obtain ⟨x, w1, e1, ef⟩ := bnd_eq (show bnd (fa g w) _ = _ from ef)
  obtain ⟨c, w2, e2, ef2⟩ := bnd_eq ef
  obtain ⟨e3, e4⟩ := lft_eq e2
  have e4 : w1 = w2 := e4
  subst e4
  refine ⟨tk, H0, F0, F, g, w, x, w1, R, e1, fun vx H1 F1 R1 x1 r1 => ?_⟩
  cases x <;> simp only [boolD] at e3 <;> first | cases e3 | skip
  simp only [RepB, Rep] at r1
  refine ⟨c, r1, ?_⟩
  cases c with
  | true =>
    rw [if_pos rfl] at ef2 ⊢
    exact ⟨tk, H0, F0, F1, g, w1, d, w', R1, ef2, fun v H2 F2 R2 x2 => kk v H2 F2 R2 (x1.trans x2)⟩
  | false =>
    rw [if_neg Bool.false_ne_true] at ef2 ⊢
    cases ef2
    exact kk _ H1 F1 R1 x1 (by simp only [Rep])
theorem EV.or {O : List Nat} {a b : Expr} {rest : List Expr} {fa fb : E} {pos : Pos} (ha : EB X zf O a fa) (hb : EV X zf O (.BoolOp .Or (b :: rest) pos) fb) : EV X zf O (.BoolOp .Or (a :: b :: rest) pos) (cOr fa fb) :=
  PE.imp (pe_or ha hb) fun σ H Q ⟨tk, H0, F0, F, g, w, d, w', R, ef, kk⟩ => by
  obtain ⟨x, w1, e1, ef⟩ := bnd_eq (show bnd (fa g w) _ = _ from ef)
  obtain ⟨c, w2, e2, ef2⟩ := bnd_eq ef
  obtain ⟨e3, e4⟩ := lft_eq e2
  have e4 : w1 = w2 := e4
  subst e4
  refine ⟨tk, H0, F0, F, g, w, x, w1, R, e1, fun vx H1 F1 R1 x1 r1 => ?_⟩
  cases x <;> simp only [boolD] at e3 <;> first | cases e3 | skip
  simp only [RepB, Rep] at r1
  refine ⟨c, r1, ?_⟩
  cases c with
  | true =>
    rw [if_pos rfl] at ef2 ⊢
    cases ef2
    exact kk _ H1 F1 R1 x1 (by simp only [Rep])
  | false =>
    rw [if_neg Bool.false_ne_true] at ef2 ⊢
    exact ⟨tk, H0, F0, F1, g, w1, d, w', R1, ef2, fun v H2 F2 R2 x2 => kk v H2 F2 R2 (x1.trans x2)⟩
theorem EV.not {O : List Nat} {a : Expr} {fa : E} {pos : Pos} (ha : EB X zf O a fa) : EV X zf O (.UnaryOp .Not a pos) (cNot fa) := PE.imp (pe_not ha) fun σ H Q ⟨tk, H0, F0, F, g, w, d, w', R, ef, kk⟩ => by
  obtain ⟨x, w1, e1, ef⟩ := bnd_eq (show bnd (fa g w) _ = _ from ef)
  obtain ⟨c, w2, e2, ef2⟩ := bnd_eq ef
  obtain ⟨e3, e4⟩ := lft_eq e2
  have e4 : w1 = w2 := e4
  subst e4
  cases ef2
  refine ⟨tk, H0, F0, F, g, w, x, _, R, e1, fun vx H1 F1 R1 x1 r1 => ?_⟩
  cases x <;> simp only [boolD] at e3 <;> first | cases e3 | skip
  simp only [RepB, Rep] at r1
  exact ⟨c, r1, kk _ H1 F1 R1 x1 (by simp only [Rep])⟩

/-! ### c[i] -/
theorem sqL_sub {K : PySem.W.Frag} {F H : Hp} {a : Addr} {xs : List V} (s : Sub F H) (h : SqL K F a xs) : SqL K H a xs := h.imp s.rdL id
theorem scrOf_eq {kvs : List (D × D)} {ds : List D} (h : scrOf kvs = some ds) : kvs = [(.none, .list ds)] := by
  unfold scrOf at h
  split at h
  · cases h; rfl
  · cases h
theorem RepB.script {Kx : PySem.W.Frag} {mx : Str → Option Value} {zf : Bool} {tk : Tk Kx mx zf} {F H : Hp} {ds : List D} {v : V} (h : RepB tk F H (.dict [(.none, .list ds)]) v) : ∃ (a : Addr) (ns : List Int), v = .ref a ∧ ds = ns.map .int ∧ SqL Kx F a (ns.map V.int) := by
  simp only [RepB] at h
  obtain ⟨a, e, h⟩ := h
  rcases h with ⟨_, ⟨es, _, l⟩ | ⟨es, _, l⟩⟩ | ⟨z, _⟩ | ⟨_, z, _⟩ | ⟨ns, z, r⟩
  · cases es with
    | nil => simp only [RepK] at l
    | cons p es =>
      obtain ⟨k', v'⟩ := p
      simp only [RepK] at l
      cases k' <;> cases l.1
  · cases es with
    | nil => simp only [RepT] at l
    | cons p es =>
      obtain ⟨k', v'⟩ := p
      simp only [RepT] at l
      cases l.1
  · cases z
  · cases z
  · cases z
    exact ⟨a, ns, e, rfl, r⟩
theorem okIx {Kx : PySem.W.Frag} {mx : Str → Option Value} {zf : Bool} : Ok2 Kx mx zf ixD (rIx Kx) := fun tk H0 F0 O σ F H g w x y d vx vy Q R rx ry e k => by
  cases x <;> cases y <;> simp only [ixD] at e <;> first | cases e | skip
  · simp only [RepB] at rx ry
    simp only [Rep] at rx ry
    subst rx; subst ry
    split at e <;> first | cases e | skip
    rename_i h
    obtain ⟨c, e1, e2⟩ := Option.map_eq_some_iff.mp e
    subst e2
    exact .inr (.inr ⟨_, _, c, rfl, rfl, h, e1, k _ H F R (Ex.refl ..) (by simp only [Rep])⟩)
  · simp only [RepB] at rx ry
    simp only [Rep] at ry
    subst ry
    obtain ⟨a, xs, rfl, na, ra, la⟩ := rx
    obtain ⟨j, h1, h2⟩ := Option.bind_eq_some_iff.mp (show (ixN _ _).bind _ = _ from e)
    obtain ⟨v, h3, h4⟩ := la.at h2
    exact .inl ⟨a, xs, _, v, rfl, rfl, .inl ra, by unfold atI; rw [← la.length, h1]; exact h3, k _ H F R (Ex.refl ..) h4⟩
  · simp only [RepB, Rep] at rx ry
    subst ry
    obtain ⟨a, xs, rfl, ra, la⟩ := rx
    obtain ⟨j, h1, h2⟩ := Option.bind_eq_some_iff.mp (show (ixN _ _).bind _ = _ from e)
    obtain ⟨v, h3, h4⟩ := la.at h2
    exact .inr (.inl ⟨a, xs, _, v, rfl, rfl, (R.sub.tup ra).sq, by unfold atI; rw [← la.length, h1]; exact h3, k _ H F R (Ex.refl ..) h4⟩)
  · obtain ⟨ds, h0, e⟩ := Option.bind_eq_some_iff.mp e
    rw [scrOf_eq h0] at rx
    obtain ⟨a, ns, rfl, rfl, ra⟩ := RepB.script rx
    simp only [RepB, Rep] at ry
    subst ry
    obtain ⟨j, h1, h2⟩ := Option.bind_eq_some_iff.mp (show (ixN _ _).bind _ = _ from e)
    rw [List.getElem?_map] at h2
    obtain ⟨n, h3, rfl⟩ := Option.map_eq_some_iff.mp h2
    rw [List.length_map] at h1
    exact .inl ⟨a, _, _, .int n, rfl, rfl, sqL_sub R.sub ra, by unfold atI; rw [List.length_map, h1]; simp [h3], k _ H F R (Ex.refl ..) (by simp only [Rep])⟩
theorem EV.ix {O : List Nat} {a b : Expr} {fa fb : E} {pos : Pos} (ha : EB X zf O a fa) (hb : EB X zf O b fb) (hs : PlainIx b := by intro _ _; rfl) : EV X zf O (.Subscript a b pos) (cOp2 ixD fa fb) :=
  PE.imp (pe_ix ix_seq ha hb hs) fun σ H Q ⟨tk, H0, F0, F, g, w, d, w', R, ef, k⟩ => by
  obtain ⟨x, w1, e1, ef⟩ := bnd_eq (show bnd (fa g w) _ = _ from ef)
  obtain ⟨y, w2, e2, ef⟩ := bnd_eq ef
  obtain ⟨e3, e4⟩ := lft_eq ef
  have e4 : w2 = w' := e4
  subst e4
  refine ⟨tk, H0, F0, F, g, w, x, w1, R, e1, fun vx H1 F1 R1 x1 r1 => ?_⟩
  refine ⟨tk, H0, F0, F1, g, w1, y, w2, R1, e2, fun vy H2 F2 R2 x2 r2 => ?_⟩
  exact okIx tk H0 F0 O σ F2 H2 g w2 x y d vx vy Q R2 (r1.ex x2) r2 e3 fun v H' F' R' x' r' => k v H' F' R' ((x1.trans x2).trans x') r'
end
end Q

set_option Elab.async false
set_option linter.all false
set_option autoImplicit false
set_option maxRecDepth 100000
/-! QS3: slices, built-in functions of data. -/
namespace Q
open PySem PySem.Spec PyProof.Rows L2
section
variable {X : Cx} {zf : Bool} {k : Nat}
/-! ### slices -/
def rdP (Kx : PySem.W.Frag) (mx : Str → Option Value) (zf : Bool) (O : List Nat) (f : Env → Wd → Option (Option Int × Wd)) : TO := fun σ H Q => ∃ tk : Tk Kx mx zf, ∃ H0 F0 F g w d w', Rel tk H0 F0 O σ H F g w ∧ f g w = some (d, w') ∧ ∀ H' F', Rel tk H0 F0 O σ H' F' g w' → Ex tk F H F' H' → Q d H'
theorem PO.imp {e : Option Expr} {t t' : TO} (h : PO X e t) (kk : ∀ σ H Q, t' σ H Q → t σ H Q) : PO X e t' := ⟨fun pins s σ H Q I hw => h.run pins s σ H Q I (kk σ H Q hw)⟩
theorem EP.none {O : List Nat} : PO X Option.none (rdP X.K X.mg zf O (optE Option.none)) := PO.imp po_none fun σ H Q ⟨tk, H0, F0, F, g, w, d, w', R, ef, kk⟩ => by
  have ef : some (Option.none, w) = some (d, w') := ef
  cases ef
  exact kk H F R (Ex.refl ..)
theorem EP.some {O : List Nat} {e : Expr} {f : E} (h : EB X zf O e f) : PO X (Option.some e) (rdP X.K X.mg zf O (optE (Option.some f))) := PO.imp (po_some h) fun σ H Q ⟨tk, H0, F0, F, g, w, d, w', R, ef, kk⟩ => by
  obtain ⟨x, w1, e1, ef⟩ := bnd_eq (show bnd (f g w) _ = _ from ef)
  refine ⟨tk, H0, F0, F, g, w, x, w1, R, e1, fun vx H1 F1 R1 x1 r1 => ?_⟩
  cases x <;> simp only at ef <;> first | cases ef | skip
  simp only [RepB, Rep] at r1
  exact ⟨_, r1, kk H1 F1 R1 x1⟩
theorem RepL.cut {Kx : PySem.W.Frag} {mx : Str → Option Value} {zf : Bool} {tk : Tk Kx mx zf} {F : Hp} {ds : List D} {xs : List V} (h : RepL tk F ds xs) (lo hi : Option Int) : RepL tk F (cutL ds lo hi) (cutV xs lo hi) := by
  unfold cutL cutV
  rw [h.length]
  exact (h.drop _).take _
theorem cut_whole {α : Type} {xs : List α} {lo hi : Option Int} (h : HT.sIx xs.length 0 lo = 0 ∧ HT.sIx xs.length xs.length hi = xs.length) : cutL xs lo hi = xs := by
  unfold cutL
  rw [h.1, h.2]
  simp
/-- t[lo:hi], the new one with its object -/
def rSlZ (K : PySem.W.Frag) (zf : Bool) : V → Option Int → Option Int → Hp → VK → Prop := fun x lo hi H Q => ∃ a xs, x = .ref a ∧ SqT K H a xs ∧
  (HT.sIx xs.length 0 lo = 0 ∧ HT.sIx xs.length xs.length hi = xs.length → Q (.ref a) H) ∧ (¬ (HT.sIx xs.length 0 lo = 0 ∧ HT.sIx xs.length xs.length hi = xs.length) → ∀ p ob, H p = none → ob.dict = none → Q (.ref p) (upd H p (tupO zf ob (cutV xs lo hi))))
theorem sl_tupZ : SlR X (rSlZ X.K zf) := by
  intro pins s σ H x v vl vu lo hi sl Q I rx hs pl pu h
  obtain ⟨a, xs, rfl, hx, q1, q2⟩ := h
  cases rx
  obtain ⟨its, r, ht, hz⟩ := I.tuple hx
  have hlen : its.toArray.size = xs.length := by rw [List.size_toArray]; exact r.length.symm
  refine ⟨"tuple", _, PyProof.Rows.slot_tuple_getitem.lookup, ht.typeIs, ?_⟩
  by_cases hw : HT.sIx xs.length 0 lo = 0 ∧ HT.sIx xs.length xs.length hi = xs.length
  · exact getItem_tuple_whole ht hs pl pu (by rw [hlen]; exact hw) ⟨.ref a, H, I, rfl, q1 hw⟩
  · refine HT.getItem_tuple_cut ht hs pl pu (by rw [hlen]; exact hw) ?_ (by rw [hlen]; exact hz)
    rw [hlen]
    exact ⟨.ref s.heap.objs.size, _, I.laid (t' := s.toks) (fun b ob q => Heap.get?_push_of_some _ q) (Nat.le_refl _) (objOk_tup (Nat.le_trans (cutV_length xs lo hi) hz) ((r.drop (HT.sIx xs.length 0 lo)).take (HT.sIx xs.length xs.length hi - HT.sIx xs.length 0 lo)) (Heap.get?_push_size _ rfl) rfl ⟨_, rfl⟩), rfl, q2 hw _ _ (I.hok.fresh (Nat.le_refl _)) rfl⟩
/-- tuple(xs) -/
theorem call_tuple_ofZ : CallR X (.type "tuple") (fun xs H Q => ∃ p ys, xs = [.ref p] ∧ ((SqL X.K H p ys ∧ ∀ l ob, H l = none → ob.dict = none → Q (.ref l) (upd H l (tupO zf ob ys))) ∨ (SqT X.K H p ys ∧ Q (.ref p) H))) := by
  intro pins s σ H xs us Q I r h
  obtain ⟨p, ys, rfl, h⟩ := h
  obtain ⟨u, rfl, rx⟩ := vals1 r
  cases rx
  rcases h with ⟨hq, q⟩ | ⟨hq, q⟩
  · obtain ⟨its, r', pl, hz⟩ := I.list hq
    have hlen := r'.length
    refine call_tuple_list pl.isList (fun h' kp => ?_) (by simp only [List.size_toArray] <;> omega)
    have I1 : Inv X pins σ H { s with heap := h' } := I.kept (t' := s.toks) kp
    exact ⟨.ref h'.objs.size, _, I1.laid (t' := s.toks) (fun b o e => Heap.get?_push_of_some _ e) (Nat.le_refl _) (objOk_tup hz r' (Heap.get?_push_size _ rfl) rfl ⟨_, rfl⟩), rfl, q _ _ (I1.hok.fresh (Nat.le_refl _)) rfl⟩
  · obtain ⟨its, r', pl, hz⟩ := I.tuple hq
    exact call_tuple_same pl ⟨.ref p, H, I, rfl, q⟩
theorem ok_sl {Kx : PySem.W.Frag} {mx : Str → Option Value} {zf : Bool} {tk : Tk Kx mx zf} {H0 F0 O σ F H g w x d lo hi vx Q} (R : Rel tk H0 F0 O σ H F g w) (rx : RepB tk F H x vx) (e : cutD x lo hi = some d) (kk : KE tk H0 F0 O σ F H g w (fun F' _ v => Rep tk F' d v) Q) : rSlL Kx vx lo hi H Q ∨ rSlZ Kx zf vx lo hi H Q := by
  cases x <;> simp only [cutD] at e <;> first | cases e | skip
  · simp only [RepB] at rx
    obtain ⟨a, xs, rfl, na, ra, la⟩ := rx
    refine .inl ⟨a, xs, rfl, .inl ra, fun p hp => ?_⟩
    obtain ⟨R2, x2⟩ := R.alloc hp (.lst (cutV xs lo hi))
    refine kk _ _ _ R2 x2 ?_
    simp only [Rep]
    exact ⟨p, _, rfl, .inl upd_same, RepL.same x2.sm _ _ (la.cut lo hi)⟩
  · simp only [RepB, Rep] at rx
    obtain ⟨a, xs, rfl, ra, la⟩ := rx
    refine .inr ⟨a, xs, rfl, (R.sub.tup ra).sq, fun hw => ?_, fun _ p ob hp hob => ?_⟩
    · refine kk _ H F R (Ex.refl ..) ?_
      rw [← la.length] at hw
      rw [cut_whole hw]
      simp only [Rep]
      exact ⟨a, xs, rfl, ra, la⟩
    · obtain ⟨R2, x2⟩ := R.alloc hp (tupO zf ob (cutV xs lo hi))
      refine kk _ _ _ R2 x2 ?_
      simp only [Rep]
      exact ⟨p, _, rfl, ⟨ob, upd_same, hob⟩, RepL.same x2.sm _ _ (la.cut lo hi)⟩
theorem EV.cut {O : List Nat} {e : Expr} {lo hi : Option Expr} {f : E} {fl fh : Option E} {p2 pos : Pos} (h : EB X zf O e f) (hl : PO X lo (rdP X.K X.mg zf O (optE fl))) (hh : PO X hi (rdP X.K X.mg zf O (optE fh))) : EV X zf O (.Subscript e (.Slice lo hi Option.none p2) pos) (cCut f fl fh) :=
  PE.imp (pe_slice (SlR.or sl_list sl_tupZ) h hl hh) fun σ H Q ⟨tk, H0, F0, F, g, w, d, w', R, ef, kk⟩ => by
  obtain ⟨x, w1, e1, ef⟩ := bnd_eq (show bnd (f g w) _ = _ from ef)
  obtain ⟨l, w2, e2, ef⟩ := bnd_eq ef
  obtain ⟨u, w3, e3, ef⟩ := bnd_eq ef
  obtain ⟨e4, e5⟩ := lft_eq ef
  have e5 : w3 = w' := e5
  subst e5
  refine ⟨tk, H0, F0, F, g, w, x, w1, R, e1, fun vx H1 F1 R1 x1 r1 => ?_⟩
  refine ⟨tk, H0, F0, F1, g, w1, l, w2, R1, e2, fun H2 F2 R2 x2 => ?_⟩
  refine ⟨tk, H0, F0, F2, g, w2, u, w3, R2, e3, fun H3 F3 R3 x3 => ?_⟩
  exact ok_sl R3 ((r1.ex x2).ex x3) e4 fun v H' F' R' x' r' => kk v H' F' R' (((x1.trans x2).trans x3).trans x') r'

/-! ### built-in functions of one or two values -/
def Ok1 (Kx : PySem.W.Frag) (mx : Str → Option Value) (zf : Bool) (f : D → Option D) (r : List V → Hp → VK → Prop) : Prop := ∀ (tk : Tk Kx mx zf) H0 F0 O σ F H g w x d vx Q, Rel tk H0 F0 O σ H F g w → RepB tk F H x vx → f x = some d → KE tk H0 F0 O σ F H g w (fun F' _ v => Rep tk F' d v) Q → r [vx] H Q
def Ok22 (Kx : PySem.W.Frag) (mx : Str → Option Value) (zf : Bool) (f : D → D → Option D) (r : List V → Hp → VK → Prop) : Prop := ∀ (tk : Tk Kx mx zf) H0 F0 O σ F H g w x y d vx vy Q, Rel tk H0 F0 O σ H F g w → RepB tk F H x vx → RepB tk F H y vy → f x y = some d → KE tk H0 F0 O σ F H g w (fun F' _ v => Rep tk F' d v) Q → r [vx, vy] H Q
theorem one_reading {Kx : PySem.W.Frag} {mx : Str → Option Value} {zf : Bool} {O : List Nat} {f : D → Option D} {fa : E} {r : List V → Hp → VK → Prop} (hk : Ok1 Kx mx zf f r) : ∀ σ H Q, rd Kx mx zf O (cOp1 f fa) σ H Q → tCB r (rdAB Kx mx zf O (cArgs [fa])) σ H Q := fun σ H Q ⟨tk, H0, F0, F, g, w, d, w', R, ef, kk⟩ => by
  obtain ⟨x, w1, e1, ef⟩ := bnd_eq (show bnd (fa g w) _ = _ from ef)
  obtain ⟨e4, e5⟩ := lft_eq ef
  have e5 : w1 = w' := e5
  subst e5
  refine ⟨tk, H0, F0, F, g, w, [x], w1, R, by simp [cArgs, e1], fun vs H1 F1 R1 x1 r1 => ?_⟩
  match vs, r1 with
  | [], r1 => simp only [RepBL] at r1
  | [v], r1 =>
    simp only [RepBL] at r1
    exact hk tk H0 F0 O σ F1 H1 g w1 x d v Q R1 r1.1 e4 fun v H' F' R' x' r' => kk v H' F' R' (x1.trans x') r'
  | _ :: _ :: _, r1 => simp only [RepBL] at r1; exact r1.2.elim
theorem two_reading {Kx : PySem.W.Frag} {mx : Str → Option Value} {zf : Bool} {O : List Nat} {f : D → D → Option D} {fa fb : E} {r : List V → Hp → VK → Prop} (hk : Ok22 Kx mx zf f r) : ∀ σ H Q, rd Kx mx zf O (cOp2 f fa fb) σ H Q → tCB r (rdAB Kx mx zf O (cArgs [fa, fb])) σ H Q := fun σ H Q ⟨tk, H0, F0, F, g, w, d, w', R, ef, kk⟩ => by
  obtain ⟨x, w1, e1, ef⟩ := bnd_eq (show bnd (fa g w) _ = _ from ef)
  obtain ⟨y, w2, e2, ef⟩ := bnd_eq ef
  obtain ⟨e4, e5⟩ := lft_eq ef
  have e5 : w2 = w' := e5
  subst e5
  refine ⟨tk, H0, F0, F, g, w, [x, y], w2, R, by simp [cArgs, e1, e2], fun vs H1 F1 R1 x1 r1 => ?_⟩
  match vs, r1 with
  | [], r1 => simp only [RepBL] at r1
  | [v], r1 => simp only [RepBL] at r1; exact r1.2.elim
  | [v, u], r1 =>
    simp only [RepBL] at r1
    exact hk tk H0 F0 O σ F1 H1 g w2 x y d v u Q R1 r1.1 r1.2.1 e4 fun v H' F' R' x' r' => kk v H' F' R' (x1.trans x') r'
  | _ :: _ :: _ :: _, r1 => simp only [RepBL] at r1; exact r1.2.2.elim
theorem EV.bi1 {O : List Nat} {id : String} {x : Str} {f : D → Option D} {fa : E} {r : List V → Hp → VK → Prop} {a : Expr} {p pos : Pos} (hc : CallR X (.builtin id) r) (hk : Ok1 X.K X.mg zf f r) (hg : Gl X x) (hm : X.mg x = Option.none) (hv : bootBuiltins x = Option.some (.builtin id)) (ha : EB X zf O a fa)
    (hn : x ≠ "__name__" := by decide) (hdb : (x == ("__debug__" : Str)) = false := by decide) (he : starEach [a] X.env = (false, eval a X.env) :: starEach [] X.env := by rfl) (hpl : (backTo pos (starEach [] X.env)).any (·.1) = false := by rfl) :
    EV X zf O (.Call (.Name x p) [a] [] pos) (cOp1 f fa) := PE.imp (pe_callB hc hg hm hv (EAB.cons ha EAB.nil he) hn hdb he hpl) (one_reading hk)
theorem EV.ty1 {O : List Nat} {id : String} {x : Str} {f : D → Option D} {fa : E} {r : List V → Hp → VK → Prop} {a : Expr} {p pos : Pos} (hc : CallR X (.type id) r) (hk : Ok1 X.K X.mg zf f r) (hg : Gl X x) (hm : X.mg x = Option.none) (hv : bootBuiltins x = Option.some (.type id)) (ha : EB X zf O a fa)
    (hn : x ≠ "__name__" := by decide) (hdb : (x == ("__debug__" : Str)) = false := by decide) (he : starEach [a] X.env = (false, eval a X.env) :: starEach [] X.env := by rfl) (hpl : (backTo pos (starEach [] X.env)).any (·.1) = false := by rfl) :
    EV X zf O (.Call (.Name x p) [a] [] pos) (cOp1 f fa) := PE.imp (pe_callTy hc hg hm hv (EAB.cons ha EAB.nil he) hn hdb he hpl) (one_reading hk)
theorem EV.bi2 {O : List Nat} {id : String} {x : Str} {f : D → D → Option D} {fa fb : E} {r : List V → Hp → VK → Prop} {a b : Expr} {p pos : Pos} (hc : CallR X (.builtin id) r) (hk : Ok22 X.K X.mg zf f r) (hg : Gl X x) (hm : X.mg x = Option.none) (hv : bootBuiltins x = Option.some (.builtin id)) (ha : EB X zf O a fa) (hb : EB X zf O b fb)
    (hn : x ≠ "__name__" := by decide) (hdb : (x == ("__debug__" : Str)) = false := by decide) (he : starEach [a, b] X.env = (false, eval a X.env) :: starEach [b] X.env := by rfl) (he2 : starEach [b] X.env = (false, eval b X.env) :: starEach [] X.env := by rfl)
    (hpl : (backTo pos (starEach [b] X.env)).any (·.1) = false := by rfl) :
    EV X zf O (.Call (.Name x p) [a, b] [] pos) (cOp2 f fa fb) := PE.imp (pe_callB hc hg hm hv (EAB.cons ha (EAB.cons hb EAB.nil he2) he) hn hdb he hpl) (two_reading hk)

/-! len -/
theorem ok_len : Ok1 X.K X.mg zf lenD (fun xs H Q => (∃ p ys, xs = [.ref p] ∧ (SqL X.K H p ys ∨ SqT X.K H p ys) ∧ Q (.int ys.length) H) ∨ ∃ z, xs = [.str z] ∧ z.length ≤ sizeLine ∧ Q (.int z.length) H) := fun tk H0 F0 O σ F H g w x d vx Q R rx e kk => by
  cases x <;> simp only [lenD] at e <;> first | cases e | skip
  · simp only [RepB, Rep] at rx
    subst rx
    split at e <;> first | cases e | skip
    rename_i h
    exact .inr ⟨_, rfl, h, kk _ H F R (Ex.refl ..) (by simp only [Rep])⟩
  · simp only [RepB] at rx
    obtain ⟨a, xs, rfl, na, ra, la⟩ := rx
    exact .inl ⟨a, xs, rfl, .inl (.inl ra), kk _ H F R (Ex.refl ..) (by simp only [Rep]; rw [la.length])⟩
  · simp only [RepB, Rep] at rx
    obtain ⟨a, xs, rfl, ra, la⟩ := rx
    exact .inl ⟨a, xs, rfl, .inr ((R.sub.tup ra).sq), kk _ H F R (Ex.refl ..) (by simp only [Rep]; rw [la.length])⟩
  · obtain ⟨ds, h0, rfl⟩ := Option.map_eq_some_iff.mp e
    rw [scrOf_eq h0] at rx
    obtain ⟨a, ns, rfl, rfl, ra⟩ := RepB.script rx
    exact .inl ⟨a, _, rfl, .inl (sqL_sub R.sub ra), kk _ H F R (Ex.refl ..) (by simp only [Rep, List.length_map])⟩
theorem EV.len {O : List Nat} {a : Expr} {fa : E} {p pos : Pos} (hm : X.mg "len" = Option.none) (ha : EB X zf O a fa) (hg : Gl X "len" := by rfl) (he : starEach [a] X.env = (false, eval a X.env) :: starEach [] X.env := by rfl) : EV X zf O (.Call (.Name "len" p) [a] [] pos) (cOp1 lenD fa) :=
  EV.bi1 (CallR.or call_len_seq call_len_str) ok_len hg hm PySem.boot_len ha (he := he)
/-! sum -/
theorem ints_rep {Kx : PySem.W.Frag} {mx : Str → Option Value} {zf : Bool} {tk : Tk Kx mx zf} {F : Hp} : ∀ {ds : List D} {xs : List V} {ns : List Int}, intsOf ds = some ns → RepL tk F ds xs → xs = ns.map V.int
  | [], [], ns, e, _ => by
    have e : some ([] : List Int) = some ns := e
    cases e; rfl
  | [], _ :: _, _, _, h => by simp only [RepL] at h
  | _ :: _, [], _, _, h => by simp only [RepL] at h
  | d :: ds, x :: xs, ns, e, h => by
    cases d <;> simp only [intsOf] at e <;> first | cases e | skip
    obtain ⟨ms, e1, e2⟩ := Option.map_eq_some_iff.mp e
    subst e2
    simp only [RepL, Rep] at h
    rw [h.1, ints_rep e1 h.2]
    rfl
theorem bools_rep {Kx : PySem.W.Frag} {mx : Str → Option Value} {zf : Bool} {tk : Tk Kx mx zf} {F : Hp} : ∀ {ds : List D} {xs : List V} {ns : List Bool}, boolsOf ds = some ns → RepL tk F ds xs → xs = ns.map V.bl
  | [], [], ns, e, _ => by
    have e : some ([] : List Bool) = some ns := e
    cases e; rfl
  | [], _ :: _, _, _, h => by simp only [RepL] at h
  | _ :: _, [], _, _, h => by simp only [RepL] at h
  | d :: ds, x :: xs, ns, e, h => by
    cases d <;> simp only [boolsOf] at e <;> first | cases e | skip
    obtain ⟨ms, e1, e2⟩ := Option.map_eq_some_iff.mp e
    subst e2
    simp only [RepL, Rep] at h
    rw [h.1, bools_rep e1 h.2]
    rfl
theorem ok_sum : Ok1 X.K X.mg zf sumD (rSum X.K) := fun tk H0 F0 O σ F H g w x d vx Q R rx e kk => by
  cases x <;> simp only [sumD] at e <;> first | cases e | skip
  obtain ⟨ns, e1, rfl⟩ := Option.map_eq_some_iff.mp e
  simp only [RepB] at rx
  obtain ⟨a, xs, rfl, na, ra, la⟩ := rx
  have := ints_rep e1 la
  subst this
  exact ⟨a, ns, rfl, .inl ra, kk _ H F R (Ex.refl ..) (by simp only [Rep])⟩
theorem EV.sum {O : List Nat} {a : Expr} {fa : E} {p pos : Pos} (hm : X.mg "sum" = Option.none) (hc : X.calm = true) (ha : EB X zf O a fa) (hg : Gl X "sum" := by rfl) (he : starEach [a] X.env = (false, eval a X.env) :: starEach [] X.env := by rfl) : EV X zf O (.Call (.Name "sum" p) [a] [] pos) (cOp1 sumD fa) :=
  EV.bi1 (cr_sum hc) ok_sum hg hm (by decide +kernel) ha (he := he)
theorem ok_all : Ok1 X.K X.mg zf allD (rAll X.K) := fun tk H0 F0 O σ F H g w x d vx Q R rx e kk => by
  cases x <;> simp only [allD] at e <;> first | cases e | skip
  obtain ⟨ns, e1, rfl⟩ := Option.map_eq_some_iff.mp e
  simp only [RepB] at rx
  obtain ⟨a, xs, rfl, na, ra, la⟩ := rx
  have := bools_rep e1 la
  subst this
  exact ⟨a, ns, rfl, .inl ra, kk _ H F R (Ex.refl ..) (by simp only [Rep])⟩
theorem ok_any : Ok1 X.K X.mg zf anyD (rAny X.K) := fun tk H0 F0 O σ F H g w x d vx Q R rx e kk => by
  cases x <;> simp only [anyD] at e <;> first | cases e | skip
  obtain ⟨ns, e1, rfl⟩ := Option.map_eq_some_iff.mp e
  simp only [RepB] at rx
  obtain ⟨a, xs, rfl, na, ra, la⟩ := rx
  have := bools_rep e1 la
  subst this
  exact ⟨a, ns, rfl, .inl ra, kk _ H F R (Ex.refl ..) (by simp only [Rep])⟩
theorem EV.all {O : List Nat} {a : Expr} {fa : E} {p pos : Pos} (hm : X.mg "all" = Option.none) (hc : X.calm = true) (ha : EB X zf O a fa) (hg : Gl X "all" := by rfl) (he : starEach [a] X.env = (false, eval a X.env) :: starEach [] X.env := by rfl) : EV X zf O (.Call (.Name "all" p) [a] [] pos) (cOp1 allD fa) :=
  EV.bi1 (cr_all hc) ok_all hg hm (by decide +kernel) ha (he := he)
theorem EV.any {O : List Nat} {a : Expr} {fa : E} {p pos : Pos} (hm : X.mg "any" = Option.none) (hc : X.calm = true) (ha : EB X zf O a fa) (hg : Gl X "any" := by rfl) (he : starEach [a] X.env = (false, eval a X.env) :: starEach [] X.env := by rfl) : EV X zf O (.Call (.Name "any" p) [a] [] pos) (cOp1 anyD fa) :=
  EV.bi1 (cr_any hc) ok_any hg hm (by decide +kernel) ha (he := he)
/-! int, abs -/
theorem EV.int1 {O : List Nat} {a : Expr} {fa : E} {p pos : Pos} (hm : X.mg "int" = Option.none) (ha : EB X zf O a fa) (hg : Gl X "int" := by rfl) (he : starEach [a] X.env = (false, eval a X.env) :: starEach [] X.env := by rfl) : EV X zf O (.Call (.Name "int" p) [a] [] pos) (cOp1 intD fa) :=
  EV.ty1 call_int1 (fun tk H0 F0 O σ F H g w x d vx Q R rx e kk => by
    cases x <;> simp only [intD] at e <;> first | cases e | skip
    · simp only [RepB, Rep] at rx
      subst rx
      exact .inr ⟨_, rfl, kk _ H F R (Ex.refl ..) (by simp only [Rep])⟩
    · simp only [RepB, Rep] at rx
      subst rx
      exact .inl ⟨_, rfl, kk _ H F R (Ex.refl ..) (by simp only [Rep])⟩) hg hm (by decide +kernel) ha (he := he)
theorem EV.abs {O : List Nat} {a : Expr} {fa : E} {p pos : Pos} (hm : X.mg "abs" = Option.none) (ha : EB X zf O a fa) (hg : Gl X "abs" := by rfl) (he : starEach [a] X.env = (false, eval a X.env) :: starEach [] X.env := by rfl) : EV X zf O (.Call (.Name "abs" p) [a] [] pos) (cOp1 absD fa) :=
  EV.bi1 call_abs (fun tk H0 F0 O σ F H g w x d vx Q R rx e kk => by
    cases x <;> simp only [absD] at e <;> first | cases e | skip
    simp only [RepB, Rep] at rx
    subst rx
    exact ⟨_, rfl, kk _ H F R (Ex.refl ..) (by simp only [Rep])⟩) hg hm (by decide +kernel) ha (he := he)
theorem EV.max2 {O : List Nat} {a b : Expr} {fa fb : E} {p pos : Pos} (hm : X.mg "max" = Option.none) (hc : X.calm = true) (ha : EB X zf O a fa) (hb : EB X zf O b fb) (hg : Gl X "max" := by rfl) (he : starEach [a, b] X.env = (false, eval a X.env) :: starEach [b] X.env := by rfl) (he2 : starEach [b] X.env = (false, eval b X.env) :: starEach [] X.env := by rfl)
    (hpl : (backTo pos (starEach [b] X.env)).any (·.1) = false := by rfl) : EV X zf O (.Call (.Name "max" p) [a, b] [] pos) (cOp2 max2D fa fb) :=
  EV.bi2 (call_max2 hc) (fun tk H0 F0 O σ F H g w x y d vx vy Q R rx ry e kk => by
    cases x <;> cases y <;> simp only [max2D] at e <;> first | cases e | skip
    simp only [RepB, Rep] at rx ry
    subst rx; subst ry
    exact ⟨_, _, rfl, kk _ H F R (Ex.refl ..) (by simp only [Rep])⟩) hg hm (by decide +kernel) ha hb (he := he) (he2 := he2) (hpl := hpl)
theorem EV.min2 {O : List Nat} {a b : Expr} {fa fb : E} {p pos : Pos} (hm : X.mg "min" = Option.none) (hc : X.calm = true) (ha : EB X zf O a fa) (hb : EB X zf O b fb) (hg : Gl X "min" := by rfl) (he : starEach [a, b] X.env = (false, eval a X.env) :: starEach [b] X.env := by rfl) (he2 : starEach [b] X.env = (false, eval b X.env) :: starEach [] X.env := by rfl)
    (hpl : (backTo pos (starEach [b] X.env)).any (·.1) = false := by rfl) : EV X zf O (.Call (.Name "min" p) [a, b] [] pos) (cOp2 min2D fa fb) :=
  EV.bi2 (call_min2 hc) (fun tk H0 F0 O σ F H g w x y d vx vy Q R rx ry e kk => by
    cases x <;> cases y <;> simp only [min2D] at e <;> first | cases e | skip
    simp only [RepB, Rep] at rx ry
    subst rx; subst ry
    exact ⟨_, _, rfl, kk _ H F R (Ex.refl ..) (by simp only [Rep])⟩) hg hm (by decide +kernel) ha hb (he := he) (he2 := he2) (hpl := hpl)
/-! tuple, list -/
theorem EV.tuple {O : List Nat} {a : Expr} {fa : E} {p pos : Pos} (hm : X.mg "tuple" = Option.none) (ha : EB X zf O a fa) (hg : Gl X "tuple" := by rfl) (he : starEach [a] X.env = (false, eval a X.env) :: starEach [] X.env := by rfl) : EV X zf O (.Call (.Name "tuple" p) [a] [] pos) (cOp1 tupD fa) :=
  EV.ty1 (call_tuple_ofZ (zf := zf)) (fun tk H0 F0 O σ F H g w x d vx Q R rx e kk => by
    cases x <;> simp only [tupD] at e <;> first | cases e | skip
    · simp only [RepB] at rx
      obtain ⟨a, xs, rfl, na, ra, la⟩ := rx
      refine ⟨a, xs, rfl, .inl ⟨.inl ra, fun l ob hl hob => ?_⟩⟩
      obtain ⟨R2, x2⟩ := R.alloc hl (tupO zf ob xs)
      refine kk _ _ _ R2 x2 ?_
      simp only [Rep]
      exact ⟨l, xs, rfl, ⟨ob, upd_same, hob⟩, RepL.same x2.sm _ _ la⟩
    · simp only [RepB] at rx
      have rx' := rx
      simp only [Rep] at rx
      obtain ⟨a, xs, rfl, ra, la⟩ := rx
      exact ⟨a, xs, rfl, .inr ⟨(R.sub.tup ra).sq, kk _ H F R (Ex.refl ..) rx'⟩⟩) hg hm (by decide +kernel) ha (he := he)
end
end Q

set_option Elab.async false
set_option linter.all false
set_option autoImplicit false
set_option maxRecDepth 100000
/-! QS4: targets, what is walked, comprehensions. -/
namespace Q
open PySem PySem.Spec PyProof.Rows L2
section
variable {Kx : PySem.W.Frag} {mx : Str → Option Value} {zf : Bool} {tk : Tk Kx mx zf} {H0 F0 : Hp} {O : List Nat} {σ : L2.St} {H F : Hp} {g : Env} {w : Wd}
theorem Rel.set (R : Rel tk H0 F0 O σ H F g w) {i : Nat} {d : D} {v : V} (hO : i ∉ O) (r : Rep tk F d v) (hi : i < g.length) : Rel tk H0 F0 O (σ.set i (some v)) H F (g.set i (some d)) w := by
  have hl := R.len
  refine ⟨by simpa using hl, R.sub, R.f0, R.k0, R.n0, fun j e hj h => ?_, fun j e hj h => ?_, fun j l a e e' hj hll h h' k k' => ?_, R.wat⟩
  · by_cases z : j = i
    · subst z
      rw [List.getElem?_set_self hi] at h
      cases h
      exact ⟨v, List.getElem?_set_self (by omega), r⟩
    · rw [List.getElem?_set_ne (Ne.symm z)] at h ⊢
      exact R.val j e hj h
  · have z : j ≠ i := fun z => hO (z ▸ hj)
    rw [List.getElem?_set_ne (Ne.symm z)] at h ⊢
    exact R.own j e hj h
  · have z : j ≠ i := fun z => hO (z ▸ hj)
    have z' : l ≠ i := fun z => hO (z ▸ hll)
    rw [List.getElem?_set_ne (Ne.symm z)] at h k
    rw [List.getElem?_set_ne (Ne.symm z')] at h' k'
    exact R.sep j l a e e' hj hll h h' k k'
/-- what stands between two states, the slots as they were -/
theorem Rel.back {O2 : List Nat} {σ2 : L2.St} {H' F' : Hp} {g2 : Env} {w' : Wd} (R : Rel tk H0 F0 O σ H F g w) (R2 : Rel tk H0 F0 O2 σ2 H' F' g2 w') (x : Ex tk F H F' H') : Rel tk H0 F0 O σ H' F' g w' := by
  refine ⟨R.len, R2.sub, R2.f0, R2.k0, R2.n0, fun i d hi h => ?_, fun i d hi h => ?_, R.sep, R2.wat⟩
  · obtain ⟨v, h1, h2⟩ := R.val i d hi h
    exact ⟨v, h1, Rep.same x.sm _ _ h2⟩
  · obtain ⟨a, o, h1, h2, h3, h4, h5, h6⟩ := R.own i d hi h
    have h3' := x.nw a h5 (by rw [h2]; exact fun z => nomatch z) h3
    exact ⟨a, o, h1, x.gr.ex h2 h5 h3', h3', h4, h5, h6.same x.sm⟩
theorem wipeE_len (g : Env) : ∀ vs : List Nat, (wipeE g vs).length = g.length
  | [] => rfl
  | v :: vs => by simp only [wipeE, List.length_set, wipeE_len g vs]
theorem wipeE_some {g : Env} {i : Nat} {d : D} : ∀ {vs : List Nat}, (wipeE g vs)[i]? = some (some d) → g[i]? = some (some d) ∧ i ∉ vs
  | [], h => ⟨h, by simp⟩
  | v :: vs, h => by
    simp only [wipeE] at h
    by_cases hi : v = i
    · subst hi
      by_cases hv : v < (wipeE g vs).length
      · rw [List.getElem?_set_self hv] at h; cases h
      · rw [List.getElem?_eq_none (by simpa using hv)] at h; cases h
    · rw [List.getElem?_set_ne hi] at h
      obtain ⟨h1, h2⟩ := wipeE_some h
      exact ⟨h1, by simp only [List.mem_cons, not_or]; exact ⟨fun e => hi e.symm, h2⟩⟩
theorem wipe_keep {σ : L2.St} {i : Nat} : ∀ {vs : List Nat}, i ∉ vs → (wipe σ vs)[i]? = σ[i]?
  | [], _ => rfl
  | v :: vs, h => by
    simp only [List.mem_cons, not_or] at h
    unfold wipe
    rw [List.getElem?_set_ne (fun z => h.1 z.symm)]
    exact wipe_keep h.2
/-- slots forgotten on both sides -/
theorem Rel.wipe (R : Rel tk H0 F0 O σ H F g w) (vs : List Nat) : Rel tk H0 F0 O (L2.wipe σ vs) H F (wipeE g vs) w := by
  refine ⟨by rw [wipeE_len, wipe_length]; exact R.len, R.sub, R.f0, R.k0, R.n0, fun i d hi h => ?_, fun i d hi h => ?_, fun i j a d e hi hj h h' k k' => ?_, R.wat⟩
  · obtain ⟨h1, h2⟩ := wipeE_some h
    rw [wipe_keep h2]
    exact R.val i d hi h1
  · obtain ⟨h1, h2⟩ := wipeE_some h
    rw [wipe_keep h2]
    exact R.own i d hi h1
  · obtain ⟨h1, h2⟩ := wipeE_some h
    obtain ⟨h3, h4⟩ := wipeE_some h'
    rw [wipe_keep h2] at k
    rw [wipe_keep h4] at k'
    exact R.sep i j a d e hi hj h1 h3 k k'
/-- slots forgotten by the data alone -/
theorem Rel.wipeG (R : Rel tk H0 F0 O σ H F g w) (vs : List Nat) : Rel tk H0 F0 O σ H F (wipeE g vs) w := by
  refine ⟨by rw [wipeE_len]; exact R.len, R.sub, R.f0, R.k0, R.n0, fun i d hi h => R.val i d hi (wipeE_some h).1, fun i d hi h => R.own i d hi (wipeE_some h).1, fun i j a d e hi hj h h' k k' => R.sep i j a d e hi hj (wipeE_some h).1 (wipeE_some h').1 k k', R.wat⟩
/-- a free object changes -/
theorem Rel.free (R : Rel tk H0 F0 O σ H F g w) {p : Addr} {o : HO} (hf : F p = none) (h0 : H0 p = none) (npw : tk.pw ≠ some p) (no : ∀ i d, i ∈ O → g[i]? = some (some d) → σ[i]? ≠ some (some (.ref p))) : Rel tk H0 F0 O σ (upd H p o) F g w := by
  refine ⟨R.len, fun a u e => ?_, R.f0, fun a u e n => ?_, R.n0, R.val, fun i d hi h => ?_, R.sep, ?_⟩
  · have ne : a ≠ p := fun z => by rw [z, hf] at e; cases e
    rcases R.sub a u e with k | ⟨k, ob, q⟩
    · exact .inl (by rw [upd_ne ne]; exact k)
    · exact .inr ⟨k, ob, by rw [upd_ne ne]; exact q⟩
  · rw [upd_ne (ne_of_none e h0)]; exact R.k0 a u e n
  · obtain ⟨a, u, h1, h2, h3⟩ := R.own i d hi h
    have ne : a ≠ p := fun z => no i d hi h (by rw [← z]; exact h1)
    exact ⟨a, u, h1, by rw [upd_ne ne]; exact h2, h3⟩
  · exact R.wat.to (fun q e => upd_ne fun z => npw (by rw [e, z])) (Same.refl F) R.fw
end

/-! ### targets -/
/-- a target that is a tuple takes a pair that stands without its object too -/
def isTupE : Expr → Bool
  | .Tuple _ _ _ => true
  | _ => false
def RepW {Kx : PySem.W.Frag} {mx : Str → Option Value} {zf : Bool} (wk : Bool) (tk : Tk Kx mx zf) (F : Hp) (d : D) (v : V) : Prop := Rep tk F d v ∨ (wk = true ∧ ∃ ds a xs, d = .tuple ds ∧ v = .ref a ∧ F a = some (.tup xs) ∧ RepL tk F ds xs)
theorem RepW.same {Kx : PySem.W.Frag} {mx : Str → Option Value} {zf : Bool} {wk : Bool} {tk : Tk Kx mx zf} {F F' : Hp} {d : D} {v : V} (s : Same F F') (h : RepW wk tk F d v) : RepW wk tk F' d v := by
  rcases h with h | ⟨e, ds, a, xs, h1, h2, h3, h4⟩
  · exact .inl (Rep.same s _ _ h)
  · exact .inr ⟨e, ds, a, xs, h1, h2, s _ _ h3, RepL.same s _ _ h4⟩
theorem RepW.up {Kx : PySem.W.Frag} {mx : Str → Option Value} {zf : Bool} {wk : Bool} {tk : Tk Kx mx zf} {F : Hp} {d : D} {v : V} (h : Rep tk F d v) : RepW wk tk F d v := .inl h
theorem RepW.down {Kx : PySem.W.Frag} {mx : Str → Option Value} {zf : Bool} {tk : Tk Kx mx zf} {F : Hp} {d : D} {v : V} (h : RepW false tk F d v) : Rep tk F d v := by
  rcases h with h | ⟨e, _⟩
  · exact h
  · cases e
/-- ts: the slots that the target stores -/
def rdG (Kx : PySem.W.Frag) (mx : Str → Option Value) (zf wk : Bool) (O ts : List Nat) (t : G) : TG := fun v σ H Q => ∃ tk : Tk Kx mx zf, ∃ H0 F0 F g w d g', Rel tk H0 F0 O σ H F g w ∧ RepW wk tk F d v ∧ t d g = some g' ∧
  ∀ σ' H' F', Rel tk H0 F0 O σ' H' F' g' w → Ex tk F H F' H' → (∀ vs, (∀ i ∈ ts, i ∈ vs) → wipe σ' vs = wipe σ vs) → Q σ' H'
def rdGs (Kx : PySem.W.Frag) (mx : Str → Option Value) (zf : Bool) (O ts : List Nat) (t : List G) : TGs := fun vs σ H Q => ∃ tk : Tk Kx mx zf, ∃ H0 F0 F g w ds g', Rel tk H0 F0 O σ H F g w ∧ RepL tk F ds vs ∧ gList t ds g = some g' ∧
  ∀ σ' H' F', Rel tk H0 F0 O σ' H' F' g' w → Ex tk F H F' H' → (∀ vs, (∀ i ∈ ts, i ∈ vs) → wipe σ' vs = wipe σ vs) → Q σ' H'
section
variable {X : Cx} {zf : Bool}
theorem PG.imp {tg : Expr} {t t' : TG} (h : PG X tg t) (k : ∀ v σ H Q, t' v σ H Q → t v σ H Q) : PG X tg t' := ⟨fun pins s σ H v u Q I r hw => h.run pins s σ H v u Q I r (k v σ H Q hw)⟩
theorem PGs.imp {tg : List Expr} {t t' : TGs} (h : PGs X tg t) (k : ∀ v σ H Q, t' v σ H Q → t v σ H Q) : PGs X tg t' := ⟨fun pins s σ H v u Q I r hw => h.run pins s σ H v u Q I r (k v σ H Q hw)⟩
theorem wipe_set {σ : L2.St} {i : Nat} {x : Option V} : ∀ {vs : List Nat}, i ∈ vs → wipe (σ.set i x) vs = wipe σ vs
  | v :: vs, h => by
    unfold wipe
    by_cases hi : i ∈ vs
    · rw [wipe_set hi]
    · have e : i = v := by simpa [hi] using h
      subst e
      have : ∀ us : List Nat, i ∉ us → wipe (σ.set i x) us = (wipe σ us).set i x := by
        intro us hu
        induction us with
        | nil => rfl
        | cons u us ih =>
          simp only [List.mem_cons, not_or] at hu
          unfold wipe
          rw [ih hu.2, List.set_comm _ _ hu.1]
      rw [this vs hi, List.set_set]
theorem GG.name {O : List Nat} {x : Str} {pos : Pos} (i : Nat) (hN : X.N.Nodup) (hO : i ∉ O := by decide) (hi : X.N[i]? = some x := by rfl) (hx : Loc X.env.scope x := by first | exact Or.inl rfl | exact Or.inr rfl) (hf : X.fn x = true ∨ X.env.scope.names.lookup x = some .local := by first | exact .inl rfl | exact .inr rfl) :
    PG X (.Name x pos) (rdG X.K X.mg zf false O [i] (gName i)) := PG.imp (pg_name hN hi hx hf) fun v σ H Q ⟨tk, H0, F0, F, g, w, d, g', R, r, e, k⟩ => by
  simp only [gName] at e
  split at e <;> first | cases e | skip
  rename_i h
  exact k _ H F (R.set hO r.down h) (Ex.refl ..) fun vs hv => wipe_set (hv i (by simp))
theorem GG.nil {O : List Nat} : PGs X [] (rdGs X.K X.mg zf O [] []) := PGs.imp pgs_nil fun vs σ H Q ⟨tk, H0, F0, F, g, w, ds, g', R, r, e, k⟩ => by
  cases ds <;> simp only [gList] at e <;> first | cases e | skip
  cases vs <;> simp only [RepL] at r
  exact ⟨rfl, k σ H F R (Ex.refl ..) fun _ _ => rfl⟩
theorem GG.cons {O ts us : List Nat} {e : Expr} {es : List Expr} {t : G} {rs : List G} (h : PG X e (rdG X.K X.mg zf (isTupE e) O ts t)) (hs : PGs X es (rdGs X.K X.mg zf O us rs)) (ha : (assignEach (e :: es) X.env).map (·.2) = assign e X.env :: (assignEach es X.env).map (·.2) := by rfl) :
    PGs X (e :: es) (rdGs X.K X.mg zf O (ts ++ us) (t :: rs)) := PGs.imp (pgs_cons h hs ha) fun vs σ H Q ⟨tk, H0, F0, F, g, w, ds, g', R, r, e, k⟩ => by
  cases ds with
  | nil => simp only [gList] at e; cases e
  | cons d ds =>
    cases vs with
    | nil => simp only [RepL] at r
    | cons v vs =>
      simp only [RepL] at r
      simp only [gList] at e
      split at e <;> first | cases e | skip
      rename_i g1 hg
      refine ⟨v, vs, rfl, tk, H0, F0, F, g, w, d, g1, R, .inl r.1, hg, fun σ1 H1 F1 R1 x1 w1 => ?_⟩
      refine ⟨tk, H0, F0, F1, g1, w, ds, g', R1, RepL.same x1.sm _ _ r.2, e, fun σ2 H2 F2 R2 x2 w2 => ?_⟩
      exact k σ2 H2 F2 R2 (x1.trans x2) fun zs hz => (w2 zs fun i hi => hz i (List.mem_append_right _ hi)).trans (w1 zs fun i hi => hz i (List.mem_append_left _ hi))
theorem gList_len : ∀ {ts : List G} {ds : List D} {g g' : Env}, gList ts ds g = some g' → ts.length = ds.length
  | [], [], _, _, _ => rfl
  | [], _ :: _, _, _, h => by simp only [gList] at h; cases h
  | _ :: _, [], _, _, h => by simp only [gList] at h; cases h
  | t :: ts, d :: ds, g, g', h => by
    simp only [gList] at h
    split at h <;> first | cases h | skip
    simp [gList_len h]
theorem GG.tup {O ts : List Nat} {es : List Expr} {kk : Nat} {rs : List G} {pos : Pos} (hc : X.calm = true) (h : PGs X es (rdGs X.K X.mg zf O ts rs)) (hn : (assignEach es X.env).length = rs.length := by rfl) (hst : (assignEach es X.env).findIdx? (·.1) = none := by rfl) :
    PG X (.Tuple es kk pos) (rdG X.K X.mg zf true O ts (gTup rs)) := PG.imp (pg_tup hc h hn hst) fun v σ H Q ⟨tk, H0, F0, F, g, w, d, g', R, r, e, k⟩ => by
  cases d <;> simp only [gTup] at e <;> first | cases e | skip
  rename_i ds0
  have r : ∃ a xs, v = .ref a ∧ SqT X.K H a xs ∧ RepL tk F ds0 xs := by
    rcases r with r | ⟨_, ds, a, xs, h1, h2, h3, h4⟩
    · simp only [Rep] at r
      obtain ⟨a, xs, e, ra, la⟩ := r
      exact ⟨a, xs, e, (R.sub.tup ra).sq, la⟩
    · cases h1
      exact ⟨a, xs, h2, .of (R.sub.tup0 h3), h4⟩
  obtain ⟨a, xs, rfl, ra, la⟩ := r
  exact ⟨a, xs, rfl, ra, by rw [← la.length, gList_len e], tk, H0, F0, F, g, w, _, g', R, la, e, k⟩

/-! ### what is walked -/
/-- a walk over the data ds, wherever the frozen heap stands -/
def ItOk {Kx : PySem.W.Frag} {mx : Str → Option Value} {zf : Bool} (wk : Bool) (tk : Tk Kx mx zf) (J : It) (ds : List D) (F : Hp) : Prop := ∀ F2 H2, Same F F2 → Sub F2 H2 → ∀ i,
  (∀ d, ds[i]? = some d → J.go i H2 ∧ ∀ x H3, J.yld i H2 x H3 → (H3 = H2 ∧ RepW wk tk F2 d x) ∨ ∃ p o, H2 p = none ∧ H3 = upd H2 p o ∧ RepW wk tk (upd F2 p o) d x) ∧ (ds.length ≤ i → J.stop i H2)
def rdI (Kx : PySem.W.Frag) (mx : Str → Option Value) (zf wk : Bool) (O : List Nat) (f : Es) : TI := fun σ H R => ∃ tk : Tk Kx mx zf, ∃ H0 F0 F g w ds w', Rel tk H0 F0 O σ H F g w ∧ f g w = some (ds, w') ∧ ∀ J H' F', Rel tk H0 F0 O σ H' F' g w' → Ex tk F H F' H' → ItOk wk tk J ds F' → R J H'
abbrev EI (X : Cx) (zf : Bool) (O : List Nat) (tg it : Expr) (f : Es) : Prop := PI X tg it (rdI X.K X.mg zf (isTupE tg) O f)
theorem PI.imp {tg it : Expr} {t t' : TI} (h : PI X tg it t) (k : ∀ σ H Q, t' σ H Q → t σ H Q) : PI X tg it t' := ⟨fun pins s σ H R I hw => h.run pins s σ H R I (k σ H R hw)⟩
theorem PI.or {tg it : Expr} {t t' : TI} (h : PI X tg it t) (h' : PI X tg it t') : PI X tg it (fun σ H R => t σ H R ∨ t' σ H R) := ⟨fun pins s σ H R I hw => hw.elim (h.run pins s σ H R I) (h'.run pins s σ H R I)⟩
theorem itOk_list {wk : Bool} {Kx : PySem.W.Frag} {mx : Str → Option Value} {zf : Bool} {tk : Tk Kx mx zf} {K : PySem.W.Frag} {F : Hp} {a : Addr} {xs : List V} {ds : List D} (ra : Rd F a (.lst xs)) (la : RepL tk F ds xs) : ItOk wk tk (Itl K a) ds F := fun F2 H2 s sb i => by
  have r2 : SqL K H2 a xs := .inl (sb.rdL (Rd.same s ra))
  refine ⟨fun d hd => ?_, fun h => ⟨xs, r2, by rw [← la.length]; exact h⟩⟩
  obtain ⟨v, h1, h2⟩ := la.at hd
  refine ⟨⟨xs, v, r2, h1⟩, fun x H3 y => .inl ⟨y.1, ?_⟩⟩
  have := y.2 xs r2
  rw [h1] at this
  cases this
  exact .inl (Rep.same s _ _ h2)
theorem itOk_tup {wk : Bool} {Kx : PySem.W.Frag} {mx : Str → Option Value} {zf : Bool} {tk : Tk Kx mx zf} {K : PySem.W.Frag} {F : Hp} {a : Addr} {xs : List V} {ds : List D} (ra : TupAt zf F a xs) (la : RepL tk F ds xs) : ItOk wk tk (Itt K a) ds F := fun F2 H2 s sb i => by
  have r2 : SqT K H2 a xs := (sb.tup (ra.same s)).sq
  refine ⟨fun d hd => ?_, fun h => ⟨xs, r2, by rw [← la.length]; exact h⟩⟩
  obtain ⟨v, h1, h2⟩ := la.at hd
  refine ⟨⟨xs, v, r2, h1⟩, fun x H3 y => .inl ⟨y.1, ?_⟩⟩
  have := y.2 xs r2
  rw [h1] at this
  cases this
  exact .inl (Rep.same s _ _ h2)
theorem EI.seq {O : List Nat} {tg e : Expr} {f : E} (h : EV X zf O e f) : EI X zf O tg e (itSeq f) := PI.imp (PI.or (pi_list h) (pi_tup h)) fun σ H Q ⟨tk, H0, F0, F, g, w, ds, w', R, ef, k⟩ => by
  obtain ⟨x, w1, e1, ef⟩ := bnd_eq (show bnd (f g w) _ = _ from ef)
  obtain ⟨e4, e5⟩ := lft_eq ef
  have e5 : w1 = w' := e5
  subst e5
  have e4 : itemsD x = some ds := e4
  cases x <;> simp only [itemsD] at e4 <;> first | cases e4 | skip
  · refine .inl ⟨tk, H0, F0, F, g, w, _, w1, R, e1, fun v H1 F1 R1 x1 r1 => ?_⟩
    simp only [Rep] at r1
    obtain ⟨a, xs, rfl, ra, la⟩ := r1
    exact ⟨a, rfl, ⟨xs, .inl (R1.sub.rdL ra)⟩, k _ H1 F1 R1 x1 (itOk_list ra la)⟩
  · refine .inr ⟨tk, H0, F0, F, g, w, _, w1, R, e1, fun v H1 F1 R1 x1 r1 => ?_⟩
    simp only [Rep] at r1
    obtain ⟨a, xs, rfl, ra, la⟩ := r1
    exact ⟨a, rfl, ⟨xs, (R1.sub.tup ra).sq⟩, k _ H1 F1 R1 x1 (itOk_tup ra la)⟩
theorem itOk_range {wk : Bool} {Kx : PySem.W.Frag} {mx : Str → Option Value} {zf : Bool} {tk : Tk Kx mx zf} {F : Hp} (lo : Int) (n : Nat) : ItOk wk tk (Itr lo n) (rangeL lo n) F := fun F2 H2 s sb i => by
  refine ⟨fun d hd => ?_, fun h => (by
    show n ≤ i
    simpa [rangeL] using h)⟩
  have hi : i < n := by
    have := (List.getElem?_eq_some_iff.mp hd).1
    simpa [rangeL] using this
  refine ⟨hi, fun x H3 y => .inl ⟨y.1, ?_⟩⟩
  have e : (rangeL lo n)[i]? = some (.int (lo + (i : Nat))) := by simp [rangeL, hi]
  rw [e] at hd
  cases hd
  rw [y.2]
  exact .inl (by simp only [Rep])
theorem small62_iff {i : Int} (h : small62 i = true) : -(2 ^ 62) ≤ i ∧ i < 2 ^ 62 := by simpa [small62] using h
theorem EI.r1 {O : List Nat} {tg a : Expr} {fa : E} {p pos : Pos} (hm : X.mg "range" = none) (ha : EB X zf O a fa) (hg : Gl X "range" := by rfl) (hs : starEach [a] X.env = [(false, eval a X.env)] := by rfl) : EI X zf O tg (.Call (.Name "range" p) [a] [] pos) (itR1 fa) :=
  PI.imp (pi_range1 hg hm (EAB.cons ha EAB.nil hs) hs) fun σ H Q ⟨tk, H0, F0, F, g, w, ds, w', R, ef, k⟩ => by
  obtain ⟨x, w1, e1, ef⟩ := bnd_eq (show bnd (fa g w) _ = _ from ef)
  obtain ⟨e4, e5⟩ := lft_eq ef
  have e5 : w1 = w' := e5
  subst e5
  have e4 : range1 x = some ds := e4
  refine ⟨tk, H0, F0, F, g, w, [x], w1, R, by simp [cArgs, e1], fun vs H1 F1 R1 x1 r1 => ?_⟩
  have e6 : ∃ n, x = .int n ∧ small62 n = true ∧ ds = rangeL 0 n.toNat := by
    cases x <;> simp only [range1] at e4 <;> first | cases e4 | skip
    split at e4
    · rename_i h
      exact ⟨_, rfl, h, (Option.some.inj e4).symm⟩
    · cases e4
  obtain ⟨n, rfl, h, rfl⟩ := e6
  match vs, r1 with
  | [], r1 => simp only [RepBL] at r1
  | [v], r1 =>
    simp only [RepBL, RepB, Rep] at r1
    rw [r1.1]
    have h := small62_iff h
    exact ⟨_, rfl, h.1, h.2, k _ H1 F1 R1 x1 (itOk_range 0 _)⟩
  | _ :: _ :: _, r1 => simp only [RepBL] at r1; exact r1.2.elim
theorem EI.r2 {O : List Nat} {tg a b : Expr} {fa fb : E} {p pos : Pos} (hm : X.mg "range" = none) (ha : EB X zf O a fa) (hb : EB X zf O b fb) (hg : Gl X "range" := by rfl) (hs : starEach [a, b] X.env = [(false, eval a X.env), (false, eval b X.env)] := by rfl) (hs2 : starEach [b] X.env = [(false, eval b X.env)] := by rfl) :
    EI X zf O tg (.Call (.Name "range" p) [a, b] [] pos) (itR2 fa fb) :=
  PI.imp (pi_range2 hg hm (EAB.cons ha (EAB.cons hb EAB.nil hs2) (by rw [hs, hs2])) hs hs2) fun σ H Q ⟨tk, H0, F0, F, g, w, ds, w', R, ef, k⟩ => by
  obtain ⟨x, w1, e1, ef⟩ := bnd_eq (show bnd (fa g w) _ = _ from ef)
  obtain ⟨y, w2, e2, ef⟩ := bnd_eq ef
  obtain ⟨e4, e5⟩ := lft_eq ef
  have e5 : w2 = w' := e5
  subst e5
  have e4 : range2 x y = some ds := e4
  refine ⟨tk, H0, F0, F, g, w, [x, y], w2, R, by simp [cArgs, e1, e2], fun vs H1 F1 R1 x1 r1 => ?_⟩
  have e6 : ∃ n m, x = .int n ∧ y = .int m ∧ (small62 n && small62 m) = true ∧ ds = rangeL n (m - n).toNat := by
    cases x <;> cases y <;> simp only [range2] at e4 <;> first | cases e4 | skip
    split at e4
    · rename_i h
      exact ⟨_, _, rfl, rfl, h, (Option.some.inj e4).symm⟩
    · cases e4
  obtain ⟨n, m, rfl, rfl, h, rfl⟩ := e6
  match vs, r1 with
  | [], r1 => simp only [RepBL] at r1
  | [v], r1 => simp only [RepBL] at r1; exact r1.2.elim
  | [v, u], r1 =>
    simp only [RepBL, RepB, Rep] at r1
    rw [r1.1, r1.2.1]
    simp only [Bool.and_eq_true] at h
    have h1 := small62_iff h.1
    have h2 := small62_iff h.2
    exact ⟨_, _, rfl, ⟨h1.1, h1.2, h2.1, h2.2⟩, k _ H1 F1 R1 x1 (itOk_range _ _)⟩
  | _ :: _ :: _ :: _, r1 => simp only [RepBL] at r1; exact r1.2.2.elim
theorem EI.zip {O : List Nat} {a b : Expr} {fa fb : E} {p pos tpos : Pos} {elts : List Expr} {kk : Nat} (hm : X.mg "zip" = none) (ha : EV X zf O a fa) (hb : EV X zf O b fb) (hg : Gl X "zip" := by rfl) (hs : starEach [a, b] X.env = (false, eval a X.env) :: starEach [b] X.env := by rfl) (hs2 : starEach [b] X.env = (false, eval b X.env) :: starEach [] X.env := by rfl)
    (hpl : (backTo pos (starEach [b] X.env)).any (·.1) = false := by rfl) : EI X zf O (.Tuple elts kk tpos) (.Call (.Name "zip" p) [a, b] [] pos) (itZip fa fb) :=
  PI.imp (RZ.pi_zipA hg hm (EA.cons ha (EA.cons hb EA.nil hs2) hs) hs hpl) fun σ H Q ⟨tk, H0, F0, F, g, w, ds, w', R, ef, k⟩ => by
  obtain ⟨x, w1, e1, ef⟩ := bnd_eq (show bnd (fa g w) _ = _ from ef)
  obtain ⟨y, w2, e2, ef⟩ := bnd_eq ef
  obtain ⟨e4, e5⟩ := lft_eq ef
  have e5 : w2 = w' := e5
  subst e5
  have e4 : zipD x y = some ds := e4
  refine ⟨tk, H0, F0, F, g, w, [x, y], w2, R, by simp [cArgs, e1, e2], fun vs H1 F1 R1 x1 r1 => ?_⟩
  match vs, r1 with
  | [], r1 => simp only [RepL] at r1
  | [v], r1 => simp only [RepL] at r1; exact r1.2.elim
  | _ :: _ :: _ :: _, r1 => simp only [RepL] at r1; exact r1.2.2.elim
  | [v, u], r1 =>
    simp only [RepL] at r1
    obtain ⟨rv, ru, _⟩ := r1
    cases x <;> cases y <;> simp only [zipD] at e4 <;> first | cases e4 | skip
    · simp only [Rep] at rv ru
      obtain ⟨a, xs, rfl, ra, la⟩ := rv
      obtain ⟨b, ys, rfl, rb, lb⟩ := ru
      refine ⟨a, b, xs, ys, rfl, .inl ⟨.inl (R1.sub.rdL ra), .inl (R1.sub.rdL rb), k _ H1 F1 R1 x1 fun F2 H2 s sb i => ?_⟩⟩
      have ra2 : SqL X.K H2 a xs := .inl (sb.rdL (Rd.same s ra))
      have rb2 : SqL X.K H2 b ys := .inl (sb.rdL (Rd.same s rb))
      refine ⟨fun d hd => ?_, fun h => ⟨xs, ys, ra2, rb2, ?_⟩⟩
      · rw [List.getElem?_map] at hd
        obtain ⟨z, hz, rfl⟩ := Option.map_eq_some_iff.mp hd
        obtain ⟨hz1, hz2⟩ := List.getElem?_zip_eq_some.mp hz
        obtain ⟨v1, g1, g2⟩ := la.at hz1
        obtain ⟨v2, g3, g4⟩ := lb.at hz2
        refine ⟨⟨xs, ys, v1, v2, ra2, rb2, g1, g3⟩, fun t H3 yl => ?_⟩
        obtain ⟨T, q1, q2, rfl, hT, rfl, f1, f2⟩ := yl
        have k1 := f1 xs ra2
        have k2 := f2 ys rb2
        rw [g1] at k1
        rw [g3] at k2
        cases k1
        cases k2
        refine .inr ⟨T, _, hT, rfl, ?_⟩
        have s3 : Same F1 (upd F2 T (.tup [v1, v2])) := s.trans (same_new (sb.none hT))
        exact .inr ⟨rfl, _, T, _, rfl, rfl, upd_same, by simp only [RepL]; exact ⟨Rep.same s3 _ _ g2, Rep.same s3 _ _ g4, trivial⟩⟩
      · have := la.length
        have := lb.length
        simp only [List.length_map, List.length_zip] at h
        omega
    · simp only [Rep] at rv ru
      obtain ⟨a, xs, rfl, ra, la⟩ := rv
      obtain ⟨b, ys, rfl, rb, lb⟩ := ru
      refine ⟨a, b, xs, ys, rfl, .inr ⟨(R1.sub.tup ra).sq, (R1.sub.tup rb).sq, k _ H1 F1 R1 x1 fun F2 H2 s sb i => ?_⟩⟩
      have ra2 : SqT X.K H2 a xs := (sb.tup (ra.same s)).sq
      have rb2 : SqT X.K H2 b ys := (sb.tup (rb.same s)).sq
      refine ⟨fun d hd => ?_, fun h => ⟨xs, ys, ra2, rb2, ?_⟩⟩
      · rw [List.getElem?_map] at hd
        obtain ⟨z, hz, rfl⟩ := Option.map_eq_some_iff.mp hd
        obtain ⟨hz1, hz2⟩ := List.getElem?_zip_eq_some.mp hz
        obtain ⟨v1, g1, g2⟩ := la.at hz1
        obtain ⟨v2, g3, g4⟩ := lb.at hz2
        refine ⟨⟨xs, ys, v1, v2, ra2, rb2, g1, g3⟩, fun t H3 yl => ?_⟩
        obtain ⟨T, q1, q2, rfl, hT, rfl, f1, f2⟩ := yl
        have k1 := f1 xs ra2
        have k2 := f2 ys rb2
        rw [g1] at k1
        rw [g3] at k2
        cases k1
        cases k2
        refine .inr ⟨T, _, hT, rfl, ?_⟩
        have s3 : Same F1 (upd F2 T (.tup [v1, v2])) := s.trans (same_new (sb.none hT))
        exact .inr ⟨rfl, _, T, _, rfl, rfl, upd_same, by simp only [RepL]; exact ⟨Rep.same s3 _ _ g2, Rep.same s3 _ _ g4, trivial⟩⟩
      · have := la.length
        have := lb.length
        simp only [List.length_map, List.length_zip] at h
        omega
end
end Q

set_option Elab.async false
set_option linter.all false
set_option autoImplicit false
set_option maxRecDepth 100000
/-! QS5: comprehensions. -/
namespace Q
open PySem PySem.Spec PyProof.Rows L2
theorem wipe_wipe {σ : L2.St} {vs : List Nat} : wipe (wipe σ vs) vs = wipe σ vs := by
  apply List.ext_getElem?
  intro i
  by_cases h : i ∈ vs
  · have key : ∀ (τ : L2.St) (us : List Nat), i ∈ us → (wipe τ us)[i]? = if i < τ.length then some none else none := by
      intro τ us
      induction us with
      | nil => intro h; cases h
      | cons u us ih =>
        intro h
        unfold wipe
        by_cases e : u = i
        · subst e
          by_cases hl : u < τ.length
          · rw [if_pos hl, List.getElem?_set_self (by rw [wipe_length]; exact hl)]
          · rw [if_neg hl, List.getElem?_eq_none (by simpa [wipe_length] using hl)]
        · rw [List.getElem?_set_ne e]
          exact ih (by simpa [Ne.symm e] using h)
    rw [key _ vs h, key _ vs h, wipe_length]
  · rw [wipe_keep h]
theorem lc_read {Kx : PySem.W.Frag} {mx : Str → Option Value} {zf wk : Bool} {O ts vs : List Nat} {fi : Es} {t : G} {c : T} {f : E} (hts : ∀ i ∈ ts, i ∈ vs) : ∀ σ H Q, rdO Kx mx zf O (cLc fi t c f vs) σ H Q → tLc (rdI Kx mx zf wk O fi) (rdG Kx mx zf wk O ts t) (rdT Kx mx zf O c) (rd Kx mx zf O f) vs σ H Q := fun σ H Q ⟨tk, H0, F0, F, g, w, d, w', R, ef, k⟩ => by
  obtain ⟨xs, w1, e1, ef⟩ := bnd_eq (show bnd (fi g w) _ = _ from ef)
  obtain ⟨ds, w2, e2, ef⟩ := bnd_eq ef
  split at ef <;> first | cases ef | skip
  rename_i hlen
  refine ⟨tk, H0, F0, F, g, w, xs, w1, R, e1, fun J H1 F1 R1 x1 it => fun D hD => ?_⟩
  have npw : tk.pw ≠ some D := fun e => (R1.wat.free D e).2 hD
  have h0D : H0 D = none := by
    cases q : H0 D with
    | none => rfl
    | some u => exact absurd hD (R1.k0.ne q npw)
  have Rw := R1.wipe vs
  have noD : ∀ i d, i ∈ O → (wipeE g vs)[i]? = some (some d) → (wipe σ vs)[i]? ≠ some (some (.ref D)) := fun i d hi hg z => by
    obtain ⟨a, o, k1, k2, _⟩ := Rw.own i d hi hg
    rw [z] at k1
    cases k1
    rw [hD] at k2
    cases k2
  refine ⟨fun i m H => m = xs.length - i ∧ i ≤ xs.length ∧ ∃ F w acc done rest, Rel tk H0 F0 O (wipe σ vs) H F (wipeE g vs) w ∧ Ex tk F1 H1 F H ∧ H D = some (.lst acc) ∧ F D = none ∧ RepL tk F done acc ∧ acc.length ≤ i ∧
      lcLoop t c f (wipeE g vs) (xs.drop i) w = some (rest, w') ∧ done ++ rest = ds, ⟨_, rfl, Nat.zero_le _, F1, w1, [], [], ds, ?_⟩, ?_⟩
  · obtain ⟨Ra, xa⟩ := Rw.allocO hD (.lst [])
    exact ⟨Ra, xa, upd_same, R1.sub.none hD, by simp only [RepL], Nat.zero_le _, e2, rfl⟩
  · rintro i m H2 ⟨rfl, hile, F2, w3, acc, done, rest, R2, x2, hHD, hFD, hacc, hal, hloop, hds⟩
    have io := it F2 H2 x2.sm R2.sub i
    by_cases hlt : i < xs.length
    · have hx : xs[i]? = some xs[i] := List.getElem?_eq_getElem hlt
      obtain ⟨go, yl⟩ := io.1 _ hx
      rw [List.drop_eq_getElem_cons hlt] at hloop
      simp only [lcLoop] at hloop
      split at hloop <;> first | cases hloop | skip
      rename_i g1 hg1
      refine .inr ⟨go, fun H => ∃ F w acc done rest, Rel tk H0 F0 O (wipe σ vs) H F (wipeE g vs) w ∧ Ex tk F1 H1 F H ∧ H D = some (.lst acc) ∧ F D = none ∧ RepL tk F done acc ∧ acc.length ≤ i + 1 ∧
        lcLoop t c f (wipeE g vs) (xs.drop (i + 1)) w = some (rest, w') ∧ done ++ rest = ds, fun H' hN => ⟨_, Nat.lt_of_lt_of_le (Nat.sub_lt_sub_left hlt (Nat.lt_succ_self i)) (Nat.le_refl _), rfl, hlt, hN⟩, fun x H3 y => ?_⟩
      have ⟨F3, R3, x3, r3⟩ : ∃ F3, Rel tk H0 F0 O (wipe σ vs) H3 F3 (wipeE g vs) w3 ∧ Ex tk F2 H2 F3 H3 ∧ RepW wk tk F3 xs[i] x := by
        rcases yl x H3 y with ⟨rfl, r⟩ | ⟨p, o, hp, rfl, r⟩
        · exact ⟨F2, R2, Ex.refl .., r⟩
        · obtain ⟨Ra, xa⟩ := R2.alloc hp o
          exact ⟨_, Ra, xa, r⟩
      refine ⟨tk, H0, F0, F3, _, w3, xs[i], g1, R3, r3, hg1, fun σ4 H4 F4 R4 x4 w4 => ⟨(w4 _ hts).trans wipe_wipe, ?_⟩⟩
      obtain ⟨b, w5, e5, hloop⟩ := bnd_eq hloop
      refine ⟨tk, H0, F0, F4, g1, w3, b, w5, R4, e5, fun H5 F5 R5 x5 => ?_⟩
      have x25 := (x3.trans x4).trans x5
      have ne0 : H2 D ≠ none := by rw [hHD]; exact fun z => nomatch z
      cases b with
      | false =>
        rw [if_neg Bool.false_ne_true] at hloop
        refine iteF ?_
        exact ⟨F5, w5, acc, done, rest, R2.back R5 x25, x2.trans x25, x25.gr.exL hHD npw rfl, x25.nw D npw ne0 hFD, RepL.same x25.sm _ _ hacc, Nat.le_succ_of_le hal, hloop, hds⟩
      | true =>
        rw [if_pos rfl] at hloop
        refine iteT ?_
        obtain ⟨y6, w6, e6, hloop⟩ := bnd_eq hloop
        obtain ⟨r7, w7, e7, hloop⟩ := bnd_eq hloop
        cases hloop
        refine ⟨tk, H0, F0, F5, g1, w5, y6, w6, R5, e6, fun v H6 F6 R6 x6 r6 => ⟨acc, ?_⟩⟩
        have x26 := x25.trans x6
        have hD6 : H6 D = some (.lst acc) := x26.gr.exL hHD npw rfl
        have hF6 : F6 D = none := x26.nw D npw ne0 hFD
        refine ⟨hD6, by omega, F6, w6, acc ++ [v], done ++ [y6], r7, (R2.back R6 x26).free hF6 h0D npw noD, ?_, upd_same, hF6, (RepL.same x26.sm _ _ hacc).snoc r6, by simp; omega, e7, by rw [← hds]; simp⟩
        have xx := x2.trans x26
        exact ⟨xx.sm, fun a u e n => by rw [upd_ne (ne_of_none e hD)]; exact xx.gr a u e n, xx.nw⟩
    · have e : i = xs.length := by omega
      subst e
      refine .inl ⟨io.2 (Nat.le_refl _), ?_⟩
      rw [List.drop_length] at hloop
      have hloop : some (([] : List PySem.PyData), w3) = some (rest, w') := hloop
      cases hloop
      rw [List.append_nil] at hds
      subst hds
      have hD0 : H D = none := by
        cases q : H D with
        | none => rfl
        | some u => exact absurd hD (x1.gr.ne q npw)
      exact k (.ref D) H2 F2 (R1.back R2 x2) (x1.trans x2) ⟨D, .lst acc, rfl, hHD, hFD, hD0, npw, by simpa only [RepO] using hacc⟩
section
variable {X : Cx} {zf : Bool}
theorem EO.lc {O ts : List Nat} {elt tg iter : Expr} {ifs : List Expr} {scope : Scope} {own : List (Str × Nat)} {pos : Pos} {fi : Es} {t : G} {c : T} {f : E} (hc : X.calm = true) (hN : X.N.Nodup) (hi : EI X zf O tg iter fi) (ok : BlkOk X.N X.env.scope scope own)
    (hg : ∀ (s : Shared) (H : Hp) (C : Addr) (cl : List (Str × Addr)) (fp : List Addr), PG (X.blk s H scope (compEnvC scope cl C X.env) fp) tg (rdG X.K X.mg zf (isTupE tg) O ts t)) (ht : ∀ (s : Shared) (H : Hp) (C : Addr) (cl : List (Str × Addr)) (fp : List Addr), PTs (X.blk s H scope (compEnvC scope cl C X.env) fp) ifs (rdT X.K X.mg zf O c))
    (he : ∀ (s : Shared) (H : Hp) (C : Addr) (cl : List (Str × Addr)) (fp : List Addr), EV (X.blk s H scope (compEnvC scope cl C X.env) fp) zf O elt f) (hs : ∀ x, foldedSetIterable iter X.env x = pure x := by intro _; rfl) (hts : ∀ i ∈ ts, i ∈ own.map (·.2) := by decide) :
    EO X zf O (.ListComp elt [⟨tg, iter, ifs, 0⟩] scope pos) (cLc fi t c f (own.map (·.2))) := PE.imp (pe_lc hc hN hi ok hg ht he hs) (lc_read hts)
theorem tests0 {O : List Nat} : PTs X [] (rdT X.K X.mg zf O tYes) := ⟨fun pins s σ H Q I ⟨tk, H0, F0, F, g, w, d, w', R, ef, k⟩ => by
  have ef : some (true, w) = some (d, w') := ef
  cases ef
  exact pts_nil.run pins s σ H Q I (k H F R (Ex.refl ..))⟩
theorem tests1 {O : List Nat} {c : Expr} {f : T} (h : ET X zf O c f) : PTs X [c] (rdT X.K X.mg zf O f) := pts_one h
end
end Q

set_option Elab.async false
set_option linter.all false
set_option autoImplicit false
set_option maxRecDepth 100000
/-! QS6: statements. -/
namespace Q
open PySem PySem.Spec PyProof.Rows L2
section
variable {Kx : PySem.W.Frag} {mx : Str → Option Value} {zf : Bool} {tk : Tk Kx mx zf} {H0 F0 : Hp} {O : List Nat} {σ : L2.St} {H F : Hp} {g : Env} {w : Wd}
/-- other words for the own slots -/
theorem Rel.own' {O' : List Nat} (R : Rel tk H0 F0 O σ H F g w) (h : ∀ j, j ∈ O ↔ j ∈ O') : Rel tk H0 F0 O' σ H F g w :=
  ⟨R.len, R.sub, R.f0, R.k0, R.n0, fun i d hi => R.val i d fun z => hi ((h i).mp z), fun i d hi => R.own i d ((h i).mpr hi), fun i j a d e hi hj => R.sep i j a d e ((h i).mpr hi) ((h j).mpr hj), R.wat⟩
/-- slots that are forgotten may be called own or not -/
theorem Rel.off {O' vs : List Nat} (R : Rel tk H0 F0 O σ H F (wipeE g vs) w) (h : ∀ j, j ∉ vs → (j ∈ O ↔ j ∈ O')) : Rel tk H0 F0 O' σ H F (wipeE g vs) w :=
  ⟨R.len, R.sub, R.f0, R.k0, R.n0, fun i d hi e => R.val i d (fun z => hi ((h i (wipeE_some e).2).mp z)) e, fun i d hi e => R.own i d ((h i (wipeE_some e).2).mpr hi) e,
    fun i j a d e hi hj h1 h2 => R.sep i j a d e ((h i (wipeE_some h1).2).mpr hi) ((h j (wipeE_some h2).2).mpr hj) h1 h2, R.wat⟩
def sameOff (vs O O' : List Nat) : Bool := O.all (fun j => vs.contains j || O'.contains j) && O'.all (fun j => vs.contains j || O.contains j)
theorem sameOff_iff {vs O O' : List Nat} (h : sameOff vs O O' = true) : ∀ j, j ∉ vs → (j ∈ O ↔ j ∈ O') := by
  simp only [sameOff, Bool.and_eq_true, List.all_eq_true, Bool.or_eq_true, List.contains_iff_mem] at h
  exact fun j hj => ⟨fun k => (h.1 j k).resolve_left hj, fun k => (h.2 j k).resolve_left hj⟩
/-- one slot frozen -/
theorem Rel.frz1 (R : Rel tk H0 F0 O σ H F g w) (i : Nat) : ∃ F', Rel tk H0 F0 (O.filter fun j => j ≠ i) σ H F' g w ∧ Same F F' ∧ New tk H0 F F' := by
  have sub : ∀ j, j ∈ O.filter (fun j => j ≠ i) ↔ j ∈ O ∧ j ≠ i := fun j => by simp
  by_cases hi : i ∈ O
  · cases hg : g[i]? with
    | none =>
      refine ⟨F, ⟨R.len, R.sub, R.f0, R.k0, R.n0, fun j d hj e => ?_, fun j d hj e => R.own j d ((sub j).mp hj).1 e, fun j l a d e hj hl => R.sep j l a d e ((sub j).mp hj).1 ((sub l).mp hl).1, R.wat⟩, Same.refl F, fun _ _ _ h => h⟩
      refine R.val j d (fun z => hj ((sub j).mpr ⟨z, fun k => ?_⟩)) e
      rw [k, hg] at e; cases e
    | some o =>
      cases o with
      | none =>
        refine ⟨F, ⟨R.len, R.sub, R.f0, R.k0, R.n0, fun j d hj e => ?_, fun j d hj e => R.own j d ((sub j).mp hj).1 e, fun j l a d e hj hl => R.sep j l a d e ((sub j).mp hj).1 ((sub l).mp hl).1, R.wat⟩, Same.refl F, fun _ _ _ h => h⟩
        refine R.val j d (fun z => hj ((sub j).mpr ⟨z, fun k => ?_⟩)) e
        rw [k, hg] at e; cases e
      | some d0 =>
        obtain ⟨a, o, h1, h2, h3, h4, h5, h6⟩ := R.own i d0 hi hg
        have hr := h6.frz h3
        have s := same_new (o := o) h3
        have R1 : Rel tk H0 F0 (O.filter fun j => j ≠ i) σ H F g w ∨ True := .inr trivial
        refine ⟨upd F a o, ⟨R.len, fun b u e => ?_, R.f0.trans s, R.k0.to s (fun _ _ _ e => e), fun b n e f => ?_, fun j d hj e => ?_, fun j d hj e => ?_, fun j l a d e hj hl => R.sep j l a d e ((sub j).mp hj).1 ((sub l).mp hl).1, ?_⟩, s, fun b n e f => ?_⟩
        · by_cases h : b = a
          · subst h; rw [upd_same] at e; cases e; exact .inl h2
          · rw [upd_ne h] at e; exact R.sub b u e
        · have ne : b ≠ a := fun z => e (by rw [z]; exact h4)
          rw [upd_ne ne]; exact R.n0 b n e f
        · by_cases hji : j = i
          · subst hji
            rw [hg] at e
            cases e
            exact ⟨_, h1, hr⟩
          · obtain ⟨v, k1, k2⟩ := R.val j d (fun z => hj ((sub j).mpr ⟨z, hji⟩)) e
            exact ⟨v, k1, Rep.same s _ _ k2⟩
        · obtain ⟨hj1, hj2⟩ := (sub j).mp hj
          obtain ⟨b, u, k1, k2, k3, k4, k5, k6⟩ := R.own j d hj1 e
          have ne : b ≠ a := fun z => hj2 (R.sep j i a d d0 hj1 hi e hg (by rw [← z]; exact k1) h1)
          exact ⟨b, u, k1, k2, by rw [upd_ne ne]; exact k3, k4, k5, k6.same s⟩
        · exact R.wat.to (fun _ _ => rfl) s fun q e => by rw [upd_ne (fun z => h5 (by rw [e, z]))]; exact R.fw q e
        · have ne : b ≠ a := fun z => e (by rw [z]; exact h4)
          rw [upd_ne ne]; exact f
  · refine ⟨F, R.own' fun j => ?_, Same.refl F, fun _ _ _ h => h⟩
    rw [sub j]
    exact ⟨fun k => ⟨k, fun z => hi (z ▸ k)⟩, fun k => k.1⟩
theorem Rel.frzs (R : Rel tk H0 F0 O σ H F g w) : ∀ L : List Nat, ∃ F', Rel tk H0 F0 (O.filter fun j => !L.contains j) σ H F' g w
  | [] => ⟨F, R.own' fun j => by simp⟩
  | i :: L => by
    obtain ⟨F1, R1⟩ := R.frzs L
    obtain ⟨F2, R2, _⟩ := R1.frz1 i
    refine ⟨F2, R2.own' fun j => ?_⟩
    simp only [List.mem_filter, Bool.not_eq_true', List.contains_eq_mem, decide_eq_false_iff_not, List.mem_cons, not_or, ne_eq, decide_eq_true_eq]
    exact ⟨fun ⟨⟨a, b⟩, c⟩ => ⟨a, by simpa using c, b⟩, fun ⟨a, c, b⟩ => ⟨⟨a, b⟩, by simpa using c⟩⟩
/-- a slot gets a new own object -/
theorem Rel.setOwn {O' : List Nat} (R : Rel tk H0 F0 O σ H F g w) {i : Nat} {d : D} {a : Addr} {o : HO} (hO : ∀ j, j ∈ O' ↔ j = i ∨ j ∈ O) (hi : i < g.length) (h2 : H a = some o) (h3 : F a = none) (h4 : H0 a = none) (h5 : tk.pw ≠ some a) (h6 : RepO tk F d o)
    (no : ∀ j e, j ∈ O → g[j]? = some (some e) → σ[j]? ≠ some (some (.ref a))) : Rel tk H0 F0 O' (σ.set i (some (.ref a))) H F (g.set i (some d)) w := by
  have hl := R.len
  refine ⟨by simpa using hl, R.sub, R.f0, R.k0, R.n0, fun j e hj h => ?_, fun j e hj h => ?_, fun j l b e e' hj hll h h' k k' => ?_, R.wat⟩
  · have z : j ≠ i := fun z => hj ((hO j).mpr (.inl z))
    rw [List.getElem?_set_ne (Ne.symm z)] at h ⊢
    exact R.val j e (fun z => hj ((hO j).mpr (.inr z))) h
  · by_cases z : j = i
    · subst z
      rw [List.getElem?_set_self hi] at h
      cases h
      exact ⟨a, o, List.getElem?_set_self (by omega), h2, h3, h4, h5, h6⟩
    · rw [List.getElem?_set_ne (Ne.symm z)] at h ⊢
      exact R.own j e (((hO j).mp hj).resolve_left z) h
  · by_cases z : j = i
    · by_cases z' : l = i
      · rw [z, z']
      · exfalso
        subst z
        rw [List.getElem?_set_self (by omega)] at k
        rw [List.getElem?_set_ne (Ne.symm z')] at h' k'
        cases k
        exact no l e' (((hO l).mp hll).resolve_left z') h' k'
    · by_cases z' : l = i
      · exfalso
        subst z'
        rw [List.getElem?_set_self (by omega)] at k'
        rw [List.getElem?_set_ne (Ne.symm z)] at h k
        cases k'
        exact no j e (((hO j).mp hj).resolve_left z) h k
      · rw [List.getElem?_set_ne (Ne.symm z)] at h k
        rw [List.getElem?_set_ne (Ne.symm z')] at h' k'
        exact R.sep j l b e e' (((hO j).mp hj).resolve_left z) (((hO l).mp hll).resolve_left z') h h' k k'
/-- the own object of a slot changes -/
theorem Rel.mut (R : Rel tk H0 F0 O σ H F g w) {i : Nat} {d d' : D} {a : Addr} {o' : HO} (hO : i ∈ O) (hg : g[i]? = some (some d)) (hs : σ[i]? = some (some (.ref a))) (h6 : RepO tk F d' o') : Rel tk H0 F0 O σ (upd H a o') F (g.set i (some d')) w := by
  obtain ⟨b, o, h1, h2, h3, h4, h5, _⟩ := R.own i d hO hg
  rw [hs] at h1
  cases h1
  have hi : i < g.length := (List.getElem?_eq_some_iff.mp hg).1
  have hl := R.len
  refine ⟨by simpa using hl, fun b u e => ?_, R.f0, fun b u e n => ?_, R.n0, fun j e hj h => ?_, fun j e hj h => ?_, fun j l b e e' hj hll h h' k k' => ?_, ?_⟩
  · have ne : b ≠ a := fun z => by rw [z, h3] at e; cases e
    rcases R.sub b u e with k | ⟨k, ob, q⟩
    · exact .inl (by rw [upd_ne ne]; exact k)
    · exact .inr ⟨k, ob, by rw [upd_ne ne]; exact q⟩
  · rw [upd_ne (ne_of_none e h4)]; exact R.k0 b u e n
  · have z : j ≠ i := fun z => hj (z ▸ hO)
    rw [List.getElem?_set_ne (Ne.symm z)] at h
    exact R.val j e hj h
  · by_cases z : j = i
    · subst z
      rw [List.getElem?_set_self hi] at h
      cases h
      exact ⟨a, o', hs, upd_same, h3, h4, h5, h6⟩
    · rw [List.getElem?_set_ne (Ne.symm z)] at h
      obtain ⟨b, u, k1, k2, k3⟩ := R.own j e hj h
      have ne : b ≠ a := fun q => z (R.sep j i a e d hj hO h hg (by rw [← q]; exact k1) hs)
      exact ⟨b, u, k1, by rw [upd_ne ne]; exact k2, k3⟩
  · have key : ∀ j e, (g.set i (some d'))[j]? = some (some e) → ∃ e, g[j]? = some (some e) := fun j e h => by
      by_cases z : j = i
      · exact ⟨d, z ▸ hg⟩
      · rw [List.getElem?_set_ne (Ne.symm z)] at h
        exact ⟨e, h⟩
    obtain ⟨e1, h1⟩ := key j e h
    obtain ⟨e2, h2⟩ := key l e' h'
    exact R.sep j l b e1 e2 hj hll h1 h2 k k'
  · exact R.wat.to (fun q e => upd_ne fun z => h5 (by rw [e, z])) (Same.refl F) R.fw
end

section
variable {X : Cx} {zf : Bool} {O O' O1 Ol : List Nat}
/-! ### one after another -/
theorem SOut.weaken {Kx : PySem.W.Frag} {mx : Str → Option Value} {zf : Bool} {tk : Tk Kx mx zf} {H0 F0 : Hp} {D : Ends} {w' : Wd} {o : Out} (h : SOut tk H0 F0 O' Ol D w' o) {D2 : Ends} (hn : ∀ g' σ' H' F', o = .nx g' → Rel tk H0 F0 O1 σ' H' F' g' w' → D2.nx σ' H') (hr : D2.rt = D.rt) (hb : D2.bk = D.bk) (hc : D2.ct = D.ct) : SOut tk H0 F0 O1 Ol D2 w' o := by
  cases o with
  | nx g' => exact fun σ' H' F' R => hn g' σ' H' F' rfl R
  | rt d => simp only [SOut] at h ⊢; rw [hr]; exact h
  | bk g' => simp only [SOut] at h ⊢; rw [hb]; exact h
  | ct g' => simp only [SOut] at h ⊢; rw [hc]; exact h
theorem ESs.one {st : Stmt} {f : S} (h : ES X zf O O' Ol st f) : ESs X zf O O' Ol [st] f := pss_one h
theorem ESs.cons {st : Stmt} {rest : List Stmt} {f h : S} (h1 : ES X zf O O1 Ol st f) (h2 : ESs X zf O1 O' Ol rest h) : ESs X zf O O' Ol (st :: rest) (sSeq f h) := PSs.imp (pss_cons h1 h2) fun D σ H ⟨tk, H0, F0, F, g, w, o, w', R, ef, q⟩ => by
  obtain ⟨o1, w1, e1, ef⟩ := bnd_eq (show bnd (f g w) _ = _ from ef)
  refine ⟨tk, H0, F0, F, g, w, o1, w1, R, e1, ?_⟩
  cases o1 with
  | nx g1 =>
    simp only at ef
    exact fun σ' H' F' R' => ⟨tk, H0, F0, F', g1, w1, o, w', R', ef, q⟩
  | rt d => simp only at ef; cases ef; exact q
  | bk g1 => simp only at ef; cases ef; exact q
  | ct g1 => simp only at ef; cases ef; exact q
/-- own slots frozen ahead of a statement -/
theorem ES.frz {st : Stmt} {f : S} (L : List Nat) (h : ES X zf O1 O' Ol st f) (hO : (O.filter fun j => !L.contains j) = O1 := by rfl) : ES X zf O O' Ol st f := PS.imp h fun D σ H ⟨tk, H0, F0, F, g, w, o, w', R, ef, q⟩ => by
  obtain ⟨F', R'⟩ := R.frzs L
  rw [hO] at R'
  exact ⟨tk, H0, F0, F', g, w, o, w', R', ef, q⟩
theorem ESs.frz {st : List Stmt} {f : S} (L : List Nat) (h : ESs X zf O1 O' Ol st f) (hO : (O.filter fun j => !L.contains j) = O1 := by rfl) : ESs X zf O O' Ol st f := PSs.imp h fun D σ H ⟨tk, H0, F0, F, g, w, o, w', R, ef, q⟩ => by
  obtain ⟨F', R'⟩ := R.frzs L
  rw [hO] at R'
  exact ⟨tk, H0, F0, F', g, w, o, w', R', ef, q⟩
/-- .. behind one -/
theorem ESs.post {st : List Stmt} {f : S} (L : List Nat) (h : ESs X zf O O1 Ol st f) (hO : (O1.filter fun j => !L.contains j) = O' := by rfl) : ESs X zf O O' Ol st f := PSs.imp h fun D σ H ⟨tk, H0, F0, F, g, w, o, w', R, ef, q⟩ => by
  refine ⟨tk, H0, F0, F, g, w, o, w', R, ef, q.weaken (fun g' σ' H' F' e R' => ?_) rfl rfl rfl⟩
  obtain ⟨F2, R2⟩ := R'.frzs L
  rw [hO] at R2
  subst e
  exact q σ' H' F2 R2
/-- slots forgotten behind a block -/
theorem ESs.forget {st : List Stmt} {f : S} (vs : List Nat) (h : ESs X zf O O1 Ol st f) (hO : sameOff vs O1 O' = true := by rfl) : ESs X zf O O' Ol st (sSeq f (sForget vs)) := PSs.imp h fun D σ H ⟨tk, H0, F0, F, g, w, o, w', R, ef, q⟩ => by
  obtain ⟨o1, w1, e1, ef⟩ := bnd_eq (show bnd (f g w) _ = _ from ef)
  refine ⟨tk, H0, F0, F, g, w, o1, w1, R, e1, ?_⟩
  cases o1 with
  | nx g1 =>
    simp only [sForget] at ef
    cases ef
    exact fun σ' H' F' R' => q σ' H' F' ((R'.wipeG vs).off (sameOff_iff hO))
  | rt d => simp only at ef; cases ef; exact q
  | bk g1 => simp only at ef; cases ef; exact q
  | ct g1 => simp only at ef; cases ef; exact q
theorem ESs.nil : ESs X zf O O Ol [] sPass := PSs.imp pss_nil fun D σ H ⟨tk, H0, F0, F, g, w, o, w', R, ef, q⟩ => by
  have ef : some (Out.nx g, w) = some (o, w') := ef
  cases ef
  exact q σ H F R
theorem ES.pass {pos : Pos} : ES X zf O O Ol (.Pass pos) sPass := PS.imp ps_pass fun D σ H ⟨tk, H0, F0, F, g, w, o, w', R, ef, q⟩ => by
  have ef : some (Out.nx g, w) = some (o, w') := ef
  cases ef
  exact q σ H F R
theorem ES.break {pos : Pos} : ES X zf O O' O (.Break pos) sBreak := PS.imp ps_break fun D σ H ⟨tk, H0, F0, F, g, w, o, w', R, ef, q⟩ => by
  have ef : some (Out.bk g, w) = some (o, w') := ef
  cases ef
  exact q σ H F R
theorem ES.cont {pos : Pos} : ES X zf O O' O (.Continue pos) sCont := PS.imp ps_continue fun D σ H ⟨tk, H0, F0, F, g, w, o, w', R, ef, q⟩ => by
  have ef : some (Out.ct g, w) = some (o, w') := ef
  cases ef
  exact q σ H F R
theorem ES.ret {e : Expr} {f : E} {pos : Pos} (h : EV X zf O e f) : ES X zf O O' Ol (.Return (some e) pos) (sRet f) := PS.imp (ps_ret h) fun D σ H ⟨tk, H0, F0, F, g, w, o, w', R, ef, q⟩ => by
  obtain ⟨d, w1, e1, ef⟩ := bnd_eq (show bnd (f g w) _ = _ from ef)
  cases ef
  exact ⟨tk, H0, F0, F, g, w, d, _, R, e1, fun v H' F' R' x r => q v H' F' R'.sub R'.f0 R'.k0 R'.n0 R'.wat r⟩
theorem ES.if {c : Expr} {a b : List Stmt} {fc : T} {fa fb : S} {pos : Pos} (hc : ET X zf O c fc) (ha : ESs X zf O O' Ol a fa) (hb : ESs X zf O O' Ol b fb) : ES X zf O O' Ol (.If c a b pos) (sIf fc fa fb) := PS.imp (ps_if hc ha hb) fun D σ H ⟨tk, H0, F0, F, g, w, o, w', R, ef, q⟩ => by
  obtain ⟨c, w1, e1, ef⟩ := bnd_eq (show bnd (fc g w) _ = _ from ef)
  refine ⟨tk, H0, F0, F, g, w, c, w1, R, e1, fun H1 F1 R1 x1 => ?_⟩
  cases c with
  | true =>
    rw [if_pos rfl] at ef
    exact iteT ⟨tk, H0, F0, F1, g, w1, o, w', R1, ef, q⟩
  | false =>
    rw [if_neg Bool.false_ne_true] at ef
    exact iteF ⟨tk, H0, F0, F1, g, w1, o, w', R1, ef, q⟩
/-! ### stores -/
theorem ES.set {tg e : Expr} {f : E} {ts : List Nat} {t : G} {pos : Pos} (h : EV X zf O e f) (hg : PG X tg (rdG X.K X.mg zf (isTupE tg) O ts t)) (hs : swapsWithSole [tg] e pos.line X.env = pure false := by rfl) (hw : swappedStores [tg] e X.env = pure none := by rfl) (h1 : (assignEach [tg] X.env).map (·.2) = [assign tg X.env] := by rfl) :
    ES X zf O O Ol (.Assign [tg] e pos) (sSet t f) := PS.imp (ps_asg h hg hs hw h1) fun D σ H ⟨tk, H0, F0, F, g, w, o, w', R, ef, q⟩ => by
  obtain ⟨d, w1, e1, ef⟩ := bnd_eq (show bnd (f g w) _ = _ from ef)
  refine ⟨tk, H0, F0, F, g, w, d, w1, R, e1, fun v H1 F1 R1 x1 r1 => ?_⟩
  split at ef <;> first | cases ef | skip
  rename_i g1 hg1
  exact ⟨tk, H0, F0, F1, g, _, d, _, R1, .inl r1, hg1, fun σ2 H2 F2 R2 x2 _ => q σ2 H2 F2 R2⟩
/-- a comprehension to a local name, on one line -/
theorem tAsg_own {Kx : PySem.W.Frag} {mx : Str → Option Value} {zf : Bool} {i : Nat} {f : E} (hO : ∀ j, j ∈ O' ↔ j = i ∨ j ∈ O) : ∀ D σ H, rdS Kx mx zf O O' Ol (sSet (gName i) f) D σ H → tAsg (rdO Kx mx zf O f) (L2.gName i) D σ H := fun D σ H ⟨tk, H0, F0, F, g, w, o, w', R, ef, q⟩ => by
  obtain ⟨d, w1, e1, ef⟩ := bnd_eq (show bnd (f g w) _ = _ from ef)
  simp only [gName] at ef
  refine ⟨tk, H0, F0, F, g, w, d, w1, R, e1, fun v H1 F1 R1 x1 r1 => ?_⟩
  obtain ⟨a, u, rfl, h2, h3, hH, h5, h6⟩ := r1
  have h0 : H0 a = none := by
    cases z : H0 a with
    | none => rfl
    | some y => exact absurd hH (R.k0.ne z h5)
  have no : ∀ j e, j ∈ O → g[j]? = some (some e) → σ[j]? ≠ some (some (.ref a)) := fun j e hj hg z => by
    obtain ⟨b, y, k1, k2, _⟩ := R.own j e hj hg
    rw [z] at k1
    cases k1
    rw [hH] at k2; cases k2
  split at ef
  · rename_i g1 hg1
    split at hg1 <;> first | cases hg1 | skip
    rename_i hi
    cases ef
    exact q _ H1 F1 (R1.setOwn hO hi h2 h3 h0 h5 h6 no)
  · cases ef
def addO (i : Nat) (O O' : List Nat) : Bool := O'.contains i && O.all (fun j => O'.contains j) && O'.all (fun j => j == i || O.contains j)
theorem addO_iff {i : Nat} {O O' : List Nat} (h : addO i O O' = true) : ∀ j, j ∈ O' ↔ j = i ∨ j ∈ O := by
  simp only [addO, Bool.and_eq_true, List.all_eq_true, Bool.or_eq_true, List.contains_iff_mem, beq_iff_eq] at h
  exact fun j => ⟨fun k => h.2 j k, fun k => k.elim (fun z => z ▸ h.1.1) (h.1.2 j)⟩
/-- a new object to a name: the slot's own -/
theorem ES.setO {x : Str} {px pos : Pos} {e : Expr} {f : E} (i : Nat) (hN : X.N.Nodup) (h : EO X zf O e f) (hi : X.N[i]? = some x := by rfl) (hx : Loc X.env.scope x := by first | exact Or.inl rfl | exact Or.inr rfl) (hf : X.fn x = true ∨ X.env.scope.names.lookup x = some .local := by first | exact .inl rfl | exact .inr rfl)
    (hs : swapsWith e (some (.Name x px)) pos.line X.env = pure false := by rfl) (hO : addO i O O' = true := by rfl) : ES X zf O O' Ol (.Assign [.Name x px] e pos) (sSet (gName i) f) := PS.imp (ps_set hN hi hx h hs hf) (tAsg_own (addO_iff hO))
theorem ES.setLc {ts : List Nat} {y : Str} {py : Pos} {elt tg iter : Expr} {ifs : List Expr} {scope : Scope} {own : List (Str × Nat)} {pos spos : Pos} {fi : Es} {t : G} {c : T} {f : E} (i : Nat) (hc : X.calm = true) (hN : X.N.Nodup) (hi : EI X zf O tg iter fi) (ok : BlkOk X.N X.env.scope scope own)
    (hg : ∀ (s : Shared) (H : Hp) (C : Addr) (cl : List (Str × Addr)) (fp : List Addr), PG (X.blk s H scope (compEnvC scope cl C X.env) fp) tg (rdG X.K X.mg zf (isTupE tg) O ts t)) (ht : ∀ (s : Shared) (H : Hp) (C : Addr) (cl : List (Str × Addr)) (fp : List Addr), PTs (X.blk s H scope (compEnvC scope cl C X.env) fp) ifs (rdT X.K X.mg zf O c))
    (he : ∀ (s : Shared) (H : Hp) (C : Addr) (cl : List (Str × Addr)) (fp : List Addr), EV (X.blk s H scope (compEnvC scope cl C X.env) fp) zf O elt f) (hsw : swapsWith (.ListComp elt [⟨tg, iter, ifs, 0⟩] scope pos) (some (.Name y py)) spos.line X.env = pure true)
    (hy : X.N[i]? = some y := by rfl) (hyl : X.env.scope.names.lookup y = some .local := by rfl) (hs : ∀ x, foldedSetIterable iter X.env x = pure x := by intro _; rfl) (hts : ∀ i ∈ ts, i ∈ own.map (·.2) := by decide) (hO : addO i O O' = true := by rfl) :
    ES X zf O O' Ol (.Assign [.Name y py] (.ListComp elt [⟨tg, iter, ifs, 0⟩] scope pos) spos) (sSet (gName i) (cLc fi t c f (own.map (·.2)))) :=
  PS.imp (ps_setLc hc hN hy hyl hsw hi ok hg ht he hs) fun D σ H h => lc_read hts _ _ _ (tAsg_own (addO_iff hO) D σ H h)
/-! the same, the slot not its own: frozen at once -/
theorem tAsg_val {Kx : PySem.W.Frag} {mx : Str → Option Value} {zf : Bool} {i : Nat} {f : E} (hO : i ∉ O) : ∀ D σ H, rdS Kx mx zf O O Ol (sSet (gName i) f) D σ H → tAsg (rd Kx mx zf O f) (L2.gName i) D σ H := fun D σ H ⟨tk, H0, F0, F, g, w, o, w', R, ef, q⟩ => by
  obtain ⟨d, w1, e1, ef⟩ := bnd_eq (show bnd (f g w) _ = _ from ef)
  simp only [gName] at ef
  refine ⟨tk, H0, F0, F, g, w, d, w1, R, e1, fun v H1 F1 R1 x1 r1 => ?_⟩
  split at ef
  · rename_i g1 hg1
    split at hg1 <;> first | cases hg1 | skip
    rename_i hi
    cases ef
    exact q _ H1 F1 (R1.set hO r1 hi)
  · cases ef
/-! ### calls that change an own object -/
theorem mutS_eq {i : Nat} {f : D → Option D} {g : Env} {w : Wd} {o : Out} {w' : Wd} (h : mutS i f g w = some (o, w')) : ∃ x y, g[i]? = some (some x) ∧ f x = some y ∧ o = .nx (g.set i (some y)) ∧ w' = w := by
  simp only [mutS] at h
  split at h <;> first | cases h | skip
  rename_i x hx
  split at h <;> first | cases h | skip
  rename_i y hy
  exact ⟨x, y, Option.join_eq_some_iff.mp hx, hy, rfl, rfl⟩
theorem apD_eq {x d y : D} (h : apD x d = some y) : ∃ ds, x = .list ds ∧ ds.length < sizeLine ∧ y = .list (ds ++ [d]) := by
  cases x <;> simp only [apD] at h <;> first | cases h | skip
  split at h
  · rename_i hlt
    exact ⟨_, rfl, hlt, (Option.some.inj h).symm⟩
  · cases h
theorem exD_eq {x d y : D} (h : exD x d = some y) : ∃ ds es, x = .list ds ∧ d = .list es ∧ ds.length + es.length ≤ sizeLine ∧ y = .list (ds ++ es) := by
  cases x <;> cases d <;> simp only [exD] at h <;> first | cases h | skip
  split at h
  · rename_i hlt
    exact ⟨_, _, rfl, rfl, hlt, (Option.some.inj h).symm⟩
  · cases h
theorem RepO.lst {Kx : PySem.W.Frag} {mx : Str → Option Value} {zf : Bool} {tk : Tk Kx mx zf} {F : Hp} {ds : List D} {u : HO} (h : RepO tk F (.list ds) u) : ∃ xs, u = .lst xs ∧ RepL tk F ds xs := by
  cases u <;> simp only [RepO] at h
  exact ⟨_, rfl, h⟩
/-- the name of an own list, as a receiver -/
theorem ES.app {x : Str} {px apos cpos spos : Pos} {e : Expr} {f : E} (i : Nat) (h : EV X zf O e f) (hO : i ∈ O := by decide) (hN : X.N[i]? = some x := by rfl) (hv : Vis X.env.scope x := by first | exact Or.inl rfl | exact Or.inr (Or.inl rfl) | exact Or.inr (Or.inr rfl)) (hd : (x == ("__debug__" : Str)) = false := by decide)
    (hcd : (x == ("__classdict__" : Str)) = false := by decide) (hs : starEach [e] X.env = (false, eval e X.env) :: starEach [] X.env := by rfl)
    (hbase : attributeBase (.Name x px) "append" X.env (eval (.Name x px) X.env) = eval (.Name x px) X.env := by rfl)
    (hfew : ((backTo cpos (starEach [e] X.env)).all (fun x => !x.1) && (backToKw cpos (keywordEach [] X.env)).all (fun x => x.1.isSome)
      && decide (([e] : List Expr).length + ([] : List Keyword).length + (if ([] : List Keyword).isEmpty then 0 else 1) < 30)) = true := by rfl)
    (hline : (apos.endLine == cpos.line) = true := by rfl) (hplain : (backTo cpos (starEach [] X.env)).any (·.1) = false := by rfl)
    (hsw : swapsWith (.Call (.Attribute (.Name x px) "append" apos) [e] [] cpos) none spos.line X.env = pure false := by rfl) :
    ES X zf O O Ol (.Expr (.Call (.Attribute (.Name x px) "append" apos) [e] [] cpos) spos) (sApp i f) :=
  PS.imp (ps_expr (pe_bm PySem.F.plainAttrs_list PySem.F.slot_list_append PySem.F.type_list_append mt_append (pe_var (i := i) hN hv hd hcd) (EA.cons h EA.nil hs) hbase hfew hline hs hplain) hsw) fun D σ H ⟨tk, H0, F0, F, g, w, o, w', R, ef, q⟩ => by
  obtain ⟨d, w1, e1, ef⟩ := bnd_eq (show bnd (f g w) _ = _ from ef)
  obtain ⟨x0, y0, hg, hf, rfl, rfl⟩ := mutS_eq ef
  obtain ⟨ds, rfl, hlt, rfl⟩ := apD_eq hf
  obtain ⟨a, u, h1, h2, h3, h4, h5, h6⟩ := R.own i _ hO hg
  obtain ⟨xs, rfl, h6⟩ := RepO.lst h6
  refine ⟨.ref a, h1, .inl ⟨rfl, _, .inl (.inl h2)⟩, tk, H0, F0, F, g, w, [d], w', R, by simp [cArgs, e1], fun vs H1 F1 R1 x1 r1 => ?_⟩
  match vs, r1 with
  | [], r1 => simp only [RepL] at r1
  | _ :: _ :: _, r1 => simp only [RepL] at r1; exact r1.2.elim
  | [v], r1 =>
    simp only [RepL] at r1
    have k2 := x1.gr.exL h2 h5 rfl
    refine ⟨a, xs, v, rfl, rfl, k2, by rw [← h6.length]; exact hlt, ?_⟩
    exact q σ _ F1 (R1.mut hO hg h1 (by simp only [RepO]; exact (RepL.same x1.sm _ _ h6).snoc r1.1))
end
end Q

set_option Elab.async false
set_option linter.all false
set_option autoImplicit false
set_option maxRecDepth 100000
/-! QS7: loops, several stores at once, names changed in place. -/
namespace Q
open PySem PySem.Spec PyProof.Rows L2
section
variable {Kx : PySem.W.Frag} {mx : Str → Option Value} {zf : Bool} {tk : Tk Kx mx zf} {H0 F0 F1 : Hp} {O : List Nat} {σ : L2.St} {H F : Hp} {g : Env} {w : Wd}
/-- from now on F1 is what was frozen first -/
theorem Rel.now (R : Rel tk H0 F0 O σ H F g w) : Rel tk H0 F O σ H F g w := ⟨R.len, R.sub, Same.refl F, R.k0, fun _ _ _ h => h, R.val, R.own, R.sep, R.wat⟩
theorem Rel.ago (R : Rel tk H0 F1 O σ H F g w) (s : Same F0 F1) (n : New tk H0 F0 F1) : Rel tk H0 F0 O σ H F g w :=
  ⟨R.len, R.sub, s.trans R.f0, R.k0, fun a na ha fa => R.n0 a na ha (n a na ha fa), R.val, R.own, R.sep, R.wat⟩
end
section
variable {X : Cx} {zf : Bool} {O O' Oh Ob Ol : List Nat}
theorem ES.for {tg iter : Expr} {body : List Stmt} {fi : Es} {t : G} {ts : List Nat} {fb : S} {pos : Pos} (vs : List Nat) (hp : PassesOwn (model X.prog X.w) X.A X.env X.xe) (hc : X.calm = true) (hi : EI X zf O tg iter fi) (hg : PG X tg (rdG X.K X.mg zf (isTupE tg) Oh ts t)) (hb : ESs X zf Oh Ob Oh body fb)
    (h1 : sameOff vs O Oh = true := by rfl) (h2 : sameOff vs Ob Oh = true := by rfl) (h3 : sameOff vs Oh O' = true := by rfl) (hs : ∀ x, foldedSetIterable iter X.env x = pure x := by intro _; rfl) : ES X zf O O' Ol (.For tg iter body [] pos) (sFor fi t fb vs) :=
  PS.imp (ps_for hp hc hi hg hb hs) fun D σ H ⟨tk, H0, F0, F, g, w, o, w', R, ef, q⟩ => by
  obtain ⟨xs, w1, e1, ef⟩ := bnd_eq (show bnd (fi g w) _ = _ from ef)
  refine ⟨tk, H0, F0, F, g, w, xs, w1, R, e1, fun J H1 F1 R1 x1 it => ?_⟩
  have s01 : Same F0 F1 := R1.f0
  have n01 : New tk H0 F0 F1 := R1.n0
  refine ⟨fun i m σ H => m = xs.length - i ∧ i ≤ xs.length ∧ ∃ F g w, Rel tk H0 F1 Oh σ H F (wipeE g vs) w ∧ loopS t fb vs (xs.drop i) g w = some (o, w'), ⟨_, rfl, Nat.zero_le _, F1, g, w1, (R1.now.wipeG vs).off (sameOff_iff h1), ef⟩, ?_⟩
  rintro i m σ2 H2 ⟨rfl, hile, F2, g2, w2, R2, hloop⟩
  have io := it F2 H2 R2.f0 R2.sub i
  by_cases hlt : i < xs.length
  · have hx : xs[i]? = some xs[i] := List.getElem?_eq_getElem hlt
    obtain ⟨go, yl⟩ := io.1 _ hx
    rw [List.drop_eq_getElem_cons hlt] at hloop
    simp only [loopS] at hloop
    split at hloop <;> first | cases hloop | skip
    rename_i g3 hg3
    refine .inr ⟨go, fun σ H => ∃ F g w, Rel tk H0 F1 Oh σ H F (wipeE g vs) w ∧ loopS t fb vs (xs.drop (i + 1)) g w = some (o, w'), fun σ' H' hN => ⟨_, Nat.sub_lt_sub_left hlt (Nat.lt_succ_self i), rfl, hlt, hN⟩, fun x H3 y => ?_⟩
    have ⟨F3, R3, r3⟩ : ∃ F3, Rel tk H0 F1 Oh σ2 H3 F3 (wipeE g2 vs) w2 ∧ RepW (isTupE tg) tk F3 xs[i] x := by
      rcases yl x H3 y with ⟨rfl, r⟩ | ⟨p, u, hp, rfl, r⟩
      · exact ⟨F2, R2, r⟩
      · exact ⟨_, (R2.alloc hp u).1, r⟩
    refine ⟨tk, H0, F1, F3, _, w2, xs[i], g3, R3, r3, hg3, fun σ4 H4 F4 R4 x4 _ => ?_⟩
    obtain ⟨o5, w5, e5, hloop⟩ := bnd_eq hloop
    refine ⟨tk, H0, F1, F4, g3, w2, o5, w5, R4, e5, ?_⟩
    cases o5 with
    | nx g6 =>
      simp only at hloop
      exact fun σ' H' F' R' => ⟨F', g6, w5, (R'.wipeG vs).off (sameOff_iff h2), hloop⟩
    | ct g6 =>
      simp only at hloop
      exact fun σ' H' F' R' => ⟨F', g6, w5, R'.wipeG vs, hloop⟩
    | bk g6 =>
      simp only at hloop
      cases hloop
      exact fun σ' H' F' R' => q σ' H' F' (((R'.wipeG vs).off (sameOff_iff h3)).ago s01 n01)
    | rt d =>
      simp only at hloop
      cases hloop
      exact fun v H' F' a1 a2 a3 a4 a5 a6 => q v H' F' a1 (s01.trans a2) a3 (fun a na ha fa => a4 a na ha (n01 a na ha fa)) a5 a6
  · have e : i = xs.length := by omega
    subst e
    rw [List.drop_length] at hloop
    have hloop : some (Out.nx (wipeE g2 vs), w2) = some (o, w') := hloop
    cases hloop
    exact .inl ⟨io.2 (Nat.le_refl _), q σ2 H2 F2 ((R2.off (sameOff_iff h3)).ago s01 n01)⟩
theorem ES.while {c : Expr} {body : List Stmt} {fc : T} {fb : S} {pos : Pos} (vs : List Nat) (n : Nat) (hp : PassesOwn (model X.prog X.w) X.A X.env X.xe) (hc : ET X zf Oh c fc) (hb : ESs X zf Oh Ob Oh body fb)
    (h1 : sameOff vs O Oh = true := by rfl) (h2 : sameOff vs Ob Oh = true := by rfl) (h3 : sameOff vs Oh O' = true := by rfl) : ES X zf O O' Ol (.While c body [] pos) (sWhile fc fb vs n) :=
  PS.imp (ps_while hp hc hb) fun D σ H ⟨tk, H0, F0, F, g, w, o, w', R, ef, q⟩ => by
  refine ⟨fun m σ H => ∃ F g w, Rel tk H0 F0 Oh σ H F (wipeE g vs) w ∧ whileS fc fb vs m g w = some (o, w'), ⟨n, F, g, w, (R.wipeG vs).off (sameOff_iff h1), ef⟩, ?_⟩
  rintro m σ2 H2 ⟨F2, g2, w2, R2, hl⟩
  cases m with
  | zero => simp only [whileS] at hl; cases hl
  | succ m =>
    simp only [whileS] at hl
    obtain ⟨k, w3, e3, hl⟩ := bnd_eq hl
    refine ⟨tk, H0, F0, F2, _, w2, k, w3, R2, e3, fun H3 F3 R3 x3 => ?_⟩
    cases k with
    | false =>
      rw [if_neg Bool.false_ne_true] at hl
      cases hl
      exact iteF (q σ2 H3 F3 (R3.off (sameOff_iff h3)))
    | true =>
      rw [if_pos rfl] at hl
      refine iteT ⟨fun σ H => ∃ F g w, Rel tk H0 F0 Oh σ H F (wipeE g vs) w ∧ whileS fc fb vs m g w = some (o, w'), fun σ' H' hN => ⟨m, Nat.lt_succ_self m, hN⟩, ?_⟩
      obtain ⟨o5, w5, e5, hl⟩ := bnd_eq hl
      refine ⟨tk, H0, F0, F3, _, w3, o5, w5, R3, e5, ?_⟩
      cases o5 with
      | nx g6 =>
        simp only at hl
        exact fun σ' H' F' R' => ⟨F', g6, w5, (R'.wipeG vs).off (sameOff_iff h2), hl⟩
      | ct g6 =>
        simp only at hl
        exact fun σ' H' F' R' => ⟨F', g6, w5, R'.wipeG vs, hl⟩
      | bk g6 =>
        simp only at hl
        cases hl
        exact fun σ' H' F' R' => q σ' H' F' ((R'.wipeG vs).off (sameOff_iff h3))
      | rt d =>
        simp only at hl
        cases hl
        exact q
/-! ### x += e of ints -/
def sAugN (i : Nat) (f : D → D → Option D) (e : E) : S := fun g w => match (g[i]?).join with
  | some x => bnd (e g w) fun d w1 => match f x d with
    | some y => some (.nx (g.set i (some y)), w1)
    | none => none
  | none => none
def addI : D → D → Option D
  | .int i, .int j => some (.int (i + j))
  | _, _ => none
theorem augN_read {Kx : PySem.W.Frag} {mx : Str → Option Value} {zf : Bool} {i : Nat} {f : D → D → Option D} {gi : Int → Int → Int} {e : E} (hO : i ∉ O) (hf : ∀ x y d, f x y = some d → ∃ a b, x = .int a ∧ y = .int b ∧ d = .int (gi a b)) : ∀ D σ H, rdS Kx mx zf O O Ol (sAugN i f e) D σ H → tAug i (rdB Kx mx zf O e) (ipI gi) D σ H := fun D σ H ⟨tk, H0, F0, F, g, w, o, w', R, ef, q⟩ => by
  simp only [sAugN] at ef
  split at ef
  · rename_i x hx
    obtain ⟨d, w1, e1, ef⟩ := bnd_eq ef
    split at ef
    · rename_i y hy
      cases ef
      obtain ⟨a, b, rfl, rfl, rfl⟩ := hf x d y hy
      have hg := Option.join_eq_some_iff.mp hx
      obtain ⟨v, h1, h2⟩ := R.val i _ hO hg
      simp only [Rep] at h2
      subst h2
      refine ⟨_, h1, tk, H0, F0, F, g, w, _, w', R, e1, fun v H1 F1 R1 x1 r1 => ?_⟩
      simp only [RepB, Rep] at r1
      refine ⟨a, b, rfl, r1, q _ H1 F1 (R1.set hO (by simp only [Rep]) (List.getElem?_eq_some_iff.mp hg).1)⟩
    · cases ef
  · cases ef
theorem ES.augAdd {x : Str} {px pos : Pos} {e : Expr} {f : E} (i : Nat) (hN : X.N.Nodup) (h : EB X zf O e f) (hO : i ∉ O := by decide) (hi : X.N[i]? = some x := by rfl) (hx : Loc X.env.scope x := by first | exact Or.inl rfl | exact Or.inr rfl) (hf : X.fn x = true ∨ X.env.scope.names.lookup x = some .local := by first | exact .inl rfl | exact .inr rfl) :
    ES X zf O O Ol (.AugAssign (.Name x px) .Add e pos) (sAugN i addI f) := PS.imp (ps_aug hN hi hx h ip_add hf) (augN_read hO fun x y d e => by
    cases x <;> cases y <;> simp only [addI] at e <;> first | cases e | skip
    exact ⟨_, _, rfl, rfl, rfl⟩)
theorem ES.augSub {x : Str} {px pos : Pos} {e : Expr} {f : E} (i : Nat) (hN : X.N.Nodup) (h : EB X zf O e f) (hO : i ∉ O := by decide) (hi : X.N[i]? = some x := by rfl) (hx : Loc X.env.scope x := by first | exact Or.inl rfl | exact Or.inr rfl) (hf : X.fn x = true ∨ X.env.scope.names.lookup x = some .local := by first | exact .inl rfl | exact .inr rfl) :
    ES X zf O O Ol (.AugAssign (.Name x px) .Sub e pos) (sAugN i subD f) := PS.imp (ps_aug hN hi hx h ip_sub hf) (augN_read hO fun x y d e => by
    cases x <;> cases y <;> simp only [subD] at e <;> first | cases e | skip
    exact ⟨_, _, rfl, rfl, rfl⟩)
/-! ### x.extend(e) -/
def rExtR : V → List V → Hp → VK → Prop := fun x vs H Q => ∃ l b xs zs, x = .ref l ∧ vs = [.ref b] ∧ H l = some (.lst xs) ∧ Rd H b (.lst zs) ∧ xs.length + zs.length ≤ sizeLine ∧ Q .non (upd H l (.lst (xs ++ zs)))
theorem mt_extR : MtM X "list.extend" rExtR := by
  intro pins s σ H x vs v us Q I rx rv h
  obtain ⟨l, b, xs, zs, rfl, rfl, hl, hb, hz, q⟩ := h
  cases rx
  obtain ⟨u, rfl, ru⟩ := rv.one
  cases ru
  obtain ⟨za, its, n, ra, la, ea⟩ := I.lstM hl
  obtain ⟨zb, jts, m, rb, lb, eb⟩ := lstAt I hb
  have hn : its.toArray.size + jts.toArray.size ≤ sizeLine := by simp only [List.size_toArray]; omega
  have h63 := line63
  have hq : ¬ (!its.toArray.isEmpty && Builtin.List.listTooLong (its.toArray.size + jts.toArray.size)) = true := fun z => by
    simp only [notLongL hn, Bool.and_false] at z
    cases z
  have hm := AutoSeq1.list_extend_list_list_0 l its.toArray n b jts.toArray m hq (by rw [List.size_toArray]; omega) (by omega)
  refine call_meets F.slot_list_extend ⟨_, ea, rfl⟩
    F.entry_list_extend (F.args_list_extend_2 _ _) hm ⟨ea, eb, ?_⟩
  exact ⟨.non, _, I.lset (its' := its ++ jts) hl ea (by simp) (ra.append rb) (by rw [List.length_append]; omega), rfl, q⟩
theorem ES.ext {x : Str} {px apos cpos spos : Pos} {e : Expr} {f : E} (i : Nat) (h : EV X zf O e f) (hO : i ∈ O := by decide) (hN : X.N[i]? = some x := by rfl) (hv : Vis X.env.scope x := by first | exact Or.inl rfl | exact Or.inr (Or.inl rfl) | exact Or.inr (Or.inr rfl)) (hd : (x == ("__debug__" : Str)) = false := by decide)
    (hcd : (x == ("__classdict__" : Str)) = false := by decide) (hs : starEach [e] X.env = (false, eval e X.env) :: starEach [] X.env := by rfl)
    (hbase : attributeBase (.Name x px) "extend" X.env (eval (.Name x px) X.env) = eval (.Name x px) X.env := by rfl)
    (hfew : ((backTo cpos (starEach [e] X.env)).all (fun x => !x.1) && (backToKw cpos (keywordEach [] X.env)).all (fun x => x.1.isSome)
      && decide (([e] : List Expr).length + ([] : List Keyword).length + (if ([] : List Keyword).isEmpty then 0 else 1) < 30)) = true := by rfl)
    (hline : (apos.endLine == cpos.line) = true := by rfl) (hplain : (backTo cpos (starEach [] X.env)).any (·.1) = false := by rfl)
    (hsw : swapsWith (.Call (.Attribute (.Name x px) "extend" apos) [e] [] cpos) none spos.line X.env = pure false := by rfl) :
    ES X zf O O Ol (.Expr (.Call (.Attribute (.Name x px) "extend" apos) [e] [] cpos) spos) (sExt i f) :=
  PS.imp (ps_expr (pe_bm PySem.F.plainAttrs_list PySem.F.slot_list_extend PySem.F.type_list_extend mt_extR (pe_var (i := i) hN hv hd hcd) (EA.cons h EA.nil hs) hbase hfew hline hs hplain) hsw) fun D σ H ⟨tk, H0, F0, F, g, w, o, w', R, ef, q⟩ => by
  obtain ⟨d, w1, e1, ef⟩ := bnd_eq (show bnd (f g w) _ = _ from ef)
  obtain ⟨x0, y0, hg, hf, rfl, rfl⟩ := mutS_eq ef
  obtain ⟨ds, es, rfl, rfl, hlt, rfl⟩ := exD_eq hf
  obtain ⟨a, u, h1, h2, h3, h4, h5, h6⟩ := R.own i _ hO hg
  obtain ⟨xs, rfl, h6⟩ := RepO.lst h6
  refine ⟨.ref a, h1, .inl ⟨rfl, _, .inl (.inl h2)⟩, tk, H0, F0, F, g, w, [.list es], w', R, by simp [cArgs, e1], fun vs H1 F1 R1 x1 r1 => ?_⟩
  match vs, r1 with
  | [], r1 => simp only [RepL] at r1
  | _ :: _ :: _, r1 => simp only [RepL] at r1; exact r1.2.elim
  | [v], r1 =>
    simp only [RepL, Rep] at r1
    obtain ⟨⟨b, zs, rfl, rb, lb⟩, _⟩ := r1
    have k2 := x1.gr.exL h2 h5 rfl
    refine ⟨a, b, xs, zs, rfl, rfl, k2, R1.sub.rdL rb, by rw [← h6.length, ← lb.length]; exact hlt, ?_⟩
    exact q σ _ F1 (R1.mut hO hg h1 (by simp only [RepO]; exact (RepL.same x1.sm _ _ h6).append lb))
/-! ### x[k] = e of an own list -/
def setL : D → D → D → Option D
  | .list xs, .int k, d => (ixN xs.length k).map fun j => .list (xs.set j d)
  | _, _, _ => none
def sPutL (i : Nat) (k e : E) : S := fun g w => bnd (e g w) fun d w1 => bnd (k g w1) fun kd w2 => mutS i (setL · kd d) g w2
theorem putL_read {Kx : PySem.W.Frag} {mx : Str → Option Value} {zf : Bool} {i : Nat} {k e : E} (hO : i ∈ O) : ∀ D σ H, rdS Kx mx zf O O Ol (sPutL i k e) D σ H → tAsg (rd Kx mx zf O e) (gSub (tVar i) (rdB Kx mx zf O k) rSetL) D σ H := fun D σ H ⟨tk, H0, F0, F, g, w, o, w', R, ef, q⟩ => by
  obtain ⟨d, w1, e1, ef⟩ := bnd_eq (show bnd (e g w) _ = _ from ef)
  obtain ⟨kd, w2, e2, ef⟩ := bnd_eq ef
  obtain ⟨x0, y0, hg, hf, rfl, rfl⟩ := mutS_eq ef
  have e6 : ∃ ds n j, x0 = .list ds ∧ kd = .int n ∧ ixN ds.length n = some j ∧ y0 = .list (ds.set j d) := by
    cases x0 <;> cases kd <;> simp only [setL] at hf <;> first | cases hf | skip
    obtain ⟨j, hj, rfl⟩ := Option.map_eq_some_iff.mp hf
    exact ⟨_, _, j, rfl, rfl, hj, rfl⟩
  obtain ⟨ds, n, j, rfl, rfl, hj, rfl⟩ := e6
  obtain ⟨a, u, h1, h2, h3, h4, h5, h6⟩ := R.own i _ hO hg
  obtain ⟨xs, rfl, h6⟩ := RepO.lst h6
  refine ⟨tk, H0, F0, F, g, w, d, w1, R, e1, fun v H1 F1 R1 x1 r1 => ⟨.ref a, h1, tk, H0, F0, F1, g, w1, _, w', R1, e2, fun vk H2 F2 R2 x2 r2 => ?_⟩⟩
  simp only [RepB, Rep] at r2
  subst r2
  have x12 := x1.trans x2
  refine ⟨a, xs, n, j, rfl, rfl, x12.gr.exL h2 h5 rfl, by rw [← h6.length]; exact hj, ?_⟩
  exact q σ _ F2 (R2.mut hO hg h1 (by simp only [RepO]; exact RepL.set (Rep.same x2.sm _ _ r1) j (RepL.same x12.sm _ _ h6)))
theorem ES.putL {x : Str} {px spos pos : Pos} {ke e : Expr} {fk f : E} (i : Nat) (h : EV X zf O e f) (hk : EB X zf O ke fk) (hO : i ∈ O := by decide) (hN : X.N[i]? = some x := by rfl) (hv : Vis X.env.scope x := by first | exact Or.inl rfl | exact Or.inr (Or.inl rfl) | exact Or.inr (Or.inr rfl)) (hd : (x == ("__debug__" : Str)) = false := by decide)
    (hcd : (x == ("__classdict__" : Str)) = false := by decide) (ha : ∀ v, assign (.Subscript (.Name x px) ke spos) X.env v = (do
      let ov ← holding [v] (eval (.Name x px) X.env)
      let iv ← holding [v, ov] (eval ke X.env)
      standAt spos
      holding [v, ov, iv] (setItem ov iv v)
      release [v, ov, iv] []) := by intro _; rfl) (hs : swapsWithSole [.Subscript (.Name x px) ke spos] e pos.line X.env = pure false := by rfl) (hw : swappedStores [.Subscript (.Name x px) ke spos] e X.env = pure none := by rfl)
    (h1 : (assignEach [.Subscript (.Name x px) ke spos] X.env).map (·.2) = [assign (.Subscript (.Name x px) ke spos) X.env] := by rfl) :
    ES X zf O O Ol (.Assign [.Subscript (.Name x px) ke spos] e pos) (sPutL i fk f) := PS.imp (ps_asg h (pg_sub (pe_var (i := i) hN hv hd hcd) hk set_list ha) hs hw h1) (putL_read hO)
end
end Q

set_option Elab.async false
set_option linter.all false
set_option autoImplicit false
set_option maxRecDepth 100000
/-! QS8: a, b = x, y; defs and their calls. -/
namespace Q
open PySem PySem.Spec PyProof.Rows L2
/-! ### several stores at once -/
def setAll (σ : L2.St) : List Nat → List V → L2.St
  | i :: is, v :: vs => setAll (σ.set i (some v)) is vs
  | _, _ => σ
/-- values, some of them new objects of their own -/
def RepM {Kx : PySem.W.Frag} {mx : Str → Option Value} {zf : Bool} (tk : Tk Kx mx zf) (H F' H' : Hp) : List Bool → List D → List V → Prop
  | [], [], [] => True
  | false :: ks, d :: ds, v :: vs => Rep tk F' d v ∧ RepM tk H F' H' ks ds vs
  | true :: ks, d :: ds, v :: vs => (∃ a o, v = .ref a ∧ H' a = some o ∧ F' a = none ∧ H a = none ∧ tk.pw ≠ some a ∧ RepO tk F' d o ∧ ∀ b, (true, V.ref b) ∈ ks.zip vs → b ≠ a) ∧ RepM tk H F' H' ks ds vs
  | _, _, _ => False
def rdM (Kx : PySem.W.Frag) (mx : Str → Option Value) (zf : Bool) (O : List Nat) (ks : List Bool) (f : Es) : TA := fun σ H Q => ∃ tk : Tk Kx mx zf, ∃ H0 F0 F g w ds w', Rel tk H0 F0 O σ H F g w ∧ f g w = some (ds, w') ∧ ∀ vs H' F', Rel tk H0 F0 O σ H' F' g w' → Ex tk F H F' H' → RepM tk H F' H' ks ds vs → Q vs H'
abbrev EM (X : Cx) (zf : Bool) (O : List Nat) (ks : List Bool) (es : List Expr) (f : Es) : Prop := PA X es (rdM X.K X.mg zf O ks f)
theorem RepM.len {Kx : PySem.W.Frag} {mx : Str → Option Value} {zf : Bool} {tk : Tk Kx mx zf} {H F' H' : Hp} : ∀ {ks : List Bool} {ds : List D} {vs : List V}, RepM tk H F' H' ks ds vs → ds.length = ks.length ∧ vs.length = ks.length
  | [], [], [], _ => ⟨rfl, rfl⟩
  | true :: ks, d :: ds, v :: vs, h => by
    simp only [RepM] at h
    obtain ⟨a, b⟩ := RepM.len h.2
    exact ⟨by simp [a], by simp [b]⟩
  | false :: ks, d :: ds, v :: vs, h => by
    simp only [RepM] at h
    obtain ⟨a, b⟩ := RepM.len h.2
    exact ⟨by simp [a], by simp [b]⟩
  | [], _ :: _, _, h => by simp only [RepM] at h
  | [], [], _ :: _, h => by simp only [RepM] at h
  | true :: _, [], _, h => by simp only [RepM] at h
  | false :: _, [], _, h => by simp only [RepM] at h
  | true :: _, _ :: _, [], h => by simp only [RepM] at h
  | false :: _, _ :: _, [], h => by simp only [RepM] at h
/-- from an earlier state on -/
theorem RepM.from {Kx : PySem.W.Frag} {mx : Str → Option Value} {zf : Bool} {tk : Tk Kx mx zf} {Hs H1 F' H' F1 : Hp} (g : Grow tk Hs F1 H1) : ∀ {ks : List Bool} {ds : List D} {vs : List V}, RepM tk H1 F' H' ks ds vs → RepM tk Hs F' H' ks ds vs
  | [], [], [], _ => by simp only [RepM]
  | true :: ks, d :: ds, v :: vs, h => by
    simp only [RepM] at h ⊢
    obtain ⟨⟨a, o, e, h1, h2, h3, h4, h5⟩, r⟩ := h
    refine ⟨⟨a, o, e, h1, h2, ?_, h4, h5⟩, RepM.from g r⟩
    cases q : Hs a with
    | none => rfl
    | some u => exact absurd h3 (g.ne q h4)
  | false :: ks, d :: ds, v :: vs, h => by
    simp only [RepM] at h ⊢
    exact ⟨h.1, RepM.from g h.2⟩
  | [], _ :: _, _, h => by simp only [RepM] at h
  | [], [], _ :: _, h => by simp only [RepM] at h
  | true :: _, [], _, h => by simp only [RepM] at h
  | false :: _, [], _, h => by simp only [RepM] at h
  | true :: _, _ :: _, [], h => by simp only [RepM] at h
  | false :: _, _ :: _, [], h => by simp only [RepM] at h
/-- every own object among the values is new -/
theorem RepM.new {Kx : PySem.W.Frag} {mx : Str → Option Value} {zf : Bool} {tk : Tk Kx mx zf} {Hs F' H' : Hp} : ∀ {ks : List Bool} {ds : List D} {vs : List V}, RepM tk Hs F' H' ks ds vs → ∀ b, (true, V.ref b) ∈ ks.zip vs → Hs b = none
  | [], [], [], _, _, h => by cases h
  | true :: ks, d :: ds, v :: vs, h, b, hb => by
    simp only [RepM] at h
    obtain ⟨⟨a, o, e, h1, h2, h3, h4, h5⟩, r⟩ := h
    rw [List.zip_cons_cons] at hb
    rcases List.mem_cons.mp hb with z | z
    · rw [e] at z; cases z; exact h3
    · exact RepM.new r b z
  | false :: ks, d :: ds, v :: vs, h, b, hb => by
    simp only [RepM] at h
    rw [List.zip_cons_cons] at hb
    rcases List.mem_cons.mp hb with z | z
    · cases z
    · exact RepM.new h.2 b z
  | [], _ :: _, _, h, _, _ => by simp only [RepM] at h
  | [], [], _ :: _, h, _, _ => by simp only [RepM] at h
  | true :: _, [], _, h, _, _ => by simp only [RepM] at h
  | false :: _, [], _, h, _, _ => by simp only [RepM] at h
  | true :: _, _ :: _, [], h, _, _ => by simp only [RepM] at h
  | false :: _, _ :: _, [], h, _, _ => by simp only [RepM] at h
/-- more stands since -/
theorem RepM.ex {Kx : PySem.W.Frag} {mx : Str → Option Value} {zf : Bool} {tk : Tk Kx mx zf} {Hs F' H' F2 H2 : Hp} (x : Ex tk F' H' F2 H2) : ∀ {ks : List Bool} {ds : List D} {vs : List V}, RepM tk Hs F' H' ks ds vs → RepM tk Hs F2 H2 ks ds vs
  | [], [], [], _ => by simp only [RepM]
  | true :: ks, d :: ds, v :: vs, h => by
    simp only [RepM] at h ⊢
    obtain ⟨⟨a, o, e, h1, h2, h3, h4, h5, h6⟩, r⟩ := h
    have h2' := x.nw a h4 (by rw [h1]; exact fun z => nomatch z) h2
    exact ⟨⟨a, o, e, x.gr.ex h1 h4 h2', h2', h3, h4, h5.same x.sm, h6⟩, RepM.ex x r⟩
  | false :: ks, d :: ds, v :: vs, h => by
    simp only [RepM] at h ⊢
    exact ⟨Rep.same x.sm _ _ h.1, RepM.ex x h.2⟩
  | [], _ :: _, _, h => by simp only [RepM] at h
  | [], [], _ :: _, h => by simp only [RepM] at h
  | true :: _, [], _, h => by simp only [RepM] at h
  | false :: _, [], _, h => by simp only [RepM] at h
  | true :: _, _ :: _, [], h => by simp only [RepM] at h
  | false :: _, _ :: _, [], h => by simp only [RepM] at h
section
variable {X : Cx} {zf : Bool} {O : List Nat}
theorem EM.nil : EM X zf O [] [] (cArgs []) := PA.imp pa_nil fun σ H Q ⟨tk, H0, F0, F, g, w, ds, w', R, ef, k⟩ => by
  have ef : some (([] : List D), w) = some (ds, w') := ef
  cases ef
  exact k [] H F R (Ex.refl ..) (by simp only [RepM])
theorem EM.consV {ks : List Bool} {e : Expr} {es : List Expr} {f : E} {fs : List E} (h : EV X zf O e f) (hs : EM X zf O ks es (cArgs fs)) (ho : starEach (e :: es) X.env = (false, eval e X.env) :: starEach es X.env := by rfl) : EM X zf O (false :: ks) (e :: es) (cArgs (f :: fs)) :=
  PA.imp (pa_cons h hs ho) fun σ H Q ⟨tk, H0, F0, F, g, w, ds, w', R, ef, k⟩ => by
  obtain ⟨d, w1, e1, ef⟩ := bnd_eq (show bnd (f g w) _ = _ from ef)
  obtain ⟨ds', w2, e2, ef⟩ := bnd_eq ef
  cases ef
  refine ⟨tk, H0, F0, F, g, w, d, w1, R, e1, fun v H1 F1 R1 x1 r1 => ?_⟩
  refine ⟨tk, H0, F0, F1, g, w1, ds', w', R1, e2, fun vs H2 F2 R2 x2 r2 => ?_⟩
  exact k (v :: vs) H2 F2 R2 (x1.trans x2) (by simp only [RepM]; exact ⟨Rep.same x2.sm _ _ r1, r2.from x1.gr⟩)
theorem EM.consO {ks : List Bool} {e : Expr} {es : List Expr} {f : E} {fs : List E} (h : EO X zf O e f) (hs : EM X zf O ks es (cArgs fs)) (ho : starEach (e :: es) X.env = (false, eval e X.env) :: starEach es X.env := by rfl) : EM X zf O (true :: ks) (e :: es) (cArgs (f :: fs)) :=
  PA.imp (pa_cons h hs ho) fun σ H Q ⟨tk, H0, F0, F, g, w, ds, w', R, ef, k⟩ => by
  obtain ⟨d, w1, e1, ef⟩ := bnd_eq (show bnd (f g w) _ = _ from ef)
  obtain ⟨ds', w2, e2, ef⟩ := bnd_eq ef
  cases ef
  refine ⟨tk, H0, F0, F, g, w, d, w1, R, e1, fun v H1 F1 R1 x1 r1 => ?_⟩
  refine ⟨tk, H0, F0, F1, g, w1, ds', w', R1, e2, fun vs H2 F2 R2 x2 r2 => ?_⟩
  refine k (v :: vs) H2 F2 R2 (x1.trans x2) ?_
  obtain ⟨a, o, rfl, h1, h2, h3, h4, h5⟩ := r1
  simp only [RepM]
  have h2' := x2.nw a h4 (by rw [h1]; exact fun z => nomatch z) h2
  refine ⟨⟨a, o, rfl, x2.gr.ex h1 h4 h2', h2', h3, h4, h5.same x2.sm, fun b hb z => ?_⟩, r2.from x1.gr⟩
  have := r2.new b hb
  rw [z, h1] at this
  cases this
/-- the slots that are own behind it -/
def ownAfter : List Nat → List Nat → List Bool → List Nat
  | O, i :: is, true :: ks => ownAfter (i :: O) is ks
  | O, _ :: is, false :: ks => ownAfter O is ks
  | O, _, _ => O
/-- no slot that gets a plain value is own -/
def parOk : List Nat → List Nat → List Bool → Bool
  | O, i :: is, true :: ks => parOk (i :: O) is ks
  | O, i :: is, false :: ks => !O.contains i && parOk O is ks
  | _, [], [] => true
  | _, _, _ => false
theorem setAll_rel {Kx : PySem.W.Frag} {mx : Str → Option Value} {zf : Bool} {tk : Tk Kx mx zf} {H0 F0 Hs H F : Hp} {w : Wd} (h0 : ∀ a, Hs a = none → tk.pw ≠ some a → H0 a = none) : ∀ {is : List Nat} {ks : List Bool} {ds : List D} {vs : List V} {O : List Nat} {σ : L2.St} {g g' : Env}, Rel tk H0 F0 O σ H F g w → RepM tk Hs F H ks ds vs → parOk O is ks = true →
    (∀ a, (true, V.ref a) ∈ ks.zip vs → ∀ j e, j ∈ O → g[j]? = some (some e) → σ[j]? ≠ some (some (.ref a))) → gList (is.map gName) ds g = some g' → Rel tk H0 F0 (ownAfter O is ks) (setAll σ is vs) H F g' w
  | [], [], [], [], O, σ, g, g', R, _, _, _, e => by
    simp only [List.map_nil, gList] at e
    cases e
    exact R
  | i :: is, true :: ks, d :: ds, v :: vs, O, σ, g, g', R, r, p, no, e => by
    simp only [RepM] at r
    obtain ⟨⟨a, o, rfl, h1, h2, h3, h4, h5, h6⟩, r⟩ := r
    simp only [List.map_cons, gList, gName] at e
    split at e
    · rename_i g1 hg1
      split at hg1 <;> first | cases hg1 | skip
      rename_i hi
      simp only [setAll, ownAfter]
      have R2 := R.setOwn (O' := i :: O) (fun j => List.mem_cons) hi h1 h2 (h0 a h3 h4) h4 h5 (no a (by simp))
      refine setAll_rel h0 R2 r (by simpa only [parOk] using p) (fun b hb j e' hj hg => ?_) e
      by_cases hji : j = i
      · subst hji
        rw [List.getElem?_set_self (by have := R.len; omega)]
        exact fun z => h6 b hb (by cases z; rfl)
      · rw [List.getElem?_set_ne (Ne.symm hji)] at hg ⊢
        exact no b (by rw [List.zip_cons_cons]; exact List.mem_cons_of_mem _ hb) j e' ((List.mem_cons.mp hj).resolve_left hji) hg
    · cases e
  | i :: is, false :: ks, d :: ds, v :: vs, O, σ, g, g', R, r, p, no, e => by
    simp only [RepM] at r
    simp only [parOk, Bool.and_eq_true, Bool.not_eq_true', List.contains_eq_mem, decide_eq_false_iff_not] at p
    simp only [List.map_cons, gList, gName] at e
    split at e
    · rename_i g1 hg1
      split at hg1 <;> first | cases hg1 | skip
      rename_i hi
      simp only [setAll, ownAfter]
      refine setAll_rel h0 (R.set p.1 r.1 hi) r.2 p.2 (fun b hb j e' hj hg => ?_) e
      have hji : j ≠ i := fun z => p.1 (z ▸ hj)
      rw [List.getElem?_set_ne (Ne.symm hji)] at hg ⊢
      exact no b (by rw [List.zip_cons_cons]; exact List.mem_cons_of_mem _ hb) j e' hj hg
    · cases e
  | [], [], _ :: _, _, _, _, _, _, _, r, _, _, _ => by simp only [RepM] at r
  | [], [], [], _ :: _, _, _, _, _, _, r, _, _, _ => by simp only [RepM] at r
  | [], _ :: _, _, _, _, _, _, _, _, _, p, _, _ => by simp only [parOk] at p; cases p
  | _ :: _, [], _, _, _, _, _, _, _, _, p, _, _ => by simp only [parOk] at p; cases p
  | _ :: _, true :: _, [], _, _, _, _, _, _, r, _, _, _ => by simp only [RepM] at r
  | _ :: _, false :: _, [], _, _, _, _, _, _, r, _, _, _ => by simp only [RepM] at r
  | _ :: _, true :: _, _ :: _, [], _, _, _, _, _, r, _, _, _ => by simp only [RepM] at r
  | _ :: _, false :: _, _ :: _, [], _, _, _, _, _, r, _, _, _ => by simp only [RepM] at r
variable {O' Ol : List Nat}
theorem par_read {Kx : PySem.W.Frag} {mx : Str → Option Value} {zf : Bool} {is : List Nat} {ks : List Bool} {fs : List E} (hp : parOk O is ks = true) (hO : sameOff [] (ownAfter O is ks) O' = true) : ∀ D σ H, rdS Kx mx zf O O' Ol (sPar (is.map gName) fs) D σ H →
    rdM Kx mx zf O ks (cArgs fs) σ H fun vs H1 => vs.length = is.length ∧ D.nx (setAll σ is vs) H1 ∧ ∀ p, H1 p = none → D.nx (setAll σ is vs) (upd H1 p (.tup vs)) := fun D σ H ⟨tk, H0, F0, F, g, w, o, w', R, ef, q⟩ => by
  obtain ⟨ds, w1, e1, ef⟩ := bnd_eq (show bnd (cArgs fs g w) _ = _ from ef)
  split at ef
  · rename_i g1 hg1
    cases ef
    refine ⟨tk, H0, F0, F, g, w, ds, w', R, e1, fun vs H1 F1 R1 x1 r1 => ?_⟩
    have hl : vs.length = is.length := by
      have a := r1.len
      have b := gList_len hg1
      simp at b
      omega
    have h0 : ∀ a, H a = none → tk.pw ≠ some a → H0 a = none := fun a h n => by
      cases z : H0 a with
      | none => rfl
      | some u => exact absurd h (R.k0.ne z n)
    have no : ∀ a, (true, V.ref a) ∈ ks.zip vs → ∀ j e, j ∈ O → g[j]? = some (some e) → σ[j]? ≠ some (some (.ref a)) := fun a ha j e hj hg z => by
      obtain ⟨b, u, k1, k2, _⟩ := R.own j e hj hg
      rw [z] at k1
      cases k1
      rw [r1.new a ha] at k2
      cases k2
    refine ⟨hl, q _ H1 F1 ((setAll_rel h0 R1 r1 hp no hg1).own' fun j => sameOff_iff hO j (by simp)), fun p hn => ?_⟩
    obtain ⟨R2, x2⟩ := R1.allocO hn (.tup vs)
    exact q _ _ F1 ((setAll_rel h0 R2 (r1.ex x2) hp no hg1).own' fun j => sameOff_iff hO j (by simp))
  · cases ef
theorem rdM_mono {Kx : PySem.W.Frag} {mx : Str → Option Value} {zf : Bool} {ks : List Bool} {f : Es} {σ : L2.St} {H : Hp} {Q Q' : List V → Hp → Prop} (h : rdM Kx mx zf O ks f σ H Q) (k : ∀ vs H, Q vs H → Q' vs H) : rdM Kx mx zf O ks f σ H Q' := by
  obtain ⟨tk, H0, F0, F, g, w, ds, w', R, ef, q⟩ := h
  exact ⟨tk, H0, F0, F, g, w, ds, w', R, ef, fun vs H' F' R' x r => k vs H' (q vs H' F' R' x r)⟩
theorem ES.par2 {ks : List Bool} {x y : Str} {a b : Expr} {fs : List E} {px py pt pos : Pos} {kt k2 : Nat} {pt2 : Pos} (i j : Nat) (hc : X.calm = true) (hN : X.N.Nodup) (ha : EM X zf O ks [a, b] (cArgs fs))
    (hw : swappedStores [.Tuple [.Name x px, .Name y py] kt pt] (.Tuple [a, b] k2 pt2) X.env = pure (some [x, y]) := by rfl) (hi : X.N[i]? = some x := by rfl) (hj : X.N[j]? = some y := by rfl) (hij : i ≠ j := by decide)
    (hx : X.env.scope.names.lookup x = some .local := by rfl) (hy : X.env.scope.names.lookup y = some .local := by rfl) (hs : swapsWithSole [.Tuple [.Name x px, .Name y py] kt pt] (.Tuple [a, b] k2 pt2) pos.line X.env = pure false := by rfl)
    (hp : parOk O [i, j] ks = true := by rfl) (hO : sameOff [] (ownAfter O [i, j] ks) O' = true := by rfl) :
    ES X zf O O' Ol (.Assign [.Tuple [.Name x px, .Name y py] kt pt] (.Tuple [a, b] k2 pt2) pos) (sPar [gName i, gName j] fs) := PS.imp (ps_par hc hN hi hj hij hx hy ha hw hs) fun D σ H h => by
  refine rdM_mono (par_read (is := [i, j]) hp hO D σ H h) fun vs H1 ⟨hl, q, _⟩ => ?_
  match vs, hl with
  | [v, u], _ => exact ⟨v, u, rfl, q⟩
theorem ES.par3 {ks : List Bool} {x y z : Str} {a b c : Expr} {fs : List E} {px py pz pt pos : Pos} {kt k2 : Nat} {pt2 : Pos} (i j l : Nat) (hc : X.calm = true) (hN : X.N.Nodup) (ha : EM X zf O ks [a, b, c] (cArgs fs))
    (hw : swappedStores [.Tuple [.Name x px, .Name y py, .Name z pz] kt pt] (.Tuple [a, b, c] k2 pt2) X.env = pure (some [x, y, z]) := by rfl) (hi : X.N[i]? = some x := by rfl) (hj : X.N[j]? = some y := by rfl) (hl : X.N[l]? = some z := by rfl) (hij : i ≠ j := by decide) (hil : i ≠ l := by decide) (hjl : j ≠ l := by decide)
    (hx : X.env.scope.names.lookup x = some .local := by rfl) (hy : X.env.scope.names.lookup y = some .local := by rfl) (hz : X.env.scope.names.lookup z = some .local := by rfl) (hs : swapsWithSole [.Tuple [.Name x px, .Name y py, .Name z pz] kt pt] (.Tuple [a, b, c] k2 pt2) pos.line X.env = pure false := by rfl)
    (hp : parOk O [i, j, l] ks = true := by rfl) (hO : sameOff [] (ownAfter O [i, j, l] ks) O' = true := by rfl) :
    ES X zf O O' Ol (.Assign [.Tuple [.Name x px, .Name y py, .Name z pz] kt pt] (.Tuple [a, b, c] k2 pt2) pos) (sPar [gName i, gName j, gName l] fs) := PS.imp (ps_par3 hc hN hi hj hl hij hil hjl hx hy hz ha hw hs) fun D σ H h => by
  refine rdM_mono (par_read (is := [i, j, l]) hp hO D σ H h) fun vs H1 ⟨hl, q, _⟩ => ?_
  match vs, hl with
  | [v, u, t], _ => exact ⟨v, u, t, rfl, q⟩
/-! any number of names, of any kind: by a tuple that is made and opened -/
def gSets (is : List Nat) : TGs := fun vs σ H Q => vs.length = is.length ∧ Q (setAll σ is vs) H
theorem GS.nil : PGs X [] (gSets []) := PGs.imp pgs_nil fun vs σ H Q ⟨hl, q⟩ => by
  match vs, hl with
  | [], _ => exact ⟨rfl, q⟩
theorem GS.cons {is : List Nat} {x : Str} {pos : Pos} {es : List Expr} (i : Nat) (hN : X.N.Nodup) (h : PGs X es (gSets is)) (hi : X.N[i]? = some x := by rfl) (hx : Loc X.env.scope x := by first | exact Or.inl rfl | exact Or.inr rfl) (hf : X.fn x = true ∨ X.env.scope.names.lookup x = some .local := by first | exact .inl rfl | exact .inr rfl)
    (ha : (assignEach (.Name x pos :: es) X.env).map (·.2) = assign (.Name x pos) X.env :: (assignEach es X.env).map (·.2) := by rfl) : PGs X (.Name x pos :: es) (gSets (i :: is)) := PGs.imp (pgs_cons (pg_name hN hi hx hf) h ha) fun vs σ H Q ⟨hl, q⟩ => by
  match vs, hl with
  | v :: vs, hl => exact ⟨v, vs, rfl, by simpa using hl, q⟩
theorem ES.parN {ks : List Bool} {ts es : List Expr} {fs : List E} {pt pos : Pos} {kt k2 : Nat} {pt2 : Pos} (is : List Nat) (hc : X.calm = true) (ha : EM X zf O ks es (cArgs fs)) (hg : PGs X ts (gSets is)) (hn : (assignEach ts X.env).length = is.length := by rfl) (hst : (assignEach ts X.env).findIdx? (·.1) = none := by rfl)
    (hs : swapsWithSole [.Tuple ts kt pt] (.Tuple es k2 pt2) pos.line X.env = pure false := by rfl) (hw : swappedStores [.Tuple ts kt pt] (.Tuple es k2 pt2) X.env = pure none := by rfl) (h1 : (assignEach [.Tuple ts kt pt] X.env).map (·.2) = [assign (.Tuple ts kt pt) X.env] := by rfl)
    (hp : parOk O is ks = true := by rfl) (hO : sameOff [] (ownAfter O is ks) O' = true := by rfl) (hz : is.length ≤ sizeLine := by decide) :
    ES X zf O O' Ol (.Assign [.Tuple ts kt pt] (.Tuple es k2 pt2) pos) (sPar (is.map gName) fs) := PS.imp (ps_asg (pe_tup ha) (pg_tup hc hg hn hst) hs hw h1) fun D σ H h => by
  refine rdM_mono (par_read hp hO D σ H h) fun vs H1 ⟨hl, _, q⟩ => ⟨by rw [hl]; exact hz, fun p hp => ?_⟩
  exact ⟨p, vs, rfl, .of upd_same, hl, hl, q p hp⟩
end
end Q

set_option Elab.async false
set_option linter.all false
set_option autoImplicit false
set_option maxRecDepth 100000
/-! QS9: defs, their calls, the dict of draws. -/
namespace Q
open PySem PySem.Spec PyProof.Rows L2
/-- a def's promise by its function of data -/
def spD (Kx : PySem.W.Frag) (mx : Str → Option Value) (zf : Bool) (n : Nat) (f : Fn) : Sp := fun vs H Q _ => ∃ tk : Tk Kx mx zf, ∃ F ds w r w', vs.length = n ∧ Sub F H ∧ WAt tk H F w ∧ RepL tk F ds vs ∧ f ds w = some (r, w') ∧
  ∀ v H' F', Same F F' → Sub F' H' → Grow tk H F' H' → New tk H F F' → WAt tk H' F' w' → Rep tk F' r v → Q v H'
section
variable {Kx : PySem.W.Frag} {mx : Str → Option Value} {zf : Bool} {tk : Tk Kx mx zf} {H0 F0 : Hp} {O : List Nat} {σ : L2.St} {H F H' F' : Hp} {g : Env} {w w' : Wd}
theorem Rel.after (R : Rel tk H0 F0 O σ H F g w) (x : Ex tk F H F' H') (sb : Sub F' H') (wa : WAt tk H' F' w') : Rel tk H0 F0 O σ H' F' g w' := by
  have fr := R.fw
  refine ⟨R.len, sb, R.f0.trans x.sm, R.k0.trans x.sm x.gr, fun a n e f => ?_, fun i d hi h => ?_, fun i d hi h => ?_, R.sep, wa⟩
  · refine x.nw a n ?_ (R.n0 a n e f)
    cases q : H0 a with
    | none => exact absurd q e
    | some u => exact R.k0.ne q n
  · obtain ⟨v, h1, h2⟩ := R.val i d hi h
    exact ⟨v, h1, Rep.same x.sm _ _ h2⟩
  · obtain ⟨a, o, h1, h2, h3, h4, h5, h6⟩ := R.own i d hi h
    have h3' := x.nw a h5 (by rw [h2]; exact fun z => nomatch z) h3
    exact ⟨a, o, h1, x.gr.ex h2 h5 h3', h3', h4, h5, h6.same x.sm⟩
end
section
variable {X : Cx} {zf : Bool} {O : List Nat}
theorem call_read {n : Nat} {fn : Fn} {fs : List E} (hn : fs.length = n) : ∀ σ H Q, rd X.K X.mg zf O (cCall fn fs) σ H Q → tCall (spD X.K X.mg zf n fn) [] E0 (rdA X.K X.mg zf O (cArgs fs)) σ H Q := fun σ H Q ⟨tk, H0, F0, F, g, w, d, w', R, ef, k⟩ => by
  obtain ⟨ds, w1, e1, ef⟩ := bnd_eq (show bnd (cArgs fs g w) _ = _ from ef)
  refine ⟨tk, H0, F0, F, g, w, ds, w1, R, e1, fun vs H1 F1 R1 x1 r1 => ?_⟩
  refine ⟨tk, F1, ds, w1, d, w', by rw [List.append_nil, ← r1.length, cArgs_len e1, hn], R1.sub, R1.wat, by rw [List.append_nil]; exact r1, ef, fun v H2 F2 s sb gr nw wa rp => ?_⟩
  have x2 : Ex tk F1 H1 F2 H2 := ⟨s, gr, nw⟩
  exact k v H2 F2 (R1.after x2 sb wa) (x1.trans x2) rp
theorem EV.call {f : Addr} {fd : FuncData} {ps : List Str} {x : Str} {p pos : Pos} {e : Expr} {es : List Expr} {k n : Nat} {fn : Fn} {fs : List E} (F : FnOk X.prog X.w X.K X.mg X.base CX0 k f fd ps (spD X.K X.mg zf n fn)) (hr : Room k X.A) (hm : X.mg x = some (.ref f)) (hk : PySem.W.keepIn X.K (.ref f) = true) (hb : Binds X.K fd ps [])
    (ha : EA X zf O (e :: es) (cArgs fs)) (hg : Gl X x := by rfl) (hn : fs.length = n := by rfl) (hdb : (x == ("__debug__" : Str)) = false := by decide) (he : starEach (e :: es) X.env = (false, eval e X.env) :: starEach es X.env := by rfl) (hpl : (backTo pos (starEach es X.env)).any (·.1) = false := by rfl) :
    EV X zf O (.Call (.Name x p) (e :: es) [] pos) (cCall fn fs) := PE.imp (pe_call F hr hg hm hk hb .nil pass0 ha hdb he hpl) (call_read hn)
end
section
variable {P : Program} {w : World} {K : PySem.W.Frag} {mg : Str → Option Value} {base : Heap} {zf : Bool}
theorem start_rel {mx : Str → Option Value} {zf : Bool} {tk : Tk K mx zf} {N : List Str} {vs : List V} {ds : List D} {H F : Hp} {wd : Wd} {nl : Nat} (sb : Sub F H) (wa : WAt tk H F wd) (rl : RepL tk F ds vs) (hn : N.length = vs.length + nl) :
    Rel tk H F [] (L2.start N vs) H F (ds.map some ++ List.replicate nl none) wd := by
  have e : N.length - vs.length = nl := by omega
  unfold L2.start
  rw [e]
  refine ⟨by simp [rl.length], sb, Same.refl F, Grow.refl, fun _ _ _ h => h, fun i d _ h => ?_, fun i d hi _ => absurd hi (by simp), fun i j a d e hi _ _ _ _ _ => absurd hi (by simp), wa⟩
  by_cases hi : i < ds.length
  · rw [List.getElem?_append_left (by simpa using hi), List.getElem?_map] at h
    obtain ⟨d', h1, h2⟩ := Option.map_eq_some_iff.mp h
    cases h2
    obtain ⟨v, h3, h4⟩ := rl.at h1
    refine ⟨v, ?_, h4⟩
    rw [List.getElem?_append_left (by rw [List.length_map, ← rl.length]; exact hi), List.getElem?_map, h3]
    rfl
  · rw [List.getElem?_append_right (by simpa using hi), List.getElem?_replicate] at h
    split at h <;> cases h
/-- THE RULE: a def of the text keeps the promise of its body's function -/
theorem fn_ok {x qual : Str} {st : Stmt} {f : Addr} {fd : FuncData} {N ps : List Str} {k nl : Nat} {fb : S} {O' : List Nat} (F : Fun K x qual st f fd) (S : FnScope N ps (defScope st))
    (hb : ∀ (cdv : Value) (A : Around) (outer : List PySem.Env) (s : Shared) (H : Hp) (E : XK), Room k (A.deeper (envOfC qual (defScope st) s.heap.objs.size f cdv)) → ESs (cxOf CX0 P w K mg base N qual (defScope st) f cdv A outer s H E).nox zf [] O' [] (defBody st) fb)
    (hN : N.length = ps.length + nl := by rfl) : FnOk P w K mg base CX0 (k + 1) f fd ps (spD K mg zf ps.length (bodyFn ps.length nl fb)) :=
  F.ok S (fun vs H Q E ⟨tk, F, ds, w, r, w', h, _⟩ => h) fun cdv A outer s H vs Q E hr ⟨tk, F, ds, wd, r, w', hl, sb, wa, rl, ef, k⟩ => by
  unfold bodyFn at ef
  split at ef
  · obtain ⟨o, w1, e1, ef⟩ := bnd_eq ef
    refine ⟨_, hb cdv A outer s H E hr, tk, H, F, F, _, wd, o, w1, start_rel sb wa rl (by rw [hl]; exact hN), e1, ?_⟩
    cases o with
    | rt d =>
      cases ef
      exact fun v H' F' a1 a2 a3 a4 a5 a6 => k v H' F' a2 a1 a3 a4 a5 a6
    | nx g =>
      cases ef
      exact fun σ' H' F' R => k .non H' F' R.f0 R.sub R.k0 R.n0 R.wat (by simp only [Rep])
    | bk g => cases ef
    | ct g => cases ef
  · cases ef
/-! ### the next draw -/
theorem fnNext_eq {ds : List D} {wd : Wd} {r : D} {w' : Wd} (h : fnNext ds wd = some (r, w')) : ∃ m l, ds = [tokW, .int m] ∧ wd = some l ∧ ((l = [] ∧ r = .int 0 ∧ w' = some []) ∨ ∃ x l', l = x :: l' ∧ m ≠ 0 ∧ r = .int (x.fmod m) ∧ w' = some l') := by
  unfold fnNext at h
  split at h
  · rename_i m l
    split at h
    · cases h
      exact ⟨m, [], rfl, rfl, .inl ⟨rfl, rfl, rfl⟩⟩
    · rename_i x l'
      split at h
      · rename_i hm
        cases h
        exact ⟨m, _, rfl, rfl, .inr ⟨x, l', rfl, hm, rfl, rfl⟩⟩
      · cases h
  · cases h
theorem rep_tokW {mx : Str → Option Value} {zf : Bool} {tk : Tk K mx zf} {F : Hp} {v : V} (h : Rep tk F tokW v) : ∃ a, v = .ref a ∧ tk.pw = some a := by
  simp only [tokW, Rep] at h
  obtain ⟨a, e, h⟩ := h
  refine ⟨a, e, ?_⟩
  rcases h with ⟨es, _, l⟩ | ⟨es, _, l⟩ | ⟨_, z⟩ | ⟨_, z, _⟩ | ⟨ns, z, r⟩
  · cases es with
    | nil => simp only [RepK] at l
    | cons p es =>
      obtain ⟨k', v'⟩ := p
      simp only [RepK] at l
      cases k' <;> cases l.1
  · cases es with
    | nil => simp only [RepT] at l
    | cons p es =>
      obtain ⟨k', v'⟩ := p
      simp only [RepT] at l
      cases l.1
  · exact z
  · cases z
  · cases z
/-- the dict of draws: what lies in it -/
def wKvs (b : Addr) (n : Nat) : List (Key × V) := [(.inr "draws", .ref b), (.inr "at", .int n)]
theorem kne : ¬ (Sum.inr (Str.ofString "draws") : Key) = Sum.inr (Str.ofString "at") := by decide +kernel
theorem wd_draws (b : Addr) (n : Nat) : valV (wKvs b n) (.inr "draws" : Key) = some (.ref b) := by
  unfold wKvs; rw [valV_pos rfl]
theorem wd_at (b : Addr) (n : Nat) : valV (wKvs b n) (.inr "at" : Key) = some (.int n) := by
  unfold wKvs; rw [valV_neg (p := ((Sum.inr (Str.ofString "draws") : Key), V.ref b)) kne, valV_pos rfl]
theorem wd_put (b : Addr) (n : Nat) : putK (wKvs b n) (.inr "at" : Key) (.int (n + 1 : Nat)) = wKvs b (n + 1) := by
  unfold putK
  rw [if_pos (by rw [valV_any, wd_at]; rfl)]
  unfold wKvs
  rw [List.map_cons, List.map_cons, List.map_nil]
  dsimp only
  rw [if_neg kne, if_pos rfl]
theorem len_next {ds : List D} {wd : Wd} {r : D} {w' : Wd} (h : fnNext ds wd = some (r, w')) : ds.length = 2 := by
  obtain ⟨m, l, rfl, _⟩ := fnNext_eq h
  rfl
/-- what _law_next finds and leaves -/
theorem next_facts {mx : Str → Option Value} {zf : Bool} {vs : List V} {H : Hp} {Q : VK} {E : XK} (h : spD K mx zf 2 fnNext vs H Q E) : ∃ (p b : Addr) (m : Int) (n : Nat) (full : List Int), vs = [.ref p, .int m] ∧ H p = some (.dK (wKvs b n)) ∧ Rd H b (.lst (full.map V.int)) ∧ b ≠ p ∧
    ((full.length ≤ n ∧ Q (.int 0) (upd H p (.dK (wKvs b (n + 1))))) ∨ ∃ x, full[n]? = some x ∧ m ≠ 0 ∧ Q (.int (x.fmod m)) (upd H p (.dK (wKvs b (n + 1))))) := by
  obtain ⟨tk, F, ds, wd, r, w', hl, sb, wa, rl, ef, k⟩ := h
  obtain ⟨m, l, rfl, rfl, hh⟩ := fnNext_eq ef
  match vs, rl with
  | [], rl => simp only [RepL] at rl
  | [_], rl => simp only [RepL] at rl; exact rl.2.elim
  | _ :: _ :: _ :: _, rl => simp only [RepL] at rl; exact rl.2.2.elim
  | [v, u], rl =>
    simp only [RepL, Rep] at rl
    obtain ⟨rv, ru, _⟩ := rl
    obtain ⟨p, rfl, hp⟩ := rep_tokW rv
    subst ru
    unfold WAt at wa
    rw [hp] at wa
    obtain ⟨fp, b, n, full, hH, hr, rfl⟩ := wa
    have rb := sb.rdL hr
    have nb : b ≠ p := fun z => by
      rcases hr with hr | ⟨_, hr⟩ <;> rw [z, fp] at hr <;> cases hr
    have key : ∀ (r : Int), Rep tk F (.int r) (.int r) → (∀ l', w' = some l' → l' = full.drop (n + 1)) → (w' ≠ none) → (∀ v H' F', Same F F' → Sub F' H' → Grow tk H F' H' → New tk H F F' → WAt tk H' F' w' → Rep tk F' (.int r) v → Q v H') → Q (.int r) (upd H p (.dK (wKvs b (n + 1)))) := fun r rr hw hn k => by
      refine k _ _ F (Same.refl F) (fun a o e => ?_) (fun a o e ne => ?_) (fun _ _ _ h => h) ?_ rr
      · have ne : a ≠ p := fun z => by rw [z, fp] at e; cases e
        rw [upd_ne ne]; exact sb a o e
      · have ne : a ≠ p := fun z => ne (by rw [hp, z])
        rw [upd_ne ne]; exact .inl e
      · cases hw' : w' with
        | none => exact absurd hw' hn
        | some l' =>
          unfold WAt
          rw [hp]
          exact ⟨fp, b, n + 1, full, upd_same, hr, hw l' hw'⟩
    refine ⟨p, b, m, n, full, rfl, hH, rb, nb, ?_⟩
    rcases hh with ⟨h0, rfl, rfl⟩ | ⟨x, l', h0, hm, rfl, rfl⟩
    · have hle : full.length ≤ n := List.drop_eq_nil_iff.mp h0
      exact .inl ⟨hle, key 0 (by simp only [Rep]) (fun l' e => by cases e; exact (List.drop_eq_nil_iff.mpr (by omega)).symm) (fun z => nomatch z) k⟩
    · have hlt : n < full.length := by
        by_cases hlt : n < full.length
        · exact hlt
        · rw [List.drop_eq_nil_iff.mpr (by omega)] at h0; cases h0
      rw [List.drop_eq_getElem_cons hlt] at h0
      cases h0
      exact .inr ⟨_, List.getElem?_eq_getElem hlt, hm, key _ (by simp only [Rep]) (fun l' e => by cases e; rfl) (fun z => nomatch z) k⟩
end
end Q

set_option Elab.async false
set_option linter.all false
set_option autoImplicit false
set_option maxRecDepth 100000
/-! QS10: dead ways, min and max of data, sorted, isinstance, list. -/
namespace Q
open PySem PySem.Spec PyProof.Rows L2
/-! ### what is never reached -/
def eDead : E := fun _ _ => none
def tDead : T := fun _ _ => none
section
variable {X : Cx} {zf : Bool}
theorem EV.dead {O : List Nat} {e : Expr} : EV X zf O e eDead := ⟨fun pins s σ H Q I ⟨tk, H0, F0, F, g, w, d, w', R, ef, k⟩ => by cases ef⟩
theorem EB.dead {O : List Nat} {e : Expr} : EB X zf O e eDead := ⟨fun pins s σ H Q I ⟨tk, H0, F0, F, g, w, d, w', R, ef, k⟩ => by cases ef⟩
theorem EO.dead {O : List Nat} {e : Expr} : EO X zf O e eDead := ⟨fun pins s σ H Q I ⟨tk, H0, F0, F, g, w, d, w', R, ef, k⟩ => by cases ef⟩
theorem ET.dead {O : List Nat} {e : Expr} : ET X zf O e tDead := ⟨fun pins s σ H Q I ⟨tk, H0, F0, F, g, w, d, w', R, ef, k⟩ => by cases ef⟩
end
/-! ### items -/
section
variable {X : Cx} {zf : Bool} {Kx : PySem.W.Frag} {mx : Str → Option Value} {zf : Bool} {tk : Tk Kx mx zf} {pins : List (Addr × Obj)} {σ : L2.St} {H F : Hp} {s : Shared}
/-- a list or a tuple that stands: its items -/
theorem items_at (I : Inv X pins σ H s) (sb : Sub F H) {d : D} {ds : List D} {v : V} {u : Value} (hd : itemsD d = some ds) (rb : RepB tk F H d v) (ru : RelV v u) :
    ∃ a xs its, u = .ref a ∧ RepL tk F ds xs ∧ Vals xs its ∧ xs.length ≤ sizeLine ∧ (s.heap.IsList a its.toArray ∨ s.heap.IsTuple a its.toArray) := by
  cases d <;> simp only [itemsD] at hd <;> first | cases hd | skip
  · simp only [RepB] at rb
    obtain ⟨a, xs, rfl, _, hr, l⟩ := rb
    cases ru
    obtain ⟨its, rv, pl, z⟩ := I.list (.inl hr)
    exact ⟨a, xs, its, rfl, l, rv, z, .inl pl.isList⟩
  · simp only [RepB, Rep] at rb
    obtain ⟨a, xs, rfl, hr, l⟩ := rb
    cases ru
    obtain ⟨its, rv, pl, z⟩ := I.tuple (sb.tup hr).sq
    exact ⟨a, xs, its, rfl, l, rv, z, .inr pl⟩
theorem plain_items {d : D} {ds : List D} (hd : itemsD d = some ds) (hp : d.plain = true) : PyData.plainAll ds = true := by
  cases d <;> simp only [itemsD] at hd <;> first | cases hd | skip
  all_goals simpa only [PyData.plain] using hp
theorem depth_items {d : D} {ds : List D} (hd : itemsD d = some ds) {n : Nat} (h : d.depth ≤ n) : PyData.depthAll ds ≤ n := by
  cases d <;> simp only [itemsD] at hd <;> first | cases hd | skip
  all_goals (simp only [PyData.depth] at h; omega)
theorem Vals.at {xs : List V} {us : List Value} (r : Vals xs us) {i : Nat} {u : Value} (h : us[i]? = some u) : ∃ x, xs[i]? = some x ∧ RelV x u := by
  induction r generalizing i with
  | nil => simp at h
  | cons r _ ih =>
    cases i with
    | zero => simp at h; subst h; exact ⟨_, rfl, r⟩
    | succ i => exact ih (by simpa using h)
theorem RepL.val {ds : List D} {vs : List V} (h : RepL tk F ds vs) {i : Nat} {v : V} (e : vs[i]? = some v) : ∃ d, ds[i]? = some d ∧ Rep tk F d v := by
  have hl := h.length
  have hi : i < vs.length := (List.getElem?_eq_some_iff.mp e).1
  obtain ⟨v', e', r⟩ := h.at (i := i) (d := ds[i]) (List.getElem?_eq_getElem (by omega))
  rw [e] at e'
  cases e'
  exact ⟨_, List.getElem?_eq_getElem (by omega), r⟩
theorem readsAll_val {h : Heap} {us : List Value} {ds : List D} {as : List Addr} (r : ReadsAll h us ds as) : ∀ {i : Nat} {u : Value}, us[i]? = some u → ∃ d bs, ds[i]? = some d ∧ Reads h u d bs := by
  induction us generalizing ds as with
  | nil => intro i u h; simp at h
  | cons u us ih =>
    intro i v e
    cases r with
    | cons r1 r2 =>
      cases i with
      | zero => simp at e; subst e; exact ⟨_, _, rfl, r1⟩
      | succ i => exact ih r2 (by simpa using e)
theorem plain_at {ds : List D} (h : PyData.plainAll ds = true) : ∀ {i : Nat} {d : D}, ds[i]? = some d → d.plain = true := by
  induction ds with
  | nil => intro i d e; simp at e
  | cons x xs ih =>
    intro i d e
    simp only [PyData.plainAll, Bool.and_eq_true] at h
    cases i with
    | zero => simp at e; subst e; exact h.1
    | succ i => exact ih h.2 (by simpa using e)
end
theorem alikeB_all {xs : List D} (h : alikeB xs = true) (n : noNoneB xs = true) : PySem.W.AlikeAll xs := by
  refine ⟨fun x hx y hy => ?_, fun x hx e => ?_⟩
  · exact List.all_eq_true.mp (List.all_eq_true.mp h x hx) y hy
  · have := List.all_eq_true.mp n x hx
    subst e
    simp [isNoneD] at this
/-! ### min(xs), max(xs) -/
def rMM (Kx : PySem.W.Frag) (mx : Str → Option Value) (zf : Bool) (pick : D → List D → D) : List V → Hp → VK → Prop := fun vs H Q => ∃ (tk : Tk Kx mx zf) (F : Hp) (d : D) (v : V) (x : D) (xs : List D), vs = [v] ∧ Sub F H ∧ RepB tk F H d v ∧ d.plain = true ∧ d.depth ≤ 60 ∧ itemsD d = some (x :: xs) ∧ PySem.W.AlikeAll (x :: xs) ∧ ∀ u, Rep tk F (pick x xs) u → Q u H
theorem fold_mem {α : Type} {c : α → α → Bool} : ∀ (xs : List α) (x : α), xs.foldl (fun a y => if c a y = true then y else a) x ∈ x :: xs
  | [], x => by simp
  | y :: xs, x => by
    have h := fold_mem (c := c) xs (if c x y = true then y else x)
    rw [List.foldl_cons]
    rcases List.mem_cons.mp h with h | h
    · rw [h]
      split
      · simp
      · simp
    · exact List.mem_cons_of_mem _ (List.mem_cons_of_mem _ h)
theorem minD_mem (x : D) (xs : List D) : PySem.W.minD x xs ∈ x :: xs := fold_mem (c := fun a y => PySem.W.dataLt y a) xs x
theorem maxD_mem (x : D) (xs : List D) : PySem.W.maxD x xs ∈ x :: xs := fold_mem (c := fun a y => PySem.W.dataLt a y) xs x
theorem plain_mem {ds : List D} (h : PyData.plainAll ds = true) {d : D} (m : d ∈ ds) : d.plain = true := by
  obtain ⟨i, hi⟩ := List.mem_iff_getElem?.mp m
  exact plain_at h hi
section
variable {X : Cx} {zf : Bool} {k : Nat}
theorem mm_run {pick : D → List D → D} (pm : ∀ x xs, pick x xs ∈ x :: xs) {pins s σ H vs us Q} (I : Inv X pins σ H s) (r : Vals vs us) (h : rMM X.K X.mg zf pick vs H Q) (hr : Room k X.A) :
    ∃ (a : Addr) (its : Array Value) (x : D) (xs : List D) (as : List Addr), us = [.ref a] ∧ (s.heap.IsList a its ∨ s.heap.IsTuple a its) ∧ ReadsAll s.heap its.toList (x :: xs) as ∧ PySem.W.AlikeAll (x :: xs) ∧ X.A.units + 1 + PyData.depthAll (x :: xs) < cLine ∧
      ∀ (i : Nat) v h' tk' bs, its[i]? = some v → Reads h' v (pick x xs) bs → (∀ b o, s.heap.get? b = some o → h'.get? b = some o) → EP X pins σ Q v { s with heap := h', toks := tk' } := by
  obtain ⟨tk, F, d, v, x, xs, rfl, sb, rb, pl, dp, hi, ha, q⟩ := h
  obtain ⟨u, rfl, ru⟩ := vals1 r
  obtain ⟨a, ys, its, rfl, rl, rv, z, ht⟩ := items_at I sb hi rb ru
  obtain ⟨as, ra⟩ := RepL.reads I sb _ _ _ (plain_items hi pl) rl rv
  refine ⟨a, its.toArray, x, xs, as, rfl, ht, by simpa using ra, ha, by have := hr.un; have := depth_items hi dp; omega, fun i v h' tk' bs hv rd hk => ?_⟩
  have hv : its[i]? = some v := by simpa using hv
  obtain ⟨y, hy, rvy⟩ := Vals.at rv hv
  obtain ⟨dy, hdy, rdy⟩ := rl.val hy
  obtain ⟨dz, bs2, hdz, rdz⟩ := readsAll_val ra hv
  rw [hdy] at hdz
  cases hdz
  have e1 := PySem.SeqAt.readOf_plain (plain_at (plain_items hi pl) hdy) (PyProof.Rows.Reads.keeps hk rdz)
  have e2 := PySem.SeqAt.readOf_plain (plain_mem (plain_items hi pl) (pm x xs)) rd
  exact ⟨y, H, I.kept hk, rvy, q y (by rw [← e2, e1]; exact rdy)⟩
theorem cr_min1 (hr : Room k X.A) : CallR X (.builtin "min") (rMM X.K X.mg zf PySem.W.minD) := by
  intro pins s σ H vs us Q I r h
  obtain ⟨a, its, x, xs, as, rfl, ht, ra, ha, hu, fin⟩ := mm_run minD_mem I r h hr
  rcases ht with ht | ht
  · exact PySem.W.min_list_data hr.hd ht ra ha hu fin
  · exact PySem.W.min_tuple_data hr.hd ht ra ha hu fin
theorem cr_max1 (hr : Room k X.A) : CallR X (.builtin "max") (rMM X.K X.mg zf PySem.W.maxD) := by
  intro pins s σ H vs us Q I r h
  obtain ⟨a, its, x, xs, as, rfl, ht, ra, ha, hu, fin⟩ := mm_run maxD_mem I r h hr
  rcases ht with ht | ht
  · exact PySem.W.max_list_data hr.hd ht ra ha hu fin
  · exact PySem.W.max_tuple_data hr.hd ht ra ha hu fin
theorem ok_min1 : Ok1 X.K X.mg zf minD1 (rMM X.K X.mg zf PySem.W.minD) := fun tk H0 F0 O σ F H g w x d vx Q R rx e kk => by
  unfold minD1 at e
  split at e
  · rename_i y ys hi
    split at e
    · rename_i hc
      simp only [Bool.and_eq_true] at hc
      cases e
      exact ⟨tk, F, x, vx, y, ys, rfl, R.sub, rx, hc.1.1.1, by simpa [lowD] using hc.2, hi, alikeB_all hc.1.1.2 hc.1.2, fun u ru => kk u H F R (Ex.refl ..) ru⟩
    · cases e
  · cases e
theorem ok_max1 : Ok1 X.K X.mg zf maxD1 (rMM X.K X.mg zf PySem.W.maxD) := fun tk H0 F0 O σ F H g w x d vx Q R rx e kk => by
  unfold maxD1 at e
  split at e
  · rename_i y ys hi
    split at e
    · rename_i hc
      simp only [Bool.and_eq_true] at hc
      cases e
      exact ⟨tk, F, x, vx, y, ys, rfl, R.sub, rx, hc.1.1.1, by simpa [lowD] using hc.2, hi, alikeB_all hc.1.1.2 hc.1.2, fun u ru => kk u H F R (Ex.refl ..) ru⟩
    · cases e
  · cases e
theorem EV.min1 {O : List Nat} {a : Expr} {fa : E} {p pos : Pos} (hm : X.mg "min" = Option.none) (hr : Room k X.A) (ha : EB X zf O a fa) (hg : Gl X "min" := by rfl) (he : starEach [a] X.env = (false, eval a X.env) :: starEach [] X.env := by rfl) : EV X zf O (.Call (.Name "min" p) [a] [] pos) (cOp1 minD1 fa) :=
  EV.bi1 (cr_min1 hr) ok_min1 hg hm (by decide +kernel) ha (he := he)
theorem EV.max1 {O : List Nat} {a : Expr} {fa : E} {p pos : Pos} (hm : X.mg "max" = Option.none) (hr : Room k X.A) (ha : EB X zf O a fa) (hg : Gl X "max" := by rfl) (he : starEach [a] X.env = (false, eval a X.env) :: starEach [] X.env := by rfl) : EV X zf O (.Call (.Name "max" p) [a] [] pos) (cOp1 maxD1 fa) :=
  EV.bi1 (cr_max1 hr) ok_max1 hg hm (by decide +kernel) ha (he := he)
end
/-! ### isinstance -/
def tyNm : D → String
  | .none => "NoneType"
  | .bool _ => "bool"
  | .int _ => "int"
  | .str _ => "str"
  | .list _ => "list"
  | .tuple _ => "tuple"
  | .dict _ => "dict"
def isTok : D → Bool
  | .dict ((.none, _) :: _) => true
  | _ => false
/-- a built-in type that isinstance is asked for -/
inductive Ty where
  | bool | int | str | list | tuple | dict
def Ty.nm : Ty → String
  | .bool => "bool"
  | .int => "int"
  | .str => "str"
  | .list => "list"
  | .tuple => "tuple"
  | .dict => "dict"
def isTy : Ty → D → Bool
  | .bool, .bool _ => true
  | .int, .bool _ => true
  | .int, .int _ => true
  | .str, .str _ => true
  | .list, .list _ => true
  | .tuple, .tuple _ => true
  | .dict, .dict _ => true
  | _, _ => false
def isaD (T : Ty) (d : D) : Option D := if isTok d = true then none else some (.bool (isTy T d))
theorem kitB_ty (T : Ty) (d : D) : kitB (tyNm d) T.nm = some (isTy T d) := by
  cases T <;> cases d <;> simp only [tyNm, Ty.nm, isTy] <;> decide +kernel
section
variable {X : Cx} {zf : Bool} {k : Nat} {Kx : PySem.W.Frag} {mx : Str → Option Value} {zf : Bool} {tk : Tk Kx mx zf} {pins : List (Addr × Obj)} {σ : L2.St} {H F : Hp} {s : Shared}
theorem dict_at (I : Inv X pins σ H s) {a : Addr} (h : (∃ es, Rd H a (.dK es)) ∨ ∃ es, Rd H a (.dT es)) : ∃ o, s.heap.get? a = some o ∧ o.cls = .type "dict" := by
  have h : (∃ es, ObjOk X.prog X.w H s.heap a (.dK es)) ∨ ∃ es, ObjOk X.prog X.w H s.heap a (.dT es) := by
    rcases h with ⟨es, h⟩ | ⟨es, h⟩
    · rcases h with h | ⟨o, h⟩
      · exact .inl ⟨es, I.hok a _ h⟩
      · exact .inl ⟨es, (I.hok a _ h).2⟩
    · rcases h with h | ⟨o, h⟩
      · exact .inr ⟨es, I.hok a _ h⟩
      · exact .inr ⟨es, (I.hok a _ h).2⟩
  rcases h with ⟨es, h⟩ | ⟨es, h⟩
  · obtain ⟨_, _, vs, _, o, es, ep, h1, h2, _⟩ := h
    exact ⟨o, h1, h2.1⟩
  · obtain ⟨_, _, xs, _, o, es, ep, h1, h2, _⟩ := h
    exact ⟨o, h1, h2.1⟩
theorem kit_rep (I : Inv X pins σ H s) (sb : Sub F H) {d : D} {v : V} {u : Value} (rb : RepB tk F H d v) (r : RelV v u) (nt : isTok d = false) : ∃ P : Heap → Prop, PySem.W.KitX X.K u (.type (tyNm d)) P ∧ P s.heap ∧ u ≠ .builtin "__main__.__loader__#opaque" := by
  cases d with
  | none => simp only [RepB, Rep] at rb; subst rb; cases r; exact ⟨_, PySem.W.kitx_none, True.intro, fun z => nomatch z⟩
  | bool b => simp only [RepB, Rep] at rb; subst rb; cases r; exact ⟨_, PySem.W.kitx_bool, True.intro, fun z => nomatch z⟩
  | int i => simp only [RepB, Rep] at rb; subst rb; obtain ⟨t, rfl⟩ := r; exact ⟨_, PySem.W.kitx_int, True.intro, fun z => nomatch z⟩
  | str x => simp only [RepB, Rep] at rb; subst rb; obtain ⟨t, rfl⟩ := r; exact ⟨_, PySem.W.kitx_str, True.intro, fun z => nomatch z⟩
  | list ds =>
    simp only [RepB] at rb
    obtain ⟨a, xs, rfl, _, hr, l⟩ := rb
    cases r
    obtain ⟨_, its, n, _, _, h1⟩ := lstAt I hr
    exact ⟨_, PySem.W.kitx_list, ⟨_, h1, rfl⟩, fun z => nomatch z⟩
  | tuple ds =>
    simp only [RepB, Rep] at rb
    obtain ⟨a, xs, rfl, hr, l⟩ := rb
    cases r
    obtain ⟨_, _, ⟨o, h1, h2, _⟩, _⟩ := I.tuple (sb.tup hr).sq
    exact ⟨_, PySem.W.kitx_tuple, ⟨o, h1, h2⟩, fun z => nomatch z⟩
  | dict kvs =>
    simp only [RepB] at rb
    obtain ⟨a, rfl, rb⟩ := rb
    cases r
    refine ⟨_, PySem.W.kitx_dict, ?_, fun z => nomatch z⟩
    rcases rb with ⟨_, ⟨es, h, _⟩ | ⟨es, h, _⟩⟩ | ⟨z, _⟩ | ⟨_, z, _⟩ | ⟨ns, z, _⟩
    · exact dict_at I (.inl ⟨es, h⟩)
    · exact dict_at I (.inr ⟨es, h⟩)
    · subst z; cases nt
    · subst z; cases nt
    · subst z; cases nt
def rIsD (Kx : PySem.W.Frag) (mx : Str → Option Value) (zf : Bool) (T : Ty) : List V → Hp → VK → Prop := fun vs H Q => ∃ (tk : Tk Kx mx zf) (F : Hp) (d : D) (v : V), vs = [v, .ty T.nm] ∧ Sub F H ∧ RepB tk F H d v ∧ isTok d = false ∧ Q (.bl (isTy T d)) H
theorem cr_isD (T : Ty) : CallR X (.builtin "isinstance") (rIsD X.K X.mg zf T) := by
  intro pins s σ H vs us Q I r h
  obtain ⟨tk, F, d, v, rfl, sb, rb, nt, q⟩ := h
  obtain ⟨u1, u2, rfl, r1, r2⟩ := vals2 r
  obtain rfl : u2 = Value.type T.nm := r2
  obtain ⟨P, Z, p, hx⟩ := kit_rep I sb rb r1 nt
  exact PySem.W.kia_one Z I.kIn p (kit_ty (kitB_ty T d)) hx fun tk => ⟨.bl (isTy T d), H, I.tok tk, rfl, q⟩
/-- isinstance(a, T) -/
theorem EV.isa {O : List Nat} (T : Ty) {x : Str} {a : Expr} {fa : E} {p p2 pos : Pos} (hm : X.mg "isinstance" = Option.none) (hmT : X.mg x = Option.none) (hv : bootBuiltins x = some (.type T.nm)) (ha : EB X zf O a fa) (hn : x ≠ "__name__" := by decide) (hd : (x == ("__debug__" : Str)) = false := by decide)
    (hg : Gl X "isinstance" := by rfl) (hgT : Gl X x := by rfl) (he : starEach [a, .Name x p2] X.env = (false, eval a X.env) :: starEach [.Name x p2] X.env := by rfl) (he2 : starEach [.Name x p2] X.env = (false, eval (.Name x p2) X.env) :: starEach [] X.env := by rfl)
    (hpl : (backTo pos (starEach [.Name x p2] X.env)).any (·.1) = false := by rfl) : EV X zf O (.Call (.Name "isinstance" p) [a, .Name x p2] [] pos) (cOp1 (isaD T) fa) :=
  PE.imp (pe_callB (cr_isD T) hg hm (by decide +kernel) (pa_cons ha (pa_cons (pe_bltn (v := .ty T.nm) hgT hmT hv rfl hn hd) pa_nil he2) he) (he := he) (hpl := hpl)) fun σ H Q ⟨tk, H0, F0, F, g, w, d, w', R, ef, kk⟩ => by
  obtain ⟨x, w1, e1, ef⟩ := bnd_eq (show bnd (fa g w) _ = _ from ef)
  obtain ⟨e4, e5⟩ := lft_eq ef
  have e5 : w1 = w' := e5
  subst e5
  have nt : isTok x = false := by
    cases hx : isTok x with
    | false => rfl
    | true => unfold isaD at e4; rw [if_pos hx] at e4; cases e4
  have ed : d = .bool (isTy T x) := by
    unfold isaD at e4
    rw [if_neg (by rw [nt]; exact fun z => nomatch z)] at e4
    exact (Option.some.inj e4).symm
  subst ed
  refine ⟨tk, H0, F0, F, g, w, x, w1, R, e1, fun v H1 F1 R1 x1 r1 => ?_⟩
  exact ⟨tk, F1, x, v, rfl, R1.sub, r1, nt, kk _ H1 F1 R1 x1 (by simp only [Rep])⟩
end
end Q

set_option Elab.async false
set_option linter.all false
set_option autoImplicit false
set_option maxRecDepth 100000
/-! QS11: the def of draws; the law's head. -/
namespace Q
open PySem PySem.Spec PyProof.Rows L2
section
variable {P : Program} {w : World} {K : PySem.W.Frag} {mg : Str → Option Value} {base : Heap} {zf : Bool}
theorem at_nat {α : Type} {xs : List α} {n : Nat} {x : α} (h : xs[n]? = some x) : L2.atI xs (((n + 1 : Nat) : Int) - 1) = some x := by
  have e : (((n + 1 : Nat) : Int) - 1) = (n : Int) := by omega
  rw [e]
  have hl := (List.getElem?_eq_some_iff.mp h).1
  unfold L2.atI L2.ixN
  rw [if_pos (Int.natCast_nonneg n), if_pos (by omega)]
  simpa using h
/-- w["at"] += 1; return int(w["draws"][w["at"] - 1]) % many if w["at"] <= len(w["draws"]) else 0 -/
theorem next_ok {st : Stmt} {f : Addr} {fd : FuncData} {k : Nat} {p0 p1 p2 p3 p4 q0 q1 q2 q3 q4 q5 q6 q7 q8 q9 r0 r1 r2 r3 r4 r5 r6 r7 r8 r9 s0 s1 s2 s3 s4 : Pos} {i0 i1 i2 i3 i4 i5 i6 i7 : Nat}
    (F : Fun K "_law_next" "_law_next" st f fd) (S : FnScope ["w", "many"] ["w", "many"] (defScope st)) (mi : mg "int" = none) (ml : mg "len" = none)
    (gi : (defScope st).names.lookup ("int" : Str) = some .globalImplicit) (gl : (defScope st).names.lookup ("len" : Str) = some .globalImplicit) (gw : (defScope st).names.lookup ("w" : Str) = some .local) (gm : (defScope st).names.lookup ("many" : Str) = some .local)
    (hb : defBody st = [.AugAssign (.Subscript (.Name "w" p0) (.Constant (.str "at") i0 p1) p2) .Add (.Constant (.int 1) i1 p3) p4,
      .Return (some (.IfExp (.Compare (.Subscript (.Name "w" q0) (.Constant (.str "at") i2 q1) q2) [.LtE] [.Call (.Name "len" q3) [.Subscript (.Name "w" q4) (.Constant (.str "draws") i3 q5) q6] [] q7] q8)
        (.BinOp (.Call (.Name "int" r0) [.Subscript (.Subscript (.Name "w" r1) (.Constant (.str "draws") i4 r2) r3) (.BinOp (.Subscript (.Name "w" r4) (.Constant (.str "at") i5 r5) r6) .Sub (.Constant (.int 1) i6 r7) r8) r9] [] s0) .Mod (.Name "many" s1) s2)
        (.Constant (.int 0) i7 s3) q9)) s4]) : FnOk P w K mg base CX0 (k + 1) f fd ["w", "many"] (spD K mg zf 2 fnNext) := by
  refine F.ok S (fun vs H Q E h => ?_) fun cdv A outer s H vs Q E hr h => ?_
  · obtain ⟨p, b, m, n, full, rfl, _⟩ := next_facts h
    rfl
  · obtain ⟨p, b, m, n, full, rfl, hp, rb, nb, hh⟩ := next_facts h
    rw [hb]
    have hu := hu_of hr
    refine ⟨_, pss_cons (ps_daug hu (pv 0 (hv := .inl gw)) pe_str pe_int in_add (fun _ _ _ => rfl))
      (pss_one (ps_ret (pe_ifExp (pt_cmpR op_le (pe_dget hu (pv 0 (hv := .inl gw)) pe_str (fun _ _ => rfl)) (pe_callB call_len_seq gl ml PySem.boot_len (pa_cons (pe_dget hu (pv 0 (hv := .inl gw)) pe_str (fun _ _ => rfl)) pa_nil)) (nomark _))
        (pe_op op_modN (pe_callTy call_int1 gi mi (by decide +kernel) (pa_cons (pe_ix ix_list (pe_dget hu (pv 0 (hv := .inl gw)) pe_str (fun _ _ => rfl)) (pe_op op_sub (pe_dget hu (pv 0 (hv := .inl gw)) pe_str (fun _ _ => rfl)) pe_int) (fun _ _ => rfl)) pa_nil)) (pv 1 (hv := .inl gm))) pe_int))), ?_⟩
    have dat : ∀ {H : Hp} {n' : Nat}, H p = some (.dK (wKvs b n')) → DGet H p (.str "at") (some (.int n')) := fun {H n'} h => .inl ⟨_, .inr "at", .inl h, rfl, (wd_at b n').symm⟩
    have ddr : ∀ {H : Hp} {n' : Nat}, H p = some (.dK (wKvs b n')) → DGet H p (.str "draws") (some (.ref b)) := fun {H n'} h => .inl ⟨_, .inr "draws", .inl h, rfl, (wd_draws b n').symm⟩
    have hz : (wKvs b n).length < sizeLine := by show 2 < sizeLine; decide
    refine ⟨.ref p, rfl, p, _, rfl, dat hp, (n : Int), 1, rfl, rfl, upd H p (.dK (wKvs b (n + 1))), .inl ⟨_, .inr "at", hp, rfl, hz, ?_⟩, ?_⟩
    · rw [show ((n : Int) + 1) = ((n + 1 : Nat) : Int) from rfl, ← wd_put] <;> rfl
    generalize hH : upd H p (.dK (wKvs b (n + 1))) = H1 at hh ⊢
    have h1p : H1 p = some (.dK (wKvs b (n + 1))) := by rw [← hH, upd_same]
    have rb' : Rd H1 b (.lst (full.map V.int)) := by
      rcases rb with rb | ⟨o, rb⟩
      · exact .inl (by rw [← hH, upd_ne nb]; exact rb)
      · exact .inr ⟨o, by rw [← hH, upd_ne nb]; exact rb⟩
    refine ⟨.ref p, rfl, p, _, rfl, dat h1p, .ref p, rfl, p, _, rfl, ddr h1p, ⟨b, _, rfl, .inl (.inl rb'), (n + 1 : Nat), (full.map V.int).length, rfl, rfl, _, rfl, ?_⟩⟩
    rw [List.length_map]
    rcases hh with ⟨hl, q⟩ | ⟨x, hx, hm, q⟩
    · rw [decide_eq_false (by omega)]
      exact q
    · have hl := (List.getElem?_eq_some_iff.mp hx).1
      rw [decide_eq_true (by omega)]
      refine ⟨.ref p, rfl, p, _, rfl, ddr h1p, .ref p, rfl, p, _, rfl, dat h1p, _, _, rfl, rfl, ?_⟩
      refine ⟨b, _, _, .int x, rfl, rfl, .inl rb', at_nat (by rw [List.getElem?_map, hx]; rfl), .inl ⟨x, rfl, .int m, rfl, x, m, rfl, rfl, hm, q⟩⟩
end
/-! ### the law's head: w = {"draws": e, "at": 0} -/
mutual
theorem Rep.up {Kx : PySem.W.Frag} {mx : Str → Option Value} {zf : Bool} {tk tk' : Tk Kx mx zf} {F : Hp} (h0 : tk.pw = none) : ∀ (d : D) (v : V), Rep tk F d v → Rep tk' F d v
  | .none, _, h => by simpa only [Rep] using h
  | .bool _, _, h => by simpa only [Rep] using h
  | .int _, _, h => by simpa only [Rep] using h
  | .str _, _, h => by simpa only [Rep] using h
  | .list ds, v, h => by
    simp only [Rep] at h ⊢
    obtain ⟨a, xs, e, r, l⟩ := h
    exact ⟨a, xs, e, r, RepL.up h0 ds xs l⟩
  | .tuple ds, v, h => by
    simp only [Rep] at h ⊢
    obtain ⟨a, xs, e, r, l⟩ := h
    exact ⟨a, xs, e, r, RepL.up h0 ds xs l⟩
  | .dict kvs, v, h => by
    simp only [Rep] at h ⊢
    obtain ⟨a, e, h⟩ := h
    refine ⟨a, e, ?_⟩
    rcases h with ⟨es, r, l⟩ | ⟨es, r, l⟩ | ⟨_, z⟩ | h | h
    · exact .inl ⟨es, r, RepK.up h0 kvs es l⟩
    · exact .inr (.inl ⟨es, r, RepT.up h0 kvs es l⟩)
    · rw [h0] at z; cases z
    · exact .inr (.inr (.inr (.inl h)))
    · exact .inr (.inr (.inr (.inr h)))
theorem RepL.up {Kx : PySem.W.Frag} {mx : Str → Option Value} {zf : Bool} {tk tk' : Tk Kx mx zf} {F : Hp} (h0 : tk.pw = none) : ∀ (ds : List D) (vs : List V), RepL tk F ds vs → RepL tk' F ds vs
  | [], [], _ => by simp only [RepL]
  | [], _ :: _, h => by simp only [RepL] at h
  | _ :: _, [], h => by simp only [RepL] at h
  | d :: ds, v :: vs, h => by
    simp only [RepL] at h ⊢
    exact ⟨Rep.up h0 d v h.1, RepL.up h0 ds vs h.2⟩
theorem RepK.up {Kx : PySem.W.Frag} {mx : Str → Option Value} {zf : Bool} {tk tk' : Tk Kx mx zf} {F : Hp} (h0 : tk.pw = none) : ∀ (kvs : List (D × D)) (es : List (Key × V)), RepK tk F kvs es → RepK tk' F kvs es
  | [], [], _ => by simp only [RepK]
  | [], _ :: _, h => by simp only [RepK] at h
  | _ :: _, [], h => by simp only [RepK] at h
  | (k, d) :: r, (k', v) :: r', h => by
    simp only [RepK] at h ⊢
    exact ⟨h.1, Rep.up h0 d v h.2.1, RepK.up h0 r r' h.2.2⟩
theorem RepT.up {Kx : PySem.W.Frag} {mx : Str → Option Value} {zf : Bool} {tk tk' : Tk Kx mx zf} {F : Hp} (h0 : tk.pw = none) : ∀ (kvs : List (D × D)) (es : List (List Key × V)), RepT tk F kvs es → RepT tk' F kvs es
  | [], [], _ => by simp only [RepT]
  | [], _ :: _, h => by simp only [RepT] at h
  | _ :: _, [], h => by simp only [RepT] at h
  | (k, d) :: r, (k', v) :: r', h => by
    simp only [RepT] at h ⊢
    exact ⟨h.1, Rep.up h0 d v h.2.1, RepT.up h0 r r' h.2.2⟩
end
theorem ints_repL {Kx : PySem.W.Frag} {mx : Str → Option Value} {zf : Bool} {tk : Tk Kx mx zf} {F : Hp} : ∀ (l : List Int) {xs : List V}, RepL tk F (l.map PyData.int) xs → xs = l.map V.int
  | [], [], _ => rfl
  | [], _ :: _, h => by simp only [List.map_nil, RepL] at h
  | _ :: _, [], h => by simp only [List.map_cons, RepL] at h
  | i :: l, x :: xs, h => by
    simp only [List.map_cons, RepL, Rep] at h
    rw [h.1, ints_repL l h.2]
    rfl
/-- the law's promise: True -/
def spLaw (K : PySem.W.Frag) (most : Nat) : Sp := fun vs H Q _ => ∃ (a : Addr) (ns : List Int), vs = [.ref a] ∧ SqL K H a (ns.map V.int) ∧ ns.length ≤ most ∧ ∀ H', Q (.bl true) H'
section
variable {P : Program} {w : World} {K : PySem.W.Frag} {mg : Str → Option Value} {base : Heap} {zf : Bool}
theorem merge_w (b : Addr) : mergeK [] [((.inr "draws" : Key), V.ref b), (.inr "at", .int 0)] = wKvs b 0 := by
  unfold mergeK
  rw [List.foldl_cons, List.foldl_cons, List.foldl_nil]
  dsimp only
  have e1 : putK ([] : List (Key × V)) (.inr "draws") (V.ref b) = [(.inr "draws", .ref b)] := rfl
  rw [e1]
  unfold putK
  rw [if_neg]
  · rfl
  · rw [valV_any, valV_neg (p := ((Sum.inr (Str.ofString "draws") : Key), V.ref b)) kne]
    exact fun z => nomatch z
theorem law_ok {x : Str} {st : Stmt} {f : Addr} {fd : FuncData} {N : List Str} {k nl most : Nat} {fb : S} {fe : E} {O' : List Nat} {p0 p1 p2 p3 p4 p5 : Pos} {i0 i1 i2 : Nat} {e : Expr} {rest : List Stmt} {xs : Str}
    (F : Fun K x x st f fd) (S : FnScope N [xs] (defScope st)) (hb : defBody st = .Assign [.Name "w" p0] (.Dict [some (.Constant (.str "draws") i0 p1), some (.Constant (.str "at") i1 p2)] [e, .Constant (.int 0) i2 p3] p4) p5 :: rest)
    (h1 : N[1]? = some ("w" : Str)) (hw : Loc (defScope st) "w")
    (he : ∀ (cdv : Value) (A : Around) (outer : List PySem.Env) (s : Shared) (H : Hp) (E : XK), Room k (A.deeper (envOfC x (defScope st) s.heap.objs.size f cdv)) → EV (cxOf CX0 P w K mg base N x (defScope st) f cdv A outer s H E).nox zf [] e fe)
    (hr : ∀ (cdv : Value) (A : Around) (outer : List PySem.Env) (s : Shared) (H : Hp) (E : XK), Room k (A.deeper (envOfC x (defScope st) s.heap.objs.size f cdv)) → ESs (cxOf CX0 P w K mg base N x (defScope st) f cdv A outer s H E).nox zf [] O' [] rest fb)
    (hN : N.length = 1 + nl)
    (math : ∀ ns : List Int, ns.length ≤ most → ∃ l w', fe (some (tokS ns) :: List.replicate nl none) none = some (.list (l.map .int), none) ∧ fb ((some (tokS ns) :: List.replicate nl none).set 1 (some tokW)) (some l) = some (.rt (.bool true), w')) : FnOk P w K mg base CX0 (k + 1) f fd [xs] (spLaw K most) := by
  refine F.ok S (fun vs H Q E h => ?_) fun cdv A outer s H vs Q E hrm h => ?_
  · obtain ⟨a, ns, rfl, _⟩ := h
    rfl
  · obtain ⟨a, ns, rfl, hS, hl, q⟩ := h
    obtain ⟨l, w', m1, m2⟩ := math ns hl
    rw [hb]
    refine ⟨_, pss_cons (ps_set (i := 1) S.nd h1 hw (pe_disp (pps_cons pe_str (he cdv A outer s H E hrm) (pps_cons pe_str pe_int pps_nil)) rfl rfl (by simp) (by show 2 ≤ 15; decide)) (by rfl) (.inl rfl)) (hr cdv A outer s H E hrm), ?_⟩
    intro p hp
    -- the frozen part: the script
    obtain ⟨F0, sb0, hF, hp0⟩ : ∃ F0 : Hp, Sub F0 H ∧ SqL K F0 a (ns.map V.int) ∧ F0 p = none := by
      refine ⟨fun b => if b = a then H b else none, fun b o e => ?_, ?_, ?_⟩
      · dsimp only at e
        split at e
        · exact .inl e
        · cases e
      · rcases hS with (h | ⟨o, h⟩) | h
        · exact .inl (.inl (by dsimp only; rw [if_pos rfl]; exact h))
        · exact .inl (.inr ⟨o, by dsimp only; rw [if_pos rfl]; exact h⟩)
        · exact .inr h
      · dsimp only
        split
        · exact hp
        · rfl
    have rs : RepL (⟨none⟩ : Tk K mg zf) F0 [tokS ns] [V.ref a] := by
      simp only [RepL, tokS, Rep]
      exact ⟨⟨a, rfl, .inr (.inr (.inr (.inr ⟨ns, rfl, hF⟩)))⟩, trivial⟩
    have R0 := start_rel (tk := (⟨none⟩ : Tk K mg zf)) (N := N) (vs := [V.ref a]) (wd := none) (nl := nl) sb0 (by unfold WAt; trivial) rs hN
    obtain ⟨R1, x1⟩ := R0.allocO hp (.dK [])
    refine ⟨(⟨none⟩ : Tk K mg zf), H, F0, F0, _, none, _, none, R1, m1, fun v H2 F2 R2 x2 r2 => ?_⟩
    have hF2 : F2 p = none := x2.nw p (fun z => nomatch z) (by rw [upd_same]; exact fun z => nomatch z) hp0
    have hH2 : H2 p = some (.dK []) := x2.gr.ex upd_same (fun z => nomatch z) hF2
    simp only [Rep] at r2
    obtain ⟨b, xs', rfl, rb, rl⟩ := r2
    have ex := ints_repL l rl
    subst ex
    refine ⟨hH2, [(.inr "draws", .ref b), (.inr "at", .int 0)], rfl, by show 2 ≤ 15; decide, ?_⟩
    rw [merge_w]
    have fr2 : ∀ c o, F2 c = some o → c ≠ p := fun c o e z => by rw [z, hF2] at e; cases e
    have sub2 : Sub F2 (upd H2 p (.dK (wKvs b 0))) := fun c o e => by rw [upd_ne (fr2 c o e)]; exact R2.sub c o e
    have hg1 : 1 < ((some (tokS ns) :: List.replicate nl none : Env)).length := by
      have := (List.getElem?_eq_some_iff.mp h1).1
      simp only [List.length_cons, List.length_replicate]; omega
    refine ⟨(⟨some p⟩ : Tk K mg zf), H, F0, F2, _, some l, _, w', ⟨?_, sub2, R2.f0, fun c u e n => ?_, fun c n e f => ?_, fun i d hi h => ?_, fun i d hi h => by simp at hi, fun i j a d e hi _ _ _ _ _ => by simp at hi, ?_⟩, m2, ?_⟩
    · have := R2.len
      simp only [L2.gName, List.length_set]
      simp only [List.map_cons, List.map_nil, List.singleton_append] at this
      simpa using this
    · have ne : c ≠ p := fun z => n (by rw [z])
      rw [upd_ne ne]
      exact R2.k0 c u e (fun z => nomatch z)
    · have ne : c ≠ p := fun z => by rw [z] at e; exact e hp
      exact R2.n0 c (fun z => nomatch z) e f
    · by_cases h1i : i = 1
      · subst h1i
        rw [List.getElem?_set_self hg1] at h
        cases h
        refine ⟨.ref p, ?_, ?_⟩
        · have hl1 : 1 < (L2.start N [V.ref a]).length := by rw [← R2.len]; simpa using hg1
          exact List.getElem?_set_self hl1
        · simp only [tokW, Rep]
          exact ⟨p, rfl, .inr (.inr (.inl (by simp)))⟩
      · rw [List.getElem?_set_ne (by omega)] at h
        obtain ⟨v', h3, h4⟩ := R2.val i d (by simp) (by simpa using h)
        exact ⟨v', by show (List.set _ 1 _)[i]? = _; rw [List.getElem?_set_ne (by omega)]; exact h3, Rep.up rfl _ _ h4⟩
    · unfold WAt
      exact ⟨hF2, b, 0, l, upd_same, rb, rfl⟩
    · exact fun v H' F' _ _ _ _ _ r => by
        simp only [Rep] at r
        subst r
        exact q H'
end
end Q

set_option Elab.async false
set_option linter.all false
set_option autoImplicit false
set_option maxRecDepth 100000
/-! QS12: defs in a bundle; dead statements; new lists by +; len(set(..)). -/
namespace Q
open PySem PySem.Spec PyProof.Rows L2
/-- a def of the text, as the head tells it -/
structure Df (K : PySem.W.Frag) (mg : Str → Option Value) (x : Str) (st : Stmt) (ps : List Str) : Prop where
  ex : ∃ f fd, mg x = some (.ref f) ∧ Fun K x x st f fd ∧ Binds K fd ps []
/-- a def that keeps the promise of a function of data -/
structure Ok (K : PySem.W.Frag) (mg : Str → Option Value) (zf : Bool) (P : Program) (w : World) (base : Heap) (k : Nat) (x : Str) (ps : List Str) (n : Nat) (fn : Fn) : Prop where
  ex : ∃ f fd, mg x = some (.ref f) ∧ PySem.W.keepIn K (.ref f) = true ∧ Binds K fd ps [] ∧ FnOk P w K mg base CX0 k f fd ps (spD K mg zf n fn)
section
variable {P : Program} {w : World} {K : PySem.W.Frag} {mg : Str → Option Value} {base : Heap} {zf : Bool}
theorem df_mk {h : Heap} {x : Str} {st : Stmt} {ps : List Str} {f : Addr} {od an : Option Addr} {sl : Array (Option Value)} {oc kV dc pm cd ct : Value} (X : K.In h) (G : h.Ns mainGlobals mg)
    (a : PySem.W.nsIn K mainGlobals x = some (some (.ref f))) (l : K.lookup f = some ⟨oc, od, .func (PySem.W.fnOf x x (defArgs st) (defBody st) (defScope st) .none kV dc pm an cd ct), sl⟩) (c : PySem.W.codeIn K cd x = true) (k : PySem.W.keepIn K (.ref f) = true)
    (b : ∀ (kV doc pm : Value) (an : Option Addr) (cdv ct : Value) (us : List Value), us.length = ps.length → bindArgs (PySem.W.fnOf x x (defArgs st) (defBody st) (defScope st) .none kV doc pm an cdv ct) ⟨us, []⟩ = pure (ps.zip us)) : Df K mg x st ps := by
  have F := fun_mk (st := st) l c k
  exact ⟨_, _, PySem.W.mg_of X G a, F, F.binds b⟩
theorem ok_of {x : Str} {st : Stmt} {N ps : List Str} {k nl : Nat} {fb : S} {O' : List Nat} (D : Df K mg x st ps) (S : FnScope N ps (defScope st))
    (hb : ∀ (f : Addr) (cdv : Value) (A : Around) (outer : List PySem.Env) (s : Shared) (H : Hp) (E : XK), Room k (A.deeper (envOfC x (defScope st) s.heap.objs.size f cdv)) → ESs (cxOf CX0 P w K mg base N x (defScope st) f cdv A outer s H E).nox zf [] O' [] (defBody st) fb)
    (hN : N.length = ps.length + nl := by rfl) : Ok K mg zf P w base (k + 1) x ps ps.length (bodyFn ps.length nl fb) := by
  obtain ⟨f, fd, h1, F, h2⟩ := D.ex
  exact ⟨f, fd, h1, F.kp, h2, fn_ok F S (hb f) hN⟩
end
section
variable {P : Program} {w : World} {K : PySem.W.Frag} {mg : Str → Option Value} {base : Heap} {zf : Bool}
theorem next_ok' {st : Stmt} {p0 p1 p2 p3 p4 q0 q1 q2 q3 q4 q5 q6 q7 q8 q9 r0 r1 r2 r3 r4 r5 r6 r7 r8 r9 s0 s1 s2 s3 s4 : Pos} {i0 i1 i2 i3 i4 i5 i6 i7 : Nat}
    (D : Df K mg "_law_next" st ["w", "many"]) (S : FnScope ["w", "many"] ["w", "many"] (defScope st)) (mi : mg "int" = none) (ml : mg "len" = none)
    (gi : (defScope st).names.lookup ("int" : Str) = some .globalImplicit) (gl : (defScope st).names.lookup ("len" : Str) = some .globalImplicit) (gw : (defScope st).names.lookup ("w" : Str) = some .local) (gm : (defScope st).names.lookup ("many" : Str) = some .local)
    (hb : defBody st = [.AugAssign (.Subscript (.Name "w" p0) (.Constant (.str "at") i0 p1) p2) .Add (.Constant (.int 1) i1 p3) p4,
      .Return (some (.IfExp (.Compare (.Subscript (.Name "w" q0) (.Constant (.str "at") i2 q1) q2) [.LtE] [.Call (.Name "len" q3) [.Subscript (.Name "w" q4) (.Constant (.str "draws") i3 q5) q6] [] q7] q8)
        (.BinOp (.Call (.Name "int" r0) [.Subscript (.Subscript (.Name "w" r1) (.Constant (.str "draws") i4 r2) r3) (.BinOp (.Subscript (.Name "w" r4) (.Constant (.str "at") i5 r5) r6) .Sub (.Constant (.int 1) i6 r7) r8) r9] [] s0) .Mod (.Name "many" s1) s2)
        (.Constant (.int 0) i7 s3) q9)) s4]) : Ok K mg zf P w base 1 "_law_next" ["w", "many"] 2 fnNext := by
  obtain ⟨f, fd, h1, F, h2⟩ := D.ex
  exact ⟨f, fd, h1, F.kp, h2, next_ok F S mi ml gi gl gw gm hb⟩
end
section
variable {X : Cx} {zf : Bool} {O : List Nat}
theorem EV.callO {x : Str} {ps : List Str} {p pos : Pos} {e : Expr} {es : List Expr} {k n : Nat} {fn : Fn} {fs : List E} (F : Ok X.K X.mg zf X.prog X.w X.base k x ps n fn) (hr : Room k X.A)
    (ha : EA X zf O (e :: es) (cArgs fs)) (hg : Gl X x := by rfl) (hn : fs.length = n := by rfl) (hdb : (x == ("__debug__" : Str)) = false := by decide) (he : starEach (e :: es) X.env = (false, eval e X.env) :: starEach es X.env := by rfl) (hpl : (backTo pos (starEach es X.env)).any (·.1) = false := by rfl) :
    EV X zf O (.Call (.Name x p) (e :: es) [] pos) (cCall fn fs) := by
  obtain ⟨f, fd, h1, h2, h3, h4⟩ := F.ex
  exact EV.call h4 hr h1 h2 h3 ha hg hn hdb he hpl
def sDead : S := fun _ _ => none
variable {O' Ol : List Nat}
theorem ES.dead {st : Stmt} : ES X zf O O' Ol st sDead := ⟨fun pins s σ H D I ⟨tk, H0, F0, F, g, w, o, w', R, ef, q⟩ => by cases ef⟩
theorem ESs.dead {st : List Stmt} : ESs X zf O O' Ol st sDead := ⟨fun pins s σ H D I ⟨tk, H0, F0, F, g, w, o, w', R, ef, q⟩ => by cases ef⟩
/-- xs + ys of lists: a new object -/
def catD : D → D → Option D
  | .list xs, .list ys => if xs.length + ys.length ≤ sizeLine then some (.list (xs ++ ys)) else none
  | _, _ => none
theorem EO.cat {a b : Expr} {fa fb : E} {pos : Pos} (ha : EB X zf O a fa) (hb : EB X zf O b fb) : EO X zf O (.BinOp a .Add b pos) (cOp2 catD fa fb) :=
  PE.imp (pe_op op_catR ha hb) fun σ H Q ⟨tk, H0, F0, F, g, w, d, w', R, ef, k⟩ => by
  obtain ⟨x, w1, e1, ef⟩ := bnd_eq (show bnd (fa g w) _ = _ from ef)
  obtain ⟨y, w2, e2, ef⟩ := bnd_eq ef
  obtain ⟨e3, e4⟩ := lft_eq ef
  have e4 : w2 = w' := e4
  subst e4
  refine ⟨tk, H0, F0, F, g, w, x, w1, R, e1, fun vx H1 F1 R1 x1 r1 => ?_⟩
  refine ⟨tk, H0, F0, F1, g, w1, y, w2, R1, e2, fun vy H2 F2 R2 x2 r2 => ?_⟩
  replace r1 := r1.ex x2
  obtain ⟨us, vs, rfl, rfl⟩ : ∃ us vs, x = .list us ∧ y = .list vs := by
    cases x <;> cases y <;> simp only [catD] at e3 <;> first | cases e3 | exact ⟨_, _, rfl, rfl⟩
  simp only [catD] at e3
  simp only [RepB] at r1 r2
  obtain ⟨l1, xs, rfl, na, ra, la⟩ := r1
  obtain ⟨l2, ys, rfl, nb, rb, lb⟩ := r2
  by_cases h : us.length + vs.length ≤ sizeLine
  case neg => rw [if_neg h] at e3; cases e3
  rw [if_pos h] at e3
  cases e3
  rw [la.length, lb.length] at h
  refine ⟨l1, l2, xs, ys, rfl, rfl, ra, rb, h, fun p hp => ?_⟩
  obtain ⟨R3, x3⟩ := R2.allocO hp (.lst (xs ++ ys))
  have x13 := (x1.trans x2).trans x3
  refine k _ _ _ R3 x13 ⟨p, _, rfl, upd_same, R2.sub.none hp, ?_, fun z => ?_, ?_⟩
  · cases hz : H p with
    | none => rfl
    | some o =>
      have npw : tk.pw ≠ some p := fun z => (R2.wat.free p z).2 hp
      exact absurd hp ((x1.trans x2).gr.ne hz npw)
  · exact (R2.wat.free p z).2 hp
  · simp only [RepO]
    exact la.append lb
/-- how many different ints -/
def dedupI (ns : List Int) : List Int := ns.foldl step_dedup []
def lenSetD : D → Option D
  | .list ds => (intsOf ds).bind fun ns => if ns.length + 1 < scanBound then some (.int (dedupI ns).length) else none
  | _ => none
theorem firstMet_all (ns : List Int) : firstMet (fun i => ns.getD i 0) ns.length = dedupI ns := by
  unfold firstMet dedupI
  congr 1
  refine List.ext_getElem (by simp) fun i h1 h2 => ?_
  simp [List.getD_eq_getElem?_getD, List.getElem?_eq_getElem h2]
theorem dedup_le (ns : List Int) : (dedupI ns).length ≤ ns.length := by
  rw [← firstMet_all]
  exact firstMet_length_le _ _
theorem EV.lenSet {a : Expr} {fa : E} {p p2 q pos : Pos} (hr : ∃ k, Room k X.A) (hm : X.mg "len" = none) (hm2 : X.mg "set" = none) (ha : EB X zf O a fa) (hg : Gl X "len" := by rfl) (hg2 : Gl X "set" := by rfl)
    (na : starEach [a] X.env = (false, eval a X.env) :: starEach [] X.env := by rfl) : EV X zf O (.Call (.Name "len" p) [.Call (.Name "set" p2) [a] [] q] [] pos) (cOp1 lenSetD fa) := by
  obtain ⟨k, hr⟩ := hr
  refine ⟨fun pins s σ H Q I ⟨tk, H0, F0, F, g, w, d, w', R, ef, kk⟩ => ?_⟩
  obtain ⟨x, w1, e1, ef⟩ := bnd_eq (show bnd (fa g w) _ = _ from ef)
  obtain ⟨e4, e5⟩ := lft_eq ef
  have e5 : w1 = w' := e5
  subst e5
  refine Call_ (ld_blt I hg hm PySem.boot_len ?_)
  refine PyProof.Rows.callWith_builtin1 (PyProof.Rows.args_cons ?_ rfl) rfl rfl
  refine Call_ (ld_blt I hg2 hm2 PyProof.Rows.boot_set ?_)
  refine PyProof.Rows.callWith_type1 (PyProof.Rows.args_cons (thn (ha.run pins s σ H (fun v H1 => ∃ (l : Addr) (ns : List Int), v = V.ref l ∧ Rd H1 l (.lst (ns.map V.int)) ∧ ns.length + 1 < scanBound ∧ Q (.int (dedupI ns).length) H1) I ⟨tk, H0, F0, F, g, w, x, w1, R, e1, fun v H1 F1 R1 x1 r1 => ?_⟩) fun v s1 ⟨x, H1, I1, r1, q1⟩ => PyProof.Rows.args_nil ?_) na) na rfl
  · cases x <;> simp only [lenSetD] at e4 <;> first | cases e4 | skip
    rename_i ds
    obtain ⟨ns, h1, h2⟩ := Option.bind_eq_some_iff.mp e4
    by_cases hz : ns.length + 1 < scanBound
    case neg => rw [if_neg hz] at h2; cases h2
    rw [if_pos hz] at h2
    cases h2
    simp only [RepB] at r1
    obtain ⟨l, xs, rfl, _, hr1, rl⟩ := r1
    have := ints_rep h1 rl
    subst this
    exact ⟨l, ns, rfl, hr1, hz, kk _ H1 F1 R1 x1 (by simp only [Rep])⟩
  · obtain ⟨l, ns, rfl, hq, h1, q1⟩ := q1
    cases r1
    obtain ⟨its, r, pl, hz⟩ := I1.list (.inl hq)
    have hl : its.toArray.size = ns.length := by rw [List.size_toArray, ← r.length, List.length_map]
    refine call_set_list hr.hd pl.isList (ns := ns) (by simpa using r.ints) (by rw [hl]; exact h1) fun h' tk hS hk => ?_
    rw [hl, firstMet_all] at hS
    refine PyProof.Rows.args_nil ?_
    obtain ⟨o, es, ep, t, ho, hex, hd, _, _, _, hf, hn⟩ := hS
    have I2 : Inv X pins σ H1 { s1 with heap := h', toks := tk } := I1.kept fun b o e => hk b o (Heap.lt_size e) e
    refine call_len_set ho hex hd hf (by rw [hn]; have := dedup_le ns; unfold scanBound at h1; omega) ⟨.int (dedupI ns).length, H1, I2.tok _, ⟨_, by rw [hn]⟩, q1⟩
end
end Q

set_option Elab.async false
set_option linter.all false
set_option autoImplicit false
set_option maxRecDepth 100000
/-! QS13: index, count, list, sorted. -/
namespace Q
open PySem PySem.Spec PyProof.Rows L2
section
variable {X : Cx} {zf : Bool} {k : Nat}
theorem PE.or {e : Expr} {t t' : TE} (h : PE X e t) (h' : PE X e t') : PE X e (fun σ H Q => t σ H Q ∨ t' σ H Q) := ⟨fun pins s σ H Q I hw => hw.elim (h.run pins s σ H Q I) (h'.run pins s σ H Q I)⟩
/-- list(a): a new list -/
def lst1D : D → Option D
  | .list xs => some (.list xs)
  | .tuple xs => some (.list xs)
  | _ => none
theorem EO.list {O : List Nat} {a : Expr} {fa : E} {p pos : Pos} (hm : X.mg "list" = none) (ha : EB X zf O a fa) (hg : Gl X "list" := by rfl) (he : starEach [a] X.env = (false, eval a X.env) :: starEach [] X.env := by rfl) (hpl : (backTo pos (starEach [] X.env)).any (·.1) = false := by rfl) :
    EO X zf O (.Call (.Name "list" p) [a] [] pos) (cOp1 lst1D fa) :=
  PE.imp (pe_callTy call_list_of hg hm (by decide +kernel) (EAB.cons ha EAB.nil he) (he := he) (hpl := hpl)) fun σ H Q ⟨tk, H0, F0, F, g, w, d, w', R, ef, kk⟩ => by
  obtain ⟨x, w1, e1, ef⟩ := bnd_eq (show bnd (fa g w) _ = _ from ef)
  obtain ⟨e4, e5⟩ := lft_eq ef
  have e5 : w1 = w' := e5
  subst e5
  refine ⟨tk, H0, F0, F, g, w, [x], w1, R, by simp [cArgs, e1], fun vs H1 F1 R1 x1 r1 => ?_⟩
  match vs, r1 with
  | [], r1 => simp only [RepBL] at r1
  | _ :: _ :: _, r1 => simp only [RepBL] at r1; exact r1.2.elim
  | [v], r1 =>
    simp only [RepBL] at r1
    obtain ⟨ds, e6, hx⟩ : ∃ ds, d = .list ds ∧ (x = .list ds ∨ x = .tuple ds) := by
      clear ef kk r1 e1
      revert e4
      cases x <;> intro e4 <;> simp only [lst1D] at e4
      all_goals first | (cases e4; done) | (exact ⟨_, (Option.some.inj e4).symm, .inl rfl⟩) | (exact ⟨_, (Option.some.inj e4).symm, .inr rfl⟩)
    subst e6
    have key : ∃ a xs, v = .ref a ∧ (SqL X.K H1 a xs ∨ SqT X.K H1 a xs) ∧ RepL tk F1 ds xs := by
      rcases hx with rfl | rfl
      · have r := r1.1
        simp only [RepB] at r
        obtain ⟨a, xs, e, _, hr, l⟩ := r
        exact ⟨a, xs, e, .inl (.inl hr), l⟩
      · have r := r1.1
        simp only [RepB, Rep] at r
        obtain ⟨a, xs, e, hr, l⟩ := r
        exact ⟨a, xs, e, .inr ((R1.sub.tup hr).sq), l⟩
    obtain ⟨a, xs, rfl, hs, l⟩ := key
    refine ⟨a, xs, rfl, hs, fun p hp => ?_⟩
    obtain ⟨R3, x3⟩ := R1.allocO hp (.lst xs)
    refine kk _ _ _ R3 (x1.trans x3) ⟨p, _, rfl, upd_same, R1.sub.none hp, ?_, fun z => ?_, ?_⟩
    · cases hz : H p with
      | none => rfl
      | some o =>
        have npw : tk.pw ≠ some p := fun z => (R1.wat.free p z).2 hp
        exact absurd hp (x1.gr.ne hz npw)
    · exact (R1.wat.free p z).2 hp
    · simp only [RepO]
      exact l
theorem own_new {Kx : PySem.W.Frag} {mx : Str → Option Value} {zf : Bool} {tk : Tk Kx mx zf} {H0 F0 : Hp} {O : List Nat} {σ : L2.St} {H F H1 F1 : Hp} {g : Env} {w : Wd} {p : Addr} {o : HO} {d : D} (R1 : Rel tk H0 F0 O σ H1 F1 g w) (x1 : Ex tk F H F1 H1) (hp : H1 p = none) (ro : RepO tk F1 d o) :
    Rel tk H0 F0 O σ (upd H1 p o) F1 g w ∧ Ex tk F H F1 (upd H1 p o) ∧ IsOwn tk H F1 (upd H1 p o) d (.ref p) := by
  obtain ⟨R3, x3⟩ := R1.allocO hp o
  refine ⟨R3, x1.trans x3, p, _, rfl, upd_same, R1.sub.none hp, ?_, fun z => ?_, ro⟩
  · cases hz : H p with
    | none => rfl
    | some o =>
      have npw : tk.pw ≠ some p := fun z => (R1.wat.free p z).2 hp
      exact absurd hp (x1.gr.ne hz npw)
  · exact (R1.wat.free p z).2 hp
/-! ### sorted(xs), xs a list -/
theorem sortable_of {xs : List D} (h : sortableB xs = true) : PySem.W.Sortable xs := by
  unfold sortableB at h
  rw [Bool.or_eq_true] at h
  rcases h with h | h
  · refine .inl fun d hd => ?_
    have := List.all_eq_true.mp h d hd
    cases d with
    | tuple ys =>
      cases ys with
      | nil => simp at this
      | cons y ys => exact ⟨y, ys, rfl⟩
    | _ => simp at this
  · refine .inr fun d hd => ?_
    have := List.all_eq_true.mp h d hd
    cases d <;> simp at this ⊢
def sortLD : D → Option D
  | .list xs => sortD (.list xs)
  | _ => none
theorem each_rep {Kx : PySem.W.Frag} {mx : Str → Option Value} {zf : Bool} {tk : Tk Kx mx zf} {F : Hp} : ∀ {ds : List D} {xs : List V} {us : List Value}, RepL tk F ds xs → Vals xs us → PySem.W.EachIs (fun (v : Value) (d : D) => ∃ y : V, RelV y v ∧ Rep tk F d y) us ds
  | [], [], us, _, r => by cases r; exact .nil
  | [], _ :: _, us, h, r => by simp only [RepL] at h
  | _ :: _, [], us, h, r => by simp only [RepL] at h
  | d :: ds, v :: vs, us, h, r => by
    simp only [RepL] at h
    cases r with
    | cons r1 r2 => exact .cons ⟨v, r1, h.1⟩ (each_rep h.2 r2)
theorem rep_each {Kx : PySem.W.Frag} {mx : Str → Option Value} {zf : Bool} {tk : Tk Kx mx zf} {F : Hp} {ds : List D} {us : List Value} (h : PySem.W.EachIs (fun (v : Value) (d : D) => ∃ y : V, RelV y v ∧ Rep tk F d y) us ds) : ∃ ys : List V, RepL tk F ds ys ∧ Vals ys us := by
  induction h with
  | nil => exact ⟨[], by simp only [RepL], .nil⟩
  | cons h _ ih =>
    obtain ⟨y, r, p⟩ := h
    obtain ⟨ys, q, t⟩ := ih
    exact ⟨y :: ys, by simp only [RepL]; exact ⟨p, q⟩, .cons r t⟩
def rSortD (Kx : PySem.W.Frag) (mx : Str → Option Value) (zf : Bool) : List V → Hp → VK → Prop := fun vs H Q => ∃ (tk : Tk Kx mx zf) (F : Hp) (ds : List D) (v : V), vs = [v] ∧ Sub F H ∧ RepB tk F H (.list ds) v ∧ PyData.plainAll ds = true ∧ PyData.depthAll ds ≤ 60 ∧ alikeB ds = true ∧ sortableB ds = true ∧ ds.length ≤ sizeLine ∧
  ∀ ys p, RepL tk F (ds.mergeSort (PySem.W.dataLe false id)) ys → H p = none → Q (.ref p) (upd H p (.lst ys))
theorem each_reads {h : Heap} : ∀ {us : List Value} {ds : List D} {as : List Addr}, ReadsAll h us ds as → PySem.W.EachIs (fun v b => ∃ as, Reads h v (id b) as) us ds
  | [], [], _, _ => .nil
  | [], _ :: _, _, r => by cases r
  | _ :: _, [], _, r => by cases r
  | _ :: _, _ :: _, _, r => by
    cases r with
    | cons r1 r2 => exact .cons ⟨_, r1⟩ (each_reads r2)
theorem cr_sortD (hr : Room k X.A) : CallR X (.builtin "sorted") (rSortD X.K X.mg zf) := by
  intro pins s σ H vs us Q I r h
  obtain ⟨tk, F, ds, v, rfl, sb, rb, pl, dp, hal, hso, hz, q⟩ := h
  obtain ⟨u, rfl, ru⟩ := vals1 r
  simp only [RepB] at rb
  obtain ⟨a, xs, rfl, _, hrd, rl⟩ := rb
  cases ru
  obtain ⟨its, rv, plist, _⟩ := I.list (.inl hrd)
  obtain ⟨as, ra⟩ := RepL.reads I sb ds xs its pl rl rv
  refine PySem.W.sorted_data (enc := id) plist.isList (each_rep rl rv) (each_reads ra) (by
      rw [List.map_id]
      exact fun x hx y hy => List.all_eq_true.mp (List.all_eq_true.mp hal x hx) y hy) (by rw [List.map_id]; exact sortable_of hso) hz (fun b hb => ?_) fun out ho eo => ?_
  · have := hr.un
    have hd : b.depth ≤ PyData.depthAll ds := by
      clear rl ra hal hso hz q dp pl
      induction ds with
      | nil => simp at hb
      | cons x xs ih =>
        simp only [PyData.depthAll]
        rcases List.mem_cons.mp hb with rfl | hb
        · omega
        · have := ih hb
          omega
    show X.A.units + 2 + b.depth < cLine
    omega
  · obtain ⟨ys, r1, r2⟩ := rep_each eo
    obtain ⟨ep, he'⟩ := PyProof.Rows.sortedAll_at s.heap its out.toArray
    have hlen : ys.length ≤ sizeLine := by rw [← r1.length, List.length_mergeSort]; exact hz
    exact ⟨.ref _, upd H (s.heap.objs.size + 1) (.lst ys), I.laid (t' := s.toks) (fun _ _ => PyProof.Rows.sortedAll_old) (Nat.le_succ _) ⟨hlen, out, ep, r2, he'⟩, rfl, q ys _ r1 (I.hok.fresh (Nat.le_succ _))⟩
theorem EO.sorted {O : List Nat} {a : Expr} {fa : E} {p pos : Pos} (hm : X.mg "sorted" = none) (hr : Room k X.A) (ha : EB X zf O a fa) (hg : Gl X "sorted" := by rfl) (he : starEach [a] X.env = (false, eval a X.env) :: starEach [] X.env := by rfl) (hpl : (backTo pos (starEach [] X.env)).any (·.1) = false := by rfl) :
    EO X zf O (.Call (.Name "sorted" p) [a] [] pos) (cOp1 sortLD fa) :=
  PE.imp (pe_callB (cr_sortD hr) hg hm (by decide +kernel) (EAB.cons ha EAB.nil he) (he := he) (hpl := hpl)) fun σ H Q ⟨tk, H0, F0, F, g, w, d, w', R, ef, kk⟩ => by
  obtain ⟨x, w1, e1, ef2⟩ := bnd_eq (show bnd (fa g w) _ = _ from ef)
  obtain ⟨e4, e5⟩ := lft_eq ef2
  have e5 : w1 = w' := e5
  subst e5
  refine ⟨tk, H0, F0, F, g, w, [x], w1, R, by simp [cArgs, e1], fun vs H1 F1 R1 x1 r1 => ?_⟩
  match vs, r1 with
  | [], r1 => simp only [RepBL] at r1
  | _ :: _ :: _, r1 => simp only [RepBL] at r1; exact r1.2.elim
  | [v], r1 =>
    simp only [RepBL] at r1
    obtain ⟨ds, rfl⟩ : ∃ ds, x = .list ds := by
      clear ef ef2 kk r1 e1
      revert e4
      cases x <;> intro e4 <;> simp only [sortLD] at e4
      all_goals first | (cases e4; done) | exact ⟨_, rfl⟩
    have e4 : sortD (.list ds) = some d := e4
    unfold sortD at e4
    dsimp only [itemsD] at e4
    by_cases hc : (PyData.plain (.list ds) && alikeB ds && sortableB ds && lowD (.list ds) && decide (ds.length ≤ sizeLine)) = true
    case neg => rw [if_neg hc] at e4; cases e4
    rw [if_pos hc] at e4
    have hd := (Option.some.inj e4).symm
    subst hd
    simp only [Bool.and_eq_true, decide_eq_true_eq] at hc
    obtain ⟨⟨⟨⟨c1, c2⟩, c3⟩, c4⟩, c5⟩ := hc
    have c4 : (PyData.list ds).depth ≤ 60 := by simpa [lowD] using c4
    simp only [PyData.depth] at c4
    refine ⟨tk, F1, ds, v, rfl, R1.sub, r1.1, by simpa only [PyData.plain] using c1, by omega, c2, c3, c5, fun ys p rl hp => ?_⟩
    obtain ⟨R3, x3, io⟩ := own_new (d := .list (ds.mergeSort (PySem.W.dataLe false id))) (o := .lst ys) R1 x1 hp (by simp only [RepO]; exact rl)
    exact kk _ _ _ R3 x3 io
end
end Q

set_option Elab.async false
set_option linter.all false
set_option autoImplicit false
set_option maxRecDepth 100000
/-! QS14: a.index(b), a.count(b) of lists and tuples. -/
namespace Q
open PySem PySem.Spec PyProof.Rows L2
section
variable {X : Cx} {k : Nat} {pins : List (Addr × Obj)} {σ : L2.St} {s : Shared} {H F : Hp} {tk : Tk X.K X.mg true}
/-- the object behind a list or a tuple: its type, no dict of its own -/
theorem seq_obj (I : Inv X pins σ H s) (sb : Sub F H) {d : D} {ds : List D} {v : V} {u : Value} (hd : itemsD d = some ds) (rb : RepB tk F H d v) (ru : RelV v u) :
    ∃ a xs its, u = .ref a ∧ RepL tk F ds xs ∧ Vals xs its ∧ xs.length ≤ sizeLine ∧ (∀ a', u = .ref a' → ∃ ob, s.heap.get? a' = some ob ∧ ob.dict = none) ∧ ((s.TypeIs u "list" ∧ s.heap.IsList a its.toArray) ∨ (s.TypeIs u "tuple" ∧ s.heap.IsTuple a its.toArray)) := by
  cases d <;> simp only [itemsD] at hd <;> first | cases hd | skip
  · simp only [RepB] at rb
    obtain ⟨a, xs, rfl, _, hr, l⟩ := rb
    cases ru
    obtain ⟨its, rv, pl, z⟩ := I.list (.inl hr)
    refine ⟨a, xs, its, rfl, l, rv, z, fun a' e => ?_, .inl ⟨pl.isList.typeIs, pl.isList⟩⟩
    cases e
    obtain ⟨o, n, e, c, hd, _⟩ := pl
    exact ⟨o, e, hd⟩
  · simp only [RepB, Rep] at rb
    obtain ⟨a, xs, rfl, hr, l⟩ := rb
    cases ru
    have ht := sb.tup hr
    obtain ⟨its, rv, pl, z⟩ := I.tuple ht.sq
    refine ⟨a, xs, its, rfl, l, rv, z, fun a' e => ?_, .inr ⟨?_, pl⟩⟩
    · cases e
      obtain ⟨ob, h1, h2⟩ := ht
      have h3 := I.hok a _ h1
      exact ⟨ob, h3.1, h2⟩
    · obtain ⟨o, h1, h2, _⟩ := pl
      exact ⟨o, h1, h2⟩
theorem eqv_places {ds : List D} {its : List Value} {as : List Addr} {x : Value} {d : D} {bs : List Addr} (ra : ReadsAll s.heap its ds as) (rx : Reads s.heap x d bs) (hp : PyData.plainAll ds = true) (hd : d.plain = true) (hu : X.A.units + 1 + min (PyData.depthAll ds) d.depth < cLine) :
    its.length = ds.length ∧ ∀ j (hj : j < its.toArray.size), SeqAt.EqAt X.A.in1 s its.toArray[j] x (PyData.eqv (ds.getD j .none) d) := by
  have hl : its.length = ds.length := SeqAt.len_at (vs := its.toArray) (by simpa using ra)
  refine ⟨hl, fun j hj => ?_⟩
  have h1 := SeqAt.items_plain (A := X.A) (vs := its.toArray) (by simpa using ra) rx hp hd hu _ (Array.getElem_mem hj)
  obtain ⟨h2, h3⟩ := SeqAt.readOf_at (vs := its.toArray) (by simpa using ra) hp j hj
  rw [h3] at h1
  simpa [List.getD_eq_getElem?_getD, List.getElem?_eq_getElem h2] using h1
end
section
variable {X : Cx} {k : Nat}
theorem find_eqv {ds : List D} {d : D} {j : Nat} (h : ds.findIdx? (fun y => PyData.eqv y d) = some j) : j < ds.length ∧ PyData.eqv (ds.getD j .none) d = true ∧ ∀ m, m < j → PyData.eqv (ds.getD m .none) d = false := by
  obtain ⟨h1, h2, h3⟩ := List.findIdx?_eq_some_iff_getElem.mp h
  refine ⟨h1, by simpa [List.getD_eq_getElem?_getD, List.getElem?_eq_getElem h1] using h2, fun m hm => ?_⟩
  have := h3 m hm
  have hml : m < ds.length := by omega
  simpa [List.getD_eq_getElem?_getD, List.getElem?_eq_getElem hml] using this
/-- the call o.m(b) of a built-in method, o at hand -/
theorem bm_run {O : List Nat} {b : Expr} {fb : E} {T name : Str} {id : String} {cpos : Pos} : True := trivial
theorem ev_seqM {O : List Nat} {a b : Expr} {fa fb : E} {name : Str} {il it : String} {f : D → D → Option D} {apos cpos : Pos}
    (sl : Slot "list" name il) (st : Slot "tuple" name it) (tl : typeOf (.builtin il) = pure (.type "method_descriptor")) (tt : typeOf (.builtin it) = pure (.type "method_descriptor"))
    (hf : ∀ x y d, f x y = some d → ∃ ds, itemsD x = some ds ∧ PyData.plainAll ds = true)
    (run : ∀ (pins : List (Addr × Obj)) (σ : L2.St) (s : Shared) (H F : Hp) (tk : Tk X.K X.mg true) (x y d : D) (ds : List D) (a : Addr) (its : List Value) (u : Value) (vy : V) (Q : VK) (as : List Addr), f x y = some d → itemsD x = some ds → Inv X pins σ H s → Sub F H → PyData.plainAll ds = true → ReadsAll s.heap its ds as → its.length ≤ sizeLine → RepB tk F H y vy → RelV vy u →
      (∀ v, Rep tk F d v → Q v H) →
      (s.heap.IsList a its.toArray → wpAny (model X.prog X.w) X.A (call (.builtin il) [.ref a, u]) (EP X pins σ Q) X.xe s) ∧ (s.heap.IsTuple a its.toArray → wpAny (model X.prog X.w) X.A (call (.builtin it) [.ref a, u]) (EP X pins σ Q) X.xe s))
    (ha : EB X true O a fa) (hb : EB X true O b fb)
    (hbase : attributeBase a name X.env (eval a X.env) = eval a X.env := by rfl)
    (hfew : ((backTo cpos (starEach [b] X.env)).all (fun x => !x.1) && (backToKw cpos (keywordEach [] X.env)).all (fun x => x.1.isSome)
      && decide (([b] : List Expr).length + ([] : List Keyword).length + (if ([] : List Keyword).isEmpty then 0 else 1) < 30)) = true := by rfl)
    (hline : (apos.endLine == cpos.line) = true := by rfl) (hs : starEach [b] X.env = (false, eval b X.env) :: starEach [] X.env := by rfl) (hplain : (backTo cpos (starEach [] X.env)).any (·.1) = false := by rfl) :
    EV X true O (.Call (.Attribute a name apos) [b] [] cpos) (cOp2 f fa fb) := by
  refine ⟨fun pins s σ H Q I ⟨tk, H0, F0, F, g, w, d, w', R, ef, k⟩ => ?_⟩
  obtain ⟨x, w1, e1, ef⟩ := bnd_eq (show bnd (fa g w) _ = _ from ef)
  obtain ⟨y, w2, e2, ef⟩ := bnd_eq ef
  obtain ⟨e3, e4⟩ := lft_eq ef
  have e4 : w2 = w' := e4
  subst e4
  have e3 : f x y = some d := e3
  obtain ⟨ds, hds, hp⟩ := hf x y d e3
  have hA := fun (s1 : Shared) (H1 F1 : Hp) (I1 : Inv X pins σ H1 s1) (R1 : Rel tk H0 F0 O σ H1 F1 g w1) => (EAB.cons hb EAB.nil hs).run cpos pins s1 σ H1 (fun vs H2 => ∃ F2, Rel tk H0 F0 O σ H2 F2 g w2 ∧ Ex tk F1 H1 F2 H2 ∧ RepBL tk F2 H2 [y] vs) I1 ⟨tk, H0, F0, F1, g, w1, [y], w2, R1, by simp [cArgs, e2], fun vs H2 F2 R2 x2 r2 => ⟨F2, R2, x2, r2⟩⟩
  refine wpAny_Call_method_late hbase hfew hline rfl (thn (ha.run pins s σ H (fun v H1 => ∃ F1, Rel tk H0 F0 O σ H1 F1 g w1 ∧ Ex tk F H F1 H1 ∧ RepB tk F1 H1 x v) I ⟨tk, H0, F0, F, g, w, x, w1, R, e1, fun v H1 F1 R1 x1 r1 => ⟨F1, R1, x1, r1⟩⟩) fun v s1 ⟨vx, H1, I1, r1, F1, R1, x1, rb⟩ => ?_)
  obtain ⟨a1, xs, its, rfl, _, _, _, hob, _⟩ := seq_obj I1 R1.sub hds rb r1
  have hA := hA s1 H1 F1 I1 R1
  cases x <;> simp only [itemsD] at hds <;> first | cases hds | skip
  · have t1 : s1.TypeIs (.ref a1) "list" := by
      simp only [RepB] at rb
      obtain ⟨a, xs, e, _, hr, l⟩ := rb
      subst e
      cases r1
      obtain ⟨_, _, pl, _⟩ := I1.list (.inl hr)
      exact pl.isList.typeIs
    refine ⟨"list", il, PySem.F.plainAttrs_list, sl, tl, t1, hob, ?_⟩
    rw [hs] at hA ⊢
    refine Calls.callWith_builtin (by show (false || (backTo cpos (starEach [] X.env)).any (·.1)) = false; rw [hplain] <;> rfl) (Calls.evalArgs_plain ?_)
    refine thn hA fun us s2 ⟨vs, H2, I2, r2, F2, R2, x2, rb2⟩ => ?_
    match vs, rb2 with
    | [], rb2 => simp only [RepBL] at rb2
    | _ :: _ :: _, rb2 => simp only [RepBL] at rb2; exact rb2.2.elim
    | [vy], rb2 =>
    simp only [RepBL] at rb2
    replace rb2 := rb2.1
    obtain ⟨u, rfl, r2v⟩ := r2.one
    have rbx := rb.ex x2
    simp only [RepB] at rbx
    obtain ⟨a, xs2, e, _, hr, l⟩ := rbx
    subst e
    cases r1
    obtain ⟨its2, rv2, pl, z2⟩ := I2.list (.inl hr)
    obtain ⟨as, ra⟩ := RepL.reads I2 R2.sub ds xs2 its2 hp l rv2
    exact (run pins σ s2 H2 F2 tk (.list ds) y d ds _ its2 u vy Q as e3 rfl I2 R2.sub hp ra (by rw [← rv2.length]; exact z2) rb2 r2v fun v rv => k v H2 F2 R2 (x1.trans x2) rv).1 pl.isList
  · have t1 : s1.TypeIs (.ref a1) "tuple" := by
      simp only [RepB, Rep] at rb
      obtain ⟨a, xs, e, hr, l⟩ := rb
      subst e
      cases r1
      obtain ⟨_, _, ⟨o, h1, h2, _⟩, _⟩ := I1.tuple (R1.sub.tup hr).sq
      exact ⟨o, h1, h2⟩
    refine ⟨"tuple", it, PySem.F.plainAttrs_tuple, st, tt, t1, hob, ?_⟩
    rw [hs] at hA ⊢
    refine Calls.callWith_builtin (by show (false || (backTo cpos (starEach [] X.env)).any (·.1)) = false; rw [hplain] <;> rfl) (Calls.evalArgs_plain ?_)
    refine thn hA fun us s2 ⟨vs, H2, I2, r2, F2, R2, x2, rb2⟩ => ?_
    match vs, rb2 with
    | [], rb2 => simp only [RepBL] at rb2
    | _ :: _ :: _, rb2 => simp only [RepBL] at rb2; exact rb2.2.elim
    | [vy], rb2 =>
    simp only [RepBL] at rb2
    replace rb2 := rb2.1
    obtain ⟨u, rfl, r2v⟩ := r2.one
    have rbx := rb.ex x2
    simp only [RepB, Rep] at rbx
    obtain ⟨a, xs2, e, hr, l⟩ := rbx
    subst e
    cases r1
    obtain ⟨its2, rv2, pl, z2⟩ := I2.tuple (R2.sub.tup hr).sq
    obtain ⟨as, ra⟩ := RepL.reads I2 R2.sub ds xs2 its2 hp l rv2
    exact (run pins σ s2 H2 F2 tk (.tuple ds) y d ds _ its2 u vy Q as e3 rfl I2 R2.sub hp ra (by rw [← rv2.length]; exact z2) rb2 r2v fun v rv => k v H2 F2 R2 (x1.trans x2) rv).2 pl
theorem depth_ds {c : D} {ds : List D} (hi : itemsD c = some ds) (h : lowD c = true) : PyData.depthAll ds ≤ 60 := depth_items hi (by simpa [lowD] using h)
theorem EV.index {O : List Nat} {a b : Expr} {fa fb : E} {apos cpos : Pos} (hr : Room k X.A) (ha : EB X true O a fa) (hb : EB X true O b fb)
    (hbase : attributeBase a "index" X.env (eval a X.env) = eval a X.env := by rfl)
    (hfew : ((backTo cpos (starEach [b] X.env)).all (fun x => !x.1) && (backToKw cpos (keywordEach [] X.env)).all (fun x => x.1.isSome)
      && decide (([b] : List Expr).length + ([] : List Keyword).length + (if ([] : List Keyword).isEmpty then 0 else 1) < 30)) = true := by rfl)
    (hline : (apos.endLine == cpos.line) = true := by rfl) (hs : starEach [b] X.env = (false, eval b X.env) :: starEach [] X.env := by rfl) (hplain : (backTo cpos (starEach [] X.env)).any (·.1) = false := by rfl) :
    EV X true O (.Call (.Attribute a "index" apos) [b] [] cpos) (cOp2 indexD fa fb) := by
  refine ev_seqM PySem.F.slot_list_index PySem.F.slot_tuple_index PySem.F.type_list_index PySem.F.type_tuple_index (fun x y d e => ?_) (fun pins σ s H F tk x y d ds a its u vy Q as e hi I sb hp ra hz rb ru q => ?_) ha hb hbase hfew hline hs hplain
  · simp only [indexD] at e
    split at e <;> first | cases e | skip
    rename_i ys hys
    split at e <;> first | cases e | skip
    rename_i h
    simp only [Bool.and_eq_true] at h
    exact ⟨ys, hys, h.1.1.1⟩
  · simp only [indexD, hi] at e
    split at e <;> first | cases e | skip
    rename_i h
    simp only [Bool.and_eq_true] at h
    obtain ⟨j, hj, rfl⟩ := Option.map_eq_some_iff.mp e
    obtain ⟨bs, rx⟩ := RepB.reads I sb h.1.1.2 rb ru
    have := hr.un
    have hdp := depth_ds hi h.2
    obtain ⟨hl, he⟩ := eqv_places (X := X) ra rx hp h.1.1.2 (by omega)
    obtain ⟨h1, h2, h3⟩ := find_eqv hj
    have hsl := sizeLine_eq
    have hj' : j < its.toArray.size := by simp; omega
    constructor
    · rintro ⟨⟨cls, dd, data, sls⟩, ho, hc, n, hd⟩
      simp only at hc hd
      subst hc hd
      exact call_meets PySem.F.slot_list_index ⟨_, ho, rfl⟩ PySem.F.entry_list_index (PySem.F.args_list_index_2 _ _)
        (SeqAt.list_index2_found a its.toArray n dd sls u (fun j => PyData.eqv (ds.getD j .none) y) j hj' (by omega) (by omega) h2 fun m _ _ hm => h3 m hm) ⟨ho, he, ⟨.int (j : Nat), H, I.tok _, ⟨_, rfl⟩, q _ (by simp only [Rep])⟩⟩
    · rintro ⟨⟨cls, dd, data, sls⟩, ho, hc, n, hd⟩
      simp only at hc hd
      subst hc hd
      exact call_meets PySem.F.slot_tuple_index ⟨_, ho, rfl⟩ PySem.F.entry_tuple_index (PySem.F.args_tuple_index_2 _ _)
        (SeqAt.tuple_index2_found a its.toArray n dd sls u (fun j => PyData.eqv (ds.getD j .none) y) j hj' (by omega) hj' h2 fun m _ _ hm => h3 m hm) ⟨ho, he, ⟨.int (j : Nat), H, I.tok _, ⟨_, rfl⟩, q _ (by simp only [Rep])⟩⟩
theorem EV.count {O : List Nat} {a b : Expr} {fa fb : E} {apos cpos : Pos} (hr : Room k X.A) (ha : EB X true O a fa) (hb : EB X true O b fb)
    (hbase : attributeBase a "count" X.env (eval a X.env) = eval a X.env := by rfl)
    (hfew : ((backTo cpos (starEach [b] X.env)).all (fun x => !x.1) && (backToKw cpos (keywordEach [] X.env)).all (fun x => x.1.isSome)
      && decide (([b] : List Expr).length + ([] : List Keyword).length + (if ([] : List Keyword).isEmpty then 0 else 1) < 30)) = true := by rfl)
    (hline : (apos.endLine == cpos.line) = true := by rfl) (hs : starEach [b] X.env = (false, eval b X.env) :: starEach [] X.env := by rfl) (hplain : (backTo cpos (starEach [] X.env)).any (·.1) = false := by rfl) :
    EV X true O (.Call (.Attribute a "count" apos) [b] [] cpos) (cOp2 countD fa fb) := by
  refine ev_seqM PySem.F.slot_list_count PySem.F.slot_tuple_count PySem.F.type_list_count PySem.F.type_tuple_count (fun x y d e => ?_) (fun pins σ s H F tk x y d ds a its u vy Q as e hi I sb hp ra hz rb ru q => ?_) ha hb hbase hfew hline hs hplain
  · simp only [countD] at e
    split at e <;> first | cases e | skip
    rename_i ys hys
    split at e <;> first | cases e | skip
    rename_i h
    simp only [Bool.and_eq_true] at h
    exact ⟨ys, hys, h.1.1.1⟩
  · simp only [countD, hi] at e
    split at e <;> first | (cases e; done) | skip
    rename_i h
    simp only [Bool.and_eq_true] at h
    have hd := Option.some.inj e
    subst hd
    obtain ⟨bs, rx⟩ := RepB.reads I sb h.1.1.2 rb ru
    have := hr.un
    have hdp := depth_ds hi h.2
    have q := q (.int (ds.countP fun z => PyData.eqv z y : Nat)) (by simp only [Rep])
    exact ⟨fun hl => SeqAt.count_list_data hl (by simpa using ra) rx hp h.1.1.2 (by omega) ⟨.int _, H, I.tok _, ⟨_, rfl⟩, q⟩, fun hl => SeqAt.count_tuple_data hl (by simpa using ra) rx hp h.1.1.2 (by omega) ⟨.int _, H, I.tok _, ⟨_, rfl⟩, q⟩⟩
end
end Q

set_option Elab.async false
set_option linter.all false
set_option autoImplicit false
set_option maxRecDepth 100000
/-! QS15: sorted(set(xs)) of ints. -/
namespace Q
open PySem PySem.Spec PyProof.Rows L2
/-- a fresh set -/
abbrev emS (w : World) : Obj := { cls := .type "set", dict := none, data := .set #[] 0 (.fresh 0 0 (!w.params.followText "set-order")) }
section
variable {P : Program} {w : World} {A : Around} {E : Value → Shared → Prop} {s : Shared}
set_option maxHeartbeats 3200000 in
theorem set_of_ints {l : Addr} {its : Array Value} (ns : List Int) {Q : Value → Shared → Prop} (hh : A.handled = none) (hl : s.heap.IsList l its) (hit : IntsAre its.toList ns) (hb : ns.length + 1 < scanBound)
    (fin : ∀ (h' : Heap) (tk c : Nat), SetR w h' s.heap.objs.size (fun j => decide (j ∈ ns)) c → c ≤ ns.length → (∀ b o, s.heap.get? b = some o → h'.get? b = some o) → Q (.ref s.heap.objs.size) { s with heap := h', toks := tk }) :
    wpAny (model P w) A (call (.type "set") [.ref l]) Q E s := by
  have hz : its.size = ns.length := (Array.length_toList (xs := its)).symm.trans (IntsAre.length hit)
  obtain ⟨c, tl, hmro⟩ := F.called_set.mro; have hmade := F.called_set.made; have hsub := F.called_set.sub
  refine wpAny_call (codeAny_of_tree ?_); show wpAny _ _ (callAny (.type "set") _) _ _ _
  refine wpAny_pure ⟨Code.quiet_builtin _ (by decide +kernel), codeAny_builtin F.entry_type_call ?_⟩; rw [Around.under_plain (weight_type_call_type "set" [.ref l] []) rfl]
  have h1 := F.called_set.notType; have h2 := F.called_set.canCreate; have hct := F.typeCall_set_1 (.ref l)
  repeat (any_goals first | assumption | wp_step)
  refine codeAny_mono (code_set_led1 (w := w) (.ref l) (E := E) (Q₁ := fun obj s₁ => obj = .ref s.heap.objs.size ∧ s₁ = { s with heap := s.heap.push (emS w) }) ⟨rfl, rfl⟩) fun r s₁ hr => ?_
  match r, hr with
  | .error e, hr => exact hr
  | .ok (.ret obj), hr =>
    obtain ⟨rfl, rfl⟩ := hr
    have hS : (s.heap.push (emS w)).get? s.heap.objs.size = some (emS w) := Heap.get?_push_size _ rfl
    have hT : Shared.TypeIs { s with heap := s.heap.push (emS w) } (.ref s.heap.objs.size) "set" := ⟨_, hS, rfl⟩
    have hli := F.called_set.init.lookup; have hbi := F.called_set.init.bind (.ref s.heap.objs.size)
    repeat (any_goals first | assumption | wp_step)
    refine codeAny_mono (codeAny_call_builtin (R := wants (fun r s₂ => r = .none ∧ ∃ h' tk c, s₂ = { s with heap := h', toks := tk } ∧ SetR w h' s.heap.objs.size (fun j => decide (j ∈ ns)) c ∧ c ≤ ns.length ∧ (∀ b o, s.heap.get? b = some o → h'.get? b = some o)) E) F.called_set.init.plain F.entry_set_init (check_set_init_1 hT ?_)) fun r₂ s₂ hr₂ => ?_
    · obtain ⟨⟨ocls, odict, odata, oslots⟩, hol, hcl, nl, hdl⟩ := hl
      simp only at hcl hdl
      subst hcl hdl
      have hol' : (s.heap.push (emS w)).get? l = some { cls := .type "list", dict := odict, data := .seq its nl, slots := oslots } := Heap.get?_push_of_some _ hol
      have hsls := F.sub_list_set; have hslf := F.sub_list_frozenset; have hne : (Value.type "list" == Value.type "dict") = false := by decide
      have hl1 : (s.heap.push (emS w)).IsList l its := ⟨_, hol', rfl, nl, rfl⟩
      unfold Builtin.«set.__init__» noKeywords Builtin.Frozenset.updateFrom
      generalize hPI : pyIter = PI
      wp_walk
      subst hPI
      refine wpAny_pyIter_list hl1 ?_; refine wpAny_bind (wpAny_runValue ?_)
      have hlS : l < s.heap.objs.size := Heap.lt_size hol
      have hh3 : A.in1.in1.in1.handled = none := by simp [hh]
      have sz : (s.heap.push (emS w)).objs.size = s.heap.objs.size + 1 := Heap.size_push ..
      have hneI : l ≠ (s.heap.push (emS w)).objs.size := by rw [sz]; exact Nat.ne_of_lt (Nat.lt_succ_of_lt hlS)
      have hSf : s.heap.objs.size ∉ [(s.heap.push (emS w)).objs.size, l] := by
        rw [sz]; simp only [List.mem_cons, List.not_mem_nil, or_false, not_or]
        exact ⟨Nat.ne_of_lt (Nat.lt_succ_self _), Nat.ne_of_gt hlS⟩
      have hval : ∀ (i : Nat) (v : Value), its[i]? = some v → ∃ k t, ns[i]? = some k ∧ v = .int k t := fun i v hv => by
        have hi : i < ns.length := hz ▸ (Array.getElem?_eq_some_iff.mp hv).1
        obtain ⟨t, e⟩ := PyProof.Rows.IntsAre.int_at hit i v (by rw [Array.getElem?_toList]; exact hv)
        exact ⟨ns[i], t, List.getElem?_eq_getElem hi, by rw [e, List.getD_eq_getElem?_getD, List.getElem?_eq_getElem hi]; rfl⟩
      refine set_update_ints ((Walks.list hh3 _ l hneI its).toS) s.heap.objs.size hSf ns hz hb hval (its.size - 0) 0 _ (by omega) (Nat.zero_le _) ⟨⟨_, Heap.get?_push_size _ rfl, rfl, rfl⟩, (hl1.push _)⟩ ⟨0, Nat.le_refl 0, setR_new_at (Heap.get?_push_of_some _ hS)⟩ fun s' c' hm hc' hS' => ?_
      obtain ⟨h', g2, d', tk', os'⟩ := s'
      obtain rfl : g2 = s.gens := hm.gens
      obtain rfl : d' = s.drawn := hm.drawn
      obtain rfl : os' = s.os := hm.os
      show wpAny _ _ _ _ _ _
      refine wpAny_pure ?_; show wpAny _ _ (ret Value.none) _ _ _; rw [hz] at hc'
      refine wpAny_pure ⟨rfl, h', tk', c', rfl, hS', hc', fun b o e => ?_⟩
      have hb0 : b < s.heap.objs.size := Heap.lt_size e
      refine hm.heap b o ?_ (Heap.get?_push_of_some _ (Heap.get?_push_of_some _ e))
      simp only [List.mem_cons, List.not_mem_nil, or_false, not_or]
      exact ⟨Nat.ne_of_lt hb0, by rw [sz]; exact Nat.ne_of_lt (Nat.lt_succ_of_lt hb0)⟩
    · match r₂, hr₂ with
      | .error e, hr₂ => exact hr₂
      | .ok (.ret r), hr₂ =>
        obtain ⟨rfl, h', tk, c', rfl, hS', hc', hk'⟩ := hr₂
        repeat (any_goals first | assumption | wp_step)
        exact fin _ _ _ hS' hc' hk'
end
end Q

set_option Elab.async false
set_option linter.all false
set_option autoImplicit false
set_option maxRecDepth 100000
/-! QS15: sorted(set(xs)) of ints. -/
namespace Q
open PySem PySem.Spec PyProof.Rows L2
/-- the different ints, in order -/
def sortSetI (ns : List Int) : List Int := (dedupI ns).mergeSort fun a b => decide (a ≤ b)
theorem mem_step (acc : List Int) (x k : Int) : k ∈ step_dedup acc x ↔ k ∈ acc ∨ k = x := by
  unfold step_dedup
  split
  · rename_i h
    constructor
    · exact .inl
    · rintro (h1 | rfl)
      · exact h1
      · simpa using h
  · simp
theorem mem_dedupF : ∀ (ns acc : List Int) (k : Int), k ∈ ns.foldl step_dedup acc ↔ k ∈ acc ∨ k ∈ ns
  | [], acc, k => by simp
  | x :: ns, acc, k => by
    rw [List.foldl_cons, mem_dedupF ns, mem_step, List.mem_cons, or_assoc]
theorem mem_dedupI (ns : List Int) (k : Int) : k ∈ dedupI ns ↔ k ∈ ns := by unfold dedupI; rw [mem_dedupF]; simp
theorem nodup_dedupF : ∀ (ns acc : List Int), acc.Nodup → (ns.foldl step_dedup acc).Nodup
  | [], acc, h => h
  | x :: ns, acc, h => by
    rw [List.foldl_cons]
    refine nodup_dedupF ns _ ?_
    unfold step_dedup
    split
    · exact h
    · rename_i hx
      exact List.nodup_append.mpr ⟨h, by simp, fun a ha b hb => by
        simp at hb
        subst hb
        exact fun z => hx (by simpa using z ▸ ha)⟩
theorem nodup_dedupI (ns : List Int) : (dedupI ns).Nodup := nodup_dedupF ns [] (by simp)
theorem mem_sortSetI (ns : List Int) (k : Int) : k ∈ sortSetI ns ↔ k ∈ ns := by
  unfold sortSetI
  rw [List.mem_mergeSort]
  exact mem_dedupI ns k
theorem sorted_sortSetI (ns : List Int) : (sortSetI ns).Pairwise (· < ·) := by
  have h1 : (sortSetI ns).Pairwise fun a b => decide (a ≤ b) = true := List.pairwise_mergeSort (fun a b c h k => by simp at *; omega) (fun a b => by simp; omega) _
  have h2 : (sortSetI ns).Nodup := (List.mergeSort_perm _ _).nodup_iff.mpr (nodup_dedupI ns)
  refine (h1.and h2).imp ?_
  rintro a b ⟨h, k⟩
  have : a ≠ b := k
  simp at h
  omega
theorem strict_eq : ∀ {a b : List Int}, a.Pairwise (· < ·) → b.Pairwise (· < ·) → (∀ k, k ∈ a ↔ k ∈ b) → a = b
  | [], [], _, _, _ => rfl
  | [], y :: ys, _, _, h => by have := (h y).mpr (by simp); simp at this
  | x :: xs, [], _, _, h => by have := (h x).mp (by simp); simp at this
  | x :: xs, y :: ys, ha, hb, h => by
    obtain ⟨a1, a2⟩ := List.pairwise_cons.mp ha
    obtain ⟨b1, b2⟩ := List.pairwise_cons.mp hb
    have exy : x = y := by
      rcases List.mem_cons.mp ((h x).mp (by simp)) with q | q
      · exact q
      · rcases List.mem_cons.mp ((h y).mpr (by simp)) with p | p
        · exact p.symm
        · have := b1 x q
          have := a1 y p
          omega
    subst exy
    rw [strict_eq a2 b2 fun k => ?_]
    constructor
    · intro hk
      rcases List.mem_cons.mp ((h k).mp (List.mem_cons_of_mem _ hk)) with q | q
      · have := a1 k hk; omega
      · exact q
    · intro hk
      rcases List.mem_cons.mp ((h k).mpr (List.mem_cons_of_mem _ hk)) with q | q
      · have := b1 k hk; omega
      · exact q
def sortSetD : D → Option D
  | .list ds => (intsOf ds).bind fun ns => if ns.length < 60 then some (.list ((sortSetI ns).map .int)) else none
  | .tuple ds => (intsOf ds).bind fun ns => if ns.length < 60 then some (.list ((sortSetI ns).map .int)) else none
  | _ => none
theorem repL_ints {Kx : PySem.W.Frag} {mx : Str → Option Value} {zf : Bool} {tk : Tk Kx mx zf} {F : Hp} : ∀ (l : List Int), RepL tk F (l.map PyData.int) (l.map V.int)
  | [] => by simp only [List.map_nil, RepL]
  | x :: l => by simp only [List.map_cons, RepL, Rep]; exact ⟨trivial, repL_ints l⟩
section
variable {X : Cx} {zf : Bool} {O : List Nat}
theorem EO.sortSet {a : Expr} {fa : E} {p p2 q pos : Pos} (hr : ∃ k, Room k X.A) (hm : X.mg "sorted" = none) (hm2 : X.mg "set" = none) (ha : EB X zf O a fa) (hg : Gl X "sorted" := by rfl) (hg2 : Gl X "set" := by rfl)
    (na : starEach [a] X.env = (false, eval a X.env) :: starEach [] X.env := by rfl) : EO X zf O (.Call (.Name "sorted" p) [.Call (.Name "set" p2) [a] [] q] [] pos) (cOp1 sortSetD fa) := by
  obtain ⟨k, hr⟩ := hr
  refine ⟨fun pins s σ H Q I ⟨tk, H0, F0, F, g, w, d, w', R, ef, kk⟩ => ?_⟩
  obtain ⟨x, w1, e1, ef⟩ := bnd_eq (show bnd (fa g w) _ = _ from ef)
  obtain ⟨e4, e5⟩ := lft_eq ef
  have e5 : w1 = w' := e5
  subst e5
  refine Call_ (ld_blt I hg hm (show bootBuiltins "sorted" = some (.builtin "sorted") from by decide +kernel) ?_)
  refine PyProof.Rows.callWith_builtin1 (PyProof.Rows.args_cons ?_ rfl) rfl rfl
  refine Call_ (ld_blt I hg2 hm2 PyProof.Rows.boot_set ?_)
  refine PyProof.Rows.callWith_type1 (PyProof.Rows.args_cons (thn (ha.run pins s σ H (fun v H1 => ∃ (l : Addr) (ns : List Int) (F1 : Hp), v = V.ref l ∧ (SqL X.K H1 l (ns.map V.int) ∨ SqT X.K H1 l (ns.map V.int)) ∧ ns.length < 60 ∧ d = .list ((sortSetI ns).map .int) ∧ Rel tk H0 F0 O σ H1 F1 g w1 ∧ Ex tk F H F1 H1) I ⟨tk, H0, F0, F, g, w, x, w1, R, e1, fun v H1 F1 R1 x1 r1 => ?_⟩) fun v s1 ⟨x, H1, I1, r1, q1⟩ => PyProof.Rows.args_nil ?_) na) na rfl
  · have e4 : sortSetD x = some d := e4
    cases x <;> simp only [sortSetD] at e4 <;> first | (cases e4; done) | skip
    · rename_i ds
      obtain ⟨ns, h1, h2⟩ := Option.bind_eq_some_iff.mp e4
      by_cases hz : ns.length < 60
      case neg => rw [if_neg hz] at h2; cases h2
      rw [if_pos hz] at h2
      have hd := (Option.some.inj h2).symm
      simp only [RepB] at r1
      obtain ⟨l, xs, rfl, _, hr1, rl⟩ := r1
      have := ints_rep h1 rl
      subst this
      exact ⟨l, ns, F1, rfl, .inl (.inl hr1), hz, hd, R1, x1⟩
    · rename_i ds
      obtain ⟨ns, h1, h2⟩ := Option.bind_eq_some_iff.mp e4
      by_cases hz : ns.length < 60
      case neg => rw [if_neg hz] at h2; cases h2
      rw [if_pos hz] at h2
      have hd := (Option.some.inj h2).symm
      simp only [RepB, Rep] at r1
      obtain ⟨l, xs, rfl, hr1, rl⟩ := r1
      have := ints_rep h1 rl
      subst this
      exact ⟨l, ns, F1, rfl, .inr (R1.sub.tup hr1).sq, hz, hd, R1, x1⟩
  · obtain ⟨l, ns, F1, rfl, hq, hz, rfl, R1, x1⟩ := q1
    cases r1
    have hb : ns.length + 1 < scanBound := by unfold scanBound; omega
    have step : ∀ (h' : Heap) (tk2 c : Nat), SetR X.w h' s1.heap.objs.size (fun j => decide (j ∈ ns)) c → c ≤ ns.length → (∀ b o, s1.heap.get? b = some o → h'.get? b = some o) → wpAny (model X.prog X.w) X.A (call (.builtin "sorted") [.ref s1.heap.objs.size]) (EP X pins σ Q) X.xe { s1 with heap := h', toks := tk2 } := fun h' tk2 c hS hc hk => by
      have I2 : Inv X pins σ H1 { s1 with heap := h', toks := tk2 } := I1.kept hk
      have hS2 : SetR X.w ({ s1 with heap := h', toks := tk2 } : Shared).heap s1.heap.objs.size (fun j => decide (j ∈ ns)) c := hS
      refine L2.sorted_set hS2 hr.hd (by omega) fun s' p out cc ms ks gs os hp hg2 hi hs hmm hl => ?_
      have hms : ms = sortSetI ns := strict_eq hs (sorted_sortSetI ns) fun k => by rw [hmm, mem_sortSetI]; simp
      subst hms
      have hlen : ((sortSetI ns).map V.int).length ≤ sizeLine := by rw [List.length_map, hl, sizeLine_eq]; omega
      have hn : H1 p = none := I2.hok.fresh hp
      have ks' : ∀ b o, s1.heap.get? b = some o → s'.heap.get? b = some o := fun b o e => ks b o (hk b o e)
      have hp' : s1.heap.objs.size ≤ p := Nat.le_trans (Nat.le_of_lt hS.lt) hp
      have J : Inv X pins σ (upd H1 p (.lst ((sortSetI ns).map V.int))) { s1 with heap := s'.heap, gens := s'.gens, drawn := s'.drawn, toks := s'.toks } :=
        I1.call (ch := []) (Un.laid ks' hp' hn) (I1.hok.laid ks' hp' ⟨hlen, out.toList, cc, vals_of_ints hi, hg2⟩) (by rw [gs]; exact I1.bare) (fun _ z => nomatch z)
      obtain ⟨R3, x3, io⟩ := own_new (d := .list ((sortSetI ns).map .int)) (o := .lst ((sortSetI ns).map V.int)) R1 x1 hn (by simp only [RepO]; exact repL_ints _)
      have e : s' = { s1 with heap := s'.heap, gens := s'.gens, drawn := s'.drawn, toks := s'.toks } := by
        cases s'
        cases s1
        cases os
        rfl
      rw [e]
      exact ⟨.ref p, _, J, rfl, kk _ _ _ R3 x3 io⟩
    rcases hq with hq | hq
    · obtain ⟨its, r, pl, hz2⟩ := I1.list hq
      exact set_of_ints ns hr.hd pl.isList (by simpa using r.ints) hb fun h' tk2 c hS hc hk => PyProof.Rows.args_nil (step h' tk2 c hS hc hk)
    · obtain ⟨its, r, pl, hz2⟩ := I1.tuple hq
      exact call_set_tupI ns hr.hd pl (by simpa using r.ints) hb fun h' tk2 c hS hc hk => PyProof.Rows.args_nil (step h' tk2 c hS hc hk)
end
end Q

set_option Elab.async false
set_option linter.all false
set_option autoImplicit false
set_option maxRecDepth 100000
/-! QS16: dicts whose keys are ints or texts. -/
namespace Q
open PySem PySem.Spec PyProof.Rows L2
theorem beq_dec {α : Type} [DecidableEq α] (a b : α) : (a == b) = decide (a = b) := by by_cases h : a = b <;> simp [h]
def keyN : D → Option Key
  | .int i => some (.inl i)
  | .str x => some (.inr x)
  | _ => none
theorem keyN_of {d : D} {k : Key} (h : keyN d = some k) : d = keyOf k := by
  cases d <;> simp only [keyN] at h <;> first | (cases h; done) | skip
  all_goals
    have := Option.some.inj h
    subst this
    rfl
theorem eqv_key (a b : Key) : PyData.eqv (keyOf a) (keyOf b) = decide (a = b) := by
  cases a <;> cases b <;> simp only [keyOf, PyData.eqv]
  · rw [beq_dec]; exact decide_eq_decide.mpr (by rw [Sum.inl.injEq])
  · simp
  · simp
  · rw [beq_dec]; exact decide_eq_decide.mpr (by rw [Sum.inr.injEq])
theorem eqv_tupkey (ks : List Key) (b : Key) : PyData.eqv (.tuple (ks.map keyOf)) (keyOf b) = false := by cases b <;> simp [keyOf, PyData.eqv]
section
variable {Kx : PySem.W.Frag} {mx : Str → Option Value} {zf : Bool} {tk : Tk Kx mx zf} {F H : Hp}
theorem rep_key {k : Key} {v : V} (h : Rep tk F (keyOf k) v) : v = kV k := by
  cases k <;> simp only [keyOf, Rep] at h <;> exact h
theorem repB_key {k : Key} {v : V} (h : RepB tk F H (keyOf k) v) : v = kV k := by
  cases k <;> simp only [keyOf, RepB, Rep] at h <;> exact h
theorem rep_keyV (k : Key) : Rep tk F (keyOf k) (kV k) := by
  cases k <;> simp only [keyOf, Rep] <;> rfl
theorem RepK.look (k : Key) : ∀ {kvs : List (D × D)} {es : List (Key × V)}, RepK tk F kvs es → (∀ d, lookD kvs (keyOf k) = some d → ∃ v, valV es k = some v ∧ Rep tk F d v) ∧ (lookD kvs (keyOf k) = none → valV es k = none)
  | [], [], _ => ⟨fun d h => by simp [lookD] at h, fun _ => rfl⟩
  | [], _ :: _, h => by simp only [RepK] at h
  | _ :: _, [], h => by simp only [RepK] at h
  | (a, d) :: r, (b, v) :: r', h => by
    simp only [RepK] at h
    obtain ⟨rfl, h1, h2⟩ := h
    have ih := RepK.look k h2
    unfold lookD at ih ⊢
    rw [List.find?_cons]
    by_cases e : b = k
    · subst e
      simp only [eqv_key, decide_true, Option.map_some]
      exact ⟨fun d' h => ⟨v, valV_pos rfl, (Option.some.inj h) ▸ h1⟩, fun h => by cases h⟩
    · simp only [eqv_key, decide_eq_false e]
      rw [valV_neg (p := (b, v)) e]
      exact ih
theorem RepK.some_iff (k : Key) {kvs : List (D × D)} {es : List (Key × V)} (h : RepK tk F kvs es) : (valV es k).isSome = (lookD kvs (keyOf k)).isSome := by
  obtain ⟨h1, h2⟩ := h.look k
  cases e : lookD kvs (keyOf k) with
  | none => rw [h2 e]; rfl
  | some d =>
    obtain ⟨v, e2, _⟩ := h1 d e
    rw [e2]; rfl
theorem RepT.look (k : Key) : ∀ {kvs : List (D × D)} {es : List (List Key × V)}, RepT tk F kvs es → lookD kvs (keyOf k) = none
  | [], [], _ => rfl
  | [], _ :: _, h => by simp only [RepT] at h
  | _ :: _, [], h => by simp only [RepT] at h
  | (a, d) :: r, (b, v) :: r', h => by
    simp only [RepT] at h
    obtain ⟨rfl, h1, h2⟩ := h
    have ih := RepT.look k h2
    unfold lookD at ih ⊢
    rw [List.find?_cons]
    simp only [eqv_tupkey]
    exact ih
theorem RepK.mapP (k : Key) {d : D} {v : V} (rd : Rep tk F d v) : ∀ {kvs : List (D × D)} {es : List (Key × V)}, RepK tk F kvs es → RepK tk F (kvs.map fun p => if PyData.eqv p.1 (keyOf k) = true then (p.1, d) else p) (es.map fun kv => if kv.1 = k then (kv.1, v) else kv)
  | [], [], _ => by simp only [List.map_nil, RepK]
  | [], _ :: _, h => by simp only [RepK] at h
  | _ :: _, [], h => by simp only [RepK] at h
  | (a, e) :: r, (b, u) :: r', h => by
    simp only [RepK] at h
    obtain ⟨rfl, h1, h2⟩ := h
    simp only [List.map_cons, eqv_key]
    by_cases q : b = k
    · rw [if_pos (decide_eq_true q), if_pos q]
      simp only [RepK]
      exact ⟨trivial, rd, RepK.mapP k rd h2⟩
    · rw [if_neg (by simpa using q), if_neg q]
      simp only [RepK]
      exact ⟨trivial, h1, RepK.mapP k rd h2⟩
theorem RepK.app : ∀ {kvs more : List (D × D)} {es ms : List (Key × V)}, RepK tk F kvs es → RepK tk F more ms → RepK tk F (kvs ++ more) (es ++ ms)
  | [], _, [], _, _, h => h
  | [], _, _ :: _, _, h, _ => by simp only [RepK] at h
  | _ :: _, _, [], _, h, _ => by simp only [RepK] at h
  | (a, e) :: r, _, (b, u) :: r', _, h, k => by
    simp only [RepK] at h
    simp only [List.cons_append, RepK]
    exact ⟨h.1, h.2.1, RepK.app h.2.2 k⟩
theorem RepK.put (k : Key) {d : D} {v : V} (rd : Rep tk F d v) {kvs : List (D × D)} {es : List (Key × V)} (h : RepK tk F kvs es) : RepK tk F (putD kvs (keyOf k) d) (putK es k v) := by
  unfold putD putK
  rw [valV_any, RepK.some_iff k h]
  by_cases q : (lookD kvs (keyOf k)).isSome = true
  · rw [if_pos q, if_pos q]
    exact RepK.mapP k rd h
  · rw [if_neg q, if_neg q]
    refine RepK.app h ?_
    simp only [RepK]
    exact ⟨trivial, rd, trivial⟩
theorem RepK.length : ∀ {kvs : List (D × D)} {es : List (Key × V)}, RepK tk F kvs es → kvs.length = es.length
  | [], [], _ => rfl
  | [], _ :: _, h => by simp only [RepK] at h
  | _ :: _, [], h => by simp only [RepK] at h
  | (a, e) :: r, (b, u) :: r', h => by
    simp only [RepK] at h
    simp [RepK.length h.2.2]
theorem RepT.length : ∀ {kvs : List (D × D)} {es : List (List Key × V)}, RepT tk F kvs es → kvs.length = es.length
  | [], [], _ => rfl
  | [], _ :: _, h => by simp only [RepT] at h
  | _ :: _, [], h => by simp only [RepT] at h
  | (a, e) :: r, (b, u) :: r', h => by
    simp only [RepT] at h
    simp [RepT.length h.2.2]
theorem RepB.dict {kvs : List (D × D)} {v : V} (h : RepB tk F H (.dict kvs) v) (nt : isTok (.dict kvs) = false) : ∃ a, v = .ref a ∧ tk.pw ≠ some a ∧ ((∃ es, Rd H a (.dK es) ∧ RepK tk F kvs es) ∨ ∃ es, Rd H a (.dT es) ∧ RepT tk F kvs es) := by
  simp only [RepB] at h
  obtain ⟨a, e, h⟩ := h
  rcases h with ⟨n, h⟩ | ⟨z, _⟩ | ⟨x, z, _⟩ | ⟨ns, z, _⟩
  · exact ⟨a, e, n, h⟩
  · subst z; cases nt
  · subst z; cases nt
  · subst z; cases nt
theorem tok_nil : isTok (.dict []) = false := rfl
end
/-! ### d[k] -/
def ixAD (c i : D) : Option D := match c with
  | .dict kvs => if isTok c = true then ixD c i else (keyN i).bind fun k => lookD kvs (keyOf k)
  | _ => ixD c i
def keysOk (kvs : List (D × D)) : Bool := kvs.all fun p => (keyN p.1).isSome
def inAD (x c : D) : Option Bool := match c with
  | .dict kvs => if (isTok c || !keysOk kvs) = true then none else (keyN x).map fun k => (lookD kvs (keyOf k)).isSome
  | _ => inD x c
def notInAD (x c : D) : Option Bool := (inAD x c).map (!·)
def lenAD (c : D) : Option D := match c with
  | .dict kvs => if isTok c = true then lenD c else some (.int kvs.length)
  | _ => lenD c
theorem _root_.L2.Room.un1 {k : Nat} {A : Around} (h : Room k A) : A.units + 1 < cLine := by have := h.units; omega
section
variable {X : Cx} {zf : Bool} {tk : Tk X.K X.mg zf} {pins : List (Addr × Obj)} {σ : L2.St} {H F : Hp} {s : Shared}
/-- what a dict of ints and texts is to the library -/
theorem kd_facts (I : Inv X pins σ H s) {kvs : List (D × D)} {a : Addr} (hk : (∃ es, Rd H a (.dK es) ∧ RepK tk F kvs es) ∨ ∃ es, Rd H a (.dT es) ∧ RepT tk F kvs es) (hn : keysOk kvs = true) :
    ∃ es, RepK tk F kvs es ∧ es.length ≤ sizeLine ∧ (a == sysModules) = false ∧ ∃ vs, KV es vs ∧ s.heap.DictOf (mixKind X.prog X.w) a vs := by
  rcases hk with ⟨es, hrd, rk⟩ | ⟨es, hrd, rt⟩
  · obtain ⟨z, hd, vs, rel, dd⟩ := dk_rd I.hok hrd
    exact ⟨es, rk, z, hd, vs, rel, dd⟩
  · have h0 : kvs = [] ∧ es = [] := by
      cases kvs with
      | nil =>
        have := rt.length
        exact ⟨rfl, List.eq_nil_of_length_eq_zero this.symm⟩
      | cons p kvs =>
        cases es with
        | nil => simp only [RepT] at rt
        | cons q es =>
          obtain ⟨a, d⟩ := p
          obtain ⟨b, v⟩ := q
          simp only [RepT] at rt
          obtain ⟨rfl, _⟩ := rt
          simp [keysOk, keyN] at hn
    obtain ⟨rfl, rfl⟩ := h0
    obtain ⟨z, hd, xs, rel, o, es, ep, e1, e2, e3, e4, e5⟩ := dt_rd I.hok hrd
    cases rel
    have e6 : es.toList = [] := by rw [e4]; rfl
    exact ⟨[], by simp only [RepK], Nat.zero_le _, hd, [], .nil, o, es, ep, e1, e2, e3, fun x hx => (by
      have : x ∈ es.toList := by simpa using hx
      rw [e6] at this; simp at this), by rw [e6]; exact .nil, List.nodup_nil⟩
end
section
variable {X : Cx} {zf : Bool} {O : List Nat} {k : Nat}
theorem EV.ixA {a b : Expr} {fa fb : E} {pos : Pos} (hr : Room k X.A) (ha : EB X zf O a fa) (hb : EB X zf O b fb) (hs : PlainIx b := by intro _ _; rfl) (hs2 : NoSl b := by intro _ _; rfl) : EV X zf O (.Subscript a b pos) (cOp2 ixAD fa fb) :=
  PE.imp (PE.or (EV.ix ha hb hs) (pe_dget hr.un1 ha hb hs2)) fun σ H Q ⟨tk, H0, F0, F, g, w, d, w', R, ef, kk⟩ => by
  obtain ⟨x, w1, e1, ef1⟩ := bnd_eq (show bnd (fa g w) _ = _ from ef)
  obtain ⟨y, w2, e2, ef2⟩ := bnd_eq ef1
  obtain ⟨e3, e4⟩ := lft_eq ef2
  have e4 : w2 = w' := e4
  subst e4
  have e3 : ixAD x y = some d := e3
  by_cases hd : ∃ kvs, x = .dict kvs ∧ isTok x = false
  · obtain ⟨kvs, rfl, nt⟩ := hd
    unfold ixAD at e3
    simp only [nt, Bool.false_eq_true, if_false] at e3
    obtain ⟨ky, h1, h2⟩ := Option.bind_eq_some_iff.mp e3
    have := keyN_of h1
    subst this
    refine .inr ⟨tk, H0, F0, F, g, w, _, w1, R, e1, fun vx H1 F1 R1 x1 r1 => ⟨tk, H0, F0, F1, g, w1, _, w2, R1, e2, fun vy H2 F2 R2 x2 r2 => ?_⟩⟩
    obtain ⟨a, rfl, na, hk⟩ := RepB.dict (r1.ex x2) nt
    have := repB_key r2
    subst this
    rcases hk with ⟨es, hrd, rk⟩ | ⟨es, hrd, rt⟩
    · obtain ⟨v, e5, e6⟩ := (rk.look ky).1 _ h2
      exact ⟨a, v, rfl, .inl ⟨es, ky, hrd, rfl, e5.symm⟩, kk _ _ _ R2 (x1.trans x2) e6⟩
    · rw [rt.look] at h2; cases h2
  · have e5 : ixD x y = some d := by
      cases x with
      | dict kvs =>
        have nt : isTok (.dict kvs) = true := by
          cases q : isTok (.dict kvs) with
          | true => rfl
          | false => exact absurd ⟨kvs, rfl, q⟩ hd
        unfold ixAD at e3
        simpa only [nt, if_true] using e3
      | _ => exact e3
    exact .inl ⟨tk, H0, F0, F, g, w, d, w2, R, by
      show bnd (fa g w) _ = _
      rw [e1, bnd_some, e2, bnd_some, e5]; rfl, kk⟩
/-! in, not in -/
theorem in_cases {X : Cx} {zf : Bool} {tk : Tk X.K X.mg zf} {pins : List (Addr × Obj)} {σ : L2.St} {H F : Hp} {s : Shared} {kvs : List (D × D)} {x : D} {vx vy : V} {v u : Value} {b : Bool} (I : Inv X pins σ H s) (hx : RepB tk F H x vx) (hy : RepB tk F H (.dict kvs) vy) (rx : RelV vx v) (ry : RelV vy u) (e : inAD x (.dict kvs) = some b) :
    ∃ (a : Addr) (ky : Key) (vs : List (Key × Value)), u = .ref a ∧ vx = kV ky ∧ (a == sysModules) = false ∧ s.heap.DictOf (mixKind X.prog X.w) a vs ∧ (valueAt vs ky).isSome = b := by
  unfold inAD at e
  by_cases h : (isTok (.dict kvs) || !keysOk kvs) = true
  · simp only [h, if_true] at e; cases e
  · simp only [h, if_false] at e
    have h' : isTok (.dict kvs) = false ∧ keysOk kvs = true := by simpa using h
    obtain ⟨ky, h1, rfl⟩ := Option.map_eq_some_iff.mp e
    have := keyN_of h1
    subst this
    obtain ⟨a, rfl, na, hk⟩ := RepB.dict hy h'.1
    cases ry
    obtain ⟨es, rk, z, hd, vs, rel, dd⟩ := kd_facts I hk h'.2
    exact ⟨a, ky, vs, rfl, repB_key hx, hd, dd, by rw [← (rel.val ky).isSome_eq, rk.some_iff]⟩
theorem ok_inA (hr : Room k X.A) : OkC (zf := zf) X .In inAD := fun pins s σ H F tk x y vx vy v u b Q I sb hx hy rx ry e q => by
  cases y with
  | dict kvs =>
    obtain ⟨a, ky, vs, rfl, rfl, hd, dd, rfl⟩ := in_cases I hx hy rx ry e
    exact wpAny_in_of (kV_is rx) hd dd.mapOf (q _ (I.tok _))
  | _ => exact ok_in hr pins s σ H F tk x _ vx vy v u b Q I sb hx hy rx ry e q
theorem ok_notInA (hr : Room k X.A) : OkC (zf := zf) X .NotIn notInAD := fun pins s σ H F tk x y vx vy v u b Q I sb hx hy rx ry e q => by
  cases y with
  | dict kvs =>
    obtain ⟨b2, e2, rfl⟩ := Option.map_eq_some_iff.mp (show (inAD x (.dict kvs)).map (!·) = some b from e)
    obtain ⟨a, ky, vs, rfl, rfl, hd, dd, rfl⟩ := in_cases I hx hy rx ry e2
    exact wpAny_notIn_of (kV_is rx) hd dd.mapOf (q _ (I.tok _))
  | _ => exact ok_notIn hr pins s σ H F tk x _ vx vy v u b Q I sb hx hy rx ry e q
end
end Q

set_option Elab.async false
set_option linter.all false
set_option autoImplicit false
set_option maxRecDepth 100000
/-! QS17: a new dict, d[k] = v, x[::-1], range with a step, texts walked, xs.append((ys.pop(k), e)). -/
namespace Q
open PySem PySem.Spec PyProof.Rows L2
section
variable {X : Cx} {zf : Bool} {O : List Nat} {k : Nat}
theorem EO.dict0 {pos : Pos} : EO X zf O (.Dict [] [] pos) (cK (.dict [])) := PE.imp pe_dnewK fun σ H Q ⟨tk, H0, F0, F, g, w, d, w', R, ef, kk⟩ => by
  cases ef
  intro p hp
  obtain ⟨R3, x3, io⟩ := own_new (d := .dict []) (o := .dK []) R (Ex.refl ..) hp (by simp only [RepO, RepK])
  exact kk _ _ _ R3 x3 io
/-! x[::-1] -/
def revD : D → Option D
  | .list xs => some (.list xs.reverse)
  | _ => none
theorem RepL.reverse {Kx : PySem.W.Frag} {mx : Str → Option Value} {zf : Bool} {tk : Tk Kx mx zf} {F : Hp} : ∀ {ds : List D} {vs : List V}, RepL tk F ds vs → RepL tk F ds.reverse vs.reverse
  | [], [], h => by simpa using h
  | [], _ :: _, h => by simp only [RepL] at h
  | _ :: _, [], h => by simp only [RepL] at h
  | d :: ds, v :: vs, h => by
    simp only [RepL] at h
    rw [List.reverse_cons, List.reverse_cons]
    exact (RepL.reverse h.2).snoc h.1
theorem EO.rev {a : Expr} {fa : E} {n : Nat} {p1 p2 p3 pos : Pos} (ha : EB X zf O a fa) : EO X zf O (.Subscript a (.Slice none none (some (.UnaryOp .USub (.Constant (.int 1) n p1) p2)) p3) pos) (cOp1 revD fa) := PE.imp (pe_revL ha) fun σ H Q ⟨tk, H0, F0, F, g, w, d, w', R, ef, kk⟩ => by
  obtain ⟨x, w1, e1, ef⟩ := bnd_eq (show bnd (fa g w) _ = _ from ef)
  obtain ⟨e4, e5⟩ := lft_eq ef
  have e5 : w1 = w' := e5
  subst e5
  have e4 : revD x = some d := e4
  cases x <;> simp only [revD] at e4 <;> first | (cases e4; done) | skip
  rename_i ds _e
  have hd := Option.some.inj e4
  subst hd
  refine ⟨tk, H0, F0, F, g, w, _, w1, R, e1, fun v H1 F1 R1 x1 r1 => ?_⟩
  simp only [RepB] at r1
  obtain ⟨a, xs, rfl, na, hr, l⟩ := r1
  refine ⟨a, xs, rfl, .inl hr, fun p hp => ?_⟩
  obtain ⟨R3, x3, io⟩ := own_new (d := .list ds.reverse) (o := .lst xs.reverse) R1 x1 hp (by simp only [RepO]; exact RepL.reverse l)
  exact kk _ _ _ R3 x3 io
/-! range(i, j, -1) -/
def rangeD (hi : Int) (n : Nat) : List D := (List.range n).map fun i => .int (hi - (i : Nat))
def range3 : D → D → D → Option (List D)
  | .int i, .int j, .int c => if (small62 i && small62 j && decide (c = -1)) = true then some (rangeD i (i - j).toNat) else none
  | _, _, _ => none
def itR3 (a b c : E) : Es := fun g w => bnd (a g w) fun x w1 => bnd (b g w1) fun y w2 => bnd (c g w2) fun z w3 => lft (range3 x y z) w3
theorem itOk_rangeD {wk : Bool} {Kx : PySem.W.Frag} {mx : Str → Option Value} {zf : Bool} {tk : Tk Kx mx zf} {F : Hp} (lo : Int) (n : Nat) : ItOk wk tk (Itc lo (-1) n) (rangeD lo n) F := fun F2 H2 s sb i => by
  refine ⟨fun d hd => ?_, fun h => (by
    show n ≤ i
    simpa [rangeD] using h)⟩
  have hi : i < n := by
    have := (List.getElem?_eq_some_iff.mp hd).1
    simpa [rangeD] using this
  refine ⟨hi, fun x H3 y => .inl ⟨y.1, ?_⟩⟩
  have e : (rangeD lo n)[i]? = some (.int (lo - (i : Nat))) := by simp [rangeD, hi]
  rw [e] at hd
  cases hd
  rw [y.2]
  have e2 : lo + (i : Nat) * (-1 : Int) = lo - (i : Nat) := by omega
  rw [e2]
  exact .inl (by simp only [Rep])
theorem EI.r3 {tg a b c : Expr} {fa fb fc : E} {p pos : Pos} (hm : X.mg "range" = none) (ha : EB X zf O a fa) (hb : EB X zf O b fb) (hc : EB X zf O c fc) (hg : Gl X "range" := by rfl)
    (hs : starEach [a, b, c] X.env = (false, eval a X.env) :: starEach [b, c] X.env := by rfl) (hs2 : starEach [b, c] X.env = (false, eval b X.env) :: starEach [c] X.env := by rfl) (hs3 : starEach [c] X.env = (false, eval c X.env) :: starEach [] X.env := by rfl)
    (hpl : (backTo pos (starEach [b, c] X.env)).any (·.1) = false := by rfl) :
    EI X zf O tg (.Call (.Name "range" p) [a, b, c] [] pos) (itR3 fa fb fc) :=
  PI.imp (pi_range3 hg hm (EAB.cons ha (EAB.cons hb (EAB.cons hc EAB.nil hs3) hs2) hs) hs hpl) fun σ H Q ⟨tk, H0, F0, F, g, w, ds, w', R, ef, kk⟩ => by
  obtain ⟨x, w1, e1, ef⟩ := bnd_eq (show bnd (fa g w) _ = _ from ef)
  obtain ⟨y, w2, e2, ef⟩ := bnd_eq ef
  obtain ⟨z, w3, e3, ef⟩ := bnd_eq ef
  obtain ⟨e4, e5⟩ := lft_eq ef
  have e5 : w3 = w' := e5
  subst e5
  have e4 : range3 x y z = some ds := e4
  refine ⟨tk, H0, F0, F, g, w, [x, y, z], w3, R, by simp [cArgs, e1, e2, e3], fun vs H1 F1 R1 x1 r1 => ?_⟩
  have e6 : ∃ n m, x = .int n ∧ y = .int m ∧ z = .int (-1) ∧ small62 n = true ∧ small62 m = true ∧ ds = rangeD n (n - m).toNat := by
    cases x <;> cases y <;> cases z <;> simp only [range3] at e4 <;> first | (cases e4; done) | skip
    split at e4
    · rename_i h
      simp only [Bool.and_eq_true, decide_eq_true_eq] at h
      exact ⟨_, _, rfl, rfl, by rw [h.2], h.1.1, h.1.2, (Option.some.inj e4).symm⟩
    · cases e4
  obtain ⟨n, m, rfl, rfl, rfl, h1, h2, rfl⟩ := e6
  match vs, r1 with
  | [], r1 => simp only [RepBL] at r1
  | [v], r1 => simp only [RepBL] at r1; exact r1.2.elim
  | [v, u], r1 => simp only [RepBL] at r1; exact r1.2.2.elim
  | [v, u, t], r1 =>
    simp only [RepBL, RepB, Rep] at r1
    rw [r1.1, r1.2.1, r1.2.2.1]
    have h1 := small62_iff h1
    have h2 := small62_iff h2
    exact ⟨_, _, _, _, rfl, RgC.neg h1.1 h1.2 h2.1 h2.2, kk _ H1 F1 R1 x1 (itOk_rangeD _ _)⟩
  | _ :: _ :: _ :: _ :: _, r1 => simp only [RepBL] at r1; exact r1.2.2.2.elim
/-! a text walked -/
def chrsD : D → Option (List D)
  | .str z => some (z.cps.toList.map fun c => .str ⟨#[c]⟩)
  | _ => none
def itStr (a : E) : Es := fun g w => bnd (a g w) fun x w1 => lft (chrsD x) w1
theorem EI.str {tg a : Expr} {fa : E} (ha : EB X zf O a fa) : EI X zf O tg a (itStr fa) := PI.imp (pi_str ha) fun σ H Q ⟨tk, H0, F0, F, g, w, ds, w', R, ef, kk⟩ => by
  obtain ⟨x, w1, e1, ef⟩ := bnd_eq (show bnd (fa g w) _ = _ from ef)
  obtain ⟨e4, e5⟩ := lft_eq ef
  have e5 : w1 = w' := e5
  subst e5
  have e4 : chrsD x = some ds := e4
  cases x <;> simp only [chrsD] at e4 <;> first | (cases e4; done) | skip
  rename_i z _e
  have hd := Option.some.inj e4
  subst hd
  refine ⟨tk, H0, F0, F, g, w, _, w1, R, e1, fun v H1 F1 R1 x1 r1 => ?_⟩
  simp only [RepB, Rep] at r1
  refine ⟨z, r1, kk _ H1 F1 R1 x1 fun F2 H2 s sb i => ⟨fun d hd => ?_, fun h => (by
    show z.cps.size ≤ i
    simpa using h)⟩⟩
  have hi : i < z.cps.size := by
    have := (List.getElem?_eq_some_iff.mp hd).1
    simpa using this
  refine ⟨hi, fun x H3 y => .inl ⟨y.1, ?_⟩⟩
  obtain ⟨_, c, hc, rfl⟩ := y
  have e : d = .str ⟨#[c]⟩ := by
    simp only [List.getElem?_map, Array.getElem?_toList, hc, Option.map_some] at hd
    exact (Option.some.inj hd).symm
  subst e
  exact .inl (by simp only [Rep])
/-! d[k] = v -/
def putKD : D → D → D → Option D
  | .dict kvs, k, d => if (keysOk kvs && (keyN k).isSome && decide (kvs.length < sizeLine)) = true then some (.dict (putD kvs k d)) else none
  | _, _, _ => none
def sPutK (i : Nat) (k e : E) : S := fun g w => bnd (e g w) fun d w1 => bnd (k g w1) fun kd w2 => mutS i (putKD · kd d) g w2
theorem dT_dK {pins : List (Addr × Obj)} {σ : L2.St} {H : Hp} {s : Shared} {a : Addr} (I : Inv X pins σ H s) (h : H a = some (.dT [])) : Inv X pins σ (upd H a (.dK [])) s := by
  obtain ⟨z, hd, xs, rel, o, es, ep, e1, e2, e3, e4, e5⟩ := dt_rd I.hok (.inl h : Rd H a (.dT []))
  cases rel
  have e6 : es.toList = [] := by rw [e4]; rfl
  have dd : s.heap.DictOf (mixKind X.prog X.w) a [] := ⟨o, es, ep, e1, e2, e3, fun x hx => (by
      have : x ∈ es.toList := by simpa using hx
      rw [e6] at this; simp at this), by rw [e6]; exact .nil, List.nodup_nil⟩
  exact I.write (x := a) (e := a) (h' := s.heap) (t' := s.toks) (by rw [h]; trivial) (.inl rfl) (fun b q hb z => z) ⟨_, e1⟩ (dk_new (Nat.zero_le _) hd .nil dd)
def sDPutA (td ty tv : TE) : TS := fun D σ H => tv σ H fun v H1 => td σ H1 fun x H2 => ty σ H2 fun y H3 => ∃ a H4, x = .ref a ∧ (DPut H3 a y v H4 ∨ (H3 a = some (.dT []) ∧ DPut (upd H3 a (.dK [])) a y v H4)) ∧ D.nx σ H4
theorem ps_dputA {o i value : Expr} {pos pos' : Pos} {td ty tv : TE} (hu : X.A.units + 1 < cLine) (ho : PE X o td) (hi : PE X i ty) (hv : PE X value tv) (hs : swapsWith value (some (.Subscript o i pos')) pos.line X.env = pure false) :
    PS X (.Assign [.Subscript o i pos'] value pos) (sDPutA td ty tv) := by
  refine ⟨fun pins s σ H D I h => ?_⟩
  refine wpAny_Assign_Subscript (thn (hv.run pins s σ H _ I h) fun r s1 ⟨v, H1, I1, rv, q1⟩ => thn (ho.run pins s1 σ H1 _ I1 q1) fun u s2 ⟨x, H2, I2, rx, q2⟩ => thn (hi.run pins s2 σ H2 _ I2 q2) fun iv s3 ⟨y, H3, I3, ry, a, H4, ex, g, q3⟩ => ?_) hs
  subst ex
  obtain rfl : u = Value.ref a := rx
  rcases g with g | ⟨hT, g⟩
  · exact d_setItem hu I3 g ry rv fun s4 I4 => ⟨σ, H4, I4, q3⟩
  · exact d_setItem hu (dT_dK I3 hT) g ry rv fun s4 I4 => ⟨σ, H4, I4, q3⟩
theorem keysOk_T {Kx : PySem.W.Frag} {mx : Str → Option Value} {zf : Bool} {tk : Tk Kx mx zf} {F : Hp} {kvs : List (D × D)} {es : List (List Key × V)} (hn : keysOk kvs = true) (rt : RepT tk F kvs es) : kvs = [] ∧ es = [] := by
  cases kvs with
  | nil =>
    have := rt.length
    exact ⟨rfl, List.eq_nil_of_length_eq_zero this.symm⟩
  | cons p kvs =>
    cases es with
    | nil => simp only [RepT] at rt
    | cons q es =>
      obtain ⟨a, d⟩ := p
      obtain ⟨b, v⟩ := q
      simp only [RepT] at rt
      obtain ⟨rfl, _⟩ := rt
      simp [keysOk, keyN] at hn
theorem ES.putKd {Ol : List Nat} {x : Str} {px spos pos : Pos} {ke e : Expr} {fk f : E} (i : Nat) (hr : Room k X.A) (h : EV X zf O e f) (hk : EB X zf O ke fk) (hO : i ∈ O := by decide) (hN : X.N[i]? = some x := by rfl) (hv : Vis X.env.scope x := by first | exact Or.inl rfl | exact Or.inr (Or.inl rfl) | exact Or.inr (Or.inr rfl)) (hd : (x == ("__debug__" : Str)) = false := by decide)
    (hcd : (x == ("__classdict__" : Str)) = false := by decide) (hs : swapsWith e (some (.Subscript (.Name x px) ke spos)) pos.line X.env = pure false := by rfl) :
    ES X zf O O Ol (.Assign [.Subscript (.Name x px) ke spos] e pos) (sPutK i fk f) := PS.imp (ps_dputA hr.un1 (pe_var (i := i) hN hv hd hcd) hk h hs) fun D σ H ⟨tk, H0, F0, F, g, w, o, w', R, ef, q⟩ => by
  obtain ⟨d, w1, e1, ef⟩ := bnd_eq (show bnd (f g w) _ = _ from ef)
  obtain ⟨kd, w2, e2, ef⟩ := bnd_eq ef
  obtain ⟨x0, y0, hg, hf, rfl, rfl⟩ := mutS_eq ef
  have e6 : ∃ kvs ky, x0 = .dict kvs ∧ kd = keyOf ky ∧ keysOk kvs = true ∧ kvs.length < sizeLine ∧ y0 = .dict (putD kvs kd d) := by
    cases x0 <;> simp only [putKD] at hf <;> first | (cases hf; done) | skip
    split at hf
    · rename_i hh
      simp only [Bool.and_eq_true, decide_eq_true_eq] at hh
      obtain ⟨ky, hky⟩ := Option.isSome_iff_exists.mp hh.1.2
      exact ⟨_, ky, rfl, keyN_of hky, hh.1.1, hh.2, (Option.some.inj hf).symm⟩
    · cases hf
  obtain ⟨kvs, ky, rfl, rfl, hn, hl, rfl⟩ := e6
  obtain ⟨a, u, h1, h2, h3, h4, h5, h6⟩ := R.own i _ hO hg
  refine ⟨tk, H0, F0, F, g, w, d, w1, R, e1, fun v H1 F1 R1 x1 r1 => ⟨.ref a, h1, tk, H0, F0, F1, g, w1, _, w', R1, e2, fun vk H2 F2 R2 x2 r2 => ?_⟩⟩
  have := repB_key r2
  subst this
  obtain ⟨a2, u2, k1, k2, k3, k4, k5, k6⟩ := R2.own i _ hO hg
  rw [h1] at k1
  cases k1
  have r1' := Rep.same x2.sm _ _ r1
  cases u2 <;> simp only [RepO] at k6 <;> first | (exact k6.elim; done) | skip
  · rename_i es
    refine ⟨a, _, rfl, .inl (DPut.k k2 (by rw [← k6.length]; exact hl)), ?_⟩
    exact q σ _ F2 (R2.mut hO hg h1 (by simp only [RepO]; exact k6.put ky r1'))
  · rename_i es
    obtain ⟨rfl, rfl⟩ := keysOk_T hn k6
    refine ⟨a, _, rfl, .inr ⟨k2, DPut.k upd_same (by simp [sizeLine_eq])⟩, ?_⟩
    have e9 : upd (upd H2 a (.dK [])) a (.dK (L2.putK [] ky v)) = upd H2 a (.dK (L2.putK [] ky v)) := by
      funext b
      unfold upd
      split <;> rfl
    rw [e9]
    exact q σ _ F2 (R2.mut hO hg h1 (by simp only [RepO]; exact RepK.put ky r1' (by simp only [RepK])))
/-! xs.append((ys.pop(k), e)) -/
def popD : D → D → Option (D × D)
  | .list xs, .int n => if small62 n = true then (ixN xs.length n).bind fun j => (xs[j]?).map fun d => (d, .list (xs.eraseIdx j)) else none
  | _, _ => none
def sAppPop (i j : Nat) (k e : E) : S := fun g w => bnd (k g w) fun kd w1 => match (g[j]?).join with
  | some x => match popD x kd with
    | some (d, y) => bnd (e (g.set j (some y)) w1) fun d2 w2 => mutS i (apD · (.tuple [d, d2])) (g.set j (some y)) w2
    | none => none
  | none => none
theorem RepL.erase {Kx : PySem.W.Frag} {mx : Str → Option Value} {zf : Bool} {tk : Tk Kx mx zf} {F : Hp} : ∀ {ds : List D} {vs : List V} (n : Nat), RepL tk F ds vs → RepL tk F (ds.eraseIdx n) (vs.eraseIdx n)
  | [], [], _, h => by simpa using h
  | [], _ :: _, _, h => by simp only [RepL] at h
  | _ :: _, [], _, h => by simp only [RepL] at h
  | d :: ds, v :: vs, 0, h => by simp only [RepL] at h; exact h.2
  | d :: ds, v :: vs, n + 1, h => by
    simp only [RepL] at h
    simp only [List.eraseIdx_cons_succ, RepL]
    exact ⟨h.1, RepL.erase n h.2⟩
theorem ES.appPop {Ol : List Nat} {x y : Str} {px py apos cpos spos apos2 cpos2 tpos : Pos} {tk1 : Nat} {ke e : Expr} {fk f : E} (i j : Nat) (hk : EB X zf O ke fk) (h : EV X zf O e f) (hO : i ∈ O := by decide) (hO2 : j ∈ O := by decide) (hij : i ≠ j := by decide) (hN : X.N[i]? = some x := by rfl) (hN2 : X.N[j]? = some y := by rfl)
    (hv : Vis X.env.scope x := by first | exact Or.inl rfl | exact Or.inr (Or.inl rfl) | exact Or.inr (Or.inr rfl)) (hv2 : Vis X.env.scope y := by first | exact Or.inl rfl | exact Or.inr (Or.inl rfl) | exact Or.inr (Or.inr rfl))
    (hd : (x == ("__debug__" : Str)) = false := by decide) (hcd : (x == ("__classdict__" : Str)) = false := by decide) (hd2 : (y == ("__debug__" : Str)) = false := by decide) (hcd2 : (y == ("__classdict__" : Str)) = false := by decide)
    (hs : starEach [ke] X.env = (false, eval ke X.env) :: starEach [] X.env := by rfl)
    (hbase : attributeBase (.Name y py) "pop" X.env (eval (.Name y py) X.env) = eval (.Name y py) X.env := by rfl)
    (hfew : ((backTo cpos2 (starEach [ke] X.env)).all (fun x => !x.1) && (backToKw cpos2 (keywordEach [] X.env)).all (fun x => x.1.isSome)
      && decide (([ke] : List Expr).length + ([] : List Keyword).length + (if ([] : List Keyword).isEmpty then 0 else 1) < 30)) = true := by rfl)
    (hline : (apos2.endLine == cpos2.line) = true := by rfl) (hplain : (backTo cpos2 (starEach [] X.env)).any (·.1) = false := by rfl)
    (hs1 : starEach [.Call (.Attribute (.Name y py) "pop" apos2) [ke] [] cpos2, e] X.env = (false, eval (.Call (.Attribute (.Name y py) "pop" apos2) [ke] [] cpos2) X.env) :: starEach [e] X.env := by rfl)
    (hs2 : starEach [e] X.env = (false, eval e X.env) :: starEach [] X.env := by rfl)
    (hs3 : starEach [.Tuple [.Call (.Attribute (.Name y py) "pop" apos2) [ke] [] cpos2, e] tk1 tpos] X.env = (false, eval (.Tuple [.Call (.Attribute (.Name y py) "pop" apos2) [ke] [] cpos2, e] tk1 tpos) X.env) :: starEach [] X.env := by rfl)
    (hbase2 : attributeBase (.Name x px) "append" X.env (eval (.Name x px) X.env) = eval (.Name x px) X.env := by rfl)
    (hfew2 : ((backTo cpos (starEach [.Tuple [.Call (.Attribute (.Name y py) "pop" apos2) [ke] [] cpos2, e] tk1 tpos] X.env)).all (fun x => !x.1) && (backToKw cpos (keywordEach [] X.env)).all (fun x => x.1.isSome)
      && decide (([.Tuple [.Call (.Attribute (.Name y py) "pop" apos2) [ke] [] cpos2, e] tk1 tpos] : List Expr).length + ([] : List Keyword).length + (if ([] : List Keyword).isEmpty then 0 else 1) < 30)) = true := by rfl)
    (hline2 : (apos.endLine == cpos.line) = true := by rfl) (hplain2 : (backTo cpos (starEach [] X.env)).any (·.1) = false := by rfl)
    (hsw : swapsWith (.Call (.Attribute (.Name x px) "append" apos) [.Tuple [.Call (.Attribute (.Name y py) "pop" apos2) [ke] [] cpos2, e] tk1 tpos] [] cpos) none spos.line X.env = pure false := by rfl) :
    ES X zf O O Ol (.Expr (.Call (.Attribute (.Name x px) "append" apos) [.Tuple [.Call (.Attribute (.Name y py) "pop" apos2) [ke] [] cpos2, e] tk1 tpos] [] cpos) spos) (sAppPop i j fk f) :=
  PS.imp (ps_expr (pe_bm PySem.F.plainAttrs_list PySem.F.slot_list_append PySem.F.type_list_append mt_append (pe_var (i := i) hN hv hd hcd)
    (pa_cons (pe_tupZ (zf := zf) (pa_cons (pe_bm PySem.F.plainAttrs_list PySem.F.slot_list_pop PySem.F.type_list_pop mt_popAt (pe_var (i := j) hN2 hv2 hd2 hcd2) (EAB.cons hk EAB.nil hs) hbase hfew hline hs hplain) (pa_cons h pa_nil hs2) hs1)) pa_nil hs3) hbase2 hfew2 hline2 hs3 hplain2) hsw) fun D σ H ⟨tk, H0, F0, F, g, w, o, w', R, ef, q⟩ => by
  obtain ⟨kd, w1, e1, ef⟩ := bnd_eq (show bnd (fk g w) _ = _ from ef)
  have hx : ∃ x0, g[j]? = some (some x0) := by
    cases hh : (g[j]?).join with
    | none => simp only [hh] at ef; cases ef
    | some x0 =>
      cases hq : g[j]? with
      | none => rw [hq] at hh; cases hh
      | some z => rw [hq] at hh; cases z with
        | none => cases hh
        | some z => exact ⟨z, rfl⟩
  obtain ⟨x0, hg⟩ := hx
  simp only [hg, Option.join_some] at ef
  cases hp : popD x0 kd with
  | none => simp only [hp] at ef; cases ef
  | some pr =>
  obtain ⟨d, y0⟩ := pr
  simp only [hp] at ef
  obtain ⟨d2, w2, e2, ef⟩ := bnd_eq ef
  have e6 : ∃ ds n jj, x0 = .list ds ∧ kd = .int n ∧ small62 n = true ∧ ixN ds.length n = some jj ∧ ds[jj]? = some d ∧ y0 = .list (ds.eraseIdx jj) := by
    cases x0 <;> cases kd <;> simp only [popD] at hp <;> first | (cases hp; done) | skip
    split at hp
    · rename_i hh
      obtain ⟨jj, hj, hp⟩ := Option.bind_eq_some_iff.mp hp
      obtain ⟨d', hd', hp⟩ := Option.map_eq_some_iff.mp hp
      cases hp
      exact ⟨_, _, jj, rfl, rfl, hh, hj, hd', rfl⟩
    · cases hp
  obtain ⟨ds, n, jj, rfl, rfl, hsm, hjj, hdj, rfl⟩ := e6
  obtain ⟨x1, y1, hgi, hf, rfl, rfl⟩ := mutS_eq ef
  obtain ⟨es, rfl, hlt, rfl⟩ := apD_eq hf
  have hgi0 : g[i]? = some (some (.list es)) := by
    rw [List.getElem?_set_ne (Ne.symm hij)] at hgi
    exact hgi
  obtain ⟨ai, ui, i1, i2, i3, i4, i5, i6⟩ := R.own i _ hO hgi0
  obtain ⟨xi, rfl, i6⟩ := RepO.lst i6
  refine ⟨.ref ai, i1, .inl ⟨rfl, _, .inl (.inl i2)⟩, ?_⟩
  obtain ⟨a, u, h1, h2, h3, h4, h5, h6⟩ := R.own j _ hO2 hg
  obtain ⟨xs, rfl, h6⟩ := RepO.lst h6
  refine ⟨.ref a, h1, .inl ⟨rfl, _, .inl (.inl h2)⟩, tk, H0, F0, F, g, w, [.int n], w1, R, by simp [cArgs, e1], fun vs H1 F1 R1 q1 r1 => ?_⟩
  match vs, r1 with
  | [], r1 => simp only [RepBL] at r1
  | _ :: _ :: _, r1 => simp only [RepBL] at r1; exact r1.2.elim
  | [v], r1 =>
    simp only [RepBL, RepB, Rep] at r1
    obtain ⟨rfl, _⟩ := r1
    obtain ⟨a2, u2, k1, k2, k3, k4, k5, k6⟩ := R1.own j _ hO2 hg
    rw [h1] at k1
    cases k1
    obtain ⟨xs2, rfl, k6⟩ := RepO.lst k6
    obtain ⟨v0, hv0, rv0⟩ := k6.at hdj
    have hsm := small62_iff hsm
    refine ⟨a, xs2, n, jj, v0, rfl, rfl, k2, by omega, by omega, ?_, hv0, ?_⟩
    · rw [k6.length] at hjj
      exact (ixN_seq hjj).1
    have R2 := R1.mut hO2 hg h1 (d' := .list (ds.eraseIdx jj)) (o' := .lst (xs2.eraseIdx jj)) (by simp only [RepO]; exact RepL.erase jj k6)
    refine ⟨tk, H0, F0, F1, g.set j (some (.list (ds.eraseIdx jj))), w1, d2, w', R2, e2, fun v2 H2 F2 R3 q2 r2 => ?_⟩
    refine ⟨by simp [sizeLine_eq], fun p ob hp hob => ?_⟩
    obtain ⟨R4, q3⟩ := R3.alloc hp (tupO zf ob [v0, v2])
    obtain ⟨aj, uj, j1, j2, j3, j4, j5, j6⟩ := R4.own i _ hO hgi
    rw [i1] at j1
    cases j1
    obtain ⟨xj, rfl, j6⟩ := RepO.lst j6
    refine ⟨ai, xj, .ref p, rfl, rfl, j2, by rw [← j6.length]; exact hlt, ?_⟩
    refine q σ _ _ (R4.mut hO hgi i1 (d' := .list (es ++ [.tuple [d, d2]])) (o' := .lst (xj ++ [.ref p])) (by
      simp only [RepO]
      refine j6.snoc ?_
      simp only [Rep, RepL]
      exact ⟨p, [v0, v2], rfl, ⟨ob, upd_same, hob⟩, Rep.same (q2.sm.trans q3.sm) _ _ rv0, Rep.same q3.sm _ _ r2, trivial⟩))
end
end Q

set_option Elab.async false
set_option linter.all false
set_option autoImplicit false
set_option maxRecDepth 100000
/-! QS18: the second text of the def of draws. -/
namespace Q
open PySem PySem.Spec PyProof.Rows L2
section
variable {P : Program} {w : World} {K : PySem.W.Frag} {mg : Str → Option Value} {base : Heap} {zf : Bool}
/-- w["at"] += 1; if w["at"] > len(w["draws"]): return 0; return int(w["draws"][w["at"] - 1]) % many -/
theorem next_ok2 {st : Stmt} {f : Addr} {fd : FuncData} {k : Nat} {p0 p1 p2 p3 p4 q0 q1 q2 q3 q4 q5 q6 q7 q8 q9 r0 r1 r2 r3 r4 r5 r6 r7 r8 r9 s0 s1 s2 s3 s4 s5 : Pos} {i0 i1 i2 i3 i4 i5 i6 i7 : Nat}
    (F : Fun K "_law_next" "_law_next" st f fd) (S : FnScope ["w", "many"] ["w", "many"] (defScope st)) (mi : mg "int" = none) (ml : mg "len" = none)
    (gi : (defScope st).names.lookup ("int" : Str) = some .globalImplicit) (gl : (defScope st).names.lookup ("len" : Str) = some .globalImplicit) (gw : (defScope st).names.lookup ("w" : Str) = some .local) (gm : (defScope st).names.lookup ("many" : Str) = some .local)
    (hb : defBody st = [.AugAssign (.Subscript (.Name "w" p0) (.Constant (.str "at") i0 p1) p2) .Add (.Constant (.int 1) i1 p3) p4,
      .If (.Compare (.Subscript (.Name "w" q0) (.Constant (.str "at") i2 q1) q2) [.Gt] [.Call (.Name "len" q3) [.Subscript (.Name "w" q4) (.Constant (.str "draws") i3 q5) q6] [] q7] q8) [.Return (some (.Constant (.int 0) i7 s3)) s4] [] s5,
      .Return (some (.BinOp (.Call (.Name "int" r0) [.Subscript (.Subscript (.Name "w" r1) (.Constant (.str "draws") i4 r2) r3) (.BinOp (.Subscript (.Name "w" r4) (.Constant (.str "at") i5 r5) r6) .Sub (.Constant (.int 1) i6 r7) r8) r9] [] s0) .Mod (.Name "many" s1) s2)) q9]) : FnOk P w K mg base CX0 (k + 1) f fd ["w", "many"] (spD K mg zf 2 fnNext) := by
  refine F.ok S (fun vs H Q E h => ?_) fun cdv A outer s H vs Q E hr h => ?_
  · obtain ⟨p, b, m, n, full, rfl, _⟩ := next_facts h
    rfl
  · obtain ⟨p, b, m, n, full, rfl, hp, rb, nb, hh⟩ := next_facts h
    rw [hb]
    have hu := hu_of hr
    refine ⟨_, pss_cons (ps_daug hu (pv 0 (hv := .inl gw)) pe_str pe_int in_add (fun _ _ _ => rfl))
      (pss_cons (ps_if (pt_cmpR op_gt (pe_dget hu (pv 0 (hv := .inl gw)) pe_str (fun _ _ => rfl)) (pe_callB call_len_seq gl ml PySem.boot_len (pa_cons (pe_dget hu (pv 0 (hv := .inl gw)) pe_str (fun _ _ => rfl)) pa_nil)) (nomark _)) (pss_one (ps_ret pe_int)) pss_nil)
      (pss_one (ps_ret 
        (pe_op op_modN (pe_callTy call_int1 gi mi (by decide +kernel) (pa_cons (pe_ix ix_list (pe_dget hu (pv 0 (hv := .inl gw)) pe_str (fun _ _ => rfl)) (pe_op op_sub (pe_dget hu (pv 0 (hv := .inl gw)) pe_str (fun _ _ => rfl)) pe_int) (fun _ _ => rfl)) pa_nil)) (pv 1 (hv := .inl gm)))))), ?_⟩
    have dat : ∀ {H : Hp} {n' : Nat}, H p = some (.dK (wKvs b n')) → DGet H p (.str "at") (some (.int n')) := fun {H n'} h => .inl ⟨_, .inr "at", .inl h, rfl, (wd_at b n').symm⟩
    have ddr : ∀ {H : Hp} {n' : Nat}, H p = some (.dK (wKvs b n')) → DGet H p (.str "draws") (some (.ref b)) := fun {H n'} h => .inl ⟨_, .inr "draws", .inl h, rfl, (wd_draws b n').symm⟩
    have hz : (wKvs b n).length < sizeLine := by show 2 < sizeLine; decide
    refine ⟨.ref p, rfl, p, _, rfl, dat hp, (n : Int), 1, rfl, rfl, upd H p (.dK (wKvs b (n + 1))), .inl ⟨_, .inr "at", hp, rfl, hz, ?_⟩, ?_⟩
    · rw [show ((n : Int) + 1) = ((n + 1 : Nat) : Int) from rfl, ← wd_put] <;> rfl
    generalize hH : upd H p (.dK (wKvs b (n + 1))) = H1 at hh ⊢
    have h1p : H1 p = some (.dK (wKvs b (n + 1))) := by rw [← hH, upd_same]
    have rb' : Rd H1 b (.lst (full.map V.int)) := by
      rcases rb with rb | ⟨o, rb⟩
      · exact .inl (by rw [← hH, upd_ne nb]; exact rb)
      · exact .inr ⟨o, by rw [← hH, upd_ne nb]; exact rb⟩
    refine ⟨.ref p, rfl, p, _, rfl, dat h1p, .ref p, rfl, p, _, rfl, ddr h1p, ⟨b, _, rfl, .inl (.inl rb'), (n + 1 : Nat), (full.map V.int).length, rfl, rfl, _, rfl, ?_⟩⟩
    rw [List.length_map]
    rcases hh with ⟨hl, q⟩ | ⟨x, hx, hm, q⟩
    · rw [decide_eq_true (by omega)]
      exact q
    · have hl := (List.getElem?_eq_some_iff.mp hx).1
      rw [decide_eq_false (by omega)]
      refine ⟨.ref p, rfl, p, _, rfl, ddr h1p, .ref p, rfl, p, _, rfl, dat h1p, _, _, rfl, rfl, ?_⟩
      refine ⟨b, _, _, .int x, rfl, rfl, .inl rb', at_nat (by rw [List.getElem?_map, hx]; rfl), .inl ⟨x, rfl, .int m, rfl, x, m, rfl, rfl, hm, q⟩⟩
theorem next_ok2' {st : Stmt} {p0 p1 p2 p3 p4 q0 q1 q2 q3 q4 q5 q6 q7 q8 q9 r0 r1 r2 r3 r4 r5 r6 r7 r8 r9 s0 s1 s2 s3 s4 s5 : Pos} {i0 i1 i2 i3 i4 i5 i6 i7 : Nat}
    (D : Df K mg "_law_next" st ["w", "many"]) (S : FnScope ["w", "many"] ["w", "many"] (defScope st)) (mi : mg "int" = none) (ml : mg "len" = none)
    (gi : (defScope st).names.lookup ("int" : Str) = some .globalImplicit) (gl : (defScope st).names.lookup ("len" : Str) = some .globalImplicit) (gw : (defScope st).names.lookup ("w" : Str) = some .local) (gm : (defScope st).names.lookup ("many" : Str) = some .local)
    (hb : defBody st = [.AugAssign (.Subscript (.Name "w" p0) (.Constant (.str "at") i0 p1) p2) .Add (.Constant (.int 1) i1 p3) p4,
      .If (.Compare (.Subscript (.Name "w" q0) (.Constant (.str "at") i2 q1) q2) [.Gt] [.Call (.Name "len" q3) [.Subscript (.Name "w" q4) (.Constant (.str "draws") i3 q5) q6] [] q7] q8) [.Return (some (.Constant (.int 0) i7 s3)) s4] [] s5,
      .Return (some (.BinOp (.Call (.Name "int" r0) [.Subscript (.Subscript (.Name "w" r1) (.Constant (.str "draws") i4 r2) r3) (.BinOp (.Subscript (.Name "w" r4) (.Constant (.str "at") i5 r5) r6) .Sub (.Constant (.int 1) i6 r7) r8) r9] [] s0) .Mod (.Name "many" s1) s2)) q9]) : Ok K mg zf P w base 1 "_law_next" ["w", "many"] 2 fnNext := by
  obtain ⟨f, fd, h1, F, h2⟩ := D.ex
  exact ⟨f, fd, h1, F.kp, h2, next_ok2 F S mi ml gi gl gw gm hb⟩
end
end Q

set_option Elab.async false
set_option linter.all false
set_option autoImplicit false
set_option maxRecDepth 100000
/-! QS19: t[::-1] of a tuple, f(..) of a local name, d.get, dict(..), len(d). -/
namespace Q
open PySem PySem.Spec PyProof.Rows L2
/-! ### t[::-1] -/
section
variable {prog : Program} {w : World} {A : Around} {E : Value → Shared → Prop} {s : Shared}
theorem applied_rev {sl : Addr} {t : Tok} {n : Nat} {Q : Int × Int × Nat → Shared → Prop} (hs : s.heap.IsSliceOf sl .none .none (.int (-1) t)) (h : Q ((n : Int) - 1, -1, n) s) :
    wpAny (model prog w) A (Builtin.Slice.sliceApplied (.ref sl) (pure (n : Int))) Q E s := by
  obtain ⟨os, hos, hcs, hds⟩ := id hs
  unfold Builtin.Slice.sliceApplied Builtin.Slice.sliceFields
  refine wpAny_bind (wpAny_bind (wpAny_field hos hds (x := .none) rfl (wpAny_bind (wpAny_field hos hds (x := .none) rfl (wpAny_bind (wpAny_field hos hds (x := .int (-1) t) rfl (wpAny_pure ?_)))))))
  refine wpAny_bind (slicePart_int ?_)
  show wpAny _ _ (if ((-1 : Int) == 0) = true then _ else _) _ _ s
  rw [if_neg (by decide)]
  refine wpAny_bind (slicePart_none (wpAny_bind (slicePart_none (wpAny_bind (wpAny_pure ?_)))))
  have e : Builtin.Slice.slicePlaces ((n : Int) - 1) (-1) (-1) = n := by
    unfold Builtin.Slice.slicePlaces
    rw [if_neg (by decide)]
    by_cases h : (n : Int) - 1 > -1
    · rw [if_pos h]
      have : (((n : Int) - 1 - -1 - 1) / (- -1) + 1) = n := by
        rw [show (- -1 : Int) = 1 by decide, Int.ediv_one]; omega
      rw [this]; omega
    · rw [if_neg h]; omega
  show wpAny _ _ (pure ((n : Int) - 1, (-1 : Int), Builtin.Slice.slicePlaces ((n : Int) - 1) (-1) (-1))) _ _ s
  rw [e]
  exact wpAny_pure h
theorem fm_congr {α β : Type} {f g : α → Option β} : ∀ (l : List α), (∀ x ∈ l, f x = g x) → l.filterMap f = l.filterMap g
  | [], _ => rfl
  | x :: l, h => by
    rw [List.filterMap_cons, List.filterMap_cons, h x List.mem_cons_self, fm_congr l fun y hy => h y (List.mem_cons_of_mem _ hy)]
theorem pick_rev (items : Array Value) : ((List.range items.size).filterMap fun (m : Nat) => items[(((items.size : Int) - 1) + (m : Int) * (-1)).toNat]?).toArray = items.toList.reverse.toArray := by
  have h := PySem.W.krv_range items.size
  have e : ((List.range items.size).filterMap fun (m : Nat) => items[(((items.size : Int) - 1) + (m : Int) * (-1)).toNat]?) = ((List.range items.size).map (fun k => items.size - 1 - k)).filterMap (items[·]?) := by
    rw [List.filterMap_map]
    refine fm_congr _ fun m hm => ?_
    have hm := List.mem_range.mp hm
    have : (((items.size : Int) - 1) + (m : Int) * (-1)).toNat = items.size - 1 - m := by omega
    simp only [Function.comp, this]
  rw [e, h, List.filterMap_reverse, PySem.W.krv_all]
theorem getItem_tuple_rev {t sl : Addr} {items : Array Value} {tok : Tok} {Q : Value → Shared → Prop} (ht : IsTup s.heap t items) (hs : s.heap.IsSliceOf sl .none .none (.int (-1) tok))
    (h : Q (.ref s.heap.objs.size) { s with heap := s.heap.push { cls := .type "tuple", data := .seq items.toList.reverse.toArray } })
    (hsz : items.size ≤ sizeLine) : wpAny (model prog w) A (getItem (.ref t) (.ref sl)) Q E s := by
  have htake : sizeOk (.seq items.toList.reverse.toArray) := by
    show items.toList.reverse.toArray.size ≤ sizeLine
    rw [List.size_toArray, List.length_reverse, Array.length_toList]
    omega
  obtain ⟨os, hos, hcs, hds⟩ := id hs
  have hTs : s.TypeIs (.ref sl) "slice" := ⟨os, hos, hcs⟩
  unfold getItem
  try with_reducible refine wpAny_holding ?_
  first | refine wpAny_bind (wpAny_pure ?_) | skip
  refine wpAny_bind (wpAny_sequenceKey ht.typeIs (by decide) ?_)
  refine wpAny_bind (wpAny_callSpecial?_slot (name := Str.ofString "__getitem__") ht.typeIs PyProof.Rows.slot_tuple_getitem
    (wpAny_call_entry PyProof.Rows.slot_tuple_getitem ht.typeIs entry_tuple_getitem ?_ (args_tuple_getitem _ _)))
  show wpAny _ _ (Builtin.Tuple.tupleItemsOf (.ref t) >>= _) _ _ s
  refine wpAny_bind (tupleItemsOf_ ht ?_)
  refine wpAny_bind (wpAny_typeOf hTs ?_)
  rw [if_pos (by decide)]
  refine wpAny_bind (applied_rev hs ?_)
  have hno : ¬ ((((items.size : Int) - 1) == 0 && (-1 : Int) == 1 && items.size == items.size) = true) := by
    intro q
    rw [Bool.and_eq_true, Bool.and_eq_true] at q
    exact absurd q.1.2 (by decide)
  show wpAny _ _ (if (((items.size : Int) - 1) == 0 && (-1 : Int) == 1 && items.size == items.size) = true then _ else _) _ _ s
  rw [if_neg hno, pick_rev]
  first
    | exact wpAny_bind (m := Builtin.Tuple.tupleExact _) (wpAny_newObj_type (wpAny_pure ⟨_, rfl, wpAny_pure h⟩) htake)
    | exact wpAny_bind (m := Builtin.Tuple.tupleExact _) (wpAny_newObj_type (wpAny_bind (wpAny_pure (wpAny_pure ⟨_, rfl, wpAny_pure h⟩))) htake)
    | exact wpAny_bind (wpAny_bind (m := Builtin.Tuple.tupleExact _) (wpAny_newObj_type (wpAny_pure (wpAny_pure ⟨_, rfl, wpAny_pure h⟩)) htake))
    | exact wpAny_bind (wpAny_bind (m := Builtin.Tuple.tupleExact _) (wpAny_newObj_type (wpAny_pure ⟨_, rfl, wpAny_pure h⟩) htake))
end
def tRevT (zf : Bool) (K : PySem.W.Frag) (te : TE) : TE := fun σ H Q => te σ H fun x H1 => ∃ a xs, x = .ref a ∧ SqT K H1 a xs ∧ ∀ p ob, H1 p = none → ob.dict = none → Q (.ref p) (upd H1 p (tupO zf ob xs.reverse))
section
variable {X : Cx} {zf : Bool} {O : List Nat} {k : Nat}
theorem pe_revT {e : Expr} {te : TE} {k : Nat} {p1 p2 p3 pos : Pos} (he : PE X e te) : PE X (.Subscript e (.Slice none none (some (.UnaryOp .USub (.Constant (.int 1) k p1) p2)) p3) pos) (tRevT zf X.K te) := by
  refine ⟨fun pins s σ H Q I h => ?_⟩
  refine Subscript_ (thn (he.run pins s σ H _ I h) fun v s1 ⟨x, H1, I1, r1, q1⟩ => ?_)
  obtain ⟨a, xs, ex, hx, q⟩ := q1
  subst ex
  cases r1
  have hst : PO X (some (.UnaryOp .USub (.Constant (.int 1) k p1) p2)) (tPart (tUn (rU fun i => .int (-i)) (tC (.int 1)))) := po_some (pe_un un_neg pe_int)
  refine wpAny_Slice (thn (po_none.run pins s1 σ H1 (fun o H2 => o = none ∧ H2 = H1) I1 ⟨rfl, rfl⟩) fun vl s2 ⟨l, H2, I2, pl, el, e2⟩ => ?_)
  subst el e2
  refine thn (po_none.run pins s2 σ H2 (fun o H3 => o = none ∧ H3 = H2) I2 ⟨rfl, rfl⟩) fun vu s3 ⟨u, H3, I3, pu, eu, e3⟩ => ?_
  subst eu e3
  refine thn (hst.run pins s3 σ H3 (fun o H4 => o = some (-1) ∧ H4 = H3) I3 ⟨1, rfl, -1, rfl, rfl, rfl⟩) fun vs s4 ⟨o, H4, I4, ps, eo, e4⟩ => ?_
  subst eo e4
  cases pl
  cases pu
  cases ps
  rename_i tok _h
  have I5 : Inv X pins σ H4 { s4 with heap := s4.heap.push { cls := .type "slice", data := .fields #[.none, .none, .int (-1) tok] } } := I4.kept (t' := s4.toks) fun b ob q => Heap.get?_push_of_some _ q
  obtain ⟨its, r, ht, hz⟩ := I5.tuple hx
  have hlen := r.length
  show wpAny (model X.prog X.w) X.A (subscriptTail e (.Slice none none (some (.UnaryOp .USub (.Constant (.int 1) k p1) p2)) p3) (.ref a) (.ref s4.heap.objs.size)) (EP X pins σ Q) X.xe { s4 with heap := s4.heap.push { cls := .type "slice", data := .fields #[.none, .none, .int (-1) tok] } }
  refine tail_any (ops := [.ref a, .ref s4.heap.objs.size]) ht.typeIs (PyProof.Rows.slot_tuple_getitem.lookup) ?_ (by with_unfolding_all rfl)
  refine getItem_tuple_rev ht (Heap.IsSliceOf.new _ .none .none (.int (-1) tok)) ?_ (by rw [List.size_toArray]; omega)
  refine ⟨.ref _, _, I5.laid (t' := s4.toks) (fun b ob q => Heap.get?_push_of_some _ q) (Nat.le_refl _) (objOk_tup (zf := zf) (xs := xs.reverse) (us := its.reverse) (by rw [List.length_reverse]; exact hz) r.reverse (Heap.get?_push_size _ rfl) rfl ⟨_, rfl⟩), rfl, q _ _ (I5.hok.fresh (Nat.le_refl _)) rfl⟩
def revTD : D → Option D
  | .tuple xs => some (.tuple xs.reverse)
  | _ => none
theorem EV.revT {a : Expr} {fa : E} {n : Nat} {p1 p2 p3 pos : Pos} (ha : EB X zf O a fa) : EV X zf O (.Subscript a (.Slice none none (some (.UnaryOp .USub (.Constant (.int 1) n p1) p2)) p3) pos) (cOp1 revTD fa) := PE.imp (pe_revT (zf := zf) ha) fun σ H Q ⟨tk, H0, F0, F, g, w, d, w', R, ef, kk⟩ => by
  obtain ⟨x, w1, e1, ef⟩ := bnd_eq (show bnd (fa g w) _ = _ from ef)
  obtain ⟨e4, e5⟩ := lft_eq ef
  have e5 : w1 = w' := e5
  subst e5
  have e4 : revTD x = some d := e4
  cases x <;> simp only [revTD] at e4 <;> first | (cases e4; done) | skip
  rename_i ds _e
  have hd := Option.some.inj e4
  subst hd
  refine ⟨tk, H0, F0, F, g, w, _, w1, R, e1, fun v H1 F1 R1 x1 r1 => ?_⟩
  simp only [RepB, Rep] at r1
  obtain ⟨a, xs, rfl, hr, l⟩ := r1
  refine ⟨a, xs, rfl, (R1.sub.tup hr).sq, fun p ob hp hob => ?_⟩
  obtain ⟨R2, x2⟩ := R1.alloc hp (tupO zf ob xs.reverse)
  refine kk _ _ _ R2 (x1.trans x2) ?_
  simp only [Rep]
  exact ⟨p, xs.reverse, rfl, ⟨ob, upd_same, hob⟩, RepL.same x2.sm _ _ (RepL.reverse l)⟩
end
end Q

set_option Elab.async false
set_option linter.all false
set_option autoImplicit false
set_option maxRecDepth 100000
/-! QS20: f(..) of a local name, d.get, dict(..), len(d). -/
namespace Q
open PySem PySem.Spec PyProof.Rows L2
/-! ### f(e, ..), f a local name that holds a def -/
def fnName : D → Option Str
  | .dict [(.none, .str x)] => some x
  | _ => none
def cCallV (i : Nat) (tab : List (Str × Fn)) (es : List E) : E := fun g w => match ((g[i]?).join).bind fnName with
  | some x => match tab.find? fun p => p.1 == x with
    | some p => cCall p.2 es g w
    | none => none
  | none => none
section
variable {K : PySem.W.Frag}
theorem rep_tokF {mx : Str → Option Value} {zf : Bool} {tk : Tk K mx zf} {F : Hp} {x : Str} {v : V} (h : Rep tk F (tokF x) v) : ∃ a, v = .ref a ∧ mx x = some (.ref a) := by
  simp only [tokF, Rep] at h
  obtain ⟨a, e, h⟩ := h
  refine ⟨a, e, ?_⟩
  rcases h with ⟨es, _, l⟩ | ⟨es, _, l⟩ | ⟨z, _⟩ | ⟨y, z, r⟩ | ⟨ns, z, r⟩
  · cases es with
    | nil => simp only [RepK] at l
    | cons p es =>
      obtain ⟨k', v'⟩ := p
      simp only [RepK] at l
      cases k' <;> cases l.1
  · cases es with
    | nil => simp only [RepT] at l
    | cons p es =>
      obtain ⟨k', v'⟩ := p
      simp only [RepT] at l
      cases l.1
  · cases z
  · cases z
    exact r
  · cases z
end
theorem fnName_eq {d : D} {x : Str} (h : fnName d = some x) : d = tokF x := by
  unfold fnName at h
  split at h
  · cases h; rfl
  · cases h
section
variable {X : Cx} {zf : Bool} {O : List Nat} {k : Nat}
theorem callV_cons {i : Nat} {y : Str} {fn : Fn} {tab : List (Str × Fn)} {es : List E} {g : Env} {w : Wd} {r : D × Wd} (h : cCallV i ((y, fn) :: tab) es g w = some r) : (g[i]? = some (some (tokF y)) ∧ cCall fn es g w = some r) ∨ cCallV i tab es g w = some r := by
  unfold cCallV at h ⊢
  cases hx : ((g[i]?).join).bind fnName with
  | none => rw [hx] at h; cases h
  | some x =>
    rw [hx] at h
    simp only [List.find?_cons] at h
    by_cases e : y = x
    · subst e
      refine .inl ⟨?_, by simpa using h⟩
      obtain ⟨d, h1, h2⟩ := Option.bind_eq_some_iff.mp hx
      cases hq : g[i]? with
      | none => rw [hq] at h1; cases h1
      | some z =>
        rw [hq] at h1
        have : z = some d := h1
        rw [this, fnName_eq h2]
    · rw [show ((y == x) = false) by simpa using e] at h
      exact .inr h
def tCallL (i : Nat) (f : Addr) (sp : Sp) (t : TA) : TE := fun σ H Q => σ[i]? = some (some (.ref f)) ∧ tCall sp [] E0 t σ H Q
theorem pe_callL {f : Addr} {fd : FuncData} {ps : List Str} {sp : Sp} {x : Str} {e : Expr} {es : List Expr} {t : TA} {p pos : Pos} {i : Nat} (F : FnOk X.prog X.w X.K X.mg X.base CX0 k f fd ps sp) (hr : Room k X.A) (hk : PySem.W.keepIn X.K (.ref f) = true) (hb : Binds X.K fd ps []) (hN : X.N[i]? = some x) (hv : Vis X.env.scope x) (ha : PA X (e :: es) t)
    (hd : (x == ("__debug__" : Str)) = false) (hcd : (x == ("__classdict__" : Str)) = false)
    (he : starEach (e :: es) X.env = (false, eval e X.env) :: starEach es X.env) (hpl : (backTo pos (starEach es X.env)).any (·.1) = false) : PE X (.Call (.Name x p) (e :: es) [] pos) (tCallL i f sp t) := by
  refine ⟨fun pins s σ H Q I h => ?_⟩
  obtain ⟨hs, h⟩ := h
  refine wpAny_Call_Name_kw (thn ((pe_var (pos := p) (i := i) hN hv hd hcd).run pins s σ H (fun v H1 => v = .ref f ∧ H1 = H) I ⟨.ref f, hs, rfl, rfl⟩) fun u s1 ⟨v, H1, I1, r1, ev, eH⟩ => ?_)
  subst ev
  rw [eH] at I1
  cases r1
  refine PySem.W.callWith_K (h₀ := X.base) I.ok.mod.kin hk (thn (ha.run pos pins s1 σ H _ I1 h) fun us s2 ⟨vs, H2, I2, r, q⟩ => ⟨I2.kIn, ?_⟩) he hpl
  exact run_fn F hr hb .nil pass0 I2 r q
/-- none of the defs -/
theorem EV.callV0 {i : Nat} {e : Expr} {fs : List E} : EV X zf O e (cCallV i [] fs) := ⟨fun pins s σ H Q I ⟨tk, H0, F0, F, g, w, d, w', R, ef, kk⟩ => by
  unfold cCallV at ef
  cases h : ((g[i]?).join).bind fnName <;> rw [h] at ef <;> cases ef⟩
theorem EV.callV {x y : Str} {ps : List Str} {p pos : Pos} {e : Expr} {es : List Expr} {n : Nat} {fn : Fn} {tab : List (Str × Fn)} {fs : List E} (i : Nat) (F : Ok X.K X.mg zf X.prog X.w X.base k y ps n fn) (hr : Room k X.A)
    (ha : EA X zf O (e :: es) (cArgs fs)) (hrest : EV X zf O (.Call (.Name x p) (e :: es) [] pos) (cCallV i tab fs)) (hO : i ∉ O := by decide) (hn : fs.length = n := by rfl) (hN : X.N[i]? = some x := by rfl)
    (hv : Vis X.env.scope x := by first | exact Or.inl rfl | exact Or.inr (Or.inl rfl) | exact Or.inr (Or.inr rfl)) (hd : (x == ("__debug__" : Str)) = false := by decide) (hcd : (x == ("__classdict__" : Str)) = false := by decide)
    (he : starEach (e :: es) X.env = (false, eval e X.env) :: starEach es X.env := by rfl) (hpl : (backTo pos (starEach es X.env)).any (·.1) = false := by rfl) :
    EV X zf O (.Call (.Name x p) (e :: es) [] pos) (cCallV i ((y, fn) :: tab) fs) := by
  obtain ⟨f, fd, h1, h2, h3, h4⟩ := F
  refine PE.imp (PE.or (pe_callL h4 hr h2 h3 hN hv ha hd hcd he hpl) hrest) fun σ H Q ⟨tk, H0, F0, F, g, w, d, w', R, ef, kk⟩ => ?_
  rcases callV_cons ef with ⟨hg, ef⟩ | ef
  · obtain ⟨v, hs, rv⟩ := R.val i _ hO hg
    obtain ⟨a, rfl, hm⟩ := rep_tokF rv
    rw [h1] at hm
    cases hm
    exact .inl ⟨hs, call_read hn σ H Q ⟨tk, H0, F0, F, g, w, d, w', R, ef, kk⟩⟩
  · exact .inr ⟨tk, H0, F0, F, g, w, d, w', R, ef, kk⟩
end
end Q

set_option Elab.async false
set_option linter.all false
set_option autoImplicit false
set_option maxRecDepth 100000
/-! QS21: d.get, dict(..), len(d). -/
namespace Q
open PySem PySem.Spec PyProof.Rows L2
section
variable {X : Cx} {pins : List (Addr × Obj)} {σ : L2.St} {H : Hp} {s : Shared} {a : Addr}
theorem dT_dd (I : Inv X pins σ H s) (h : Rd H a (.dT [])) : (a == sysModules) = false ∧ s.heap.DictOf (mixKind X.prog X.w) a [] := by
  obtain ⟨z, hd, xs, rel, o, es, ep, e1, e2, e3, e4, e5⟩ := dt_rd I.hok h
  cases rel
  have e6 : es.toList = [] := by rw [e4]; rfl
  exact ⟨hd, o, es, ep, e1, e2, e3, fun x hx => (by
      have : x ∈ es.toList := by simpa using hx
      rw [e6] at this; simp at this), by rw [e6]; exact .nil, List.nodup_nil⟩
end
/-- what a dict of ints and texts is to the library, at the tracked heap -/
theorem kd_cases {Kx : PySem.W.Frag} {mx : Str → Option Value} {zf : Bool} {tk : Tk Kx mx zf} {F H : Hp} {kvs : List (D × D)} {a : Addr} (hk : (∃ es, Rd H a (.dK es) ∧ RepK tk F kvs es) ∨ ∃ es, Rd H a (.dT es) ∧ RepT tk F kvs es) (hn : keysOk kvs = true) :
    (∃ es, Rd H a (.dK es) ∧ RepK tk F kvs es) ∨ (kvs = [] ∧ Rd H a (.dT [])) := by
  rcases hk with hk | ⟨es, hr, rt⟩
  · exact .inl hk
  · obtain ⟨rfl, rfl⟩ := keysOk_T hn rt
    exact .inr ⟨rfl, hr⟩
/-! ### dict(..) -/
def pairOf : D → Option (D × D)
  | .tuple [k, v] => if (keyN k).isSome = true then some (k, v) else none
  | _ => none
def pairsOf : List D → Option (List (D × D))
  | [] => some []
  | d :: ds => (pairOf d).bind fun p => (pairsOf ds).map (p :: ·)
def mergeD (acc more : List (D × D)) : List (D × D) := more.foldl (fun m p => putD m p.1 p.2) acc
def dictD : D → Option D
  | .dict kvs => if (isTok (.dict kvs) || !keysOk kvs) = true then none else some (.dict kvs)
  | .list ds => (pairsOf ds).map fun kvs => .dict (mergeD [] kvs)
  | _ => none
theorem pairOf_eq {d k v : D} (h : pairOf d = some (k, v)) : d = .tuple [k, v] ∧ ∃ ky, k = keyOf ky := by
  unfold pairOf at h
  split at h
  · split at h
    · rename_i hh
      cases h
      obtain ⟨ky, hk⟩ := Option.isSome_iff_exists.mp hh
      exact ⟨rfl, ky, keyN_of hk⟩
    · cases h
  · cases h
section
variable {X : Cx} {zf : Bool} {O : List Nat} {k : Nat}
theorem call_dictT0 : CallR X (.type "dict") (fun xs H Q => ∃ (a : Addr), xs = [.ref a] ∧ Rd H a (.dT []) ∧ ∀ p, H p = none → Q (.ref p) (upd H p (.dK []))) := by
  intro pins s σ H xs us Q I r q
  obtain ⟨a, ex, hd, q⟩ := q
  subst ex
  obtain ⟨u, eu, rx⟩ := vals1 r
  subst eu
  cases rx
  obtain ⟨lo, dd⟩ := dT_dd I hd
  refine kt_call_dict lo dd (Nat.zero_le _) fun h' d' hs => ?_
  have hm : (s.heap.objs.size == sysModules) = false := beq_eq_false_iff_ne.mpr (Nat.ne_of_gt I.big)
  exact ⟨.ref s.heap.objs.size, upd H s.heap.objs.size (.dK []), I.laid (t' := s.toks) (fun b u e => (hs.2 b (Nat.ne_of_lt (Heap.lt_size e))).trans (Heap.get?_push_of_some _ e)) (Nat.le_refl _)
    (show ObjOk X.prog X.w _ _ _ (.dK []) from ⟨Nat.zero_le _, hm, [], .nil, d'⟩), rfl, q _ (I.hok.fresh (Nat.le_refl _))⟩
theorem pairs_rep {Kx : PySem.W.Frag} {mx : Str → Option Value} {tk : Tk Kx mx zf} {K : PySem.W.Frag} {F H : Hp} (sb : Sub F H) : ∀ {ds : List D} {xs : List V} {kvs : List (D × D)}, pairsOf ds = some kvs → RepL tk F ds xs → ∃ (ps : List Addr) (es : List (Key × V)), xs = ps.map V.ref ∧ Paired (fun p kv => SqT K H p [kV kv.1, kv.2]) ps es ∧ RepK tk F kvs es
  | [], [], kvs, h, _ => by
    have h : some ([] : List (D × D)) = some kvs := h
    cases h
    exact ⟨[], [], rfl, .nil, by simp only [RepK]⟩
  | [], _ :: _, _, _, h => by simp only [RepL] at h
  | _ :: _, [], _, _, h => by simp only [RepL] at h
  | d :: ds, x :: xs, kvs, h, l => by
    obtain ⟨p, h1, h2⟩ := Option.bind_eq_some_iff.mp (show (pairOf d).bind _ = some kvs from h)
    obtain ⟨r, h3, rfl⟩ := Option.map_eq_some_iff.mp h2
    obtain ⟨k, v⟩ := p
    obtain ⟨rfl, ky, rfl⟩ := pairOf_eq h1
    simp only [RepL, Rep] at l
    obtain ⟨⟨b, ys, rfl, hb, hl⟩, l2⟩ := l
    obtain ⟨ps, es, rfl, hp, rk⟩ := pairs_rep (K := K) sb h3 l2
    match ys, hb, hl with
    | [], hb, hl => simp only [RepL] at hl
    | [_], hb, hl => simp only [RepL] at hl; exact hl.2.elim
    | _ :: _ :: _ :: _, hb, hl => simp only [RepL] at hl; exact hl.2.2.elim
    | [y, z], hb, hl =>
      simp only [RepL] at hl
      have := rep_key hl.1
      subst this
      exact ⟨b :: ps, (ky, z) :: es, rfl, .cons (sb.tup hb).sq hp, by simp only [RepK]; exact ⟨trivial, hl.2.1, rk⟩⟩
theorem merge_rep {Kx : PySem.W.Frag} {mx : Str → Option Value} {tk : Tk Kx mx zf} {F : Hp} : ∀ {kvs : List (D × D)} {es : List (Key × V)} {acc : List (D × D)} {as : List (Key × V)}, RepK tk F kvs es → RepK tk F acc as → RepK tk F (mergeD acc kvs) (mergeK as es)
  | [], [], _, _, _, h => h
  | [], _ :: _, _, _, h, _ => by simp only [RepK] at h
  | _ :: _, [], _, _, h, _ => by simp only [RepK] at h
  | (a, d) :: r, (b, v) :: r', acc, as, h, ha => by
    simp only [RepK] at h
    obtain ⟨rfl, h1, h2⟩ := h
    unfold mergeD mergeK
    rw [List.foldl_cons, List.foldl_cons]
    exact merge_rep h2 (RepK.put b h1 ha)
theorem EO.dict {a : Expr} {fa : E} {p pos : Pos} (hm : X.mg "dict" = none) (hc : X.calm = true) (ha : EB X zf O a fa) (hg : Gl X "dict" := by rfl) (he : starEach [a] X.env = (false, eval a X.env) :: starEach [] X.env := by rfl) (hpl : (backTo pos (starEach [] X.env)).any (·.1) = false := by rfl) :
    EO X zf O (.Call (.Name "dict" p) [a] [] pos) (cOp1 dictD fa) :=
  PE.imp (pe_callTy (CallR.or call_dictT0 (CallR.or call_dictD (call_dictP hc))) hg hm (by decide +kernel) (EAB.cons ha EAB.nil he) (he := he) (hpl := hpl)) fun σ H Q ⟨tk, H0, F0, F, g, w, d, w', R, ef, kk⟩ => by
  obtain ⟨x, w1, e1, ef⟩ := bnd_eq (show bnd (fa g w) _ = _ from ef)
  obtain ⟨e4, e5⟩ := lft_eq ef
  have e5 : w1 = w' := e5
  subst e5
  refine ⟨tk, H0, F0, F, g, w, [x], w1, R, by simp [cArgs, e1], fun vs H1 F1 R1 x1 r1 => ?_⟩
  match vs, r1 with
  | [], r1 => simp only [RepBL] at r1
  | _ :: _ :: _, r1 => simp only [RepBL] at r1; exact r1.2.elim
  | [v], r1 =>
    simp only [RepBL] at r1
    have r1 := r1.1
    have e4 : dictD x = some d := e4
    have done : ∀ (kvs : List (D × D)) (es : List (Key × V)), d = .dict kvs → RepK tk F1 kvs es → ∀ p, H1 p = none → Q (.ref p) (upd H1 p (.dK es)) := fun kvs es ed rk p hp => by
      subst ed
      obtain ⟨R3, x3, io⟩ := own_new (d := .dict kvs) (o := .dK es) R1 x1 hp (by simp only [RepO]; exact rk)
      exact kk _ _ _ R3 x3 io
    cases x <;> simp only [dictD] at e4 <;> first | (cases e4; done) | skip
    · rename_i ds _e
      obtain ⟨kvs, hk, ed⟩ := Option.map_eq_some_iff.mp e4
      simp only [RepB] at r1
      obtain ⟨a, xs, rfl, _, hr, l⟩ := r1
      obtain ⟨ps, es, rfl, hp, rk⟩ := pairs_rep (K := X.K) R1.sub hk l
      exact .inr (.inr ⟨a, ps, es, rfl, .inl hr, hp, done _ _ ed.symm (merge_rep rk (by simp only [RepK]))⟩)
    · rename_i kvs _e0 _e1 _e2
      split at e4
      · cases e4
      · rename_i hh
        have hh : isTok (.dict kvs) = false ∧ keysOk kvs = true := by simpa using hh
        have ed := (Option.some.inj e4).symm
        obtain ⟨a, rfl, na, hk⟩ := RepB.dict r1 hh.1
        rcases kd_cases hk hh.2 with ⟨es, hr, rk⟩ | ⟨rfl, hr⟩
        · exact .inr (.inl ⟨a, es, rfl, hr, done _ _ ed rk⟩)
        · exact .inl ⟨a, rfl, hr, done _ _ ed (by simp only [RepK])⟩
end
end Q

set_option Elab.async false
set_option linter.all false
set_option autoImplicit false
set_option maxRecDepth 100000
/-! QS22: d.get, len(d). -/
namespace Q
open PySem PySem.Spec PyProof.Rows L2
def getAD : D → D → Option D
  | .dict kvs, x => if (isTok (.dict kvs) || !keysOk kvs) = true then none else (keyN x).map fun k => (lookD kvs (keyOf k)).getD .none
  | _, _ => none
def cOp3 (f : D → D → D → Option D) (a b c : E) : E := fun g w => bnd (a g w) fun x w1 => bnd (b g w1) fun y w2 => bnd (c g w2) fun z w3 => lft (f x y z) w3
def getA2D : D → D → D → Option D
  | .dict kvs, x, z => if (isTok (.dict kvs) || !keysOk kvs) = true then none else (keyN x).map fun k => (lookD kvs (keyOf k)).getD z
  | _, _, _ => none
section
variable {X : Cx} {zf : Bool} {O : List Nat} {k : Nat}
/-- a dict without keys answers any key that is an int or a text -/
def tGetA1 (td ty : TE) : TE := fun σ H Q => td σ H fun x H1 => ∃ a, x = .ref a ∧ IsD H1 a ∧ ty σ H1 fun y H2 => (∃ o, DGet H2 a y o ∧ Q (o.getD .non) H2) ∨ (Rd H2 a (.dT []) ∧ ∃ ky, y = kV ky ∧ Q .non H2)
theorem d_getT {A : Around} {E : Value → Shared → Prop} {pins : List (Addr × Obj)} {σ : L2.St} {H : Hp} {s : Shared} {a : Addr} {ky : Key} {u : Value} {Q : Value → Shared → Prop} (I : Inv X pins σ H s) (e : Rd H a (.dT [])) (ry : RelV (kV ky) u) (h : ∀ s', Inv X pins σ H s' → Q .none s') :
    wpAny (model X.prog X.w) A (call (.builtin "dict.get") [.ref a, u]) Q E s := by
  obtain ⟨hd, dd⟩ := dT_dd I e
  exact call_meetsIn PySem.F.slot_dict_get dd.typeIs PySem.F.entry_dict_get (PySem.F.args_dict_get_2 _ _) (meets_dict_get (mixKind X.prog X.w) a (kV_is ry) hd) ⟨_, dd.mapOf, h _ (I.tok _)⟩
theorem pe_getA1 {o e : Expr} {apos cpos : Pos} {td ty : TE} (hu : X.A.units + 1 < cLine) (ho : PE X o td) (he : PE X e ty) (m : M1 X o "get" apos e cpos) : PE X (.Call (.Attribute o "get" apos) [e] [] cpos) (tGetA1 td ty) := by
  refine ⟨fun pins s σ H Q I h => ?_⟩
  refine wpAny_Call_method m.base m.few m.line PySem.F.plainAttrs_dict PySem.F.slot_dict_get PySem.F.type_dict_get (thn (ho.run pins s σ H _ I h) fun u s1 ⟨x, H1, I1, rx, a, ex, d, q1⟩ => ?_)
  subst ex
  obtain rfl : u = Value.ref a := rx
  obtain ⟨t1, t2, _⟩ := isD_at I1 d
  refine ⟨t1, t2, ?_⟩
  rw [m.trees]
  refine Calls.callWith_builtin rfl (Calls.evalArgs_plain (Calls.spliced_cons (thn (he.run pins s1 σ H1 _ I1 q1) fun iv s2 ⟨y, H2, I2, ry, q⟩ => Calls.spliced_nil ?_)))
  rcases q with ⟨ov, g, q2⟩ | ⟨e0, ky, ey, q2⟩
  · exact d_get1 hu I2 g ry fun w' s3 I3 rw' => ⟨_, H2, I3, rw', q2⟩
  · subst ey
    exact d_getT I2 e0 ry fun s3 I3 => ⟨.non, H2, I3, rfl, q2⟩
theorem isD_of {Kx : PySem.W.Frag} {mx : Str → Option Value} {tk : Tk Kx mx zf} {F H : Hp} {kvs : List (D × D)} {a : Addr} (hk : (∃ es, Rd H a (.dK es) ∧ RepK tk F kvs es) ∨ ∃ es, Rd H a (.dT es) ∧ RepT tk F kvs es) : IsD H a :=
  hk.elim (fun ⟨es, h, _⟩ => .inl ⟨es, h⟩) fun ⟨es, h, _⟩ => .inr ⟨es, h⟩
theorem EV.get1 {a b : Expr} {fa fb : E} {apos cpos : Pos} (hr : Room k X.A) (ha : EB X zf O a fa) (hb : EB X zf O b fb) (m : M1 X a "get" apos b cpos := by exact ⟨rfl, rfl, rfl, rfl⟩) : EV X zf O (.Call (.Attribute a "get" apos) [b] [] cpos) (cOp2 getAD fa fb) :=
  PE.imp (pe_getA1 hr.un1 ha hb m) fun σ H Q ⟨tk, H0, F0, F, g, w, d, w', R, ef, kk⟩ => by
  obtain ⟨x, w1, e1, ef⟩ := bnd_eq (show bnd (fa g w) _ = _ from ef)
  obtain ⟨y, w2, e2, ef⟩ := bnd_eq ef
  obtain ⟨e3, e4⟩ := lft_eq ef
  have e4 : w2 = w' := e4
  subst e4
  have e3 : getAD x y = some d := e3
  obtain ⟨kvs, rfl⟩ : ∃ kvs, x = .dict kvs := by
    cases x <;> first | exact ⟨_, rfl⟩ | (simp only [getAD] at e3; cases e3; done)
  have e3 : (if (isTok (.dict kvs) || !keysOk kvs) = true then none else (keyN y).map fun k => (lookD kvs (keyOf k)).getD .none) = some d := e3
  split at e3
  · cases e3
  · rename_i hh
    have hh : isTok (.dict kvs) = false ∧ keysOk kvs = true := by simpa using hh
    obtain ⟨ky, h1, h2⟩ := Option.map_eq_some_iff.mp e3
    have := keyN_of h1
    subst this
    refine ⟨tk, H0, F0, F, g, w, _, w1, R, e1, fun vx H1 F1 R1 x1 r1 => ?_⟩
    obtain ⟨a, rfl, na, hk⟩ := RepB.dict r1 hh.1
    refine ⟨a, rfl, isD_of hk, tk, H0, F0, F1, g, w1, _, w2, R1, e2, fun vy H2 F2 R2 x2 r2 => ?_⟩
    obtain ⟨a', ea, na', hk2⟩ := RepB.dict (r1.ex x2) hh.1
    cases ea
    have := repB_key r2
    subst this
    rcases kd_cases hk2 hh.2 with ⟨es, hrd, rk⟩ | ⟨rfl, hrd⟩
    · refine .inl ⟨valV es ky, .inl ⟨es, ky, hrd, rfl, rfl⟩, ?_⟩
      obtain ⟨l1, l2⟩ := rk.look ky
      cases hl : lookD kvs (keyOf ky) with
      | none =>
        rw [l2 hl]
        have : d = .none := by rw [← h2, hl]; rfl
        subst this
        exact kk _ _ _ R2 (x1.trans x2) (by show Rep tk F2 .none V.non; simp only [Rep])
      | some dv =>
        obtain ⟨v, e5, e6⟩ := l1 dv hl
        rw [e5]
        have : d = dv := by rw [← h2, hl]; rfl
        subst this
        exact kk _ _ _ R2 (x1.trans x2) e6
    · refine .inr ⟨hrd, ky, rfl, ?_⟩
      have : d = .none := by rw [← h2]; rfl
      subst this
      exact kk _ _ _ R2 (x1.trans x2) (by simp only [Rep])
/-! len -/
theorem call_lenT0 : CallR X (.builtin "len") (fun xs H Q => ∃ a, xs = [.ref a] ∧ Rd H a (.dT []) ∧ Q (.int 0) H) := by
  intro pins s σ H xs us Q I r q
  obtain ⟨a, ex, hd, q⟩ := q
  subst ex
  obtain ⟨u, eu, rx⟩ := vals1 r
  subst eu
  cases rx
  obtain ⟨lo, dd⟩ := dT_dd I hd
  exact call_len_dict lo dd (by decide) ⟨.int 0, H, I.tok _, ⟨_, rfl⟩, q⟩
theorem call_lenK : CallR X (.builtin "len") (fun xs H Q => ∃ a es, xs = [.ref a] ∧ Rd H a (.dK es) ∧ Q (.int es.length) H) := by
  intro pins s σ H xs us Q I r q
  obtain ⟨a, es, ex, hd, q⟩ := q
  subst ex
  obtain ⟨u, eu, rx⟩ := vals1 r
  subst eu
  cases rx
  exact d_len I hd fun t s' I' => ⟨.int es.length, H, I', ⟨t, rfl⟩, q⟩
end
end Q
namespace Q
open PySem PySem.Spec PyProof.Rows L2
/-- a def as a value -/
theorem EV.fn {X : Cx} {zf : Bool} {O : List Nat} {k n : Nat} {x : Str} {ps : List Str} {fn : Fn} {pos : Pos} (F : Ok X.K X.mg zf X.prog X.w X.base k x ps n fn) (hg : Gl X x := by rfl) (hd : (x == ("__debug__" : Str)) = false := by decide) : EV X zf O (.Name x pos) (cK (tokF x)) := by
  obtain ⟨f, fd, h1, h2, h3, h4⟩ := F
  refine ev_const (pe_glob hg h1 (v := .ref f) rfl hd) fun tk F => ?_
  simp only [tokF, Rep]
  exact ⟨f, rfl, .inr (.inr (.inr (.inl ⟨x, rfl, h1⟩)))⟩
end Q

set_option Elab.async false
set_option linter.all false
set_option autoImplicit false
set_option maxRecDepth 100000
/-! QSL: the last of the framework. -/
namespace Q
open PySem PySem.Spec PyProof.Rows L2
section
variable {X : Cx} {zf : Bool} {k : Nat}
theorem ET.or1 {O : List Nat} {a : Expr} {fa : T} {pos : Pos} (h : ET X zf O a fa) : PW X (.BoolOp .Or [a] pos) (rdT X.K X.mg zf O fa) := pw_or1 h
end
end Q

set_option Elab.async false
set_option linter.all false
set_option autoImplicit false
set_option maxRecDepth 100000
/-! QM: plain laws of the combinators: what a body computes. -/
namespace Q
open PySem PySem.W
/-- x ends well, with P -/
structure wp {α : Type} (x : Option (α × Wd)) (P : α → Wd → Prop) : Prop where
  ex : ∃ a w, x = some (a, w) ∧ P a w
theorem wp_eq {α : Type} {x : Option (α × Wd)} {P : α → Wd → Prop} (h : wp x P) : ∃ a w, x = some (a, w) ∧ P a w := h.ex
@[simp] theorem wp_some {α : Type} (a : α) (w : Wd) (P : α → Wd → Prop) : wp (some (a, w)) P = P a w := propext ⟨fun ⟨a', w', e, h⟩ => by cases e; exact h, fun h => ⟨a, w, rfl, h⟩⟩
@[simp] theorem wp_none {α : Type} (P : α → Wd → Prop) : wp none P = False := propext ⟨fun ⟨a', w', e, h⟩ => by (cases e), fun h => h.elim⟩
@[simp] theorem wp_bnd {α β : Type} (x : Option (α × Wd)) (f : α → Wd → Option (β × Wd)) (P : β → Wd → Prop) : wp (bnd x f) P = wp x (fun a w => wp (f a w) P) := by
  cases x with
  | none => simp
  | some p => obtain ⟨a, w⟩ := p; simp
theorem wp_mono {α : Type} {x : Option (α × Wd)} {P P' : α → Wd → Prop} (h : wp x P) (k : ∀ a w, P a w → P' a w) : wp x P' := by
  obtain ⟨a, w, e, p⟩ := h
  exact ⟨a, w, e, k _ _ p⟩
theorem wp_of {α : Type} {x : Option (α × Wd)} {P : α → Wd → Prop} {a : α} {w : Wd} (h : x = some (a, w)) (p : P a w) : wp x P := ⟨a, w, h, p⟩
theorem wp_ite {α : Type} {c : Prop} [Decidable c] {x y : Option (α × Wd)} {P : α → Wd → Prop} (h : c → wp x P) (k : ¬ c → wp y P) : wp (if c then x else y) P := by
  by_cases hc : c
  · rw [if_pos hc]; exact h hc
  · rw [if_neg hc]; exact k hc
section
variable (g : Env) (w : Wd)
@[simp] theorem s_cVar (i : Nat) : cVar i g w = lft (g[i]?).join w := Eq.trans rfl rfl
@[simp] theorem s_cK (d : D) : cK d g w = some (d, w) := Eq.trans rfl rfl
@[simp] theorem s_cArgs0 : cArgs [] g w = some ([], w) := Eq.trans rfl rfl
@[simp] theorem s_cArgs1 (e : E) (es : List E) : cArgs (e :: es) g w = bnd (e g w) fun d w1 => bnd (cArgs es g w1) fun ds w2 => some (d :: ds, w2) := Eq.trans rfl rfl
@[simp] theorem s_cTup (es : List E) : cTup es g w = bnd (cArgs es g w) fun ds w1 => some (.tuple ds, w1) := Eq.trans rfl rfl
@[simp] theorem s_cLst (es : List E) : cLst es g w = bnd (cArgs es g w) fun ds w1 => some (.list ds, w1) := Eq.trans rfl rfl
@[simp] theorem s_cOp1 (f : D → Option D) (a : E) : cOp1 f a g w = bnd (a g w) fun x w1 => lft (f x) w1 := Eq.trans rfl rfl
@[simp] theorem s_cOp2 (f : D → D → Option D) (a b : E) : cOp2 f a b g w = bnd (a g w) fun x w1 => bnd (b g w1) fun y w2 => lft (f x y) w2 := Eq.trans rfl rfl
@[simp] theorem s_cIf (c : T) (a b : E) : cIf c a b g w = bnd (c g w) fun k w1 => if k = true then a g w1 else b g w1 := Eq.trans rfl rfl
@[simp] theorem s_cCall (f : Fn) (es : List E) : cCall f es g w = bnd (cArgs es g w) fun ds w1 => f ds w1 := Eq.trans rfl rfl
@[simp] theorem s_tVal (a : E) : tVal a g w = bnd (a g w) fun x w1 => lft (boolD x) w1 := Eq.trans rfl rfl
@[simp] theorem s_tCmp (f : D → D → Option Bool) (a b : E) : tCmp f a b g w = bnd (a g w) fun x w1 => bnd (b g w1) fun y w2 => lft (f x y) w2 := Eq.trans rfl rfl
@[simp] theorem s_tNot (a : T) : tNot a g w = bnd (a g w) fun k w1 => some (!k, w1) := Eq.trans rfl rfl
@[simp] theorem s_tAnd (a b : T) : tAnd a b g w = bnd (a g w) fun k w1 => if k = true then b g w1 else some (false, w1) := Eq.trans rfl rfl
@[simp] theorem s_tOr (a b : T) : tOr a b g w = bnd (a g w) fun k w1 => if k = true then some (true, w1) else b g w1 := Eq.trans rfl rfl
@[simp] theorem s_tYes : tYes g w = some (true, w) := Eq.trans rfl rfl
@[simp] theorem s_cT (t : T) : cT t g w = bnd (t g w) fun k w1 => some (.bool k, w1) := Eq.trans rfl rfl
@[simp] theorem s_cAnd (a b : E) : cAnd a b g w = bnd (a g w) fun x w1 => bnd (lft (boolD x) w1) fun k w2 => if k = true then b g w2 else some (.bool false, w2) := Eq.trans rfl rfl
@[simp] theorem s_cOr (a b : E) : cOr a b g w = bnd (a g w) fun x w1 => bnd (lft (boolD x) w1) fun k w2 => if k = true then some (.bool true, w2) else b g w2 := Eq.trans rfl rfl
@[simp] theorem s_cNot (a : E) : cNot a g w = bnd (a g w) fun x w1 => bnd (lft (boolD x) w1) fun k w2 => some (.bool (!k), w2) := Eq.trans rfl rfl
@[simp] theorem s_cCut (a : E) (lo hi : Option E) : cCut a lo hi g w = bnd (a g w) fun x w1 => bnd (optE lo g w1) fun l w2 => bnd (optE hi g w2) fun h w3 => lft (cutD x l h) w3 := Eq.trans rfl rfl
@[simp] theorem s_optE0 : optE none g w = some (none, w) := Eq.trans rfl rfl
@[simp] theorem s_optE1 (e : E) : optE (some e) g w = bnd (e g w) fun d w1 => match d with
  | .int i => some (some i, w1)
  | _ => none := Eq.trans rfl rfl
@[simp] theorem s_itSeq (a : E) : itSeq a g w = bnd (a g w) fun x w1 => lft (itemsD x) w1 := Eq.trans rfl rfl
@[simp] theorem s_itR1 (a : E) : itR1 a g w = bnd (a g w) fun x w1 => lft (range1 x) w1 := Eq.trans rfl rfl
@[simp] theorem s_itR2 (a b : E) : itR2 a b g w = bnd (a g w) fun x w1 => bnd (b g w1) fun y w2 => lft (range2 x y) w2 := Eq.trans rfl rfl
@[simp] theorem s_itZip (a b : E) : itZip a b g w = bnd (a g w) fun x w1 => bnd (b g w1) fun y w2 => lft (zipD x y) w2 := Eq.trans rfl rfl
@[simp] theorem s_cLc (it : Es) (t : G) (c : T) (e : E) (vs : List Nat) : cLc it t c e vs g w = bnd (it g w) fun xs w1 => bnd (lcLoop t c e (wipeE g vs) xs w1) fun ds w2 => if xs.length ≤ sizeLine then some (.list ds, w2) else none := Eq.trans rfl rfl
@[simp] theorem s_sPass : sPass g w = some (.nx g, w) := Eq.trans rfl rfl
@[simp] theorem s_sSet (t : G) (e : E) : sSet t e g w = bnd (e g w) fun d w1 => match t d g with
  | some g1 => some (.nx g1, w1)
  | none => none := Eq.trans rfl rfl
@[simp] theorem s_sPar (ts : List G) (es : List E) : sPar ts es g w = bnd (cArgs es g w) fun ds w1 => match gList ts ds g with
  | some g1 => some (.nx g1, w1)
  | none => none := Eq.trans rfl rfl
@[simp] theorem s_sRet (e : E) : sRet e g w = bnd (e g w) fun d w1 => some (.rt d, w1) := Eq.trans rfl rfl
@[simp] theorem s_sIf (c : T) (a b : S) : sIf c a b g w = bnd (c g w) fun k w1 => if k = true then a g w1 else b g w1 := Eq.trans rfl rfl
@[simp] theorem s_sBreak : sBreak g w = some (.bk g, w) := Eq.trans rfl rfl
@[simp] theorem s_sCont : sCont g w = some (.ct g, w) := Eq.trans rfl rfl
@[simp] theorem s_sApp (i : Nat) (e : E) : sApp i e g w = bnd (e g w) fun d w1 => mutS i (apD · d) g w1 := Eq.trans rfl rfl
@[simp] theorem s_sExt (i : Nat) (e : E) : sExt i e g w = bnd (e g w) fun d w1 => mutS i (exD · d) g w1 := Eq.trans rfl rfl
@[simp] theorem s_mutS (i : Nat) (f : D → Option D) : mutS i f g w = match (g[i]?).join with
  | some x => match f x with
    | some y => some (.nx (g.set i (some y)), w)
    | none => none
  | none => none := Eq.trans rfl rfl
@[simp] theorem s_sAugN (i : Nat) (f : D → D → Option D) (e : E) : sAugN i f e g w = match (g[i]?).join with
  | some x => bnd (e g w) fun d w1 => match f x d with
    | some y => some (.nx (g.set i (some y)), w1)
    | none => none
  | none => none := Eq.trans rfl rfl
@[simp] theorem s_sFor (it : Es) (t : G) (b : S) (vs : List Nat) : sFor it t b vs g w = bnd (it g w) fun xs w1 => loopS t b vs xs g w1 := Eq.trans rfl rfl
@[simp] theorem s_sWhile (c : T) (b : S) (vs : List Nat) (n : Nat) : sWhile c b vs n g w = whileS c b vs n g w := Eq.trans rfl rfl
end
theorem s_sSeq (a b : S) (g : Env) (w : Wd) : sSeq a b g w = bnd (a g w) fun o w1 => match o with
  | .nx g1 => b g1 w1
  | .rt d => some (.rt d, w1)
  | .bk g1 => some (.bk g1, w1)
  | .ct g1 => some (.ct g1, w1) := rfl
@[simp] theorem s_gName (i : Nat) (d : D) (g : Env) : gName i d g = if i < g.length then some (g.set i (some d)) else none := Eq.trans rfl rfl
@[simp] theorem s_gList0 (g : Env) : gList [] [] g = some g := Eq.trans rfl rfl
@[simp] theorem s_gList1 (t : G) (ts : List G) (d : D) (ds : List D) (g : Env) : gList (t :: ts) (d :: ds) g = match t d g with
  | some g1 => gList ts ds g1
  | none => none := Eq.trans rfl rfl
@[simp] theorem s_gTup (ts : List G) (ds : List D) (g : Env) : gTup ts (.tuple ds) g = gList ts ds g := Eq.trans rfl rfl
@[simp] theorem s_wipe0 (g : Env) : wipeE g [] = g := Eq.trans rfl rfl
@[simp] theorem s_wipe1 (x : Option D) (g : Env) (v : Nat) (vs : List Nat) : wipeE (x :: g) (v :: vs) = (wipeE (x :: g) vs).set v none := Eq.trans rfl rfl
/-- the statements' wp -/
def thenS (P : Out → Wd → Prop) (b : S) : Out → Wd → Prop
  | .nx g, w => wp (b g w) P
  | o, w => P o w
@[simp] theorem thenS_nx (P : Out → Wd → Prop) (b : S) (g : Env) (w : Wd) : thenS P b (.nx g) w = wp (b g w) P := Eq.trans rfl rfl
@[simp] theorem thenS_rt (P : Out → Wd → Prop) (b : S) (d : D) (w : Wd) : thenS P b (.rt d) w = P (.rt d) w := Eq.trans rfl rfl
@[simp] theorem thenS_bk (P : Out → Wd → Prop) (b : S) (g : Env) (w : Wd) : thenS P b (.bk g) w = P (.bk g) w := Eq.trans rfl rfl
@[simp] theorem thenS_ct (P : Out → Wd → Prop) (b : S) (g : Env) (w : Wd) : thenS P b (.ct g) w = P (.ct g) w := Eq.trans rfl rfl
@[simp] theorem wp_seq {a b : S} {g : Env} {w : Wd} {P : Out → Wd → Prop} : wp (sSeq a b g w) P = wp (a g w) (thenS P b) := by
  rw [s_sSeq, wp_bnd]
  congr 1
  funext o w1
  cases o
  · rfl
  all_goals exact wp_some _ _ _
/-- a turn of a loop -/
def turn (t : G) (b : S) (vs : List Nat) (x : D) (g : Env) (w : Wd) : Option (Out × Wd) := match t x (wipeE g vs) with
  | some g1 => b g1 w
  | none => none
theorem turn_wipe {t : G} {b : S} {vs : List Nat} {x : D} {g g' : Env} {w : Wd} (h : wipeE g vs = wipeE g' vs) : turn t b vs x g w = turn t b vs x g' w := by unfold turn; rw [h]
def aftS (P : Nat → Env → Wd → Prop) (Q : Out → Wd → Prop) (vs : List Nat) (i : Nat) : Out → Wd → Prop
  | .nx g, w => P (i + 1) g w
  | .ct g, w => P (i + 1) g w
  | .bk g, w => Q (.nx (wipeE g vs)) w
  | .rt d, w => Q (.rt d) w
theorem loop_at {t : G} {b : S} {vs : List Nat} {P : Nat → Env → Wd → Prop} {Q : Out → Wd → Prop} {all : List D} (hb : ∀ i x g w, all[i]? = some x → P i g w → wp (turn t b vs x g w) (aftS P Q vs i)) (he : ∀ g w, P all.length g w → Q (.nx (wipeE g vs)) w) :
    ∀ (xs : List D) (i : Nat), all.drop i = xs → i ≤ all.length → ∀ g w, P i g w → wp (loopS t b vs xs g w) Q
  | [], i, e, hi, g, w, p => by
    have : i = all.length := by have := List.drop_eq_nil_iff.mp e; omega
    subst this
    exact wp_of (show loopS t b vs [] g w = some (.nx (wipeE g vs), w) from rfl) (he g w p)
  | x :: xs, i, e, hi, g, w, p => by
    have hx : all[i]? = some x := by rw [← List.head?_drop, e]; rfl
    have hlt : i < all.length := (List.getElem?_eq_some_iff.mp hx).1
    have hn : all.drop (i + 1) = xs := by rw [← List.tail_drop, e]; rfl
    have h := hb i x g w hx p
    unfold turn at h
    unfold loopS
    cases ht : t x (wipeE g vs) with
    | none => rw [ht] at h; simp at h
    | some g1 =>
      rw [ht] at h
      dsimp only at h ⊢
      rw [wp_bnd]
      refine wp_mono h fun o w1 ho => ?_
      cases o with
      | nx g2 => exact loop_at hb he xs (i + 1) hn hlt g2 w1 ho
      | ct g2 => exact loop_at hb he xs (i + 1) hn hlt g2 w1 ho
      | bk g2 => exact wp_of rfl ho
      | rt d => exact wp_of rfl ho
theorem wp_loop {t : G} {b : S} {vs : List Nat} {xs : List D} {g : Env} {w : Wd} {Q : Out → Wd → Prop} (P : Nat → Env → Wd → Prop) (h0 : P 0 g w) (hb : ∀ i x g w, xs[i]? = some x → P i g w → wp (turn t b vs x g w) (aftS P Q vs i)) (he : ∀ g w, P xs.length g w → Q (.nx (wipeE g vs)) w) :
    wp (loopS t b vs xs g w) Q := loop_at hb he xs 0 rfl (Nat.zero_le _) g w h0
theorem rangeL_get (lo : Int) (n i : Nat) (x : D) (h : (rangeL lo n)[i]? = some x) : i < n ∧ x = .int (lo + i) := by
  unfold rangeL at h
  rw [List.getElem?_map] at h
  by_cases hi : i < n
  · rw [List.getElem?_range hi] at h
    exact ⟨hi, (Option.some.inj h).symm⟩
  · rw [List.getElem?_eq_none (by simpa using hi)] at h
    cases h
@[simp] theorem rangeL_len (lo : Int) (n : Nat) : (rangeL lo n).length = n := by simp [rangeL]
theorem wp_range {t : G} {b : S} {vs : List Nat} {lo : Int} {n : Nat} {g : Env} {w : Wd} {Q : Out → Wd → Prop} (P : Nat → Env → Wd → Prop) (h0 : P 0 g w) (hb : ∀ i g w, i < n → P i g w → wp (turn t b vs (.int (lo + i)) g w) (aftS P Q vs i)) (he : ∀ g w, P n g w → Q (.nx (wipeE g vs)) w) :
    wp (loopS t b vs (rangeL lo n) g w) Q := wp_loop P h0 (fun i x g w hx p => by
      obtain ⟨hi, rfl⟩ := rangeL_get _ _ _ _ hx
      exact hb i g w hi p) (by rw [rangeL_len]; exact he)
/-- a loop that only computes: env by env -/
theorem loop_eq {t : G} {b : S} {vs : List Nat} {lo : Int} {n : Nat} {w : Wd} (Gs : Nat → Env) (hb : ∀ i, i < n → ∃ g', turn t b vs (.int (lo + i)) (Gs i) w = some (.nx g', w) ∧ wipeE g' vs = wipeE (Gs (i + 1)) vs) :
    loopS t b vs (rangeL lo n) (Gs 0) w = some (.nx (wipeE (Gs n) vs), w) := by
  have h := wp_range (t := t) (b := b) (vs := vs) (lo := lo) (n := n) (g := Gs 0) (w := w) (Q := fun o w' => o = .nx (wipeE (Gs n) vs) ∧ w' = w) (fun i g w' => wipeE g vs = wipeE (Gs i) vs ∧ w' = w) ⟨rfl, rfl⟩
    (fun i g w' hi ⟨e, e2⟩ => by
      subst e2
      obtain ⟨g', h1, h2⟩ := hb i hi
      have e3 : turn t b vs (.int (lo + i)) g w' = turn t b vs (.int (lo + i)) (Gs i) w' := by unfold turn; rw [e]
      rw [e3, h1, wp_some]
      exact ⟨h2, rfl⟩) (fun g w' ⟨e, e2⟩ => ⟨by rw [e], e2⟩)
  obtain ⟨a, w', e, rfl, rfl⟩ := wp_eq h
  exact e
/-! ### comprehensions -/
def turnE (t : G) (c : T) (e : E) (x : D) (g : Env) (w : Wd) : Option (Option D × Wd) := match t x g with
  | some g1 => bnd (c g1 w) fun k w1 => if k = true then bnd (e g1 w1) fun d w2 => some (some d, w2) else some (none, w1)
  | none => none
theorem lc_cons (t : G) (c : T) (e : E) (g : Env) (x : D) (xs : List D) (w : Wd) : lcLoop t c e g (x :: xs) w = bnd (turnE t c e x g w) fun r w1 => bnd (lcLoop t c e g xs w1) fun ds w2 => some ((match r with
  | some d => d :: ds
  | none => ds), w2) := by
  unfold turnE
  rw [lcLoop]
  cases t x g with
  | none => rfl
  | some g1 =>
    dsimp only
    cases c g1 w with
    | none => rfl
    | some p =>
      simp only [bnd]
      split
      · cases e g1 p.2 with
        | none => rfl
        | some q => rfl
      · cases h : lcLoop t c e g xs p.2 <;> simp only [h]
theorem lc_eq {t : G} {c : T} {e : E} {g : Env} {w : Wd} (f : D → Option D) : ∀ (xs : List D), (∀ x ∈ xs, turnE t c e x g w = some (f x, w)) → lcLoop t c e g xs w = some (xs.filterMap f, w)
  | [], _ => rfl
  | x :: xs, h => by
    rw [lc_cons, h x List.mem_cons_self, bnd_some, lc_eq f xs fun y hy => h y (List.mem_cons_of_mem _ hy), bnd_some, List.filterMap_cons]
    cases f x <;> rfl
theorem lc_range {t : G} {c : T} {e : E} {g : Env} {w : Wd} {lo : Int} {n : Nat} (f : Nat → Option D) (h : ∀ i, i < n → turnE t c e (.int (lo + i)) g w = some (f i, w)) : lcLoop t c e g (rangeL lo n) w = some ((List.range n).filterMap f, w) := by
  have : ∀ (l : List Nat), (∀ i ∈ l, i < n) → lcLoop t c e g (l.map fun i => (.int (lo + (i : Nat)) : D)) w = some (l.filterMap f, w) := by
    intro l
    induction l with
    | nil => intro _; rfl
    | cons i l ih =>
      intro hl
      rw [List.map_cons, lc_cons, h i (hl i List.mem_cons_self), bnd_some, ih fun j hj => hl j (List.mem_cons_of_mem _ hj), bnd_some, List.filterMap_cons]
      cases f i <;> rfl
  exact this _ fun i hi => List.mem_range.mp hi
/-- two lists, item by item -/
inductive All2 {α β : Type} (R : α → β → Prop) : List α → List β → Prop
  | nil : All2 R [] []
  | cons {a b as bs} (h : R a b) (t : All2 R as bs) : All2 R (a :: as) (b :: bs)
/-- with draws: each turn gives an item -/
theorem lc_wp {t : G} {c : T} {e : E} {g : Env} {R : D → D → Prop} {I : Wd → Prop} : ∀ (xs : List D) (w : Wd), I w → (∀ x ∈ xs, ∀ w, I w → wp (turnE t c e x g w) fun r w' => I w' ∧ ∃ d, r = some d ∧ R x d) → wp (lcLoop t c e g xs w) fun ds w' => I w' ∧ All2 R xs ds
  | [], w, hw, _ => wp_of (show lcLoop t c e g [] w = some ([], w) from rfl) ⟨hw, .nil⟩
  | x :: xs, w, hw, h => by
    rw [lc_cons, wp_bnd]
    refine wp_mono (h x List.mem_cons_self w hw) fun r w1 ⟨i1, d, e, rd⟩ => ?_
    subst e
    rw [wp_bnd]
    refine wp_mono (lc_wp xs w1 i1 fun y hy => h y (List.mem_cons_of_mem _ hy)) fun ds w2 ⟨i2, f⟩ => ?_
    rw [wp_some]
    exact ⟨i2, .cons rd f⟩
/-! ### the draws -/
theorem next_wp {m : Int} (hm : 0 < m) (l : List Int) : ∃ v l', fnNext [tokW, .int m] (some l) = some (.int v, some l') ∧ 0 ≤ v ∧ v < m := by
  cases l with
  | nil => exact ⟨0, [], rfl, Int.le_refl _, hm⟩
  | cons x r =>
    refine ⟨x.fmod m, r, ?_, Int.fmod_nonneg_of_pos _ hm, Int.fmod_lt_of_pos _ hm⟩
    show (if m ≠ 0 then some (.int (x.fmod m), some r) else none : Option (D × Wd)) = _
    rw [if_pos (by omega)]
/-- a draw, anywhere -/
theorem wp_next {m : Int} (hm : 0 < m) {l : List Int} {P : D → Wd → Prop} (h : ∀ v l', 0 ≤ v → v < m → P (.int v) (some l')) : wp (fnNext [tokW, .int m] (some l)) P := by
  obtain ⟨v, l', e, h1, h2⟩ := next_wp hm l
  exact wp_of e (h v l' h1 h2)
theorem wp_fn {n k : Nat} {b : S} {ds : List D} {w : Wd} {P : D → Wd → Prop} (hn : ds.length = n) (h : wp (b (ds.map some ++ List.replicate k none) w) fun o w' => ∃ d, o = .rt d ∧ P d w') : wp (bodyFn n k b ds w) P := by
  unfold bodyFn
  rw [if_pos hn, wp_bnd]
  refine wp_mono h fun o w' ⟨d, e, p⟩ => ?_
  subst e
  exact wp_of rfl p
/-- a def that only computes -/
theorem fn_eq {n k : Nat} {b : S} {ds : List D} {w : Wd} {r : D} (hn : ds.length = n) (h : b (ds.map some ++ List.replicate k none) w = some (.rt r, w)) : bodyFn n k b ds w = some (r, w) := by
  unfold bodyFn
  rw [if_pos hn, h]
  rfl
end Q

set_option Elab.async false
set_option linter.all false
set_option autoImplicit false
set_option maxRecDepth 100000
/-! QMO: the operators at known kinds. -/
namespace Q
open PySem PySem.W
theorem size_eq : sizeLine = 16777216 := sizeLine_eq
section
variable (i j : Int) (xs ys : List D) (d : D)
@[simp] theorem addD_i : addD (.int i) (.int j) = some (.int (i + j)) := Eq.trans rfl rfl
@[simp] theorem addI_i : addI (.int i) (.int j) = some (.int (i + j)) := Eq.trans rfl rfl
@[simp] theorem subD_i : subD (.int i) (.int j) = some (.int (i - j)) := Eq.trans rfl rfl
@[simp] theorem negD_i : negD (.int i) = some (.int (-i)) := Eq.trans rfl rfl
@[simp] theorem intD_i : intD (.int i) = some (.int i) := Eq.trans rfl rfl
@[simp] theorem intD_b (b : Bool) : intD (.bool b) = some (.int (if b then 1 else 0)) := Eq.trans rfl rfl
@[simp] theorem absD_i : absD (.int i) = some (.int (if i < 0 then -i else i)) := Eq.trans rfl rfl
theorem mulI_i : mulI (.int i) (.int j) = if (small64 i || small64 j) = true then some (.int (i * j)) else none := rfl
theorem pow1018 : powD (.int 10) (.int 18) = some (.int 1000000000000000000) := rfl
theorem small_of {i : Int} (h : -1000000 ≤ i) (h2 : i ≤ 1000000) : small64 i = true := by unfold small64; simp; omega
theorem mulI_l {i j : Int} (h : small64 i = true) : mulI (.int i) (.int j) = some (.int (i * j)) := by rw [mulI_i, h]; rfl
theorem mulI_r {i j : Int} (h : small64 j = true) : mulI (.int i) (.int j) = some (.int (i * j)) := by rw [mulI_i, h, Bool.or_true]; rfl
theorem divD_i {i j : Int} (h : j ≠ 0) (h2 : j.natAbs < 1073741824) : divD (.int i) (.int j) = some (.int (i.fdiv j)) := by
  exact if_pos ⟨h, h2⟩
theorem modD_i {i j : Int} (h : j ≠ 0) : modD (.int i) (.int j) = some (.int (i.fmod j)) := by
  exact if_pos h
@[simp] theorem max2D_i : max2D (.int i) (.int j) = some (.int (if j > i then j else i)) := Eq.trans rfl rfl
@[simp] theorem min2D_i : min2D (.int i) (.int j) = some (.int (if j < i then j else i)) := Eq.trans rfl rfl
@[simp] theorem lenD_l : lenD (.list xs) = some (.int xs.length) := Eq.trans rfl rfl
@[simp] theorem lenD_t : lenD (.tuple xs) = some (.int xs.length) := Eq.trans rfl rfl
@[simp] theorem lenD_s (ns : List Int) : lenD (tokS ns) = some (.int ns.length) := by simp [lenD, tokS, scrOf]
@[simp] theorem tupD_l : tupD (.list xs) = some (.tuple xs) := Eq.trans rfl rfl
@[simp] theorem tupD_t : tupD (.tuple xs) = some (.tuple xs) := Eq.trans rfl rfl
@[simp] theorem itemsD_l : itemsD (.list xs) = some xs := Eq.trans rfl rfl
@[simp] theorem itemsD_t : itemsD (.tuple xs) = some xs := Eq.trans rfl rfl
@[simp] theorem ixD_l : ixD (.list xs) (.int i) = L2.atI xs i := Eq.trans rfl rfl
@[simp] theorem ixD_t : ixD (.tuple xs) (.int i) = L2.atI xs i := Eq.trans rfl rfl
@[simp] theorem ixD_s (ns : List Int) : ixD (tokS ns) (.int i) = L2.atI (ns.map .int) i := Eq.trans rfl rfl
@[simp] theorem zipD_l : zipD (.list xs) (.list ys) = some ((xs.zip ys).map fun p => .tuple [p.1, p.2]) := Eq.trans rfl rfl
@[simp] theorem zipD_t : zipD (.tuple xs) (.tuple ys) = some ((xs.zip ys).map fun p => .tuple [p.1, p.2]) := Eq.trans rfl rfl
@[simp] theorem cutD_l (lo hi : Option Int) : cutD (.list xs) lo hi = some (.list (cutL xs lo hi)) := Eq.trans rfl rfl
@[simp] theorem cutD_t (lo hi : Option Int) : cutD (.tuple xs) lo hi = some (.tuple (cutL xs lo hi)) := Eq.trans rfl rfl
@[simp] theorem isND_n : isND d .none = some (isNoneD d) := Eq.trans rfl rfl
@[simp] theorem isNotND_n : isNotND d .none = some (!isNoneD d) := Eq.trans rfl rfl
@[simp] theorem isNone_n : isNoneD .none = true := Eq.trans rfl rfl
@[simp] theorem isNone_i : isNoneD (.int i) = false := Eq.trans rfl rfl
@[simp] theorem isNone_b (b : Bool) : isNoneD (.bool b) = false := Eq.trans rfl rfl
@[simp] theorem isNone_s (s : Str) : isNoneD (.str s) = false := Eq.trans rfl rfl
@[simp] theorem isNone_l : isNoneD (.list xs) = false := Eq.trans rfl rfl
@[simp] theorem isNone_t : isNoneD (.tuple xs) = false := Eq.trans rfl rfl
@[simp] theorem boolD_b (b : Bool) : boolD (.bool b) = some b := Eq.trans rfl rfl
theorem apD_l {xs : List D} {d : D} (h : xs.length < sizeLine) : apD (.list xs) d = some (.list (xs ++ [d])) := if_pos h
theorem exD_l {xs ys : List D} (h : xs.length + ys.length ≤ sizeLine) : exD (.list xs) (.list ys) = some (.list (xs ++ ys)) := if_pos h
theorem catD_l {xs ys : List D} (h : xs.length + ys.length ≤ sizeLine) : catD (.list xs) (.list ys) = some (.list (xs ++ ys)) := if_pos h
end
theorem range1_i (n : Int) : range1 (.int n) = if small62 n = true then some (rangeL 0 n.toNat) else none := rfl
theorem range2_i (m n : Int) : range2 (.int m) (.int n) = if (small62 m && small62 n) = true then some (rangeL m (n - m).toNat) else none := rfl
theorem small62_of {n : Int} (h : -100000000 ≤ n) (h2 : n ≤ 100000000) : small62 n = true := by unfold small62; simp; omega
theorem r1_nat {n : Nat} (h : n ≤ sizeLine) : range1 (.int (n : Int)) = some (rangeL 0 n) := by
  rw [size_eq] at h
  rw [range1_i, if_pos (small62_of (by omega) (by omega)), Int.toNat_natCast]
theorem r1_int {n : Int} (h0 : 0 ≤ n) (h : n ≤ 1000000) : range1 (.int n) = some (rangeL 0 n.toNat) := by
  rw [range1_i, if_pos (small62_of (by omega) (by omega))]
theorem r2_nat {m n : Nat} (h : n ≤ sizeLine) (h2 : m ≤ sizeLine) : range2 (.int (m : Int)) (.int (n : Int)) = some (rangeL m (n - m)) := by
  rw [size_eq] at h h2
  have e : ((n : Int) - (m : Int)).toNat = n - m := by omega
  rw [range2_i, small62_of (by omega) (by omega), small62_of (by omega) (by omega), if_pos (by rfl), e]
theorem atI_get {α : Type} {xs : List α} {k : Nat} {x : α} (h : xs[k]? = some x) : L2.atI xs (k : Int) = some x := by
  have hl := (List.getElem?_eq_some_iff.mp h).1
  unfold L2.atI L2.ixN
  rw [if_pos (Int.natCast_nonneg k), if_pos (by omega)]
  simpa using h
theorem atI_lt {α : Type} (xs : List α) {k : Nat} (h : k < xs.length) : L2.atI xs (k : Int) = some xs[k] := atI_get (List.getElem?_eq_getElem h)
theorem atI_neg1 {α : Type} {xs : List α} {x : α} (h : xs.getLast? = some x) : L2.atI xs (-1) = some x := by
  have hne : xs ≠ [] := fun z => by subst z; simp at h
  have hl : 0 < xs.length := List.length_pos_iff.mpr hne
  unfold L2.atI L2.ixN
  rw [if_neg (by omega), if_pos (by omega)]
  have e : (-1 + (xs.length : Int)).toNat = xs.length - 1 := by omega
  rw [e]
  rw [List.getLast?_eq_getElem?] at h
  exact h
/-! comparisons -/
@[simp] theorem eqD_i (i j : Int) : eqD (.int i) (.int j) = some (decide (i = j)) := by
  unfold eqD
  rw [if_pos (by rfl)]
  simp only [PyData.eqv]
  rw [beq_decide]
@[simp] theorem neD_i (i j : Int) : neD (.int i) (.int j) = some (!decide (i = j)) := by unfold neD; rw [eqD_i]; rfl
@[simp] theorem ltD_i (i j : Int) : ltD (.int i) (.int j) = some (decide (i < j)) := by
  unfold ltD; rw [if_pos (by rfl), dataLt_int]
@[simp] theorem gtD_i (i j : Int) : gtD (.int i) (.int j) = some (decide (j < i)) := by
  unfold gtD; rw [if_pos (by rfl), dataLt_int]
@[simp] theorem leD_i (i j : Int) : leD (.int i) (.int j) = some (decide (i ≤ j)) := by
  unfold leD; rw [if_pos (by rfl), dataLt_int]
  congr 1
  by_cases h : j < i
  · rw [decide_eq_true h, decide_eq_false (by omega)]; rfl
  · rw [decide_eq_false h, decide_eq_true (by omega)]; rfl
@[simp] theorem geD_i (i j : Int) : geD (.int i) (.int j) = some (decide (j ≤ i)) := by
  unfold geD; rw [if_pos (by rfl), dataLt_int]
  congr 1
  by_cases h : i < j
  · rw [decide_eq_true h, decide_eq_false (by omega)]; rfl
  · rw [decide_eq_false h, decide_eq_true (by omega)]; rfl
theorem eqD_of {α : Type} [DecidableEq α] [Datum α] (x y : α) (h : Datum.depth α ≤ 60) : eqD (Datum.toD x) (Datum.toD y) = some (decide (x = y)) := by
  unfold eqD lowD
  have h1 := Datum.depth_le x
  have h2 := Datum.depth_le y
  rw [if_pos (by simp [Datum.plain]; omega), Datum.eqv]
theorem neD_of {α : Type} [DecidableEq α] [Datum α] (x y : α) (h : Datum.depth α ≤ 60) : neD (Datum.toD x) (Datum.toD y) = some (!decide (x = y)) := by
  unfold neD; rw [eqD_of x y h]; rfl
/-- a plain thing beside an empty list or tuple -/
theorem depth_mem {xs : List D} {n : Nat} (h : ∀ x ∈ xs, x.depth ≤ n) : PyData.depthAll xs ≤ n := by
  induction xs with
  | nil => simp [PyData.depthAll]
  | cons x xs ih =>
    simp only [PyData.depthAll]
    have := h x List.mem_cons_self
    have := ih fun y hy => h y (List.mem_cons_of_mem _ hy)
    omega
theorem plain_all {xs : List D} (h : ∀ x ∈ xs, x.plain = true) : PyData.plainAll xs = true := by
  induction xs with
  | nil => rfl
  | cons x xs ih =>
    simp only [PyData.plainAll, Bool.and_eq_true]
    exact ⟨h x List.mem_cons_self, ih fun y hy => h y (List.mem_cons_of_mem _ hy)⟩
/-- data that compares at once: plain and low -/
def Low (n : Nat) (d : D) : Prop := d.plain = true ∧ d.depth ≤ n
theorem Low.i (n : Nat) (i : Int) : Low n (.int i) := ⟨rfl, Nat.zero_le _⟩
theorem Low.t {n : Nat} {xs : List D} (h : ∀ x ∈ xs, Low n x) : Low (n + 1) (.tuple xs) := by
  refine ⟨?_, ?_⟩
  · simp only [PyData.plain]; exact plain_all fun x hx => (h x hx).1
  · simp only [PyData.depth]; have := depth_mem fun x hx => (h x hx).2; omega
theorem Low.l {n : Nat} {xs : List D} (h : ∀ x ∈ xs, Low n x) : Low (n + 1) (.list xs) := by
  refine ⟨?_, ?_⟩
  · simp only [PyData.plain]; exact plain_all fun x hx => (h x hx).1
  · simp only [PyData.depth]; have := depth_mem fun x hx => (h x hx).2; omega
theorem Low.mono {m n : Nat} {d : D} (h : Low m d) (k : m ≤ n) : Low n d := ⟨h.1, Nat.le_trans h.2 k⟩
theorem eqD_low {x y : D} (hx : Low 60 x) (hy : Low 60 y) : eqD x y = some (PyData.eqv x y) := by
  unfold eqD lowD
  rw [if_pos (by simp [hx.1, hy.1, hx.2, hy.2])]
theorem neD_low {x y : D} (hx : Low 60 x) (hy : Low 60 y) : neD x y = some (!PyData.eqv x y) := by
  unfold neD; rw [eqD_low hx hy]; rfl
theorem eqv_l0 (xs : List D) : PyData.eqv (.list xs) (.list []) = xs.isEmpty := by cases xs <;> simp [PyData.eqv, PyData.eqvAll]
theorem eqv_t0 (xs : List D) : PyData.eqv (.tuple xs) (.tuple []) = xs.isEmpty := by cases xs <;> simp [PyData.eqv, PyData.eqvAll]
/-- if at the leaves -/
@[simp] theorem ite_some {α : Type} {c : Prop} [Decidable c] (a b : α) : (if c then some a else some b) = some (if c then a else b) := by split <;> rfl
@[simp] theorem ite_pairW {α : Type} {c : Prop} [Decidable c] (a b : α) (w : Wd) : (if c then (a, w) else (b, w)) = (if c then a else b, w) := by split <;> rfl
@[simp] theorem ite_int {c : Prop} [Decidable c] (a b : Int) : (if c then (.int a : D) else .int b) = .int (if c then a else b) := by split <;> rfl
@[simp] theorem ite_nx {c : Prop} [Decidable c] (a b : Env) : (if c then Out.nx a else .nx b) = .nx (if c then a else b) := by split <;> rfl
@[simp] theorem ite_consE {c : Prop} [Decidable c] (a b : Option D) (xs ys : Env) : (if c then a :: xs else b :: ys) = (if c then a else b) :: (if c then xs else ys) := by split <;> rfl
/-! comprehensions over mapped lists -/
theorem lc_map {α : Type} {t : G} {c : T} {e : E} {g : Env} {w : Wd} (enc : α → D) (f : α → D) : ∀ (l : List α), (∀ a ∈ l, turnE t c e (enc a) g w = some (some (f a), w)) → lcLoop t c e g (l.map enc) w = some (l.map f, w)
  | [], _ => rfl
  | a :: l, h => by
    rw [List.map_cons, lc_cons, h a List.mem_cons_self, bnd_some, lc_map enc f l fun y hy => h y (List.mem_cons_of_mem _ hy), bnd_some, List.map_cons]
theorem lc_rmap {t : G} {c : T} {e : E} {g : Env} {w : Wd} {lo : Int} {n : Nat} (f : Nat → D) (h : ∀ i, i < n → turnE t c e (.int (lo + i)) g w = some (some (f i), w)) : lcLoop t c e g (rangeL lo n) w = some ((List.range n).map f, w) := by
  rw [lc_range (fun i => some (f i)) h]
  congr 2
  exact congrFun List.filterMap_eq_map _
theorem lc_rfilter {t : G} {c : T} {e : E} {g : Env} {w : Wd} {lo : Int} {n : Nat} (p : Nat → Bool) (f : Nat → D) (h : ∀ i, i < n → turnE t c e (.int (lo + i)) g w = some (if p i = true then some (f i) else none, w)) : lcLoop t c e g (rangeL lo n) w = some (((List.range n).filter p).map f, w) := by
  rw [lc_range (fun i => if p i = true then some (f i) else none) h]
  congr 2
  induction List.range n with
  | nil => rfl
  | cons x xs ih =>
    rw [List.filterMap_cons, List.filter_cons]
    cases p x with
    | true => simp [ih]
    | false => simp [ih]
@[simp] theorem cutL_1 {α : Type} (xs : List α) : cutL xs (some 1) none = xs.drop 1 := by
  unfold cutL
  rw [show HT.sIx xs.length 0 (some 1) = min 1 xs.length from HT.sIx_nat xs.length 0 1, HT.sIx_none]
  cases xs with
  | nil => rfl
  | cons x r =>
    rw [show min 1 (x :: r).length = 1 by
      rw [List.length_cons]
      omega]
    show (List.take ((x :: r).length - 1) r) = r
    rw [List.length_cons, Nat.add_sub_cancel]
    exact List.take_length
/-! min and max -/
theorem mm_plain {d : D} {x : D} {xs : List D} (hi : itemsD d = some (x :: xs)) (hl : Low 60 d) (ha : alikeB (x :: xs) = true) (hn : noNoneB (x :: xs) = true) : minD1 d = some (minD x xs) ∧ maxD1 d = some (maxD x xs) := by
  unfold minD1 maxD1
  rw [hi]
  dsimp only
  rw [if_pos (by simp [hl.1, ha, hn, lowD, hl.2]), if_pos (by simp [hl.1, ha, hn, lowD, hl.2])]
  exact ⟨rfl, rfl⟩
theorem alike_intsB (l : List Int) : alikeB (l.map PyData.int) = true ∧ noNoneB (l.map PyData.int) = true := by
  constructor
  · unfold alikeB
    simp [alike]
  · unfold noNoneB
    simp
theorem mm_ints {l : List Int} (h : l ≠ []) : ∃ a b : Int, minD1 (.tuple (l.map .int)) = some (.int a) ∧ maxD1 (.tuple (l.map .int)) = some (.int b) := by
  cases l with
  | nil => exact absurd rfl h
  | cons x xs =>
    obtain ⟨h1, h2⟩ := alike_intsB (x :: xs)
    have hl : Low 60 (.tuple ((x :: xs).map PyData.int)) := (Low.t (n := 1) fun y hy => by
      obtain ⟨i, _, rfl⟩ := List.mem_map.mp hy
      exact Low.i 1 i).mono (by omega)
    obtain ⟨h3, h4⟩ := mm_plain (x := .int x) (xs := xs.map .int) rfl hl h1 h2
    have m1 := minD_mem (.int x) (xs.map .int)
    have m2 := maxD_mem (.int x) (xs.map .int)
    obtain ⟨a, _, ha⟩ := List.mem_map.mp (show minD (.int x) (xs.map .int) ∈ (x :: xs).map PyData.int from m1)
    obtain ⟨b, _, hb⟩ := List.mem_map.mp (show maxD (.int x) (xs.map .int) ∈ (x :: xs).map PyData.int from m2)
    exact ⟨a, b, by rw [h3, ha], by rw [h4, hb]⟩
theorem seq_det {a b : S} {g g' : Env} {w w' : Wd} {P : Out → Wd → Prop} (h : a g w = some (.nx g', w')) (k : wp (b g' w') P) : wp (sSeq a b g w) P := by
  rw [wp_seq, h, wp_some]; exact k
theorem seq_wp {a b : S} {g : Env} {w : Wd} {P : Out → Wd → Prop} {R : Out → Wd → Prop} (h : wp (a g w) R) (k : ∀ o w', R o w' → thenS P b o w') : wp (sSeq a b g w) P := by
  rw [wp_seq]; exact wp_mono h k
/-- a list of draws -/
theorem lc_draw {i : Nat} {e : E} {g : Env} {P : Int → Prop} (hi : i < g.length) (he : ∀ x l, wp (e (g.set i (some x)) (some l)) fun d w' => ∃ v l', d = .int v ∧ w' = some l' ∧ P v) :
    ∀ (xs : List D) (l : List Int), wp (lcLoop (gName i) tYes e g xs (some l)) fun ds w' => ∃ vs : List Int, ∃ l', ds = vs.map .int ∧ w' = some l' ∧ vs.length = xs.length ∧ ∀ v ∈ vs, P v
  | [], l => wp_of (show lcLoop (gName i) tYes e g [] (some l) = some ([], some l) from rfl) ⟨[], l, rfl, rfl, rfl, fun v hv => by simp at hv⟩
  | x :: xs, l => by
    rw [lc_cons, wp_bnd]
    have h1 : turnE (gName i) tYes e x g (some l) = bnd (e (g.set i (some x)) (some l)) fun d w2 => some (some d, w2) := by
      unfold turnE
      rw [s_gName, if_pos hi]
      rfl
    rw [h1, wp_bnd]
    refine wp_mono (he x l) fun d w' ⟨v, l', hd, hw, hv⟩ => ?_
    subst hd hw
    rw [wp_some, wp_bnd]
    refine wp_mono (lc_draw hi he xs l') fun ds w2 ⟨vs, l2, h1, h2, h3, h4⟩ => ?_
    subst h1 h2
    rw [wp_some]
    exact ⟨v :: vs, l2, rfl, rfl, by simp [h3], fun u hu => by
      rcases List.mem_cons.mp hu with rfl | hu
      · exact hv
      · exact h4 u hu⟩
end Q

set_option Elab.async false
set_option linter.all false
set_option autoImplicit false
set_option maxRecDepth 100000
/-! QMD: the two defs that the laws share: the draws, alike. -/
namespace Q
open PySem PySem.W
def bDraws_0 : S :=
    sIf (tCmp gtD (cVar 6) (cK (.int 0))) (sSeq (sApp 2 (cOp2 modD (cOp1 intD (cVar 6)) (cK (.int 997))))
    (sSet (gName 6) (cOp2 divD (cVar 6) (cK (.int 997))))) (sPass)
def bDraws_1 : S :=
    sSeq (sSet (gName 5) (cOp1 absD (cOp1 intD (cOp2 ixD (cVar 0) (cVar 4)))))
    (sSeq (sSet (gName 3) (cOp2 modD (cOp1 intD (cOp2 addD (cOp2 addD (cOp2 mulI (cVar 3) (cK (.int 48271))) (cOp2 modD (cVar 5) (cK (.int 1000003)))) (cVar 4))) (cK (.int 65537))))
    (sSeq (sSet (gName 6) (cIf (tCmp geD (cVar 5) (cOp2 powD (cK (.int 10)) (cK (.int 18)))) (cVar 5) (cK (.int 0))))
    (sSeq (sSet (gName 2) (cOp2 catD (cVar 2) (cIf (tCmp eqD (cVar 6) (cK (.int 0))) (cLst [cOp2 modD (cOp1 intD (cVar 5)) (cK (.int 997)), cOp2 modD (cOp2 modD (cOp1 intD (cOp2 addD (cOp2 mulI (cVar 3) (cK (.int 69621))) (cK (.int 5)))) (cK (.int 65521))) (cK (.int 997))]) (cLst []))))
    (sFor (itR1 (cK (.int 60))) (gName 7) (bDraws_0) [7]))))
def bDraws_2 : S :=
    sSeq (sSet (gName 3) (cOp2 modD (cOp1 intD (cOp2 addD (cOp2 addD (cOp2 mulI (cVar 3) (cK (.int 16807))) (cVar 4)) (cK (.int 1)))) (cK (.int 65537))))
    (sApp 2 (cOp2 modD (cOp1 intD (cVar 3)) (cK (.int 997))))
def bDraws : S :=
    sSeq (sPar [gName 2, gName 3] [cLst [], cK (.int 7)])
    (sSeq (sFor (itR1 (cOp1 lenD (cVar 0))) (gName 4) (bDraws_1) [4, 5, 6, 7])
    (sSeq (sFor (itR1 (cVar 1)) (gName 4) (bDraws_2) [4])
    (sRet (cCut (cVar 2) none (some (cVar 1))))))
def bAlike (self : Fn) : S :=
    sSeq (sIf (tVal (cOp1 (isaD .dict) (cVar 1))) (sDead) (sPass))
    (sSeq (sIf (tOr (tVal (cOp1 (isaD .tuple) (cVar 1))) (tVal (cOp1 (isaD .list) (cVar 1)))) (sSeq (sSet (gName 2) (cIf (tVal (cOp1 (isaD .tuple) (cVar 1))) (cOp1 (isaD .tuple) (cVar 0)) (cOp1 (isaD .list) (cVar 0))))
    (sRet (cAnd (cVar 2) (cAnd (cT (tCmp eqD (cOp1 lenD (cVar 0)) (cOp1 lenD (cVar 1)))) (cT (tCmp eqD (cLc (itR1 (cOp1 lenD (cVar 1))) (gName 4) (tNot (tVal (cCall self [cOp2 ixD (cVar 0) (cVar 4), cOp2 ixD (cVar 1) (cVar 4)]))) (cVar 4) [4]) (cLst []))))))) (sPass))
    (sSeq (sIf (tOr (tCmp isND (cVar 1) (cK .none)) (tVal (cOp1 (isaD .str) (cVar 1)))) (sRet (cIf (tCmp isND (cVar 1) (cK .none)) (cT (tCmp isND (cVar 0) (cK .none))) (cAnd (cOp1 (isaD .str) (cVar 0)) (cT (tCmp eqD (cVar 0) (cVar 1)))))) (sPass))
    (sRet (cAnd (cOp1 (isaD .int) (cVar 0)) (cAnd (cT (tCmp eqD (cOp1 (isaD .bool) (cVar 0)) (cOp1 (isaD .bool) (cVar 1)))) (cT (tCmp eqD (cVar 0) (cVar 1))))))))
def eDr (sc : D) (M : Int) (l : List Int) (m : Int) : Env := [some sc, some (.int M), some (.list (l.map .int)), some (.int m), none, none, none, none]
theorem eDr_w (sc : D) (M : Int) (l : List Int) (m : Int) : wipeE (eDr sc M l m) [4, 5, 6, 7] = eDr sc M l m := rfl
theorem eDr_w4 (sc : D) (M : Int) (l : List Int) (m : Int) : wipeE (eDr sc M l m) [4] = eDr sc M l m := rfl
theorem app_int {l : List Int} {v : Int} (h : l.length < sizeLine) : apD (.list (l.map .int)) (.int v) = some (.list ((l ++ [v]).map .int)) := by
  rw [apD_l (by simpa using h), List.map_append]; rfl
theorem cat_int {l m : List Int} (h : l.length + m.length ≤ sizeLine) : catD (.list (l.map .int)) (.list (m.map .int)) = some (.list ((l ++ m).map .int)) := by
  rw [catD_l (by simpa using h), List.map_append]
@[simp] theorem isI_some (i : Int) : ∃ j, (PyData.int i) = .int j := ⟨i, rfl⟩

theorem digits_loop (ns : List Int) (M : Int) (l : List Int) (m k c r : Int) (hz : l.length ≤ 100000) (w : Wd) (Q : Out → Wd → Prop) (h : ∀ (l' : List Int) (r' : Int), l'.length ≤ l.length + 60 → Q (.nx [some (tokS ns), some (.int M), some (.list (l'.map .int)), some (.int m), some (.int k), some (.int c), some (.int r'), none]) w) :
    wp (loopS (gName 7) bDraws_0 [7] (rangeL 0 60) [some (tokS ns), some (.int M), some (.list (l.map .int)), some (.int m), some (.int k), some (.int c), some (.int r), none] w) Q := by
  refine wp_range (fun i g w' => w' = w ∧ ∃ (l' : List Int) (r' : Int), wipeE g [7] = [some (tokS ns), some (.int M), some (.list (l'.map .int)), some (.int m), some (.int k), some (.int c), some (.int r'), none] ∧ l'.length ≤ l.length + i) ⟨rfl, l, r, rfl, by omega⟩ (fun i g w' hi ⟨e, l', r', hg, hl⟩ => ?_) fun g w' ⟨e, l', r', hg, hl⟩ => ?_
  · subst e
    generalize hR : aftS _ Q [7] i = R
    unfold turn bDraws_0
    rw [hg]
    by_cases hr : 0 < r'
    · simp -implicitDefEqProofs [hr, modD_i, divD_i]
      rw [app_int (by rw [size_eq]; omega)]
      simp -implicitDefEqProofs [modD_i, divD_i]
      subst hR
      exact ⟨rfl, l' ++ [r'.fmod 997], r'.fdiv 997, by simp, by simp; omega⟩
    · simp -implicitDefEqProofs [hr]
      subst hR
      exact ⟨rfl, _, _, rfl, by omega⟩
  · subst e
    rw [hg]
    exact h l' r' hl
theorem draws_turn (ns : List Int) (M : Int) (l : List Int) (m : Int) (k : Nat) (hk : k < ns.length) (hk2 : k ≤ 1000) (hz : l.length ≤ 10000) (w : Wd) : wp (turn (gName 4) bDraws_1 [4, 5, 6, 7] (.int (k : Int)) (eDr (tokS ns) M l m) w) fun o w' => w' = w ∧ ∃ (g : Env) (l' : List Int) (m' : Int), o = .nx g ∧ wipeE g [4, 5, 6, 7] = eDr (tokS ns) M l' m' ∧ l'.length ≤ l.length + 62 := by
  have hs : ∀ i : Int, i = 48271 ∨ i = 69621 ∨ i = 16807 → small64 i = true := by
    rintro i (rfl | rfl | rfl) <;> decide
  have hx : L2.atI (ns.map PyData.int) (k : Int) = some (.int ns[k]) := by rw [atI_lt _ (by simpa using hk)]; simp
  have h60 : range1 (.int 60) = some (rangeL 0 60) := r1_int (by omega) (by omega)
  generalize hR : (fun (o : Out) (w' : Wd) => w' = w ∧ ∃ (g : Env) (l' : List Int) (m' : Int), o = .nx g ∧ wipeE g [4, 5, 6, 7] = eDr (tokS ns) M l' m' ∧ l'.length ≤ l.length + 62) = R
  unfold turn bDraws_1 eDr
  simp -implicitDefEqProofs [hx, mulI_r (hs 48271 (.inl rfl)), mulI_r (hs 69621 (.inr (.inl rfl))), modD_i, pow1018, h60]
  generalize (if ns[k] < 0 then -ns[k] else ns[k]) = c
  generalize (m * 48271 + c.fmod 1000003 + (k : Int)).fmod 65537 = m'
  have fin : ∀ (l1 : List Int) (r : Int), l1.length ≤ l.length + 2 → wp (loopS (gName 7) bDraws_0 [7] (rangeL 0 60) [some (tokS ns), some (.int M), some (.list (l1.map .int)), some (.int m'), some (.int k), some (.int c), some (.int r), none] w) R := fun l1 r h1 => by
    refine digits_loop ns M l1 m' k c r (by omega) w R fun l' r' hl => ?_
    subst hR
    exact ⟨rfl, _, l', m', rfl, by simp -implicitDefEqProofs [eDr], by omega⟩
  have e1 : PyData.list ((l ++ [c.fmod 997, ((m' * 69621 + 5).fmod 65521).fmod 997]).map .int) = PyData.list (l.map .int ++ [.int (c.fmod 997), .int (((m' * 69621 + 5).fmod 65521).fmod 997)]) := by simp
  by_cases h1 : 1000000000000000000 ≤ c
  · have h2 : ¬ c = 0 := by omega
    have h3 : ¬ c < 1000000000000000000 := by omega
    simp -implicitDefEqProofs [h1, h2, h3]
    rw [catD_l (by rw [size_eq]; simp; omega)]
    simp -implicitDefEqProofs
    exact fin l c (by omega)
  · have h3 : c < 1000000000000000000 := by omega
    simp -implicitDefEqProofs [h1, h3]
    rw [catD_l (by rw [size_eq]; simp; omega), ← e1]
    simp only [lft_some, wp_some]
    exact fin _ 0 (by simp)
theorem tail_turn (sc : D) (M : Int) (l : List Int) (m : Int) (k : Nat) (hk2 : k ≤ 100000) (hz : l.length ≤ 1000000) (w : Wd) : wp (turn (gName 4) bDraws_2 [4] (.int (k : Int)) (eDr sc M l m) w) fun o w' => w' = w ∧ ∃ (g : Env) (l' : List Int) (m' : Int), o = .nx g ∧ wipeE g [4] = eDr sc M l' m' ∧ l'.length ≤ l.length + 1 := by
  have hs : small64 16807 = true := by decide
  generalize hR : (fun (o : Out) (w' : Wd) => w' = w ∧ ∃ (g : Env) (l' : List Int) (m' : Int), o = .nx g ∧ wipeE g [4] = eDr sc M l' m' ∧ l'.length ≤ l.length + 1) = R
  unfold turn bDraws_2 eDr
  simp -implicitDefEqProofs [mulI_r hs, modD_i]
  rw [app_int (by rw [size_eq]; omega)]
  simp -implicitDefEqProofs
  subst hR
  exact ⟨rfl, _, l ++ [((m * 16807 + k + 1).fmod 65537).fmod 997], (m * 16807 + k + 1).fmod 65537, rfl, by simp -implicitDefEqProofs [eDr], by simp⟩
theorem draws_ok (ns : List Int) (M : Int) (hM : 0 ≤ M) (hM2 : M ≤ 100000) (hn : ns.length ≤ 63) (w : Wd) : ∃ l : List Int, bodyFn 2 6 bDraws [tokS ns, .int M] w = some (.list (l.map .int), w) := by
  suffices h : wp (bodyFn 2 6 bDraws [tokS ns, .int M] w) fun d w' => ∃ l : List Int, d = .list (l.map .int) ∧ w' = w by
    obtain ⟨d, w', e, l, rfl, rfl⟩ := wp_eq h
    exact ⟨l, e⟩
  have hz : ns.length ≤ sizeLine := by rw [size_eq]; omega
  refine wp_fn rfl ?_
  generalize hR : (fun (o : Out) (w' : Wd) => ∃ d, o = .rt d ∧ ∃ l : List Int, d = .list (l.map .int) ∧ w' = w) = R
  unfold bDraws
  simp -implicitDefEqProofs [r1_nat hz]
  refine wp_range (fun i g w' => w' = w ∧ ∃ (l : List Int) (m : Int), wipeE g [4, 5, 6, 7] = eDr (tokS ns) M l m ∧ l.length ≤ i * 62) ⟨rfl, [], 7, rfl, by simp⟩ (fun i g w' hi ⟨e, l, m, hg, hl⟩ => ?_) fun g w' ⟨e, l, m, hg, hl⟩ => ?_
  · subst e
    have h := draws_turn ns M l m i hi (by omega) (by omega) w'
    rw [Int.zero_add, turn_wipe (g' := eDr (tokS ns) M l m) (hg.trans (eDr_w ..).symm)]
    refine wp_mono h fun o w2 ⟨e, g', l', m', ho, hg', hl'⟩ => ?_
    subst ho
    exact ⟨e, l', m', hg', by omega⟩
  · subst e
    rw [hg]
    unfold eDr
    simp -implicitDefEqProofs [r1_int hM (by omega : M ≤ 1000000)]
    refine wp_range (fun i g w2 => w2 = w' ∧ ∃ (l : List Int) (m : Int), wipeE g [4] = eDr (tokS ns) M l m ∧ l.length ≤ 63 * 62 + i) ⟨rfl, l, m, rfl, by omega⟩ (fun i g w2 hi ⟨e, l, m, hg, hl⟩ => ?_) fun g w2 ⟨e, l, m, hg, hl⟩ => ?_
    · subst e
      have h := tail_turn (tokS ns) M l m i (by omega) (by omega) w2
      rw [Int.zero_add, turn_wipe (g' := eDr (tokS ns) M l m) (hg.trans (eDr_w4 ..).symm)]
      refine wp_mono h fun o w3 ⟨e, g', l', m', ho, hg', hl'⟩ => ?_
      subst ho
      exact ⟨e, l', m', hg', by omega⟩
    · subst e
      rw [hg]
      unfold eDr
      simp -implicitDefEqProofs
      subst hR
      refine ⟨_, rfl, cutL l none (some M), ?_, rfl⟩
      unfold cutL
      simp -implicitDefEqProofs
end Q

set_option Elab.async false
set_option linter.all false
set_option autoImplicit false
set_option maxRecDepth 100000
/-! QMA: alike says True of a thing and itself. -/
namespace Q
open PySem PySem.W
def fAl : Nat → Fn
  | 0 => bodyFn 2 3 sDead
  | n + 1 => bodyFn 2 3 (bAlike (fAl n))
/-- data that alike walks: no dict, n deep -/
def Alk : Nat → D → Prop
  | 0, _ => False
  | n + 1, .list xs => xs.length ≤ 1000000 ∧ ∀ x ∈ xs, Alk n x
  | n + 1, .tuple xs => xs.length ≤ 1000000 ∧ ∀ x ∈ xs, Alk n x
  | _ + 1, .dict _ => False
  | _ + 1, _ => True
theorem Alk.i {n : Nat} {i : Int} : Alk (n + 1) (.int i) := by unfold Alk; trivial
theorem Alk.b {n : Nat} {i : Bool} : Alk (n + 1) (.bool i) := by unfold Alk; trivial
theorem Alk.s {n : Nat} {i : Str} : Alk (n + 1) (.str i) := by unfold Alk; trivial
theorem Alk.n {n : Nat} : Alk (n + 1) .none := by unfold Alk; trivial
theorem Alk.t {n : Nat} {xs : List D} (h : xs.length ≤ 1000000) (k : ∀ x ∈ xs, Alk n x) : Alk (n + 1) (.tuple xs) := by unfold Alk; exact ⟨h, k⟩
theorem Alk.l {n : Nat} {xs : List D} (h : xs.length ≤ 1000000) (k : ∀ x ∈ xs, Alk n x) : Alk (n + 1) (.list xs) := by unfold Alk; exact ⟨h, k⟩
theorem isaD_l (T : Ty) (xs : List D) : isaD T (.list xs) = some (.bool (isTy T (.list xs))) := rfl
theorem isaD_t (T : Ty) (xs : List D) : isaD T (.tuple xs) = some (.bool (isTy T (.tuple xs))) := rfl
theorem isaD_i (T : Ty) (i : Int) : isaD T (.int i) = some (.bool (isTy T (.int i))) := rfl
theorem isaD_b (T : Ty) (i : Bool) : isaD T (.bool i) = some (.bool (isTy T (.bool i))) := rfl
theorem isaD_s (T : Ty) (i : Str) : isaD T (.str i) = some (.bool (isTy T (.str i))) := rfl
theorem isaD_n (T : Ty) : isaD T .none = some (.bool (isTy T .none)) := rfl
theorem eqD_b (i j : Bool) : eqD (.bool i) (.bool j) = some (i == j) := by
  unfold eqD
  rw [if_pos (by rfl)]
  simp only [PyData.eqv]
theorem eqD_s (i : Str) : eqD (.str i) (.str i) = some true := by
  unfold eqD
  rw [if_pos (by rfl)]
  simp only [PyData.eqv, beq_self_eq_true]
theorem eqD_00 : eqD (.list []) (.list []) = some true := rfl
theorem lc_none {t : G} {c : T} {e : E} {g : Env} {w : Wd} {lo : Int} {n : Nat} (h : ∀ i, i < n → turnE t c e (.int (lo + i)) g w = some (none, w)) : lcLoop t c e g (rangeL lo n) w = some ([], w) := by
  rw [lc_range (fun _ => none) h]
  congr 2
  exact List.filterMap_eq_nil_iff.mpr fun _ _ => rfl
theorem alike_seq {n : Nat} {xs : List D} (hz : xs.length ≤ 1000000) (ih : ∀ x ∈ xs, ∀ w, fAl n [x, x] w = some (.bool true, w)) (c : List D → D) (hc : c = .list ∨ c = .tuple) (w : Wd) : fAl (n + 1) [c xs, c xs] w = some (.bool true, w) := by
  have hr : range1 (.int (xs.length : Int)) = some (rangeL 0 xs.length) := r1_nat (by rw [size_eq]; omega)
  have hz2 : xs.length ≤ sizeLine := by rw [size_eq]; omega
  have key : ∀ (k : D), (c = .list ∨ c = .tuple) → lcLoop (gName 4) (tNot (tVal (cCall (fAl n) [cOp2 ixD (cVar 0) (cVar 4), cOp2 ixD (cVar 1) (cVar 4)]))) (cVar 4) [some (c xs), some (c xs), some k, none, none] (rangeL 0 xs.length) w = some ([], w) := fun k hc => by
    refine lc_none fun i hi => ?_
    have hx : L2.atI xs (i : Int) = some xs[i] := atI_lt xs hi
    have hi2 := ih xs[i] (List.getElem_mem hi) w
    unfold turnE
    rcases hc with rfl | rfl
    · simp -implicitDefEqProofs [hx, hi2]
    · simp -implicitDefEqProofs [hx, hi2]
  refine fn_eq rfl ?_
  unfold bAlike
  rcases hc with rfl | rfl
  · simp -implicitDefEqProofs [s_sSeq, isaD_l, isTy, hr, key _ (.inl rfl), hz2, eqD_00]
  · simp -implicitDefEqProofs [s_sSeq, isaD_t, isTy, hr, key _ (.inr rfl), hz2, eqD_00]
theorem alike_refl : ∀ (n : Nat) (d : D), Alk n d → ∀ w, fAl n [d, d] w = some (.bool true, w)
  | 0, _, h, _ => by unfold Alk at h; exact h.elim
  | n + 1, .list xs, h, w => by
    unfold Alk at h
    exact alike_seq h.1 (fun x hx w => alike_refl n x (h.2 x hx) w) .list (.inl rfl) w
  | n + 1, .tuple xs, h, w => by
    unfold Alk at h
    exact alike_seq h.1 (fun x hx w => alike_refl n x (h.2 x hx) w) .tuple (.inr rfl) w
  | n + 1, .dict _, h, _ => by unfold Alk at h; exact h.elim
  | n + 1, .none, _, w => by
    refine fn_eq rfl ?_
    unfold bAlike
    simp -implicitDefEqProofs [s_sSeq, isaD_n, isTy]
  | n + 1, .int i, _, w => by
    refine fn_eq rfl ?_
    unfold bAlike
    simp -implicitDefEqProofs [s_sSeq, isaD_i, isTy, eqD_b]
  | n + 1, .bool i, _, w => by
    refine fn_eq rfl ?_
    unfold bAlike
    simp -implicitDefEqProofs [s_sSeq, isaD_b, isTy, eqD_b]
  | n + 1, .str i, _, w => by
    refine fn_eq rfl ?_
    unfold bAlike
    simp -implicitDefEqProofs [s_sSeq, isaD_s, isTy, eqD_s]
theorem Alk.up : ∀ {n : Nat} {d : D}, Alk n d → Alk (n + 1) d
  | 0, d, h => by unfold Alk at h; exact h.elim
  | n + 1, .list xs, h => by
    unfold Alk at h ⊢
    exact ⟨h.1, fun x hx => (h.2 x hx).up⟩
  | n + 1, .tuple xs, h => by
    unfold Alk at h ⊢
    exact ⟨h.1, fun x hx => (h.2 x hx).up⟩
  | n + 1, .dict _, h => by unfold Alk at h; exact h.elim
  | n + 1, .none, h => Alk.n
  | n + 1, .int _, h => Alk.i
  | n + 1, .bool _, h => Alk.b
  | n + 1, .str _, h => Alk.s
theorem Alk.ge {m n : Nat} {d : D} (h : Alk m d) (k : m ≤ n) : Alk n d := by
  induction k with
  | refl => exact h
  | step _ ih => exact ih.up
end Q

set_option Elab.async false
set_option linter.all false
set_option autoImplicit false
set_option maxRecDepth 100000
/-! TY: typed readings of the combinators: what a body computes, said with Lean's own types. -/
namespace Q
open PySem PySem.W
abbrev St := List Int
/-- what is known of an environment -/
inductive LE : Env → Env → Prop
  | nil : LE [] []
  | same {x : Option D} {G g : Env} (h : LE G g) : LE (x :: G) (x :: g)
  | skip {d : Option D} {G g : Env} (h : LE G g) : LE (none :: G) (d :: g)
theorem LE.rfl' : ∀ G, LE G G
  | [] => .nil
  | _ :: G => .same (LE.rfl' G)
theorem LE.trans : ∀ {A B C : Env}, LE A B → LE B C → LE A C
  | _, _, _, .nil, h => h
  | _, _, _, .same h, .same k => .same (h.trans k)
  | _, _, _, .same h, .skip k => .skip (h.trans k)
  | _, _, _, .skip h, .same k => .skip (h.trans k)
  | _, _, _, .skip h, .skip k => .skip (h.trans k)
theorem LE.get : ∀ {G g : Env} {i : Nat} {d : D}, LE G g → G[i]? = some (some d) → g[i]? = some (some d)
  | _, _, _, _, .nil, h => h
  | _, _, 0, _, .same _, h => h
  | _, _, i + 1, _, .same k, h => LE.get (i := i) k h
  | _, _, 0, _, .skip _, h => by simp at h
  | _, _, i + 1, _, .skip k, h => LE.get (i := i) k h
theorem LE.len : ∀ {G g : Env}, LE G g → G.length = g.length
  | _, _, .nil => rfl
  | _, _, .same h => by simp [h.len]
  | _, _, .skip h => by simp [h.len]
theorem LE.set : ∀ {G g : Env} (i : Nat) (x : Option D), LE G g → LE (G.set i x) (g.set i x)
  | _, _, _, _, .nil => .nil
  | _, _, 0, _, .same h => .same h
  | _, _, i + 1, x, .same h => .same (h.set i x)
  | _, _, 0, _, .skip h => .same h
  | _, _, i + 1, x, .skip h => .skip (h.set i x)
theorem LE.wipe {G g : Env} (h : LE G g) : ∀ vs : List Nat, LE (wipeE G vs) (wipeE g vs)
  | [] => h
  | v :: vs => by
    unfold wipeE
    exact (h.wipe vs).set v none
/-! judgements -/
structure X (G : Env) (e : E) (w : Wd) (d : D) (w' : Wd) : Prop where
  run : ∀ g, LE G g → e g w = some (d, w')
structure XT (G : Env) (e : T) (w : Wd) (b : Bool) (w' : Wd) : Prop where
  run : ∀ g, LE G g → e g w = some (b, w')
structure XA (G : Env) (e : Es) (w : Wd) (ds : List D) (w' : Wd) : Prop where
  run : ∀ g, LE G g → e g w = some (ds, w')
structure XO (G : Env) (e : Option E) (w : Wd) (i : Option Int) (w' : Wd) : Prop where
  run : ∀ g, LE G g → optE e g w = some (i, w')
structure TG (G : Env) (t : Q.G) (d : D) (G' : Env) : Prop where
  run : ∀ g, LE G g → ∃ g', t d g = some g' ∧ LE G' g'
structure TGs (G : Env) (t : List Q.G) (d : List D) (G' : Env) : Prop where
  run : ∀ g, LE G g → ∃ g', gList t d g = some g' ∧ LE G' g'
inductive OLE : Out → Out → Prop
  | nx {G g : Env} (h : LE G g) : OLE (.nx G) (.nx g)
  | bk {G g : Env} (h : LE G g) : OLE (.bk G) (.bk g)
  | rt {d : D} : OLE (.rt d) (.rt d)
structure XS (G : Env) (s : S) (w : Wd) (o : Out) (w' : Wd) : Prop where
  run : ∀ g, LE G g → ∃ o', s g w = some (o', w') ∧ OLE o o'
/-- with draws, the stream behind it left open -/
structure XL (G : Env) (s : S) (l : St) (o : Out) : Prop where
  run : ∀ g, LE G g → ∃ o' l', s g (some l) = some (o', some l') ∧ OLE o o'
section
variable {G G' G1 G2 : Env} {w w1 w2 w3 w4 : Wd}
theorem X.var (i : Nat) {d : D} (h : G[i]? = some (some d) := by rfl) : X G (cVar i) w d w := ⟨fun g hg => by rw [s_cVar, hg.get h]; rfl⟩
theorem X.k (d : D) : X G (cK d) w d w := ⟨fun g hg => rfl⟩
theorem XA.nil : XA G (cArgs []) w [] w := ⟨fun g hg => rfl⟩
theorem XA.cons {e : E} {es : List E} {d : D} {ds : List D} (h : X G e w d w1) (hs : XA G (cArgs es) w1 ds w2) : XA G (cArgs (e :: es)) w (d :: ds) w2 := ⟨fun g hg => by rw [s_cArgs1, h.run g hg, bnd_some, hs.run g hg]; rfl⟩
theorem X.tup {es : List E} {ds : List D} (h : XA G (cArgs es) w ds w1) : X G (cTup es) w (.tuple ds) w1 := ⟨fun g hg => by rw [s_cTup, h.run g hg]; rfl⟩
theorem X.lst {es : List E} {ds : List D} (h : XA G (cArgs es) w ds w1) : X G (cLst es) w (.list ds) w1 := ⟨fun g hg => by rw [s_cLst, h.run g hg]; rfl⟩
theorem X.op1 {f : D → Option D} {a : E} {x d : D} (ha : X G a w x w1) (hf : f x = some d) : X G (cOp1 f a) w d w1 := ⟨fun g hg => by rw [s_cOp1, ha.run g hg, bnd_some, hf]; rfl⟩
theorem X.op2 {f : D → D → Option D} {a b : E} {x y d : D} (ha : X G a w x w1) (hb : X G b w1 y w2) (hf : f x y = some d) : X G (cOp2 f a b) w d w2 := ⟨fun g hg => by rw [s_cOp2, ha.run g hg, bnd_some, hb.run g hg, bnd_some, hf]; rfl⟩
theorem X.if {α : Type} {c : T} {a b : E} {k : Bool} (e : α → D) {u v : α} (hc : XT G c w k w1) (ha : k = true → X G a w1 (e u) w2) (hb : k = false → X G b w1 (e v) w2) : X G (cIf c a b) w (e (if k = true then u else v)) w2 := ⟨fun g hg => by
  rw [s_cIf, hc.run g hg, bnd_some]
  cases k with
  | true => rw [if_pos rfl, if_pos rfl]; exact (ha rfl).run g hg
  | false => rw [if_neg Bool.false_ne_true, if_neg Bool.false_ne_true]; exact (hb rfl).run g hg⟩
/-- with draws in the branches -/
theorem X.ifW {α : Type} {c : T} {a b : E} {k : Bool} (e : α → D) {u v : α × St} (hc : XT G c w k w1) (ha : k = true → X G a w1 (e u.1) (some u.2)) (hb : k = false → X G b w1 (e v.1) (some v.2)) : X G (cIf c a b) w (e (if k = true then u else v).1) (some (if k = true then u else v).2) := ⟨fun g hg => by
  rw [s_cIf, hc.run g hg, bnd_some]
  cases k with
  | true => rw [if_pos rfl, if_pos rfl]; exact (ha rfl).run g hg
  | false => rw [if_neg Bool.false_ne_true, if_neg Bool.false_ne_true]; exact (hb rfl).run g hg⟩
theorem X.call {f : Fn} {es : List E} {ds : List D} {d : D} (ha : XA G (cArgs es) w ds w1) (hf : f ds w1 = some (d, w2)) : X G (cCall f es) w d w2 := ⟨fun g hg => by rw [s_cCall, ha.run g hg, bnd_some, hf]⟩
theorem X.cT {t : T} {b : Bool} (h : XT G t w b w1) : X G (cT t) w (.bool b) w1 := ⟨fun g hg => by rw [s_cT, h.run g hg]; rfl⟩
theorem X.and {a b : E} {x y : Bool} (ha : X G a w (.bool x) w1) (hb : x = true → X G b w1 (.bool y) w1) : X G (cAnd a b) w (.bool (x && y)) w1 := ⟨fun g hg => by
  rw [s_cAnd, ha.run g hg, bnd_some]
  cases x with
  | true => exact (hb rfl).run g hg
  | false => rfl⟩
theorem X.or {a b : E} {x y : Bool} (ha : X G a w (.bool x) w1) (hb : x = false → X G b w1 (.bool y) w1) : X G (cOr a b) w (.bool (x || y)) w1 := ⟨fun g hg => by
  rw [s_cOr, ha.run g hg, bnd_some]
  cases x with
  | true => rfl
  | false => exact (hb rfl).run g hg⟩
theorem X.not {a : E} {x : Bool} (ha : X G a w (.bool x) w1) : X G (cNot a) w (.bool (!x)) w1 := ⟨fun g hg => by rw [s_cNot, ha.run g hg]; rfl⟩
theorem XO.none : XO G none w none w := ⟨fun g hg => rfl⟩
theorem XO.some {e : E} {i : Int} (h : X G e w (.int i) w1) : XO G (some e) w (some i) w1 := ⟨fun g hg => by rw [s_optE1, h.run g hg]; rfl⟩
theorem X.cut {a : E} {lo hi : Option E} {x d : D} {l h : Option Int} (ha : X G a w x w1) (hl : XO G lo w1 l w2) (hh : XO G hi w2 h w3) (hf : cutD x l h = some d) : X G (cCut a lo hi) w d w3 := ⟨fun g hg => by rw [s_cCut, ha.run g hg, bnd_some, hl.run g hg, bnd_some, hh.run g hg, bnd_some, hf]; rfl⟩
/-! tests -/
theorem XT.val {a : E} {b : Bool} (h : X G a w (.bool b) w1) : XT G (tVal a) w b w1 := ⟨fun g hg => by rw [s_tVal, h.run g hg]; rfl⟩
theorem XT.cmp {f : D → D → Option Bool} {a b : E} {x y : D} {k : Bool} (ha : X G a w x w1) (hb : X G b w1 y w2) (hf : f x y = some k) : XT G (tCmp f a b) w k w2 := ⟨fun g hg => by rw [s_tCmp, ha.run g hg, bnd_some, hb.run g hg, bnd_some, hf]; rfl⟩
theorem XT.not {t : T} {b : Bool} (h : XT G t w b w1) : XT G (tNot t) w (!b) w1 := ⟨fun g hg => by rw [s_tNot, h.run g hg]; rfl⟩
theorem XT.and {a b : T} {x y : Bool} (ha : XT G a w x w1) (hb : x = true → XT G b w1 y w1) : XT G (tAnd a b) w (x && y) w1 := ⟨fun g hg => by
  rw [s_tAnd, ha.run g hg, bnd_some]
  cases x with
  | true => exact (hb rfl).run g hg
  | false => rfl⟩
theorem XT.or {a b : T} {x y : Bool} (ha : XT G a w x w1) (hb : x = false → XT G b w1 y w1) : XT G (tOr a b) w (x || y) w1 := ⟨fun g hg => by
  rw [s_tOr, ha.run g hg, bnd_some]
  cases x with
  | true => rfl
  | false => exact (hb rfl).run g hg⟩
/-- the first is false at any rate; draws in the second -/
theorem XT.orF {a b : T} {y : Bool} (ha : XT G a w false w1) (hb : XT G b w1 y w2) : XT G (tOr a b) w y w2 := ⟨fun g hg => by
  rw [s_tOr, ha.run g hg, bnd_some]
  exact hb.run g hg⟩
theorem XT.andT {a b : T} {y : Bool} (ha : XT G a w true w1) (hb : XT G b w1 y w2) : XT G (tAnd a b) w y w2 := ⟨fun g hg => by
  rw [s_tAnd, ha.run g hg, bnd_some]
  exact hb.run g hg⟩
theorem XT.chain {f f' : D → D → Option Bool} {a b c : E} {x y z : D} {k k' : Bool} (ha : X G a w x w1) (hb : X G b w1 y w2) (hf : f x y = some k) (hc : k = true → X G c w2 z w2) (hf' : k = true → f' y z = some k') : XT G (tChain f f' a b c) w (k && k') w2 := ⟨fun g hg => by
  show bnd (a g w) _ = _
  rw [ha.run g hg, bnd_some, hb.run g hg, bnd_some, hf, lft_some, bnd_some]
  cases k with
  | true =>
    rw [if_pos rfl, (hc rfl).run g hg, bnd_some, hf' rfl]
    rfl
  | false => rfl⟩
theorem XT.yes : XT G tYes w true w := ⟨fun g hg => rfl⟩
theorem XT.eq {t : T} {b b' : Bool} (h : XT G t w b w1) (e : b = b') : XT G t w b' w1 := e ▸ h
theorem X.eq {e : E} {d d' : D} (h : X G e w d w1) (k : d = d') : X G e w d' w1 := k ▸ h
/-! targets -/
theorem TG.name (i : Nat) {d : D} (h : G.set i (some d) = G' := by rfl) (hi : i < G.length := by exact Nat.le_of_ble_eq_true rfl) : TG G (gName i) d G' := ⟨fun g hg => by
  refine ⟨g.set i (some d), ?_, h ▸ hg.set i _⟩
  rw [s_gName, if_pos (by rw [← hg.len]; exact hi)]⟩
theorem TGs.nil : TGs G [] [] G := ⟨fun g hg => ⟨g, rfl, hg⟩⟩
theorem TGs.cons {t : Q.G} {ts : List Q.G} {d : D} {ds : List D} (h : TG G t d G1) (hs : TGs G1 ts ds G2) : TGs G (t :: ts) (d :: ds) G2 := ⟨fun g hg => by
  obtain ⟨g1, e1, h1⟩ := h.run g hg
  obtain ⟨g2, e2, h2⟩ := hs.run g1 h1
  exact ⟨g2, by rw [s_gList1, e1]; exact e2, h2⟩⟩
theorem TG.tup {ts : List Q.G} {ds : List D} (h : TGs G ts ds G') : TG G (gTup ts) (.tuple ds) G' := ⟨fun g hg => h.run g hg⟩
/-! statements -/
theorem XS.set {t : Q.G} {e : E} {d : D} (h : X G e w d w1) (ht : TG G t d G') : XS G (sSet t e) w (.nx G') w1 := ⟨fun g hg => by
  obtain ⟨g1, e1, h1⟩ := ht.run g hg
  exact ⟨.nx g1, by rw [s_sSet, h.run g hg, bnd_some, e1], .nx h1⟩⟩
theorem XS.par {ts : List Q.G} {es : List E} {ds : List D} (h : XA G (cArgs es) w ds w1) (ht : TGs G ts ds G') : XS G (sPar ts es) w (.nx G') w1 := ⟨fun g hg => by
  obtain ⟨g1, e1, h1⟩ := ht.run g hg
  exact ⟨.nx g1, by rw [s_sPar, h.run g hg, bnd_some, e1], .nx h1⟩⟩
theorem XS.ret {e : E} {d : D} (h : X G e w d w1) : XS G (sRet e) w (.rt d) w1 := ⟨fun g hg => ⟨.rt d, by rw [s_sRet, h.run g hg]; rfl, .rt⟩⟩
theorem XS.pass : XS G sPass w (.nx G) w := ⟨fun g hg => ⟨.nx g, rfl, .nx hg⟩⟩
theorem XS.brk : XS G sBreak w (.bk G) w := ⟨fun g hg => ⟨.bk g, rfl, .bk hg⟩⟩
theorem XS.mut {i : Nat} {f : D → Option D} {x y : D} (hg : G[i]? = some (some x)) (hf : f x = some y) (g : Env) (h : LE G g) : mutS i f g w = some (.nx (g.set i (some y)), w) ∧ OLE (.nx (G.set i (some y))) (.nx (g.set i (some y))) := by
  refine ⟨?_, .nx (h.set i _)⟩
  rw [s_mutS, h.get hg]
  show (match f x with
    | some y => some (Out.nx (g.set i (some y)), w)
    | none => none) = _
  rw [hf]
theorem XS.app {α : Type} (i : Nat) (e : α → D) {xs : List α} {v : α} {a : E} (ha : X G a w (e v) w1) (hz : xs.length < sizeLine) (hg : G[i]? = some (some (.list (xs.map e))) := by rfl) (hG : G.set i (some (.list ((xs ++ [v]).map e))) = G' := by rfl) : XS G (sApp i a) w (.nx G') w1 := ⟨fun g h => by
  have hf : apD (.list (xs.map e)) (e v) = some (.list ((xs ++ [v]).map e)) := by rw [apD_l (by simpa using hz), List.map_append]; rfl
  obtain ⟨h1, h2⟩ := XS.mut (w := w1) (f := (apD · (e v))) hg hf g h
  rw [hG] at h2
  exact ⟨_, by rw [s_sApp, ha.run g h]; exact h1, h2⟩⟩
theorem XS.ext {α : Type} (i : Nat) (e : α → D) {xs ys : List α} {a : E} (ha : X G a w (.list (ys.map e)) w1) (hz : xs.length + ys.length ≤ sizeLine) (hg : G[i]? = some (some (.list (xs.map e))) := by rfl) (hG : G.set i (some (.list ((xs ++ ys).map e))) = G' := by rfl) : XS G (sExt i a) w (.nx G') w1 := ⟨fun g h => by
  have hf : exD (.list (xs.map e)) (.list (ys.map e)) = some (.list ((xs ++ ys).map e)) := by rw [exD_l (by simpa using hz), List.map_append]
  obtain ⟨h1, h2⟩ := XS.mut (w := w1) (f := (exD · (.list (ys.map e)))) hg hf g h
  rw [hG] at h2
  exact ⟨_, by rw [s_sExt, ha.run g h]; exact h1, h2⟩⟩
theorem XS.aug (i : Nat) {f : D → D → Option D} {x y d : D} {a : E} (ha : X G a w y w1) (hf : f x y = some d) (hg : G[i]? = some (some x) := by rfl) (hG : G.set i (some d) = G' := by rfl) : XS G (sAugN i f a) w (.nx G') w1 := ⟨fun g h => by
  refine ⟨.nx (g.set i (some d)), ?_, hG ▸ .nx (h.set i _)⟩
  rw [s_sAugN, h.get hg]
  show bnd (a g w) _ = _
  rw [ha.run g h, bnd_some, hf]⟩
theorem XS.seqd {a b : S} {o : Out} (ha : XS G a w (.nx G1) w1) (hb : XS G1 b w1 o w2) : XS G (sSeq a b) w o w2 := ⟨fun g h => by
  obtain ⟨o1, e1, l1⟩ := ha.run g h
  cases l1 with
  | nx h1 =>
    obtain ⟨o2, e2, l2⟩ := hb.run _ h1
    exact ⟨o2, by rw [s_sSeq, e1]; exact e2, l2⟩⟩
theorem XS.weak {a : S} (h : XS G a w (.nx G1) w1) (l : LE G2 G1) : XS G a w (.nx G2) w1 := ⟨fun g k => by
  obtain ⟨o1, e1, l1⟩ := h.run g k
  cases l1 with
  | nx h1 => exact ⟨_, e1, .nx (l.trans h1)⟩⟩
theorem XS.wbk (l : LE G2 G) : XS G sBreak w (.bk G2) w := ⟨fun g hg => ⟨.bk g, rfl, .bk (l.trans hg)⟩⟩
theorem XS.wpass (l : LE G2 G) : XS G sPass w (.nx G2) w := XS.weak XS.pass l
theorem XS.seqPass {a : S} {o : Out} (h : XS G (sSeq a sPass) w o w1) : XS G a w o w1 := ⟨fun g hg => by
  obtain ⟨o1, e1, l1⟩ := h.run g hg
  refine ⟨o1, ?_, l1⟩
  rw [s_sSeq] at e1
  cases q : a g w with
  | none => rw [q] at e1; cases e1
  | some p =>
    obtain ⟨o2, w2⟩ := p
    rw [q, bnd_some] at e1
    cases o2 <;> exact e1⟩
theorem XS.passSeq {b : S} {o : Out} (h : XS G b w o w1) : XS G (sSeq sPass b) w o w1 := ⟨fun g hg => by
  obtain ⟨o1, e1, l1⟩ := h.run g hg
  exact ⟨o1, by rw [s_sSeq]; exact e1, l1⟩⟩
theorem XS.exitR {a b : S} {d : D} (h : XS G a w (.rt d) w1) : XS G (sSeq a b) w (.rt d) w1 := ⟨fun g hg => by
  obtain ⟨o1, e1, l1⟩ := h.run g hg
  cases l1
  exact ⟨.rt d, by rw [s_sSeq, e1]; rfl, .rt⟩⟩
theorem XS.exitB {a b : S} (h : XS G a w (.bk G1) w1) : XS G (sSeq a b) w (.bk G1) w1 := ⟨fun g hg => by
  obtain ⟨o1, e1, l1⟩ := h.run g hg
  cases l1 with
  | bk h1 => exact ⟨_, by rw [s_sSeq, e1]; rfl, .bk h1⟩⟩
theorem seq_assoc (a b c : S) (g : Env) (w : Wd) : sSeq (sSeq a b) c g w = sSeq a (sSeq b c) g w := by
  rw [s_sSeq, s_sSeq, s_sSeq]
  cases a g w with
  | none => rfl
  | some p =>
    obtain ⟨o, w1⟩ := p
    rw [bnd_some, bnd_some]
    cases o with
    | nx g1 =>
      show bnd (b g1 w1) _ = sSeq b c g1 w1
      rw [s_sSeq]
    | _ => rfl
theorem XS.assoc {a b c : S} {o : Out} (h : XS G (sSeq a (sSeq b c)) w o w1) : XS G (sSeq (sSeq a b) c) w o w1 := ⟨fun g hg => by rw [seq_assoc]; exact h.run g hg⟩
theorem seq_if (t : T) (a b c : S) (g : Env) (w : Wd) : sSeq (sIf t a b) c g w = sIf t (sSeq a c) (sSeq b c) g w := by
  rw [s_sSeq, s_sIf, s_sIf]
  cases t g w with
  | none => rfl
  | some p =>
    obtain ⟨k, w1⟩ := p
    rw [bnd_some, bnd_some]
    cases k with
    | true => rw [if_pos rfl, if_pos rfl, s_sSeq]
    | false => rw [if_neg Bool.false_ne_true, if_neg Bool.false_ne_true, s_sSeq]
theorem XS.dist {t : T} {a b c : S} {o : Out} (h : XS G (sIf t (sSeq a c) (sSeq b c)) w o w1) : XS G (sSeq (sIf t a b) c) w o w1 := ⟨fun g hg => by rw [seq_if]; exact h.run g hg⟩
theorem XS.if {ρ : Type} {c : T} {a b : S} {k : Bool} (K : ρ → Out) {u v : ρ} (hc : XT G c w k w1) (ha : k = true → XS G a w1 (K u) w2) (hb : k = false → XS G b w1 (K v) w2) : XS G (sIf c a b) w (K (if k = true then u else v)) w2 := ⟨fun g hg => by
  rw [s_sIf, hc.run g hg, bnd_some]
  cases k with
  | true => rw [if_pos rfl, if_pos rfl]; exact (ha rfl).run g hg
  | false => rw [if_neg Bool.false_ne_true, if_neg Bool.false_ne_true]; exact (hb rfl).run g hg⟩
/-- with draws in the branches -/
theorem XS.ifW {ρ : Type} {c : T} {a b : S} {k : Bool} (K : ρ → Out) {u v : ρ × St} (hc : XT G c w k w1) (ha : k = true → XS G a w1 (K u.1) (some u.2)) (hb : k = false → XS G b w1 (K v.1) (some v.2)) : XS G (sIf c a b) w (K (if k = true then u else v).1) (some (if k = true then u else v).2) := ⟨fun g hg => by
  rw [s_sIf, hc.run g hg, bnd_some]
  cases k with
  | true => rw [if_pos rfl, if_pos rfl]; exact (ha rfl).run g hg
  | false => rw [if_neg Bool.false_ne_true, if_neg Bool.false_ne_true]; exact (hb rfl).run g hg⟩
theorem XS.ifF {c : T} {a b : S} {o : Out} (hc : XT G c w false w1) (hb : XS G b w1 o w2) : XS G (sIf c a b) w o w2 := ⟨fun g hg => by
  rw [s_sIf, hc.run g hg, bnd_some]
  exact hb.run g hg⟩
theorem XS.ifT {c : T} {a b : S} {o : Out} (hc : XT G c w true w1) (ha : XS G a w1 o w2) : XS G (sIf c a b) w o w2 := ⟨fun g hg => by
  rw [s_sIf, hc.run g hg, bnd_some]
  exact ha.run g hg⟩
/-- one value bound -/
theorem XS.seq1 {α : Type} {a b : S} (v : α) (Gv : α → Env) (Wv : α → Wd) (o : α → Out) (w2 : α → Wd) (ha : XS G a w (.nx (Gv v)) (Wv v)) (hb : ∀ x, x = v → XS (Gv x) b (Wv x) (o x) (w2 x)) : XS G (sSeq a b) w (o v) (w2 v) := XS.seqd ha (hb v rfl)
theorem XS.seq2 {α β : Type} {a b : S} (v : α) (u : β) (Gv : α → β → Env) (Wv : α → β → Wd) (o : α → β → Out) (w2 : α → β → Wd) (ha : XS G a w (.nx (Gv v u)) (Wv v u)) (hb : ∀ x, x = v → ∀ y, y = u → XS (Gv x y) b (Wv x y) (o x y) (w2 x y)) : XS G (sSeq a b) w (o v u) (w2 v u) := XS.seqd ha (hb v rfl u rfl)
theorem XS.seq3 {α β γ : Type} {a b : S} (v : α) (u : β) (t : γ) (Gv : α → β → γ → Env) (Wv : α → β → γ → Wd) (o : α → β → γ → Out) (w2 : α → β → γ → Wd) (ha : XS G a w (.nx (Gv v u t)) (Wv v u t)) (hb : ∀ x, x = v → ∀ y, y = u → ∀ z, z = t → XS (Gv x y z) b (Wv x y z) (o x y z) (w2 x y z)) : XS G (sSeq a b) w (o v u t) (w2 v u t) := XS.seqd ha (hb v rfl u rfl t rfl)
theorem XS.seq4 {α β γ δ : Type} {a b : S} (v : α) (u : β) (t : γ) (r : δ) (Gv : α → β → γ → δ → Env) (Wv : α → β → γ → δ → Wd) (o : α → β → γ → δ → Out) (w2 : α → β → γ → δ → Wd) (ha : XS G a w (.nx (Gv v u t r)) (Wv v u t r)) (hb : ∀ x, x = v → ∀ y, y = u → ∀ z, z = t → ∀ q, q = r → XS (Gv x y z q) b (Wv x y z q) (o x y z q) (w2 x y z q)) : XS G (sSeq a b) w (o v u t r) (w2 v u t r) := XS.seqd ha (hb v rfl u rfl t rfl r rfl)
theorem XS.seq5 {α β γ δ ε : Type} {a b : S} (v : α) (u : β) (t : γ) (r : δ) (s : ε) (Gv : α → β → γ → δ → ε → Env) (Wv : α → β → γ → δ → ε → Wd) (o : α → β → γ → δ → ε → Out) (w2 : α → β → γ → δ → ε → Wd) (ha : XS G a w (.nx (Gv v u t r s)) (Wv v u t r s)) (hb : ∀ x, x = v → ∀ y, y = u → ∀ z, z = t → ∀ q, q = r → ∀ p, p = s → XS (Gv x y z q p) b (Wv x y z q p) (o x y z q p) (w2 x y z q p)) : XS G (sSeq a b) w (o v u t r s) (w2 v u t r s) := XS.seqd ha (hb v rfl u rfl t rfl r rfl s rfl)
/-! the same where the stream behind is left open -/
theorem XL.done (h : LE G2 G) (l : St) : XL G sPass l (.nx G2) := ⟨fun g hg => ⟨.nx g, l, rfl, .nx (h.trans hg)⟩⟩
theorem XL.of {s : S} {l l' : St} {o : Out} (h : XS G s (some l) o (some l')) : XL G s l o := ⟨fun g hg => by
  obtain ⟨o', e, k⟩ := h.run g hg
  exact ⟨o', l', e, k⟩⟩
theorem XL.seqd {a b : S} {o : Out} {l l1 : St} (ha : XS G a (some l) (.nx G1) (some l1)) (hb : XL G1 b l1 o) : XL G (sSeq a b) l o := ⟨fun g h => by
  obtain ⟨o1, e1, k1⟩ := ha.run g h
  cases k1 with
  | nx h1 =>
    obtain ⟨o2, l2, e2, k2⟩ := hb.run _ h1
    exact ⟨o2, l2, by rw [s_sSeq, e1]; exact e2, k2⟩⟩
theorem XL.seqL {a b : S} {o : Out} {l : St} (ha : XL G a l (.nx G1)) (hb : ∀ l1, XL G1 b l1 o) : XL G (sSeq a b) l o := ⟨fun g h => by
  obtain ⟨o1, l1, e1, k1⟩ := ha.run g h
  cases k1 with
  | nx h1 =>
    obtain ⟨o2, l2, e2, k2⟩ := (hb l1).run _ h1
    exact ⟨o2, l2, by rw [s_sSeq, e1]; exact e2, k2⟩⟩
theorem XL.seqPass {a : S} {o : Out} {l : St} (h : XL G (sSeq a sPass) l o) : XL G a l o := ⟨fun g hg => by
  obtain ⟨o1, l1, e1, k1⟩ := h.run g hg
  refine ⟨o1, l1, ?_, k1⟩
  rw [s_sSeq] at e1
  cases q : a g (some l) with
  | none => rw [q] at e1; cases e1
  | some p =>
    obtain ⟨o2, w2⟩ := p
    rw [q, bnd_some] at e1
    cases o2 <;> exact e1⟩
theorem XL.seq1 {α : Type} {a b : S} {l : St} {o : Out} (v : α) (l1 : St) (Gv : α → Env) (ha : XS G a (some l) (.nx (Gv v)) (some l1)) (hb : ∀ x, x = v → ∀ k, k = l1 → XL (Gv x) b k o) : XL G (sSeq a b) l o := XL.seqd ha (hb v rfl l1 rfl)
theorem XL.seq2 {α β : Type} {a b : S} {l : St} {o : Out} (v : α) (u : β) (l1 : St) (Gv : α → β → Env) (ha : XS G a (some l) (.nx (Gv v u)) (some l1)) (hb : ∀ x, x = v → ∀ y, y = u → ∀ k, k = l1 → XL (Gv x y) b k o) : XL G (sSeq a b) l o := XL.seqd ha (hb v rfl u rfl l1 rfl)
theorem XL.seq3 {α β γ : Type} {a b : S} {l : St} {o : Out} (v : α) (u : β) (t : γ) (l1 : St) (Gv : α → β → γ → Env) (ha : XS G a (some l) (.nx (Gv v u t)) (some l1)) (hb : ∀ x, x = v → ∀ y, y = u → ∀ z, z = t → ∀ k, k = l1 → XL (Gv x y z) b k o) : XL G (sSeq a b) l o := XL.seqd ha (hb v rfl u rfl t rfl l1 rfl)
theorem XL.seq4 {α β γ δ : Type} {a b : S} {l : St} {o : Out} (v : α) (u : β) (t : γ) (r : δ) (l1 : St) (Gv : α → β → γ → δ → Env) (ha : XS G a (some l) (.nx (Gv v u t r)) (some l1)) (hb : ∀ x, x = v → ∀ y, y = u → ∀ z, z = t → ∀ q, q = r → ∀ k, k = l1 → XL (Gv x y z q) b k o) : XL G (sSeq a b) l o := XL.seqd ha (hb v rfl u rfl t rfl r rfl l1 rfl)
theorem XL.seq5 {α β γ δ ε : Type} {a b : S} {l : St} {o : Out} (v : α) (u : β) (t : γ) (r : δ) (s : ε) (l1 : St) (Gv : α → β → γ → δ → ε → Env) (ha : XS G a (some l) (.nx (Gv v u t r s)) (some l1)) (hb : ∀ x, x = v → ∀ y, y = u → ∀ z, z = t → ∀ q, q = r → ∀ p, p = s → ∀ k, k = l1 → XL (Gv x y z q p) b k o) : XL G (sSeq a b) l o := XL.seqd ha (hb v rfl u rfl t rfl r rfl s rfl l1 rfl)
theorem XL.seqp1 {α : Type} {a b : S} {l : St} {o : Out} (v : α) (Gv : α → Env) (ha : XS G a (some l) (.nx (Gv v)) (some l)) (hb : ∀ x, x = v → XL (Gv x) b l o) : XL G (sSeq a b) l o := XL.seqd ha (hb v rfl)
theorem XL.seqp2 {α β : Type} {a b : S} {l : St} {o : Out} (v : α) (u : β) (Gv : α → β → Env) (ha : XS G a (some l) (.nx (Gv v u)) (some l)) (hb : ∀ x, x = v → ∀ y, y = u → XL (Gv x y) b l o) : XL G (sSeq a b) l o := XL.seqd ha (hb v rfl u rfl)
theorem XL.seqp3 {α β γ : Type} {a b : S} {l : St} {o : Out} (v : α) (u : β) (t : γ) (Gv : α → β → γ → Env) (ha : XS G a (some l) (.nx (Gv v u t)) (some l)) (hb : ∀ x, x = v → ∀ y, y = u → ∀ z, z = t → XL (Gv x y z) b l o) : XL G (sSeq a b) l o := XL.seqd ha (hb v rfl u rfl t rfl)
theorem XL.seqp4 {α β γ δ : Type} {a b : S} {l : St} {o : Out} (v : α) (u : β) (t : γ) (r : δ) (Gv : α → β → γ → δ → Env) (ha : XS G a (some l) (.nx (Gv v u t r)) (some l)) (hb : ∀ x, x = v → ∀ y, y = u → ∀ z, z = t → ∀ q, q = r → XL (Gv x y z q) b l o) : XL G (sSeq a b) l o := XL.seqd ha (hb v rfl u rfl t rfl r rfl)
theorem XL.seqp5 {α β γ δ ε : Type} {a b : S} {l : St} {o : Out} (v : α) (u : β) (t : γ) (r : δ) (s : ε) (Gv : α → β → γ → δ → ε → Env) (ha : XS G a (some l) (.nx (Gv v u t r s)) (some l)) (hb : ∀ x, x = v → ∀ y, y = u → ∀ z, z = t → ∀ q, q = r → ∀ p, p = s → XL (Gv x y z q p) b l o) : XL G (sSeq a b) l o := XL.seqd ha (hb v rfl u rfl t rfl r rfl s rfl)
/-- a test that does not hold: what is behind it is never reached -/
theorem XL.ifF {c : T} {a b : S} {l l1 : St} {o : Out} (hc : XT G c (some l) false (some l1)) (hb : XL G b l1 o) : XL G (sIf c a b) l o := ⟨fun g hg => by
  rw [s_sIf, hc.run g hg, bnd_some]
  exact hb.run g hg⟩
theorem XL.dist {t : T} {a b c : S} {l : St} {o : Out} (h : XL G (sIf t (sSeq a c) (sSeq b c)) l o) : XL G (sSeq (sIf t a b) c) l o := ⟨fun g hg => by rw [seq_if]; exact h.run g hg⟩
theorem XL.passSeq {b : S} {l : St} {o : Out} (h : XL G b l o) : XL G (sSeq sPass b) l o := ⟨fun g hg => by
  obtain ⟨o1, l1, e1, k⟩ := h.run g hg
  exact ⟨o1, l1, by rw [s_sSeq]; exact e1, k⟩⟩
theorem XL.if {c : T} {a b : S} {l l1 : St} {k : Bool} {o : Out} (hc : XT G c (some l) k (some l1)) (ha : k = true → XL G a l1 o) (hb : k = false → XL G b l1 o) : XL G (sIf c a b) l o := ⟨fun g hg => by
  rw [s_sIf, hc.run g hg, bnd_some]
  cases k with
  | true => exact (ha rfl).run g hg
  | false => exact (hb rfl).run g hg⟩
theorem XL.ret {e : E} {l l1 : St} {d : D} (h : X G e (some l) d (some l1)) : XL G (sRet e) l (.rt d) := XL.of (XS.ret h)
end
/-! ### walks -/
def rangeI (lo hi : Int) : List Int := (List.range (hi - lo).toNat).map fun i => lo + (i : Nat)
theorem mem_rangeI {lo hi x : Int} : x ∈ rangeI lo hi ↔ lo ≤ x ∧ x < hi := by
  unfold rangeI
  simp only [List.mem_map, List.mem_range]
  constructor
  · rintro ⟨i, hi, rfl⟩; omega
  · rintro ⟨h1, h2⟩; exact ⟨(x - lo).toNat, by omega, by omega⟩
theorem len_rangeI (lo hi : Int) : (rangeI lo hi).length = (hi - lo).toNat := by simp [rangeI]
theorem rangeL_map (lo hi : Int) : rangeL lo (hi - lo).toNat = (rangeI lo hi).map PyData.int := by
  unfold rangeL rangeI
  rw [List.map_map]
  rfl
def I62 (n : Int) : Prop := -(2 ^ 62) ≤ n ∧ n < 2 ^ 62
theorem small62_I {n : Int} (h : I62 n) : small62 n = true := by
  unfold small62 I62 at *
  simp only [Bool.and_eq_true, decide_eq_true_eq]
  exact h
section
variable {G G' G1 G2 : Env} {w w1 w2 w3 w4 : Wd}
theorem XA.seqL {a : E} {ds : List D} (h : X G a w (.list ds) w1) : XA G (itSeq a) w ds w1 := ⟨fun g hg => by rw [s_itSeq, h.run g hg]; rfl⟩
theorem XA.seqT {a : E} {ds : List D} (h : X G a w (.tuple ds) w1) : XA G (itSeq a) w ds w1 := ⟨fun g hg => by rw [s_itSeq, h.run g hg]; rfl⟩
theorem XA.r1 {a : E} {n : Int} (h : X G a w (.int n) w1) (hn : I62 n) : XA G (itR1 a) w ((rangeI 0 n).map PyData.int) w1 := ⟨fun g hg => by
  rw [s_itR1, h.run g hg, bnd_some, range1_i, if_pos (small62_I hn), ← rangeL_map, Int.sub_zero]; rfl⟩
theorem XA.r2 {a b : E} {m n : Int} (ha : X G a w (.int m) w1) (hb : X G b w1 (.int n) w2) (hm : I62 m) (hn : I62 n) : XA G (itR2 a b) w ((rangeI m n).map PyData.int) w2 := ⟨fun g hg => by
  rw [s_itR2, ha.run g hg, bnd_some, hb.run g hg, bnd_some, range2_i, small62_I hm, small62_I hn, if_pos (by rfl), ← rangeL_map]; rfl⟩
abbrev eP2 {α β : Type} (a : α → D) (b : β → D) : α × β → D := fun p => .tuple [a p.1, b p.2]
abbrev eP1 {α : Type} (a : α → D) : α → D := fun p => .tuple [a p]
abbrev eP3 {α β γ : Type} (a : α → D) (b : β → D) (c : γ → D) : α × β × γ → D := fun p => .tuple [a p.1, b p.2.1, c p.2.2]
abbrev eP4 {α β γ δ : Type} (a : α → D) (b : β → D) (c : γ → D) (d : δ → D) : α × β × γ × δ → D := fun p => .tuple [a p.1, b p.2.1, c p.2.2.1, d p.2.2.2]
abbrev eP5 {α β γ δ ε : Type} (a : α → D) (b : β → D) (c : γ → D) (d : δ → D) (e : ε → D) : α × β × γ × δ × ε → D := fun p => .tuple [a p.1, b p.2.1, c p.2.2.1, d p.2.2.2.1, e p.2.2.2.2]
abbrev eP6 {α β γ δ ε ζ : Type} (a : α → D) (b : β → D) (c : γ → D) (d : δ → D) (e : ε → D) (f : ζ → D) : α × β × γ × δ × ε × ζ → D := fun p => .tuple [a p.1, b p.2.1, c p.2.2.1, d p.2.2.2.1, e p.2.2.2.2.1, f p.2.2.2.2.2]
abbrev eP7 {α β γ δ ε ζ η : Type} (a : α → D) (b : β → D) (c : γ → D) (d : δ → D) (e : ε → D) (f : ζ → D) (h : η → D) : α × β × γ × δ × ε × ζ × η → D := fun p => .tuple [a p.1, b p.2.1, c p.2.2.1, d p.2.2.2.1, e p.2.2.2.2.1, f p.2.2.2.2.2.1, h p.2.2.2.2.2.2]
abbrev eL {α : Type} (e : α → D) : List α → D := fun l => .list (l.map e)
abbrev eT {α : Type} (e : α → D) : List α → D := fun l => .tuple (l.map e)
def eO {α : Type} (e : α → D) : Option α → D
  | none => .none
  | some v => e v
abbrev eU : Unit → D := fun _ => .none
theorem XA.zipL {α β : Type} {a b : E} {ea : α → D} {eb : β → D} {xs : List α} {ys : List β} (ha : X G a w (.list (xs.map ea)) w1) (hb : X G b w1 (.list (ys.map eb)) w2) : XA G (itZip a b) w ((xs.zip ys).map (eP2 ea eb)) w2 := ⟨fun g hg => by
  rw [s_itZip, ha.run g hg, bnd_some, hb.run g hg, bnd_some, zipD_l, List.zip_map, List.map_map]; rfl⟩
theorem XA.zipT {α β : Type} {a b : E} {ea : α → D} {eb : β → D} {xs : List α} {ys : List β} (ha : X G a w (.tuple (xs.map ea)) w1) (hb : X G b w1 (.tuple (ys.map eb)) w2) : XA G (itZip a b) w ((xs.zip ys).map (eP2 ea eb)) w2 := ⟨fun g hg => by
  rw [s_itZip, ha.run g hg, bnd_some, hb.run g hg, bnd_some, zipD_t, List.zip_map, List.map_map]; rfl⟩
/-! ### comprehensions -/
theorem lcM_run {α β : Type} {t : Q.G} {e : E} {ex : α → D} {ey : β → D} {Gw : Env} {Gb : α → Env} {f : α → β} {g : Env} (hg : LE Gw g) (ht : ∀ x, TG Gw t (ex x) (Gb x)) : ∀ (xs : List α), (∀ x, x ∈ xs → X (Gb x) e w (ey (f x)) w) → lcLoop t tYes e g (xs.map ex) w = some ((xs.map f).map ey, w)
  | [], _ => rfl
  | x :: xs, h => by
    rw [List.map_cons, List.map_cons, List.map_cons, lcLoop]
    obtain ⟨g1, e1, h1⟩ := (ht x).run g hg
    rw [e1]
    dsimp only
    rw [s_tYes, bnd_some, if_pos rfl, (h x List.mem_cons_self).run g1 h1, bnd_some, lcM_run hg ht xs fun y hy => h y (List.mem_cons_of_mem _ hy), bnd_some]
theorem X.lcM {α β : Type} {it : Es} {t : Q.G} {e : E} {vs : List Nat} (ex : α → D) (ey : β → D) {xs : List α} (Gw : Env) (Gb : α → Env) (f : α → β) (hi : XA G it w (xs.map ex) w1) (ht : ∀ x, TG Gw t (ex x) (Gb x)) (hz : xs.length ≤ sizeLine) (he : ∀ x, x ∈ xs → X (Gb x) e w1 (ey (f x)) w1) (hw : wipeE G vs = Gw := by rfl) :
    X G (cLc it t tYes e vs) w (.list ((xs.map f).map ey)) w1 := ⟨fun g hg => by
  rw [s_cLc, hi.run g hg, bnd_some, lcM_run (f := f) (hw ▸ hg.wipe vs) ht xs he, bnd_some, if_pos (by simpa using hz)]⟩
theorem lcF_run {α β : Type} {t : Q.G} {c : T} {e : E} {ex : α → D} {ey : β → D} {Gw : Env} {Gb : α → Env} {p : α → Bool} {f : α → β} {g : Env} (hg : LE Gw g) (ht : ∀ x, TG Gw t (ex x) (Gb x)) : ∀ (xs : List α), (∀ x, x ∈ xs → XT (Gb x) c w (p x) w) → (∀ x, x ∈ xs → p x = true → X (Gb x) e w (ey (f x)) w) → lcLoop t c e g (xs.map ex) w = some (((xs.filter p).map f).map ey, w)
  | [], _, _ => rfl
  | x :: xs, hc, h => by
    rw [List.map_cons, lcLoop]
    obtain ⟨g1, e1, h1⟩ := (ht x).run g hg
    rw [e1]
    dsimp only
    rw [(hc x List.mem_cons_self).run g1 h1, bnd_some, List.filter_cons]
    have ih := lcF_run (e := e) (ey := ey) (f := f) hg ht xs (fun y hy => hc y (List.mem_cons_of_mem _ hy)) (fun y hy => h y (List.mem_cons_of_mem _ hy))
    cases hp : p x with
    | true => rw [if_pos rfl, if_pos rfl, (h x List.mem_cons_self hp).run g1 h1, bnd_some, ih, bnd_some]; rfl
    | false => rw [if_neg Bool.false_ne_true, if_neg Bool.false_ne_true, ih]
theorem X.lcF {α β : Type} {it : Es} {t : Q.G} {c : T} {e : E} {vs : List Nat} (ex : α → D) (ey : β → D) {xs : List α} (Gw : Env) (Gb : α → Env) (p : α → Bool) (f : α → β) (hi : XA G it w (xs.map ex) w1) (ht : ∀ x, TG Gw t (ex x) (Gb x)) (hz : xs.length ≤ sizeLine) (hc : ∀ x, x ∈ xs → XT (Gb x) c w1 (p x) w1) (he : ∀ x, x ∈ xs → p x = true → X (Gb x) e w1 (ey (f x)) w1) (hw : wipeE G vs = Gw := by rfl) :
    X G (cLc it t c e vs) w (.list (((xs.filter p).map f).map ey)) w1 := ⟨fun g hg => by
  rw [s_cLc, hi.run g hg, bnd_some, lcF_run (f := f) (hw ▸ hg.wipe vs) ht xs hc he, bnd_some, if_pos (by simpa using hz)]⟩
/-- only items that fit -/
theorem X.lcS {α : Type} {it : Es} {t : Q.G} {c : T} {e : E} {vs : List Nat} (ex : α → D) {xs : List α} (Gw : Env) (Gb : α → Env) (p : α → Bool) (hi : XA G it w (xs.map ex) w1) (ht : ∀ x, TG Gw t (ex x) (Gb x)) (hz : xs.length ≤ sizeLine) (hc : ∀ x, x ∈ xs → XT (Gb x) c w1 (p x) w1) (he : ∀ x, x ∈ xs → p x = true → X (Gb x) e w1 (ex x) w1) (hw : wipeE G vs = Gw := by rfl) :
    X G (cLc it t c e vs) w (.list ((xs.filter p).map ex)) w1 := by
  have h := X.lcF ex ex Gw Gb p (fun x => x) hi ht hz hc he hw
  rwa [List.map_id'] at h
/-- with draws -/
def mapW {α β : Type} (f : α → St → β × St) : List α → St → List β × St
  | [], l => ([], l)
  | x :: xs, l => ((f x l).1 :: (mapW f xs (f x l).2).1, (mapW f xs (f x l).2).2)
theorem lcW_run {α β : Type} {t : Q.G} {e : E} {ex : α → D} {ey : β → D} {Gw : Env} {Gb : α → Env} {f : α → St → β × St} {g : Env} (hg : LE Gw g) (ht : ∀ x, TG Gw t (ex x) (Gb x)) : ∀ (xs : List α) (l : St), (∀ x, x ∈ xs → ∀ l, X (Gb x) e (some l) (ey (f x l).1) (some (f x l).2)) → lcLoop t tYes e g (xs.map ex) (some l) = some ((mapW f xs l).1.map ey, some (mapW f xs l).2)
  | [], _, _ => rfl
  | x :: xs, l, h => by
    rw [List.map_cons, lcLoop]
    obtain ⟨g1, e1, h1⟩ := (ht x).run g hg
    rw [e1]
    dsimp only
    rw [s_tYes, bnd_some, if_pos rfl, (h x List.mem_cons_self l).run g1 h1, bnd_some, lcW_run hg ht xs _ fun y hy => h y (List.mem_cons_of_mem _ hy), bnd_some]
    rfl
theorem X.lcW {α β : Type} {it : Es} {t : Q.G} {e : E} {vs : List Nat} {l : St} (ex : α → D) (ey : β → D) {xs : List α} (Gw : Env) (Gb : α → Env) (f : α → St → β × St) (hi : XA G it w (xs.map ex) (some l)) (ht : ∀ x, TG Gw t (ex x) (Gb x)) (hz : xs.length ≤ sizeLine) (he : ∀ x, x ∈ xs → ∀ l, X (Gb x) e (some l) (ey (f x l).1) (some (f x l).2)) (hw : wipeE G vs = Gw := by rfl) :
    X G (cLc it t tYes e vs) w (.list ((mapW f xs l).1.map ey)) (some (mapW f xs l).2) := ⟨fun g hg => by
  rw [s_cLc, hi.run g hg, bnd_some, lcW_run (f := f) (hw ▸ hg.wipe vs) ht xs l he, bnd_some, if_pos (by simpa using hz)]⟩
/-- draws in the test -/
def filterW {α : Type} (f : α → St → Bool × St) : List α → St → List α × St
  | [], l => ([], l)
  | x :: xs, l => if (f x l).1 = true then (x :: (filterW f xs (f x l).2).1, (filterW f xs (f x l).2).2) else filterW f xs (f x l).2
theorem lcSW_run {α : Type} {t : Q.G} {c : T} {e : E} {ex : α → D} {Gw : Env} {Gb : α → Env} {f : α → St → Bool × St} {g : Env} (hg : LE Gw g) (ht : ∀ x, TG Gw t (ex x) (Gb x)) (he : ∀ x l, X (Gb x) e (some l) (ex x) (some l)) : ∀ (xs : List α) (l : St), (∀ x, x ∈ xs → ∀ l, XT (Gb x) c (some l) (f x l).1 (some (f x l).2)) → lcLoop t c e g (xs.map ex) (some l) = some ((filterW f xs l).1.map ex, some (filterW f xs l).2)
  | [], _, _ => rfl
  | x :: xs, l, h => by
    rw [List.map_cons, lcLoop]
    obtain ⟨g1, e1, h1⟩ := (ht x).run g hg
    rw [e1]
    dsimp only
    rw [(h x List.mem_cons_self l).run g1 h1, bnd_some, filterW]
    have ih := lcSW_run hg ht he xs (f x l).2 fun y hy => h y (List.mem_cons_of_mem _ hy)
    cases hp : (f x l).1 with
    | true => rw [if_pos rfl, if_pos rfl, (he x _).run g1 h1, bnd_some, ih, bnd_some]; rfl
    | false => rw [if_neg Bool.false_ne_true, if_neg Bool.false_ne_true, ih]
theorem X.lcSW {α : Type} {it : Es} {t : Q.G} {c : T} {e : E} {vs : List Nat} {l : St} (ex : α → D) {xs : List α} (Gw : Env) (Gb : α → Env) (f : α → St → Bool × St) (hi : XA G it w (xs.map ex) (some l)) (ht : ∀ x, TG Gw t (ex x) (Gb x)) (hz : xs.length ≤ sizeLine) (hc : ∀ x, x ∈ xs → ∀ l, XT (Gb x) c (some l) (f x l).1 (some (f x l).2)) (he : ∀ x l, X (Gb x) e (some l) (ex x) (some l)) (hw : wipeE G vs = Gw := by rfl) :
    X G (cLc it t c e vs) w (.list ((filterW f xs l).1.map ex)) (some (filterW f xs l).2) := ⟨fun g hg => by
  rw [s_cLc, hi.run g hg, bnd_some, lcSW_run (hw ▸ hg.wipe vs) ht he xs l hc, bnd_some, if_pos (by simpa using hz)]⟩
end
/-! ### loops -/
/-- ok at each turn -/
def OkF {α σ : Type} (ok : σ → α → Prop) (step : σ → α → σ) : σ → List α → Prop
  | _, [] => True
  | s, x :: xs => ok s x ∧ OkF ok step (step s x) xs
theorem OkF.all {α σ : Type} {ok : σ → α → Prop} {step : σ → α → σ} : ∀ {xs : List α} {s : σ}, (∀ s x, x ∈ xs → ok s x) → OkF ok step s xs
  | [], _, _ => trivial
  | x :: _, s, h => ⟨h s x List.mem_cons_self, OkF.all fun s y hy => h s y (List.mem_cons_of_mem _ hy)⟩
/-- by an invariant -/
theorem OkF.inv {α σ : Type} {ok : σ → α → Prop} {step : σ → α → σ} (I : σ → Prop) : ∀ {xs : List α} {s : σ}, I s → (∀ s x, x ∈ xs → I s → ok s x ∧ I (step s x)) → OkF ok step s xs
  | [], _, _, _ => trivial
  | x :: _, s, hI, h => ⟨(h s x List.mem_cons_self hI).1, OkF.inv I (h s x List.mem_cons_self hI).2 fun s y hy => h s y (List.mem_cons_of_mem _ hy)⟩
/-- by an invariant that counts the turns -/
theorem OkF.invN {α σ : Type} {ok : σ → α → Prop} {step : σ → α → σ} (I : Nat → σ → Prop) : ∀ {xs : List α} {s : σ} (n : Nat), I n s → (∀ i s x, x ∈ xs → i < n + xs.length → I i s → ok s x ∧ I (i + 1) (step s x)) → OkF ok step s xs
  | [], _, _, _, _ => trivial
  | x :: xs, s, n, hI, h => ⟨(h n s x List.mem_cons_self (by simp) hI).1, OkF.invN I (n + 1) (h n s x List.mem_cons_self (by simp) hI).2 fun i s y hy hi => h i s y (List.mem_cons_of_mem _ hy) (by simp only [List.length_cons]; omega)⟩
/-- what a turn may end in -/
inductive Stp (ρ σ : Type) where
  | ret (r : ρ)
  | nx (s : σ)
  | bk (s : σ)
def loopT {ρ α σ : Type} (step : σ → α → Stp ρ σ) : σ → List α → Stp ρ σ
  | s, [] => .nx s
  | s, x :: xs => match step s x with
    | .ret r => .ret r
    | .nx s' => loopT step s' xs
    | .bk s' => .nx s'
def OkL {ρ α σ : Type} (ok : σ → α → Prop) (step : σ → α → Stp ρ σ) : σ → List α → Prop
  | _, [] => True
  | s, x :: xs => ok s x ∧ ∀ s', step s x = .nx s' → OkL ok step s' xs
theorem OkL.all {ρ α σ : Type} {ok : σ → α → Prop} {step : σ → α → Stp ρ σ} : ∀ {xs : List α} {s : σ}, (∀ s x, x ∈ xs → ok s x) → OkL ok step s xs
  | [], _, _ => trivial
  | x :: _, s, h => ⟨h s x List.mem_cons_self, fun s' _ => OkL.all fun s y hy => h s y (List.mem_cons_of_mem _ hy)⟩
theorem OkL.inv {ρ α σ : Type} {ok : σ → α → Prop} {step : σ → α → Stp ρ σ} (I : σ → Prop) : ∀ {xs : List α} {s : σ}, I s → (∀ s x, x ∈ xs → I s → ok s x ∧ ∀ s', step s x = .nx s' → I s') → OkL ok step s xs
  | [], _, _, _ => trivial
  | x :: _, s, hI, h => ⟨(h s x List.mem_cons_self hI).1, fun s' e => OkL.inv I ((h s x List.mem_cons_self hI).2 s' e) fun s y hy => h s y (List.mem_cons_of_mem _ hy)⟩
def outS {ρ σ : Type} (er : ρ → D) (Gs : σ → Env) : Stp ρ σ → Out
  | .ret r => .rt (er r)
  | .nx s => .nx (Gs s)
  | .bk s => .bk (Gs s)
section
variable {G G' G1 G2 : Env} {w w1 w2 w3 w4 : Wd}
theorem for_run {α σ : Type} {t : Q.G} {b : S} {vs : List Nat} {ex : α → D} {Gs : σ → Env} {Ws : σ → Wd} {Gb : σ → α → Env} {step : σ → α → σ} {ok : σ → α → Prop} (hw : ∀ s, wipeE (Gs s) vs = Gs s) (ht : ∀ s x, TG (Gs s) t (ex x) (Gb s x)) : ∀ (xs : List α) (s : σ), (∀ s x, x ∈ xs → ok s x → XS (Gb s x) b (Ws s) (.nx (Gs (step s x))) (Ws (step s x))) → OkF ok step s xs → ∀ g, LE (Gs s) g → ∃ g', loopS t b vs (xs.map ex) g (Ws s) = some (.nx g', Ws (xs.foldl step s)) ∧ LE (Gs (xs.foldl step s)) g'
  | [], s, _, _, g, hg => ⟨wipeE g vs, rfl, hw s ▸ hg.wipe vs⟩
  | x :: xs, s, hb, hok, g, hg => by
    obtain ⟨g1, e1, h1⟩ := (ht s x).run _ (hw s ▸ hg.wipe vs)
    obtain ⟨o, e2, l2⟩ := (hb s x List.mem_cons_self hok.1).run g1 h1
    cases l2 with
    | nx h2 =>
      obtain ⟨g3, e3, h3⟩ := for_run hw ht xs (step s x) (fun s y hy => hb s y (List.mem_cons_of_mem _ hy)) hok.2 _ h2
      refine ⟨g3, ?_, h3⟩
      rw [List.map_cons, loopS, e1]
      dsimp only
      rw [e2, bnd_some]
      exact e3
theorem XS.for {α σ : Type} {it : Es} {t : Q.G} {b : S} {vs : List Nat} (ex : α → D) {xs : List α} (s0 : σ) (Gs : σ → Env) (Ws : σ → Wd) (Gb : σ → α → Env) (step : σ → α → σ) (ok : σ → α → Prop) (hi : XA G it w (xs.map ex) (Ws s0)) (h0 : LE (Gs s0) G) (ht : ∀ s x, TG (Gs s) t (ex x) (Gb s x))
    (hb : ∀ s x, x ∈ xs → ok s x → XS (Gb s x) b (Ws s) (.nx (Gs (step s x))) (Ws (step s x))) (hok : OkF ok step s0 xs) (hw : ∀ s, wipeE (Gs s) vs = Gs s := by intro _; rfl) : XS G (sFor it t b vs) w (.nx (Gs (xs.foldl step s0))) (Ws (xs.foldl step s0)) := ⟨fun g hg => by
  obtain ⟨g', e, h⟩ := for_run hw ht xs s0 hb hok g (h0.trans hg)
  exact ⟨.nx g', by rw [s_sFor, hi.run g hg, bnd_some]; exact e, .nx h⟩⟩
/-- a loop that changes nothing -/
theorem XS.forU {α : Type} {it : Es} {t : Q.G} {b : S} {vs : List Nat} (ex : α → D) {xs : List α} (Gs : Env) (Gb : α → Env) (hi : XA G it w (xs.map ex) w1) (h0 : LE Gs G) (ht : ∀ x, TG Gs t (ex x) (Gb x)) (hb : ∀ x, x ∈ xs → XS (Gb x) b w1 (.nx Gs) w1) (hw : wipeE Gs vs = Gs := by rfl) : XS G (sFor it t b vs) w (.nx Gs) w1 := ⟨fun g hg => by
  obtain ⟨g', e, h⟩ := for_run (σ := Unit) (Gs := fun _ => Gs) (Ws := fun _ => w1) (Gb := fun _ => Gb) (step := fun _ _ => ()) (ok := fun _ _ => True) (fun _ => hw) (fun _ => ht) xs () (fun s x hx _ => hb x hx) (OkF.all fun _ _ _ => trivial) g (h0.trans hg)
  exact ⟨.nx g', by rw [s_sFor, hi.run g hg, bnd_some]; exact e, .nx h⟩⟩
/-- .. with draws -/
theorem XL.forU {α : Type} {it : Es} {t : Q.G} {b : S} {vs : List Nat} {l l1 : St} (ex : α → D) {xs : List α} (Gs : Env) (Gb : α → Env) (hi : XA G it (some l) (xs.map ex) (some l1)) (h0 : LE Gs G) (ht : ∀ x, TG Gs t (ex x) (Gb x)) (hb : ∀ x, x ∈ xs → ∀ l, XL (Gb x) b l (.nx Gs)) (hw : wipeE Gs vs = Gs := by rfl) : XL G (sFor it t b vs) l (.nx Gs) := ⟨fun g hg => by
  have key : ∀ (xs : List α) (l : St) (g : Env), LE Gs g → (∀ x, x ∈ xs → ∀ l, XL (Gb x) b l (.nx Gs)) → ∃ g' l', loopS t b vs (xs.map ex) g (some l) = some (.nx g', some l') ∧ LE Gs g' := by
    intro xs
    induction xs with
    | nil => exact fun l g hg _ => ⟨wipeE g vs, l, rfl, hw ▸ hg.wipe vs⟩
    | cons x xs ih =>
      intro l g hg hb
      obtain ⟨g1, e1, h1⟩ := (ht x).run _ (hw ▸ hg.wipe vs)
      obtain ⟨o, l1, e2, l2⟩ := (hb x List.mem_cons_self l).run g1 h1
      cases l2 with
      | nx h2 =>
        obtain ⟨g3, l3, e3, h3⟩ := ih l1 _ h2 fun y hy => hb y (List.mem_cons_of_mem _ hy)
        refine ⟨g3, l3, ?_, h3⟩
        rw [List.map_cons, loopS, e1]
        dsimp only
        rw [e2, bnd_some]
        exact e3
  obtain ⟨g', l', e, h⟩ := key xs l1 g (h0.trans hg) hb
  exact ⟨.nx g', l', by rw [s_sFor, hi.run g hg, bnd_some]; exact e, .nx h⟩⟩
theorem forR_run {ρ α σ : Type} {t : Q.G} {b : S} {vs : List Nat} {ex : α → D} {er : ρ → D} {Gs : σ → Env} {Gb : σ → α → Env} {step : σ → α → Stp ρ σ} {ok : σ → α → Prop} (hw : ∀ s, wipeE (Gs s) vs = Gs s) (ht : ∀ s x, TG (Gs s) t (ex x) (Gb s x)) : ∀ (xs : List α) (s : σ), (∀ s x, x ∈ xs → ok s x → XS (Gb s x) b w (outS er Gs (step s x)) w) → OkL ok step s xs → ∀ g, LE (Gs s) g → ∃ o', loopS t b vs (xs.map ex) g w = some (o', w) ∧ OLE (outS er Gs (loopT step s xs)) o'
  | [], s, _, _, g, hg => ⟨.nx (wipeE g vs), rfl, .nx (hw s ▸ hg.wipe vs)⟩
  | x :: xs, s, hb, hok, g, hg => by
    obtain ⟨g1, e1, h1⟩ := (ht s x).run _ (hw s ▸ hg.wipe vs)
    obtain ⟨o, e2, l2⟩ := (hb s x List.mem_cons_self hok.1).run g1 h1
    rw [List.map_cons, loopS, e1, loopT]
    dsimp only
    rw [e2, bnd_some]
    cases hs : step s x with
    | ret r =>
      rw [hs] at l2
      cases l2
      exact ⟨_, rfl, .rt⟩
    | nx s' =>
      rw [hs] at l2
      cases l2 with
      | nx h2 => exact forR_run hw ht xs s' (fun s y hy => hb s y (List.mem_cons_of_mem _ hy)) (hok.2 s' hs) _ h2
    | bk s' =>
      rw [hs] at l2
      cases l2 with
      | bk h2 => exact ⟨_, rfl, .nx (hw s' ▸ h2.wipe vs)⟩
theorem XS.forR {ρ α σ : Type} {it : Es} {t : Q.G} {b : S} {vs : List Nat} (ex : α → D) (er : ρ → D) {xs : List α} (s0 : σ) (Gs : σ → Env) (Gb : σ → α → Env) (step : σ → α → Stp ρ σ) (ok : σ → α → Prop) (hi : XA G it w (xs.map ex) w1) (h0 : LE (Gs s0) G) (ht : ∀ s x, TG (Gs s) t (ex x) (Gb s x))
    (hb : ∀ s x, x ∈ xs → ok s x → XS (Gb s x) b w1 (outS er Gs (step s x)) w1) (hok : OkL ok step s0 xs) (hw : ∀ s, wipeE (Gs s) vs = Gs s := by intro _; rfl) : XS G (sFor it t b vs) w (outS er Gs (loopT step s0 xs)) w1 := ⟨fun g hg => by
  obtain ⟨o, e, h⟩ := forR_run (er := er) hw ht xs s0 hb hok g (h0.trans hg)
  exact ⟨o, by rw [s_sFor, hi.run g hg, bnd_some]; exact e, h⟩⟩
def Stp.el {ρ σ τ : Type} (r : Stp ρ σ) (f : ρ → τ) (k : σ → τ) : τ := match r with
  | .ret r => f r
  | .nx s => k s
  | .bk s => k s
/-- behind a loop that may return -/
theorem XS.seqR {ρ σ τ : Type} {a b : S} (er : ρ → D) (Gs : σ → Env) (r : Stp ρ σ) (K : τ → Out) (f : ρ → τ) (k : σ → τ) (ha : XS G a w (outS er Gs r) w1) (hr : ∀ v, K (f v) = .rt (er v)) (hn : ∀ s, r ≠ .bk s) (hb : ∀ s, r = .nx s → XS (Gs s) b w1 (K (k s)) w1) : XS G (sSeq a b) w (K (r.el f k)) w1 := ⟨fun g hg => by
  obtain ⟨o, e, h⟩ := ha.run g hg
  cases r with
  | ret v =>
    cases h
    refine ⟨_, by rw [s_sSeq, e]; rfl, ?_⟩
    show OLE (K (f v)) _
    rw [hr]
    exact .rt
  | bk s => exact absurd rfl (hn s)
  | nx s =>
    cases h with
    | nx h2 =>
      obtain ⟨o2, e2, l2⟩ := (hb s rfl).run _ h2
      exact ⟨o2, by rw [s_sSeq, e]; exact e2, l2⟩⟩
theorem loopT_bk {ρ α σ : Type} (step : σ → α → Stp ρ σ) : ∀ (xs : List α) (s : σ) (s' : σ), loopT step s xs ≠ .bk s'
  | [], s, s' => by unfold loopT; exact fun z => nomatch z
  | x :: xs, s, s' => by
    unfold loopT
    cases step s x with
    | ret r => exact fun z => nomatch z
    | nx s2 => exact loopT_bk step xs s2 s'
    | bk s2 => exact fun z => nomatch z
/-! whiles, by fuel -/
def whileT {σ : Type} (c : σ → Bool) (f : σ → σ) : Nat → σ → σ
  | 0, s => s
  | n + 1, s => if c s = true then whileT c f n (f s) else s
/-- ends within n turns -/
def OkW {σ : Type} (okc : σ → Prop) (c : σ → Bool) (ok : σ → Prop) (f : σ → σ) : Nat → σ → Prop
  | 0, _ => False
  | n + 1, s => okc s ∧ (c s = true → ok s ∧ OkW okc c ok f n (f s))
theorem while_run {σ : Type} {t : T} {b : S} {vs : List Nat} {Gs : σ → Env} {c : σ → Bool} {f : σ → σ} {okc ok : σ → Prop} (hw : ∀ s, wipeE (Gs s) vs = Gs s) (hc : ∀ s, okc s → XT (Gs s) t w (c s) w) (hb : ∀ s, ok s → c s = true → XS (Gs s) b w (.nx (Gs (f s))) w) : ∀ (n : Nat) (s : σ), OkW okc c ok f n s → ∀ g, LE (Gs s) g → ∃ g', whileS t b vs n g w = some (.nx g', w) ∧ LE (Gs (whileT c f n s)) g'
  | 0, s, h, g, hg => h.elim
  | n + 1, s, h, g, hg => by
    have hg' := hw s ▸ hg.wipe vs
    rw [whileS, (hc s h.1).run _ hg', bnd_some, whileT]
    cases hk : c s with
    | false => rw [if_neg Bool.false_ne_true, if_neg Bool.false_ne_true]; exact ⟨_, rfl, hg'⟩
    | true =>
      rw [if_pos rfl, if_pos rfl]
      obtain ⟨o, e2, l2⟩ := (hb s (h.2 hk).1 hk).run _ hg'
      rw [e2, bnd_some]
      cases l2 with
      | nx h2 => exact while_run hw hc hb n (f s) (h.2 hk).2 _ h2
theorem XS.while {σ : Type} {t : T} {b : S} {vs : List Nat} (n : Nat) (s0 : σ) (Gs : σ → Env) (c : σ → Bool) (f : σ → σ) (okc ok : σ → Prop) (h0 : LE (Gs s0) G) (hc : ∀ s, okc s → XT (Gs s) t w (c s) w) (hb : ∀ s, ok s → c s = true → XS (Gs s) b w (.nx (Gs (f s))) w) (hok : OkW okc c ok f n s0) (hw : ∀ s, wipeE (Gs s) vs = Gs s := by intro _; rfl) :
    XS G (sWhile t b vs n) w (.nx (Gs (whileT c f n s0))) w := ⟨fun g hg => by
  obtain ⟨g', e, h⟩ := while_run hw hc hb n s0 hok g (h0.trans hg)
  exact ⟨.nx g', by rw [s_sWhile]; exact e, .nx h⟩⟩
/-! ### defs -/
theorem fn_tie {n nl : Nat} {b : S} {ds : List D} {d : D} (h : XS (ds.map some ++ List.replicate nl none) b w (.rt d) w1) (hn : ds.length = n := by rfl) : bodyFn n nl b ds w = some (d, w1) := by
  obtain ⟨o, e, l⟩ := h.run _ (LE.rfl' _)
  cases l
  unfold bodyFn
  rw [if_pos hn, e]
  rfl
theorem fn_tieN {n nl : Nat} {b : S} {ds : List D} (h : XS (ds.map some ++ List.replicate nl none) b w (.nx G) w1) (hn : ds.length = n := by rfl) : bodyFn n nl b ds w = some (.none, w1) := by
  obtain ⟨o, e, l⟩ := h.run _ (LE.rfl' _)
  cases l
  unfold bodyFn
  rw [if_pos hn, e]
  rfl
/-! draws -/
def nextT (l : St) (m : Int) : Int × St := match l with
  | [] => (0, [])
  | x :: r => (x.fmod m, r)
theorem next_tie {l : St} {m : Int} (h : m ≠ 0) : fnNext [tokW, .int m] (some l) = some (.int (nextT l m).1, some (nextT l m).2) := by
  cases l with
  | nil => rfl
  | cons x r =>
    show (if m ≠ 0 then some (.int (x.fmod m), some r) else none : Option (D × Wd)) = _
    rw [if_pos h]
    rfl
theorem nextT_bnd (l : St) {m : Int} (h : 0 < m) : 0 ≤ (nextT l m).1 ∧ (nextT l m).1 < m := by
  cases l with
  | nil => exact ⟨Int.le_refl _, h⟩
  | cons x r => exact ⟨Int.fmod_nonneg_of_pos _ h, Int.fmod_lt_of_pos _ h⟩
theorem mapW_len {α β : Type} (f : α → St → β × St) : ∀ (xs : List α) (l : St), (mapW f xs l).1.length = xs.length
  | [], _ => rfl
  | x :: xs, l => by simp [mapW, mapW_len f xs]
theorem mapW_all {α β : Type} {f : α → St → β × St} {P : β → Prop} : ∀ {xs : List α} {l : St}, (∀ x, x ∈ xs → ∀ l, P (f x l).1) → ∀ y ∈ (mapW f xs l).1, P y
  | [], _, _, y, hy => by simp [mapW] at hy
  | x :: xs, l, h, y, hy => by
    simp only [mapW, List.mem_cons] at hy
    rcases hy with rfl | hy
    · exact h x List.mem_cons_self l
    · exact mapW_all (fun z hz => h z (List.mem_cons_of_mem _ hz)) y hy
theorem filterW_sub {α : Type} (f : α → St → Bool × St) : ∀ (xs : List α) (l : St), (filterW f xs l).1.Sublist xs
  | [], _ => List.Sublist.slnil
  | x :: xs, l => by
    unfold filterW
    split
    · exact (filterW_sub f xs _).cons_cons x
    · exact (filterW_sub f xs _).cons x
end
end Q

set_option Elab.async false
set_option linter.all false
set_option autoImplicit false
set_option maxRecDepth 100000
/-! TYO: the operators at Lean's own types. -/
namespace Q
open PySem PySem.W PyProof.Rows
/-! ### equality -/
structure EqE {α : Type} [DecidableEq α] (e : α → D) (n : Nat) : Prop where
  plain : ∀ a, (e a).plain = true
  depth : ∀ a, (e a).depth ≤ n
  eqv : ∀ a b, PyData.eqv (e a) (e b) = decide (a = b)
theorem EqI : EqE PyData.int 0 := ⟨fun _ => rfl, fun _ => Nat.le_refl _, fun a b => by simp only [PyData.eqv]; rw [beq_decide]⟩
theorem EqB : EqE PyData.bool 0 := ⟨fun _ => rfl, fun _ => Nat.le_refl _, fun a b => by cases a <;> cases b <;> rfl⟩
theorem EqS : EqE PyData.str 0 := ⟨fun _ => rfl, fun _ => Nat.le_refl _, fun a b => by simp only [PyData.eqv]; rw [beq_decide]⟩
theorem EqU : EqE eU 0 := ⟨fun _ => rfl, fun _ => Nat.le_refl _, fun a b => by simp [eU, PyData.eqv]⟩
theorem EqE.up {α : Type} [DecidableEq α] {e : α → D} {n m : Nat} (h : EqE e n) (k : n ≤ m) : EqE e m := ⟨h.plain, fun a => Nat.le_trans (h.depth a) k, h.eqv⟩
/-- a row of items -/
structure EqR {α : Type} [DecidableEq α] (r : α → List D) (n : Nat) : Prop where
  plain : ∀ a, PyData.plainAll (r a) = true
  depth : ∀ a, PyData.depthAll (r a) ≤ n
  eqv : ∀ a b, PyData.eqvAll (r a) (r b) = decide (a = b)
section
variable {α β : Type} [DecidableEq α] [DecidableEq β]
theorem EqR.one {e : α → D} {n : Nat} (h : EqE e n) : EqR (fun a => [e a]) n := ⟨fun a => by simp [PyData.plainAll, h.plain], fun a => by simp [PyData.depthAll, h.depth], fun a b => by simp [PyData.eqvAll, h.eqv]⟩
theorem EqR.cons {e : α → D} {r : β → List D} {n m : Nat} (h : EqE e n) (k : EqR r m) : EqR (fun p : α × β => e p.1 :: r p.2) (max n m) := ⟨fun a => by simp [PyData.plainAll, h.plain, k.plain], fun a => by
  simp only [PyData.depthAll]
  have := h.depth a.1
  have := k.depth a.2
  omega, fun a b => by
  simp only [PyData.eqvAll, h.eqv, k.eqv]
  rw [← Bool.decide_and]
  exact decide_eq_decide.mpr (by rw [Prod.ext_iff])⟩
theorem EqR.map {e : α → D} {n : Nat} (h : EqE e n) : EqR (fun l : List α => l.map e) n := ⟨fun l => by
  induction l with
  | nil => rfl
  | cons x xs ih => simp only [List.map_cons, PyData.plainAll, h.plain, ih, Bool.and_self], fun l => by
  induction l with
  | nil => simp [PyData.depthAll]
  | cons x xs ih =>
    simp only [List.map_cons, PyData.depthAll]
    have := h.depth x
    omega, fun a => by
  induction a with
  | nil => intro b; cases b <;> simp [PyData.eqvAll]
  | cons x xs ih =>
    intro b
    cases b with
    | nil => simp [PyData.eqvAll]
    | cons y ys =>
      simp only [List.map_cons, PyData.eqvAll, h.eqv, ih]
      rw [← Bool.decide_and]
      exact decide_eq_decide.mpr (by rw [List.cons.injEq])⟩
theorem EqR.tup {r : α → List D} {n : Nat} (h : EqR r n) : EqE (fun a => PyData.tuple (r a)) (n + 1) := ⟨fun a => by simp only [PyData.plain]; exact h.plain a, fun a => by
  simp only [PyData.depth]
  have := h.depth a
  omega, fun a b => by simp only [PyData.eqv]; exact h.eqv a b⟩
theorem EqR.lst {r : α → List D} {n : Nat} (h : EqR r n) : EqE (fun a => PyData.list (r a)) (n + 1) := ⟨fun a => by simp only [PyData.plain]; exact h.plain a, fun a => by
  simp only [PyData.depth]
  have := h.depth a
  omega, fun a b => by simp only [PyData.eqv]; exact h.eqv a b⟩
theorem EqL {e : α → D} {n : Nat} (h : EqE e n) : EqE (eL e) (n + 1) := (EqR.map h).lst
theorem EqT {e : α → D} {n : Nat} (h : EqE e n) : EqE (eT e) (n + 1) := (EqR.map h).tup
end
/-- never None -/
def NN {α : Type} (e : α → D) : Prop := ∀ a, e a ≠ .none
theorem EqO {α : Type} [DecidableEq α] {e : α → D} {n : Nat} (h : EqE e n) (k : NN e) : EqE (eO e) n := ⟨fun a => by cases a <;> simp [eO, PyData.plain, h.plain], fun a => by
  cases a with
  | none => simp [eO, PyData.depth]
  | some a => exact h.depth a, fun a b => by
  cases a with
  | none =>
    cases b with
    | none => rfl
    | some b =>
      have := k b
      show PyData.eqv .none (e b) = _
      cases hb : e b <;> simp_all [PyData.eqv]
  | some a =>
    cases b with
    | none =>
      have := k a
      show PyData.eqv (e a) .none = _
      cases hb : e a <;> simp_all [PyData.eqv]
    | some b => simp [eO, h.eqv]⟩
theorem eqE {α : Type} [DecidableEq α] {e : α → D} {n : Nat} (h : EqE e n) (hn : n ≤ 60) (a b : α) : eqD (e a) (e b) = some (decide (a = b)) := by
  unfold eqD lowD
  have := h.depth a
  have := h.depth b
  rw [if_pos (by simp only [h.plain, Bool.true_and, Bool.and_eq_true, decide_eq_true_eq]; omega), h.eqv]
theorem neE {α : Type} [DecidableEq α] {e : α → D} {n : Nat} (h : EqE e n) (hn : n ≤ 60) (a b : α) : neD (e a) (e b) = some (!decide (a = b)) := by
  unfold neD; rw [eqE h hn]; rfl
theorem any_dec {α : Type} [DecidableEq α] {e : α → D} {n : Nat} (h : EqE e n) (a : α) (xs : List α) : ((xs.map e).any fun y => PyData.eqv y (e a)) = decide (a ∈ xs) := by
  rw [List.any_map]
  induction xs with
  | nil => simp
  | cons x xs ih =>
    rw [List.any_cons, ih]
    simp only [Function.comp, h.eqv, List.mem_cons]
    by_cases h1 : x = a
    · simp [h1]
    · have h2 : a ≠ x := fun z => h1 z.symm
      simp [h1, h2]
theorem low_map {α : Type} [DecidableEq α] {e : α → D} {n : Nat} (h : EqE e n) (hn : n + 1 ≤ 60) (xs : List α) : lowD (.list (xs.map e)) = true ∧ lowD (.tuple (xs.map e)) = true := by
  unfold lowD
  have h1 : (PyData.list (xs.map e)).depth ≤ n + 1 := (EqL h).depth xs
  have h2 : (PyData.tuple (xs.map e)).depth ≤ n + 1 := (EqT h).depth xs
  constructor
  · simp only [decide_eq_true_eq]; omega
  · simp only [decide_eq_true_eq]; omega
theorem inE {α : Type} [DecidableEq α] {e : α → D} {n : Nat} (h : EqE e n) (hn : n + 1 ≤ 60) (a : α) (xs : List α) : inD (e a) (.list (xs.map e)) = some (decide (a ∈ xs)) ∧ inD (e a) (.tuple (xs.map e)) = some (decide (a ∈ xs)) := by
  have h1 := low_map h hn xs
  have h2 : lowD (e a) = true := by unfold lowD; have := h.depth a; simp only [decide_eq_true_eq]; omega
  have h3 := (EqR.map h).plain xs
  constructor
  · show (if _ then _ else none) = _
    rw [if_pos (by simp only [h1.1, h2, h3, h.plain, Bool.and_self]), any_dec h]
  · show (if _ then _ else none) = _
    rw [if_pos (by simp only [h1.2, h2, h3, h.plain, Bool.and_self]), any_dec h]
theorem inL {α : Type} [DecidableEq α] {e : α → D} {n : Nat} (h : EqE e n) (hn : n + 1 ≤ 60) (a : α) (xs : List α) : inD (e a) (.list (xs.map e)) = some (decide (a ∈ xs)) := (inE h hn a xs).1
theorem inT {α : Type} [DecidableEq α] {e : α → D} {n : Nat} (h : EqE e n) (hn : n + 1 ≤ 60) (a : α) (xs : List α) : inD (e a) (.tuple (xs.map e)) = some (decide (a ∈ xs)) := (inE h hn a xs).2
theorem notInL {α : Type} [DecidableEq α] {e : α → D} {n : Nat} (h : EqE e n) (hn : n + 1 ≤ 60) (a : α) (xs : List α) : notInD (e a) (.list (xs.map e)) = some (!decide (a ∈ xs)) := by unfold notInD; rw [inL h hn]; rfl
theorem notInT {α : Type} [DecidableEq α] {e : α → D} {n : Nat} (h : EqE e n) (hn : n + 1 ≤ 60) (a : α) (xs : List α) : notInD (e a) (.tuple (xs.map e)) = some (!decide (a ∈ xs)) := by unfold notInD; rw [inT h hn]; rfl
theorem isND_O {α : Type} {e : α → D} (k : NN e) (a : Option α) : isND (eO e a) .none = some a.isNone := by
  cases a with
  | none => rfl
  | some a =>
    have := k a
    show some (isNoneD (e a)) = _
    cases hb : e a <;> simp_all [isNoneD]
theorem isNotND_O {α : Type} {e : α → D} (k : NN e) (a : Option α) : isNotND (eO e a) .none = some a.isSome := by
  cases a with
  | none => rfl
  | some a =>
    have := k a
    show some (!isNoneD (e a)) = _
    cases hb : e a <;> simp_all [isNoneD]
theorem NN.i : NN PyData.int := fun _ z => nomatch z
theorem NN.b : NN PyData.bool := fun _ z => nomatch z
theorem NN.s : NN PyData.str := fun _ z => nomatch z
theorem NN.l {α : Type} {e : α → D} : NN (eL e) := fun _ z => nomatch z
theorem NN.l' {α : Type} {r : α → List D} : NN (fun a => PyData.list (r a)) := fun _ z => nomatch z
theorem NN.t {α : Type} {r : α → List D} : NN (fun a => PyData.tuple (r a)) := fun _ z => nomatch z
/-! ### order -/
structure OrE {α : Type} [DecidableEq α] (e : α → D) (n : Nat) (lt : α → α → Bool) : Prop extends EqE e n where
  alike : ∀ a b, PySem.W.alike (e a) (e b) = true
  nn : NN e
  lt_eq : ∀ a b, PySem.W.dataLt (e a) (e b) = lt a b
structure OrR {α : Type} [DecidableEq α] (r : α → List D) (n : Nat) (lt : α → α → Bool) : Prop extends EqR r n where
  alike : ∀ a b, PySem.W.alikeAll (r a) (r b) = true
  lt_eq : ∀ a b, rowLt (r a) (r b) = lt a b
def ltI (a b : Int) : Bool := decide (a < b)
def ltS (a b : Str) : Bool := decide (a.cps.toList < b.cps.toList)
def lt2 {α β : Type} [DecidableEq α] (la : α → α → Bool) (lb : β → β → Bool) (p q : α × β) : Bool := if p.1 = q.1 then lb p.2 q.2 else la p.1 q.1
def ltL {α : Type} [DecidableEq α] (la : α → α → Bool) : List α → List α → Bool
  | _, [] => false
  | [], _ :: _ => true
  | x :: xs, y :: ys => if x = y then ltL la xs ys else la x y
theorem OrI : OrE PyData.int 0 ltI := ⟨EqI, fun _ _ => by simp [PySem.W.alike], NN.i, fun a b => dataLt_int a b⟩
theorem OrS : OrE PyData.str 0 ltS := ⟨EqS, fun _ _ => by simp [PySem.W.alike], NN.s, fun a b => dataLt_str a b⟩
section
variable {α β : Type} [DecidableEq α] [DecidableEq β]
theorem row_nil : rowLt [] [] = false := by unfold rowLt; exact lex_irrefl _
theorem OrR.nil : OrR (fun _ : Unit => []) 0 (fun _ _ => false) := ⟨⟨fun _ => rfl, fun _ => Nat.le_refl _, fun _ _ => by simp [PyData.eqvAll]⟩, fun _ _ => by simp [PySem.W.alikeAll], fun _ _ => row_nil⟩
theorem OrR.one {e : α → D} {n : Nat} {lt : α → α → Bool} (h : OrE e n lt) : OrR (fun a => [e a]) n lt := ⟨EqR.one h.toEqE, fun a b => by simp [PySem.W.alikeAll, h.alike], fun a b => by
  unfold rowLt
  rw [dataLt_cons (h.alike a b), h.eqv]
  by_cases hab : a = b
  · subst hab
    rw [if_pos (by simp), ← h.lt_eq]
    exact row_nil.trans (dataLt_self _).symm
  · rw [if_neg (by simpa using hab), h.lt_eq]⟩
theorem OrR.cons {e : α → D} {r : β → List D} {n m : Nat} {la : α → α → Bool} {lb : β → β → Bool} (h : OrE e n la) (k : OrR r m lb) : OrR (fun p : α × β => e p.1 :: r p.2) (max n m) (lt2 la lb) := ⟨EqR.cons h.toEqE k.toEqR, fun a b => by simp [PySem.W.alikeAll, h.alike, k.alike], fun a b => by
  unfold rowLt lt2
  rw [dataLt_cons (h.alike a.1 b.1), h.eqv]
  by_cases hab : a.1 = b.1
  · rw [if_pos (by simpa using hab), if_pos hab]
    exact k.lt_eq a.2 b.2
  · rw [if_neg (by simpa using hab), if_neg hab, h.lt_eq]⟩
theorem row_nc (y : D) (ys : List D) : rowLt [] (y :: ys) = true := by
  unfold rowLt
  rw [toks_all_cons]
  simp only [keyToksAll]
  rw [lex_diff (O := itemOrd) (by simp)]
  rfl
theorem row_cn (y : D) (ys : List D) : rowLt (y :: ys) [] = false := by
  unfold rowLt
  rw [toks_all_cons]
  simp only [keyToksAll]
  rw [lex_diff (O := itemOrd) (by simp)]
  rfl
theorem OrR.map {e : α → D} {n : Nat} {lt : α → α → Bool} (h : OrE e n lt) : OrR (fun l : List α => l.map e) n (ltL lt) := ⟨EqR.map h.toEqE, fun a => by
  induction a with
  | nil => intro b; cases b <;> simp [PySem.W.alikeAll]
  | cons x xs ih =>
    intro b
    cases b with
    | nil => simp [PySem.W.alikeAll]
    | cons y ys => simp only [List.map_cons, PySem.W.alikeAll, h.alike, ih, Bool.and_self], fun a => by
  induction a with
  | nil =>
    intro b
    cases b with
    | nil => exact row_nil
    | cons y ys => exact row_nc _ _
  | cons x xs ih =>
    intro b
    cases b with
    | nil => exact row_cn _ _
    | cons y ys =>
      have ih := ih ys
      unfold rowLt at ih ⊢
      rw [List.map_cons, List.map_cons, dataLt_cons (h.alike x y), h.eqv, ltL]
      by_cases hab : x = y
      · rw [if_pos (by simpa using hab), if_pos hab, ih]
      · rw [if_neg (by simpa using hab), if_neg hab, h.lt_eq]⟩
theorem OrR.tup {r : α → List D} {n : Nat} {lt : α → α → Bool} (h : OrR r n lt) : OrE (fun a => PyData.tuple (r a)) (n + 1) lt := ⟨h.toEqR.tup, fun a b => by simp only [PySem.W.alike]; exact h.alike a b, NN.t, fun a b => by rw [dataLt_tuple]; exact h.lt_eq a b⟩
theorem OrR.lst {r : α → List D} {n : Nat} {lt : α → α → Bool} (h : OrR r n lt) : OrE (fun a => PyData.list (r a)) (n + 1) lt := ⟨h.toEqR.lst, fun a b => by simp only [PySem.W.alike]; exact h.alike a b, NN.l', fun a b => by rw [dataLt_list]; exact h.lt_eq a b⟩
theorem OrT {e : α → D} {n : Nat} {lt : α → α → Bool} (h : OrE e n lt) : OrE (eT e) (n + 1) (ltL lt) := (OrR.map h).tup
theorem OrL {e : α → D} {n : Nat} {lt : α → α → Bool} (h : OrE e n lt) : OrE (eL e) (n + 1) (ltL lt) := (OrR.map h).lst
end
/-! strict linear orders -/
structure Lin {α : Type} (lt : α → α → Bool) : Prop where
  irr : ∀ a, lt a a = false
  tr : ∀ a b c, lt a b = true → lt b c = true → lt a c = true
  tot : ∀ a b, lt a b = false → lt b a = false → a = b
theorem Lin.i : Lin ltI := ⟨fun a => by simp [ltI], fun a b c h k => by simp only [ltI, decide_eq_true_eq] at *; omega, fun a b h k => by simp only [ltI, decide_eq_false_iff_not] at *; omega⟩
theorem Lin.e {α : Type} [DecidableEq α] {e : α → D} {n : Nat} {lt : α → α → Bool} (h : OrE e n lt) : Lin lt := ⟨fun a => by rw [← h.lt_eq]; exact dataLt_self _, fun a b c h1 h2 => by
  rw [← h.lt_eq] at *
  exact lex_trans _ _ _ h1 h2, fun a b h1 h2 => by
  rw [← h.lt_eq] at h1 h2
  have h3 := (toks_eqv (e a) (e b) (h.alike a b))
  have h4 := lex_total _ _ h1 h2
  have h5 := h.eqv a b
  cases hb : PyData.eqv (e a) (e b) with
  | true => rw [hb] at h5; simpa using h5.symm
  | false =>
    have h6 := h3.2 hb [.inl 0] [.inl 1]
    rw [h4, lex_pre, lex_irrefl] at h6
    exact absurd (h6.symm.trans (show lexLt itemOrd [Sum.inl 0] [Sum.inl 1] = true from by decide +kernel)) Bool.false_ne_true⟩
end Q

set_option Elab.async false
set_option linter.all false
set_option autoImplicit false
set_option maxRecDepth 100000
/-! TYP: the operators at Lean's own types, further. -/
namespace Q
open PySem PySem.W PyProof.Rows
/-! numbers -/
def M64 (i j : Int) : Prop := (-18446744073709551616 < i ∧ i < 18446744073709551616) ∨ (-18446744073709551616 < j ∧ j < 18446744073709551616)
theorem mulI_ok {i j : Int} (h : M64 i j) : mulI (.int i) (.int j) = some (.int (i * j)) := by
  rw [mulI_i]
  refine if_pos ?_
  unfold small64
  simp only [Bool.or_eq_true, Bool.and_eq_true, decide_eq_true_eq]
  unfold M64 at h
  exact h
theorem mulI_kl {j : Int} (k : Int) (h : small64 k = true := by decide) : mulI (.int k) (.int j) = some (.int (k * j)) := mulI_l h
theorem mulI_kr {i : Int} (k : Int) (h : small64 k = true := by decide) : mulI (.int i) (.int k) = some (.int (i * k)) := mulI_r h
def D30 (j : Int) : Prop := j ≠ 0 ∧ -1073741824 < j ∧ j < 1073741824
theorem divD_ok {i j : Int} (h : D30 j) : divD (.int i) (.int j) = some (.int (i.fdiv j)) := divD_i h.1 (by have := h.2; omega)
theorem divD_k {i : Int} (k : Int) (h : 0 ≤ k ∧ k ≠ 0 ∧ k.natAbs < 1073741824 := by decide) : divD (.int i) (.int k) = some (.int (i / k)) := by
  rw [divD_i h.2.1 h.2.2, Int.fdiv_eq_ediv_of_nonneg _ h.1]
theorem modD_k {i : Int} (k : Int) (h : 0 ≤ k ∧ k ≠ 0 := by decide) : modD (.int i) (.int k) = some (.int (i % k)) := by
  rw [modD_i h.2, Int.fmod_eq_emod_of_nonneg _ h.1]
def absI (i : Int) : Int := if i < 0 then -i else i
theorem absD_I (i : Int) : absD (.int i) = some (.int (absI i)) := rfl
def b2n (b : Bool) : Int := if b then 1 else 0
theorem intD_B (b : Bool) : intD (.bool b) = some (.int (b2n b)) := rfl
def maxI (i j : Int) : Int := if j > i then j else i
def minI (i j : Int) : Int := if j < i then j else i
theorem max2_I (i j : Int) : max2D (.int i) (.int j) = some (.int (maxI i j)) := rfl
theorem min2_I (i j : Int) : min2D (.int i) (.int j) = some (.int (minI i j)) := rfl
theorem maxI_eq (i j : Int) : maxI i j = max i j := by unfold maxI; split <;> omega
theorem minI_eq (i j : Int) : minI i j = min i j := by unfold minI; split <;> omega
/-! sequences -/
theorem addD_L {α : Type} (e : α → D) (xs ys : List α) (h : xs.length + ys.length ≤ sizeLine) : addD (.list (xs.map e)) (.list (ys.map e)) = some (.list ((xs ++ ys).map e)) := by
  rw [List.map_append]; exact if_pos (by simpa using h)
theorem addD_T {α : Type} (e : α → D) (xs ys : List α) (h : xs.length + ys.length ≤ sizeLine) : addD (.tuple (xs.map e)) (.tuple (ys.map e)) = some (.tuple ((xs ++ ys).map e)) := by
  rw [List.map_append]; exact if_pos (by simpa using h)
theorem addD_P (xs ys : List D) (h : decide (xs.length + ys.length ≤ 16777216) = true := by rfl) : addD (.tuple xs) (.tuple ys) = some (.tuple (xs ++ ys)) := if_pos (by rw [size_eq]; exact of_decide_eq_true h)
theorem catD_L {α : Type} (e : α → D) (xs ys : List α) (h : xs.length + ys.length ≤ sizeLine) : catD (.list (xs.map e)) (.list (ys.map e)) = some (.list ((xs ++ ys).map e)) := by
  rw [List.map_append]; exact if_pos (by simpa using h)
theorem addD_S (x y : Str) (h : x.length + y.length ≤ sizeLine) : addD (.str x) (.str y) = some (.str (x ++ y)) := if_pos h
theorem lenD_L {α : Type} (e : α → D) (xs : List α) : lenD (.list (xs.map e)) = some (.int xs.length) := by rw [lenD_l, List.length_map]
theorem lenD_T {α : Type} (e : α → D) (xs : List α) : lenD (.tuple (xs.map e)) = some (.int xs.length) := by rw [lenD_t, List.length_map]
theorem lenD_P (xs : List D) {n : Int} (h : (xs.length : Int) = n := by rfl) : lenD (.tuple xs) = some (.int n) := by rw [lenD_t, h]
def InR {α : Type} (xs : List α) (i : Int) : Prop := -(xs.length : Int) ≤ i ∧ i < xs.length
def ixN' (n : Nat) (i : Int) : Nat := if 0 ≤ i then i.toNat else (n + i).toNat
def idx {α : Type} [Inhabited α] (xs : List α) (i : Int) : α := xs.getD (ixN' xs.length i) default
theorem ixN_some {n : Nat} {i : Int} (h : -(n : Int) ≤ i ∧ i < n) : L2.ixN n i = some (ixN' n i) ∧ ixN' n i < n := by
  unfold L2.ixN ixN'
  by_cases h0 : 0 ≤ i
  · rw [if_pos h0, if_pos h0, if_pos (by omega)]
    exact ⟨rfl, by omega⟩
  · rw [if_neg h0, if_neg h0, if_pos (by omega)]
    refine ⟨congrArg some (by omega), by omega⟩
theorem atI_idx {α : Type} [Inhabited α] {xs : List α} {i : Int} (h : InR xs i) : L2.atI xs i = some (idx xs i) := by
  obtain ⟨h1, h2⟩ := ixN_some h
  unfold L2.atI idx
  rw [h1]
  show xs[ixN' xs.length i]? = _
  rw [List.getElem?_eq_getElem h2, List.getD_eq_getElem?_getD, List.getElem?_eq_getElem h2]
  rfl
theorem idx_mem {α : Type} [Inhabited α] {xs : List α} {i : Int} (h : InR xs i) : idx xs i ∈ xs := by
  obtain ⟨h1, h2⟩ := ixN_some h
  unfold idx
  rw [List.getD_eq_getElem?_getD, List.getElem?_eq_getElem h2]
  exact List.getElem_mem h2
theorem idx_nat {α : Type} [Inhabited α] (xs : List α) (i : Nat) : idx xs (i : Int) = xs.getD i default := by
  unfold idx ixN'
  rw [if_pos (Int.natCast_nonneg i), Int.toNat_natCast]
theorem idx_lt {α : Type} [Inhabited α] (xs : List α) {i : Nat} (h : i < xs.length) : idx xs (i : Int) = xs[i] := by
  rw [idx_nat, List.getD_eq_getElem?_getD, List.getElem?_eq_getElem h]; rfl
theorem InR.nat {α : Type} {xs : List α} {i : Nat} (h : i < xs.length) : InR xs (i : Int) := ⟨by omega, by omega⟩
theorem InR.of {α : Type} {xs : List α} {i : Int} (h0 : 0 ≤ i) (h : i < xs.length) : InR xs i := ⟨by omega, h⟩
theorem atI_map {α : Type} [Inhabited α] (e : α → D) {xs : List α} {i : Int} (h : InR xs i) : L2.atI (xs.map e) i = some (e (idx xs i)) := by
  obtain ⟨h1, h2⟩ := ixN_some h
  unfold L2.atI idx
  rw [List.length_map, h1]
  show (xs.map e)[ixN' xs.length i]? = _
  rw [List.getElem?_map, List.getElem?_eq_getElem h2, List.getD_eq_getElem?_getD, List.getElem?_eq_getElem h2]
  rfl
theorem ixD_L {α : Type} [Inhabited α] (e : α → D) {xs : List α} {i : Int} (h : InR xs i) : ixD (.list (xs.map e)) (.int i) = some (e (idx xs i)) := by rw [ixD_l]; exact atI_map e h
theorem ixD_T {α : Type} [Inhabited α] (e : α → D) {xs : List α} {i : Int} (h : InR xs i) : ixD (.tuple (xs.map e)) (.int i) = some (e (idx xs i)) := by rw [ixD_t]; exact atI_map e h
theorem ixD_P {xs : List D} {i : Int} {d : D} (h : L2.atI xs i = some d := by rfl) : ixD (.tuple xs) (.int i) = some d := by rw [ixD_t]; exact h
theorem cutL_map {α β : Type} (e : α → β) (xs : List α) (lo hi : Option Int) : cutL (xs.map e) lo hi = (cutL xs lo hi).map e := by
  unfold cutL
  rw [List.length_map, ← List.map_drop, ← List.map_take]
theorem cutD_L {α : Type} (e : α → D) (xs : List α) (lo hi : Option Int) : cutD (.list (xs.map e)) lo hi = some (.list ((cutL xs lo hi).map e)) := by rw [cutD_l, cutL_map]
theorem cutD_T {α : Type} (e : α → D) (xs : List α) (lo hi : Option Int) : cutD (.tuple (xs.map e)) lo hi = some (.tuple ((cutL xs lo hi).map e)) := by rw [cutD_t, cutL_map]
theorem cutD_P {xs ys : List D} {lo hi : Option Int} (h : cutL xs lo hi = ys := by rfl) : cutD (.tuple xs) lo hi = some (.tuple ys) := by rw [cutD_t, h]
theorem sIx_pos (n : Nat) (d : Nat) {i : Int} (h : 0 ≤ i) : HT.sIx n d (some i) = min i.toNat n := by
  obtain ⟨k, rfl⟩ := Int.eq_ofNat_of_zero_le h
  exact HT.sIx_nat n d k
/-- xs[i:] -/
theorem cutL_from {α : Type} (xs : List α) {i : Int} (h : 0 ≤ i) : cutL xs (some i) none = xs.drop i.toNat := by
  unfold cutL
  rw [sIx_pos _ _ h, HT.sIx_none, List.take_of_length_le (by simp)]
  by_cases hi : i.toNat ≤ xs.length
  · rw [Nat.min_eq_left hi]
  · rw [Nat.min_eq_right (by omega), List.drop_length, List.drop_eq_nil_of_le (by omega)]
/-- xs[:i] -/
theorem cutL_to {α : Type} (xs : List α) {i : Int} (h : 0 ≤ i) : cutL xs none (some i) = xs.take i.toNat := by
  unfold cutL
  rw [sIx_pos _ _ h, HT.sIx_none]
  simp only [List.drop_zero, Nat.sub_zero]
  by_cases hi : i.toNat ≤ xs.length
  · rw [Nat.min_eq_left hi]
  · rw [Nat.min_eq_right (by omega), List.take_length, List.take_of_length_le (by omega)]
/-- xs[i:j] -/
theorem cutL_mid {α : Type} (xs : List α) {i j : Int} (h : 0 ≤ i) (k : 0 ≤ j) : cutL xs (some i) (some j) = (xs.drop i.toNat).take (j.toNat - i.toNat) := by
  unfold cutL
  rw [sIx_pos _ _ h, sIx_pos _ _ k]
  by_cases hi : i.toNat ≤ xs.length
  · rw [Nat.min_eq_left hi]
    by_cases hj : j.toNat ≤ xs.length
    · rw [Nat.min_eq_left hj]
    · rw [Nat.min_eq_right (by omega), List.take_of_length_le (by simp), List.take_of_length_le (by simp; omega)]
  · have e1 : min i.toNat xs.length = xs.length := by omega
    rw [e1, List.drop_length, List.drop_eq_nil_of_le (by omega)]
    simp
theorem cutL_len {α : Type} (xs : List α) (lo hi : Option Int) : (cutL xs lo hi).length ≤ xs.length := by
  unfold cutL
  rw [List.length_take, List.length_drop]
  omega
theorem intsOf_map (xs : List Int) : intsOf (xs.map PyData.int) = some xs := by
  induction xs with
  | nil => rfl
  | cons x xs ih => simp only [List.map_cons, intsOf, ih, Option.map_some]
theorem boolsOf_map (xs : List Bool) : boolsOf (xs.map PyData.bool) = some xs := by
  induction xs with
  | nil => rfl
  | cons x xs ih => simp only [List.map_cons, boolsOf, ih, Option.map_some]
theorem sumD_L (xs : List Int) : sumD (.list (xs.map PyData.int)) = some (.int xs.sum) := by unfold sumD; simp only [intsOf_map, Option.map_some]
theorem allD_L (xs : List Bool) : allD (.list (xs.map PyData.bool)) = some (.bool (xs.all id)) := by unfold allD; simp only [boolsOf_map, Option.map_some]
theorem anyD_L (xs : List Bool) : anyD (.list (xs.map PyData.bool)) = some (.bool (xs.any id)) := by unfold anyD; simp only [boolsOf_map, Option.map_some]
/-! min, max, sorted -/
def minF {α : Type} (lt : α → α → Bool) (x : α) (xs : List α) : α := xs.foldl (fun a y => if lt y a = true then y else a) x
def maxF {α : Type} (lt : α → α → Bool) (x : α) (xs : List α) : α := xs.foldl (fun a y => if lt a y = true then y else a) x
def minT {α : Type} [Inhabited α] (lt : α → α → Bool) : List α → α
  | [] => default
  | x :: xs => minF lt x xs
def maxT {α : Type} [Inhabited α] (lt : α → α → Bool) : List α → α
  | [] => default
  | x :: xs => maxF lt x xs
section
variable {α : Type} [DecidableEq α] {e : α → D} {n : Nat} {lt : α → α → Bool}
theorem minD_map (h : OrE e n lt) : ∀ (xs : List α) (x : α), PySem.W.minD (e x) (xs.map e) = e (minF lt x xs)
  | [], x => rfl
  | y :: xs, x => by
    have ih := minD_map h xs (if lt y x = true then y else x)
    unfold PySem.W.minD minF at *
    rw [List.map_cons, List.foldl_cons, List.foldl_cons, h.lt_eq, ← ih]
    congr 1
    split <;> rfl
theorem maxD_map (h : OrE e n lt) : ∀ (xs : List α) (x : α), PySem.W.maxD (e x) (xs.map e) = e (maxF lt x xs)
  | [], x => rfl
  | y :: xs, x => by
    have ih := maxD_map h xs (if lt x y = true then y else x)
    unfold PySem.W.maxD maxF at *
    rw [List.map_cons, List.foldl_cons, List.foldl_cons, h.lt_eq, ← ih]
    congr 1
    split <;> rfl
theorem alikeB_map (h : OrE e n lt) (xs : List α) : alikeB (xs.map e) = true := by
  unfold alikeB
  simp only [List.all_map, List.all_eq_true, Function.comp]
  exact fun x _ y _ => h.alike x y
theorem noNone_map (h : OrE e n lt) (xs : List α) : noNoneB (xs.map e) = true := by
  unfold noNoneB
  simp only [List.all_map, List.all_eq_true, Function.comp]
  intro x _
  have := h.nn x
  cases hx : e x <;> simp_all [isNoneD]
variable [Inhabited α]
theorem minD1_ok (h : OrE e n lt) (hn : n + 1 ≤ 60) {xs : List α} (hx : xs ≠ []) : minD1 (.list (xs.map e)) = some (e (minT lt xs)) ∧ minD1 (.tuple (xs.map e)) = some (e (minT lt xs)) := by
  cases xs with
  | nil => exact absurd rfl hx
  | cons x xs =>
    have h1 := low_map h.toEqE hn (x :: xs)
    have h2 := (EqL h.toEqE).plain (x :: xs)
    have h3 := (EqT h.toEqE).plain (x :: xs)
    constructor
    · show (if _ then _ else none) = _
      rw [if_pos (by rw [show PyData.plain (PyData.list ((x :: xs).map e)) = true from h2, h1.1, show alikeB (e x :: xs.map e) = true from alikeB_map h (x :: xs), show noNoneB (e x :: xs.map e) = true from noNone_map h (x :: xs)]; rfl)]
      exact congrArg some (minD_map h xs x)
    · show (if _ then _ else none) = _
      rw [if_pos (by rw [show PyData.plain (PyData.tuple ((x :: xs).map e)) = true from h3, h1.2, show alikeB (e x :: xs.map e) = true from alikeB_map h (x :: xs), show noNoneB (e x :: xs.map e) = true from noNone_map h (x :: xs)]; rfl)]
      exact congrArg some (minD_map h xs x)
theorem maxD1_ok (h : OrE e n lt) (hn : n + 1 ≤ 60) {xs : List α} (hx : xs ≠ []) : maxD1 (.list (xs.map e)) = some (e (maxT lt xs)) ∧ maxD1 (.tuple (xs.map e)) = some (e (maxT lt xs)) := by
  cases xs with
  | nil => exact absurd rfl hx
  | cons x xs =>
    have h1 := low_map h.toEqE hn (x :: xs)
    have h2 := (EqL h.toEqE).plain (x :: xs)
    have h3 := (EqT h.toEqE).plain (x :: xs)
    constructor
    · show (if _ then _ else none) = _
      rw [if_pos (by rw [show PyData.plain (PyData.list ((x :: xs).map e)) = true from h2, h1.1, show alikeB (e x :: xs.map e) = true from alikeB_map h (x :: xs), show noNoneB (e x :: xs.map e) = true from noNone_map h (x :: xs)]; rfl)]
      exact congrArg some (maxD_map h xs x)
    · show (if _ then _ else none) = _
      rw [if_pos (by rw [show PyData.plain (PyData.tuple ((x :: xs).map e)) = true from h3, h1.2, show alikeB (e x :: xs.map e) = true from alikeB_map h (x :: xs), show noNoneB (e x :: xs.map e) = true from noNone_map h (x :: xs)]; rfl)]
      exact congrArg some (maxD_map h xs x)
theorem minD1_L (h : OrE e n lt) (hn : n + 1 ≤ 60) {xs : List α} (hx : xs ≠ []) : minD1 (.list (xs.map e)) = some (e (minT lt xs)) := (minD1_ok h hn hx).1
theorem minD1_T (h : OrE e n lt) (hn : n + 1 ≤ 60) {xs : List α} (hx : xs ≠ []) : minD1 (.tuple (xs.map e)) = some (e (minT lt xs)) := (minD1_ok h hn hx).2
theorem maxD1_L (h : OrE e n lt) (hn : n + 1 ≤ 60) {xs : List α} (hx : xs ≠ []) : maxD1 (.list (xs.map e)) = some (e (maxT lt xs)) := (maxD1_ok h hn hx).1
theorem maxD1_T (h : OrE e n lt) (hn : n + 1 ≤ 60) {xs : List α} (hx : xs ≠ []) : maxD1 (.tuple (xs.map e)) = some (e (maxT lt xs)) := (maxD1_ok h hn hx).2
omit [Inhabited α] in
theorem ltD_ok (h : OrE e n lt) (hn : n ≤ 60) (a b : α) : ltD (e a) (e b) = some (lt a b) ∧ gtD (e a) (e b) = some (lt b a) ∧ leD (e a) (e b) = some (!lt b a) ∧ geD (e a) (e b) = some (!lt a b) := by
  have h1 : okLt (e a) (e b) = true := by
    unfold okLt lowD
    have := h.depth a
    have hn : isNoneD (e a) = false := by have := h.nn a; cases hx : e a <;> simp_all [isNoneD]
    simp only [h.plain, h.alike, hn, Bool.not_false, Bool.and_self, Bool.true_and, decide_eq_true_eq]
    omega
  unfold ltD gtD leD geD
  rw [if_pos h1, if_pos h1, if_pos h1, if_pos h1, h.lt_eq, h.lt_eq]
  exact ⟨rfl, rfl, rfl, rfl⟩
def sortT {α : Type} (lt : α → α → Bool) (xs : List α) : List α := xs.mergeSort fun a b => !lt b a
omit [Inhabited α] in
theorem sort_map (h : OrE e n lt) (xs : List α) : (xs.map e).mergeSort (PySem.W.dataLe false id) = (sortT lt xs).map e := by
  unfold sortT
  refine (List.map_mergeSort fun a _ b _ => ?_).symm
  show (!lt b a) = (!PySem.W.dataLt (e b) (e a))
  rw [h.lt_eq]
/-- what sorted takes -/
def SoE {α : Type} (e : α → D) : Prop := (∀ a, ∃ x xs, e a = .tuple (x :: xs)) ∨ (∀ a, (match e a with | .none => false | .tuple _ => false | _ => true) = true)
theorem SoE.i : SoE PyData.int := .inr fun _ => rfl
theorem SoE.s : SoE PyData.str := .inr fun _ => rfl
theorem SoE.p {α β : Type} {a : α → D} {r : β → List D} : SoE (fun p : α × β => PyData.tuple (a p.1 :: r p.2)) := .inl fun p => ⟨_, _, rfl⟩
theorem SoE.p1 {α : Type} {a : α → D} : SoE (fun p : α => PyData.tuple [a p]) := .inl fun p => ⟨_, _, rfl⟩
omit [Inhabited α] in
theorem sortLD_L (h : OrE e n lt) (hn : n + 1 ≤ 60) (hs : SoE e) {xs : List α} (hz : xs.length ≤ sizeLine) : sortLD (.list (xs.map e)) = some (.list ((sortT lt xs).map e)) := by
  have h1 := low_map h.toEqE hn xs
  have h2 : PyData.plain (PyData.list (xs.map e)) = true := (EqL h.toEqE).plain xs
  have h3 : sortableB (xs.map e) = true := by
    unfold sortableB
    rw [Bool.or_eq_true, List.all_map, List.all_map]
    rcases hs with hs | hs
    · refine .inl (List.all_eq_true.mpr fun x _ => ?_)
      obtain ⟨y, ys, hy⟩ := hs x
      simp only [Function.comp, hy]
    · exact .inr (List.all_eq_true.mpr fun x _ => hs x)
  show (if _ then _ else none) = _
  rw [if_pos (by rw [h2, h1.1, alikeB_map h, h3]; simpa using hz), sort_map h]
/-! index, count -/
omit [Inhabited α] in
theorem find_idx (h : EqE e n) (a : α) (xs : List α) (ha : a ∈ xs) : (xs.map e).findIdx? (fun y => PyData.eqv y (e a)) = some (xs.idxOf a) := by
  induction xs with
  | nil => simp at ha
  | cons x xs ih =>
    rw [List.map_cons, List.findIdx?_cons, h.eqv, List.idxOf_cons]
    by_cases hx : x = a
    · simp [hx]
    · have h2 : a ∈ xs := by rcases List.mem_cons.mp ha with q | q; exact absurd q.symm hx; exact q
      rw [decide_eq_false hx, ih h2, show (x == a) = false by simpa using hx]
      rfl
omit [Inhabited α] in
theorem indexD_ok (h : EqE e n) (hn : n + 1 ≤ 60) (a : α) (xs : List α) (ha : a ∈ xs) : indexD (.list (xs.map e)) (e a) = some (.int (xs.idxOf a : Nat)) ∧ indexD (.tuple (xs.map e)) (e a) = some (.int (xs.idxOf a : Nat)) := by
  have h1 := low_map h hn xs
  have h2 : lowD (e a) = true := by unfold lowD; have := h.depth a; simp only [decide_eq_true_eq]; omega
  have h3 := (EqR.map h).plain xs
  constructor
  · show (if _ then _ else none) = _
    rw [if_pos (by simp only [h1.1, h2, h3, h.plain, Bool.and_self]), find_idx h a xs ha]; rfl
  · show (if _ then _ else none) = _
    rw [if_pos (by simp only [h1.2, h2, h3, h.plain, Bool.and_self]), find_idx h a xs ha]; rfl
omit [Inhabited α] in
theorem indexD_L (h : EqE e n) (hn : n + 1 ≤ 60) (a : α) (xs : List α) (ha : a ∈ xs) : indexD (.list (xs.map e)) (e a) = some (.int (xs.idxOf a : Nat)) := (indexD_ok h hn a xs ha).1
omit [Inhabited α] in
theorem indexD_T (h : EqE e n) (hn : n + 1 ≤ 60) (a : α) (xs : List α) (ha : a ∈ xs) : indexD (.tuple (xs.map e)) (e a) = some (.int (xs.idxOf a : Nat)) := (indexD_ok h hn a xs ha).2
omit [Inhabited α] in
theorem count_map (h : EqE e n) (a : α) (xs : List α) : (xs.map e).countP (fun y => PyData.eqv y (e a)) = xs.count a := by
  rw [List.countP_map, List.count_eq_countP]
  congr 1
  funext y
  simp only [Function.comp, h.eqv]
  rw [beq_decide]
omit [Inhabited α] in
theorem countD_ok (h : EqE e n) (hn : n + 1 ≤ 60) (a : α) (xs : List α) : countD (.list (xs.map e)) (e a) = some (.int (xs.count a : Nat)) ∧ countD (.tuple (xs.map e)) (e a) = some (.int (xs.count a : Nat)) := by
  have h1 := low_map h hn xs
  have h2 : lowD (e a) = true := by unfold lowD; have := h.depth a; simp only [decide_eq_true_eq]; omega
  have h3 := (EqR.map h).plain xs
  constructor
  · show (if _ then _ else none) = _
    rw [if_pos (by simp only [h1.1, h2, h3, h.plain, Bool.and_self]), count_map h a xs]
  · show (if _ then _ else none) = _
    rw [if_pos (by simp only [h1.2, h2, h3, h.plain, Bool.and_self]), count_map h a xs]
omit [Inhabited α] in
theorem countD_L (h : EqE e n) (hn : n + 1 ≤ 60) (a : α) (xs : List α) : countD (.list (xs.map e)) (e a) = some (.int (xs.count a : Nat)) := (countD_ok h hn a xs).1
omit [Inhabited α] in
theorem countD_T (h : EqE e n) (hn : n + 1 ≤ 60) (a : α) (xs : List α) : countD (.tuple (xs.map e)) (e a) = some (.int (xs.count a : Nat)) := (countD_ok h hn a xs).2
end
/-! ### options, at use -/
theorem X.get {G : Env} {w w1 : Wd} {α : Type} [Inhabited α] {e : α → D} {a : E} {v : Option α} (h : X G a w (eO e v) w1) (hs : v.isSome = true) : X G a w (e (v.getD default)) w1 := by
  cases v with
  | none => cases hs
  | some v => exact h
/-! ### alike -/
/-- data that alike walks, by type -/
structure AlkE {α : Type} (e : α → D) (n : Nat) (ok : α → Prop) : Prop where
  alk : ∀ a, ok a → Alk n (e a)
theorem AlkE.i {n : Nat} : AlkE PyData.int (n + 1) (fun _ => True) := ⟨fun _ _ => Alk.i⟩
theorem AlkE.b {n : Nat} : AlkE PyData.bool (n + 1) (fun _ => True) := ⟨fun _ _ => Alk.b⟩
theorem AlkE.s {n : Nat} : AlkE PyData.str (n + 1) (fun _ => True) := ⟨fun _ _ => Alk.s⟩
theorem AlkE.u {n : Nat} : AlkE eU (n + 1) (fun _ => True) := ⟨fun _ _ => Alk.n⟩
theorem AlkE.o {α : Type} {e : α → D} {n : Nat} {ok : α → Prop} (h : AlkE e (n + 1) ok) : AlkE (eO e) (n + 1) (fun a => ∀ v, a = some v → ok v) := ⟨fun a k => by
  cases a with
  | none => exact Alk.n
  | some a => exact h.alk a (k a rfl)⟩
theorem AlkE.l {α : Type} {e : α → D} {n : Nat} {ok : α → Prop} (h : AlkE e n ok) : AlkE (eL e) (n + 1) (fun l => l.length ≤ 1000000 ∧ ∀ x ∈ l, ok x) := ⟨fun a k => Alk.l (by simpa using k.1) fun x hx => by
  obtain ⟨y, hy, rfl⟩ := List.mem_map.mp hx
  exact h.alk y (k.2 y hy)⟩
theorem AlkE.t {α : Type} {e : α → D} {n : Nat} {ok : α → Prop} (h : AlkE e n ok) : AlkE (eT e) (n + 1) (fun l => l.length ≤ 1000000 ∧ ∀ x ∈ l, ok x) := ⟨fun a k => Alk.t (by simpa using k.1) fun x hx => by
  obtain ⟨y, hy, rfl⟩ := List.mem_map.mp hx
  exact h.alk y (k.2 y hy)⟩
theorem AlkE.p2 {α β : Type} {a : α → D} {b : β → D} {n : Nat} {p : α → Prop} {q : β → Prop} (h : AlkE a n p) (k : AlkE b n q) : AlkE (eP2 a b) (n + 1) (fun x => p x.1 ∧ q x.2) := ⟨fun x o => Alk.t (by simp) fun y hy => by
  simp only [List.mem_cons, List.not_mem_nil, or_false] at hy
  rcases hy with rfl | rfl
  · exact h.alk _ o.1
  · exact k.alk _ o.2⟩
theorem AlkE.p3 {α β γ : Type} {a : α → D} {b : β → D} {c : γ → D} {n : Nat} {p : α → Prop} {q : β → Prop} {r : γ → Prop} (h : AlkE a n p) (k : AlkE b n q) (m : AlkE c n r) : AlkE (eP3 a b c) (n + 1) (fun x => p x.1 ∧ q x.2.1 ∧ r x.2.2) := ⟨fun x o => Alk.t (by simp) fun y hy => by
  simp only [List.mem_cons, List.not_mem_nil, or_false] at hy
  rcases hy with rfl | rfl | rfl
  · exact h.alk _ o.1
  · exact k.alk _ o.2.1
  · exact m.alk _ o.2.2⟩
theorem AlkE.p4 {α β γ δ : Type} {a : α → D} {b : β → D} {c : γ → D} {d : δ → D} {n : Nat} {p : α → Prop} {q : β → Prop} {r : γ → Prop} {s : δ → Prop} (h : AlkE a n p) (k : AlkE b n q) (m : AlkE c n r) (l : AlkE d n s) : AlkE (eP4 a b c d) (n + 1) (fun x => p x.1 ∧ q x.2.1 ∧ r x.2.2.1 ∧ s x.2.2.2) := ⟨fun x o => Alk.t (by simp) fun y hy => by
  simp only [List.mem_cons, List.not_mem_nil, or_false] at hy
  rcases hy with rfl | rfl | rfl | rfl
  · exact h.alk _ o.1
  · exact k.alk _ o.2.1
  · exact m.alk _ o.2.2.1
  · exact l.alk _ o.2.2.2⟩
theorem AlkE.p5 {α β γ δ ε : Type} {a : α → D} {b : β → D} {c : γ → D} {d : δ → D} {e : ε → D} {n : Nat} {p : α → Prop} {q : β → Prop} {r : γ → Prop} {s : δ → Prop} {t : ε → Prop} (h : AlkE a n p) (k : AlkE b n q) (m : AlkE c n r) (l : AlkE d n s) (j : AlkE e n t) : AlkE (eP5 a b c d e) (n + 1) (fun x => p x.1 ∧ q x.2.1 ∧ r x.2.2.1 ∧ s x.2.2.2.1 ∧ t x.2.2.2.2) := ⟨fun x o => Alk.t (by simp) fun y hy => by
  simp only [List.mem_cons, List.not_mem_nil, or_false] at hy
  rcases hy with rfl | rfl | rfl | rfl | rfl
  · exact h.alk _ o.1
  · exact k.alk _ o.2.1
  · exact m.alk _ o.2.2.1
  · exact l.alk _ o.2.2.2.1
  · exact j.alk _ o.2.2.2.2⟩
end Q
namespace Q
open PySem PySem.W PyProof.Rows
theorem sortSetD_L {xs : List Int} (h : xs.length < 60) : sortSetD (.list (xs.map PyData.int)) = some (.list ((sortSetI xs).map PyData.int)) := by
  unfold sortSetD
  simp only [intsOf_map, Option.bind_some]
  rw [if_pos h]
theorem sortSetD_T {xs : List Int} (h : xs.length < 60) : sortSetD (.tuple (xs.map PyData.int)) = some (.list ((sortSetI xs).map PyData.int)) := by
  unfold sortSetD
  simp only [intsOf_map, Option.bind_some]
  rw [if_pos h]
theorem lenSetD_L {xs : List Int} (h : xs.length < 60) : lenSetD (.list (xs.map PyData.int)) = some (.int (dedupI xs).length) := by
  unfold lenSetD
  simp only [intsOf_map, Option.bind_some]
  rw [if_pos (by unfold scanBound; omega)]
end Q

set_option Elab.async false
set_option linter.all false
set_option autoImplicit false
set_option maxRecDepth 100000
/-! QMS: the second texts of the shared defs: the draws, same, says. -/
namespace Q
open PySem PySem.W
def bDraws2_1 : S :=
    sSeq (sSet (gName 5) (cOp1 absD (cOp1 intD (cOp2 ixD (cVar 0) (cVar 4)))))
    (sSeq (sSet (gName 3) (cOp2 modD (cOp1 intD (cOp2 addD (cOp2 addD (cOp2 mulI (cVar 3) (cK (.int 48271))) (cOp2 modD (cVar 5) (cK (.int 1000003)))) (cVar 4))) (cK (.int 65537))))
    (sSeq (sSet (gName 6) (cK (.int 0)))
    (sSeq (sIf (tCmp geD (cVar 5) (cOp2 powD (cK (.int 10)) (cK (.int 18)))) (sSet (gName 6) (cVar 5)) (sSeq (sApp 2 (cOp2 modD (cOp1 intD (cVar 5)) (cK (.int 997))))
    (sApp 2 (cOp2 modD (cOp2 modD (cOp1 intD (cOp2 addD (cOp2 mulI (cVar 3) (cK (.int 69621))) (cK (.int 5)))) (cK (.int 65521))) (cK (.int 997))))))
    (sFor (itR1 (cK (.int 60))) (gName 7) (bDraws_0) [7]))))
def bDraws2 : S :=
    sSeq (sSet (gName 2) (cLst []))
    (sSeq (sSet (gName 3) (cK (.int 7)))
    (sSeq (sFor (itR1 (cOp1 lenD (cVar 0))) (gName 4) (bDraws2_1) [4, 5, 6, 7])
    (sSeq (sFor (itR1 (cVar 1)) (gName 4) (bDraws_2) [4])
    (sRet (cCut (cVar 2) none (some (cVar 1)))))))
theorem draws_turn2 (ns : List Int) (M : Int) (l : List Int) (m : Int) (k : Nat) (hk : k < ns.length) (hk2 : k ≤ 1000) (hz : l.length ≤ 10000) (w : Wd) : wp (turn (gName 4) bDraws2_1 [4, 5, 6, 7] (.int (k : Int)) (eDr (tokS ns) M l m) w) fun o w' => w' = w ∧ ∃ (g : Env) (l' : List Int) (m' : Int), o = .nx g ∧ wipeE g [4, 5, 6, 7] = eDr (tokS ns) M l' m' ∧ l'.length ≤ l.length + 62 := by
  have hs : ∀ i : Int, i = 48271 ∨ i = 69621 ∨ i = 16807 → small64 i = true := by
    rintro i (rfl | rfl | rfl) <;> decide
  have hx : L2.atI (ns.map PyData.int) (k : Int) = some (.int ns[k]) := by rw [atI_lt _ (by simpa using hk)]; simp
  have h60 : range1 (.int 60) = some (rangeL 0 60) := r1_int (by omega) (by omega)
  generalize hR : (fun (o : Out) (w' : Wd) => w' = w ∧ ∃ (g : Env) (l' : List Int) (m' : Int), o = .nx g ∧ wipeE g [4, 5, 6, 7] = eDr (tokS ns) M l' m' ∧ l'.length ≤ l.length + 62) = R
  unfold turn bDraws2_1 eDr
  simp -implicitDefEqProofs [hx, mulI_r (hs 48271 (.inl rfl)), mulI_r (hs 69621 (.inr (.inl rfl))), modD_i, pow1018, h60]
  generalize (if ns[k] < 0 then -ns[k] else ns[k]) = c
  generalize (m * 48271 + c.fmod 1000003 + (k : Int)).fmod 65537 = m'
  have fin : ∀ (l1 : List Int) (r : Int), l1.length ≤ l.length + 2 → wp (loopS (gName 7) bDraws_0 [7] (rangeL 0 60) [some (tokS ns), some (.int M), some (.list (l1.map .int)), some (.int m'), some (.int k), some (.int c), some (.int r), none] w) R := fun l1 r h1 => by
    refine digits_loop ns M l1 m' k c r (by omega) w R fun l' r' hl => ?_
    subst hR
    exact ⟨rfl, _, l', m', rfl, by simp -implicitDefEqProofs [eDr], by omega⟩
  have e1 : PyData.list ((l ++ [c.fmod 997, ((m' * 69621 + 5).fmod 65521).fmod 997]).map .int) = PyData.list (l.map .int ++ [.int (c.fmod 997), .int (((m' * 69621 + 5).fmod 65521).fmod 997)]) := by simp
  by_cases h1 : 1000000000000000000 ≤ c
  · have h2 : ¬ c = 0 := by omega
    have h3 : ¬ c < 1000000000000000000 := by omega
    simp -implicitDefEqProofs [h1, h2, h3, h60]
    exact fin l c (by omega)
  · have h3 : c < 1000000000000000000 := by omega
    simp -implicitDefEqProofs [h1, h3, modD_i]
    rw [apD_l (by rw [size_eq]; simp; omega)]
    simp -implicitDefEqProofs [modD_i, mulI_r (hs 69621 (.inr (.inl rfl)))]
    rw [apD_l (by rw [size_eq]; simp; omega)]
    simp -implicitDefEqProofs [h60]
    have h9 := fin (l ++ [c.fmod 997, ((m' * 69621 + 5).fmod 65521).fmod 997]) 0 (by simp)
    rw [e1] at h9
    exact h9
theorem draws2_ok (ns : List Int) (M : Int) (hM : 0 ≤ M) (hM2 : M ≤ 100000) (hn : ns.length ≤ 63) (w : Wd) : ∃ l : List Int, bodyFn 2 6 bDraws2 [tokS ns, .int M] w = some (.list (l.map .int), w) := by
  suffices h : wp (bodyFn 2 6 bDraws2 [tokS ns, .int M] w) fun d w' => ∃ l : List Int, d = .list (l.map .int) ∧ w' = w by
    obtain ⟨d, w', e, l, rfl, rfl⟩ := wp_eq h
    exact ⟨l, e⟩
  have hz : ns.length ≤ sizeLine := by rw [size_eq]; omega
  refine wp_fn rfl ?_
  generalize hR : (fun (o : Out) (w' : Wd) => ∃ d, o = .rt d ∧ ∃ l : List Int, d = .list (l.map .int) ∧ w' = w) = R
  unfold bDraws2
  simp -implicitDefEqProofs [r1_nat hz]
  refine wp_range (fun i g w' => w' = w ∧ ∃ (l : List Int) (m : Int), wipeE g [4, 5, 6, 7] = eDr (tokS ns) M l m ∧ l.length ≤ i * 62) ⟨rfl, [], 7, rfl, by simp⟩ (fun i g w' hi ⟨e, l, m, hg, hl⟩ => ?_) fun g w' ⟨e, l, m, hg, hl⟩ => ?_
  · subst e
    have h := draws_turn2 ns M l m i hi (by omega) (by omega) w'
    rw [Int.zero_add, turn_wipe (g' := eDr (tokS ns) M l m) (hg.trans (eDr_w ..).symm)]
    refine wp_mono h fun o w2 ⟨e, g', l', m', ho, hg', hl'⟩ => ?_
    subst ho
    exact ⟨e, l', m', hg', by omega⟩
  · subst e
    rw [hg]
    unfold eDr
    simp -implicitDefEqProofs [r1_int hM (by omega : M ≤ 1000000)]
    refine wp_range (fun i g w2 => w2 = w' ∧ ∃ (l : List Int) (m : Int), wipeE g [4] = eDr (tokS ns) M l m ∧ l.length ≤ 63 * 62 + i) ⟨rfl, l, m, rfl, by omega⟩ (fun i g w2 hi ⟨e, l, m, hg, hl⟩ => ?_) fun g w2 ⟨e, l, m, hg, hl⟩ => ?_
    · subst e
      have h := tail_turn (tokS ns) M l m i (by omega) (by omega) w2
      rw [Int.zero_add, turn_wipe (g' := eDr (tokS ns) M l m) (hg.trans (eDr_w4 ..).symm)]
      refine wp_mono h fun o w3 ⟨e, g', l', m', ho, hg', hl'⟩ => ?_
      subst ho
      exact ⟨e, l', m', hg', by omega⟩
    · subst e
      rw [hg]
      unfold eDr
      simp -implicitDefEqProofs
      subst hR
      refine ⟨_, rfl, cutL l none (some M), ?_, rfl⟩
      unfold cutL
      simp -implicitDefEqProofs
def bSame (self : Fn) : S :=
    sSeq (sIf (tVal (cOp1 (isaD .tuple) (cVar 1))) (sSeq (sIf (tOr (tNot (tVal (cOp1 (isaD .tuple) (cVar 0)))) (tCmp neD (cOp1 lenD (cVar 0)) (cOp1 lenD (cVar 1)))) (sRet (cK (.bool false))) (sPass))
    (sRet (cT (tCmp eqD (cLc (itR1 (cOp1 lenD (cVar 1))) (gName 2) (tNot (tVal (cCall self [cOp2 ixD (cVar 0) (cVar 2), cOp2 ixD (cVar 1) (cVar 2)]))) (cVar 2) [2]) (cLst []))))) (sPass))
    (sSeq (sIf (tCmp isND (cVar 1) (cK .none)) (sRet (cT (tCmp isND (cVar 0) (cK .none)))) (sPass))
    (sSeq (sIf (tVal (cOp1 (isaD .str) (cVar 1))) (sRet (cAnd (cOp1 (isaD .str) (cVar 0)) (cT (tCmp eqD (cVar 0) (cVar 1))))) (sPass))
    (sRet (cAnd (cOp1 (isaD .int) (cVar 0)) (cAnd (cT (tCmp eqD (cOp1 (isaD .bool) (cVar 0)) (cOp1 (isaD .bool) (cVar 1)))) (cT (tCmp eqD (cVar 0) (cVar 1))))))))
def fSm : Nat → Fn
  | 0 => bodyFn 2 1 sDead
  | n + 1 => bodyFn 2 1 (bSame (fSm n))
/-- data that same walks: no list, no dict, n deep -/
def Alt : Nat → D → Prop
  | 0, _ => False
  | n + 1, .tuple xs => xs.length ≤ 1000000 ∧ ∀ x ∈ xs, Alt n x
  | _ + 1, .list _ => False
  | _ + 1, .dict _ => False
  | _ + 1, _ => True
theorem Alt.i {n : Nat} {i : Int} : Alt (n + 1) (.int i) := by unfold Alt; trivial
theorem Alt.b {n : Nat} {i : Bool} : Alt (n + 1) (.bool i) := by unfold Alt; trivial
theorem Alt.s {n : Nat} {i : Str} : Alt (n + 1) (.str i) := by unfold Alt; trivial
theorem Alt.n {n : Nat} : Alt (n + 1) .none := by unfold Alt; trivial
theorem Alt.t {n : Nat} {xs : List D} (h : xs.length ≤ 1000000) (k : ∀ x ∈ xs, Alt n x) : Alt (n + 1) (.tuple xs) := by unfold Alt; exact ⟨h, k⟩
theorem same_seq {n : Nat} {xs : List D} (hz : xs.length ≤ 1000000) (ih : ∀ x ∈ xs, ∀ w, fSm n [x, x] w = some (.bool true, w)) (w : Wd) : fSm (n + 1) [.tuple xs, .tuple xs] w = some (.bool true, w) := by
  have hr : range1 (.int (xs.length : Int)) = some (rangeL 0 xs.length) := r1_nat (by rw [size_eq]; omega)
  have hz2 : xs.length ≤ sizeLine := by rw [size_eq]; omega
  have key : lcLoop (gName 2) (tNot (tVal (cCall (fSm n) [cOp2 ixD (cVar 0) (cVar 2), cOp2 ixD (cVar 1) (cVar 2)]))) (cVar 2) [some (.tuple xs), some (.tuple xs), none] (rangeL 0 xs.length) w = some ([], w) := by
    refine lc_none fun i hi => ?_
    have hx : L2.atI xs (i : Int) = some xs[i] := atI_lt xs hi
    have hi2 := ih xs[i] (List.getElem_mem hi) w
    unfold turnE
    simp -implicitDefEqProofs [hx, hi2]
  refine fn_eq rfl ?_
  unfold bSame
  simp -implicitDefEqProofs [s_sSeq, isaD_t, isTy, hr, key, hz2, eqD_00]
theorem same_refl : ∀ (n : Nat) (d : D), Alt n d → ∀ w, fSm n [d, d] w = some (.bool true, w)
  | 0, _, h, _ => by unfold Alt at h; exact h.elim
  | n + 1, .list xs, h, w => by unfold Alt at h; exact h.elim
  | n + 1, .tuple xs, h, w => by
    unfold Alt at h
    exact same_seq h.1 (fun x hx w => same_refl n x (h.2 x hx) w) w
  | n + 1, .dict _, h, _ => by unfold Alt at h; exact h.elim
  | n + 1, .none, _, w => by
    refine fn_eq rfl ?_
    unfold bSame
    simp -implicitDefEqProofs [s_sSeq, isaD_n, isTy]
  | n + 1, .int i, _, w => by
    refine fn_eq rfl ?_
    unfold bSame
    simp -implicitDefEqProofs [s_sSeq, isaD_i, isTy, eqD_b]
  | n + 1, .bool i, _, w => by
    refine fn_eq rfl ?_
    unfold bSame
    simp -implicitDefEqProofs [s_sSeq, isaD_b, isTy, eqD_b]
  | n + 1, .str i, _, w => by
    refine fn_eq rfl ?_
    unfold bSame
    simp -implicitDefEqProofs [s_sSeq, isaD_s, isTy, eqD_s]
theorem Alt.up : ∀ {n : Nat} {d : D}, Alt n d → Alt (n + 1) d
  | 0, d, h => by unfold Alt at h; exact h.elim
  | n + 1, .list xs, h => by unfold Alt at h; exact h.elim
  | n + 1, .tuple xs, h => by
    unfold Alt at h ⊢
    exact ⟨h.1, fun x hx => (h.2 x hx).up⟩
  | n + 1, .dict _, h => by unfold Alt at h; exact h.elim
  | n + 1, .none, h => Alt.n
  | n + 1, .int _, h => Alt.i
  | n + 1, .bool _, h => Alt.b
  | n + 1, .str _, h => Alt.s
theorem Alt.ge {m n : Nat} {d : D} (h : Alt m d) (k : m ≤ n) : Alt n d := by
  induction k with
  | refl => exact h
  | step _ ih => exact ih.up
end Q

set_option Elab.async false
set_option linter.all false
set_option autoImplicit false
set_option maxRecDepth 100000
/-! TYD: dicts, texts walked, range down, pops at Lean's own types; same. -/
namespace Q
open PySem PySem.W PyProof.Rows
/-! dicts -/
structure KeyE {κ : Type} (e : κ → D) : Prop where
  ex : ∃ f : κ → L2.Key, (∀ a, e a = keyOf (f a)) ∧ ∀ a b, f a = f b → a = b
theorem KeI : KeyE PyData.int := ⟨.inl, fun _ => rfl, fun a b h => by cases h; rfl⟩
theorem KeS : KeyE PyData.str := ⟨.inr, fun _ => rfl, fun a b h => by cases h; rfl⟩
abbrev eD {κ α : Type} (k : κ → D) (e : α → D) : List (κ × α) → D := fun l => .dict (l.map fun p => (k p.1, e p.2))
def lookT {κ α : Type} [DecidableEq κ] (l : List (κ × α)) (k : κ) : Option α := (l.find? fun p => decide (p.1 = k)).map (·.2)
def putT {κ α : Type} [DecidableEq κ] (l : List (κ × α)) (k : κ) (v : α) : List (κ × α) := if (lookT l k).isSome = true then l.map (fun p => if p.1 = k then (p.1, v) else p) else l ++ [(k, v)]
section
variable {κ α : Type} [DecidableEq κ] {ek : κ → D} {e : α → D}
theorem KeyE.keyN (h : KeyE ek) (a : κ) : ∃ k, Q.keyN (ek a) = some k ∧ ek a = keyOf k := by
  obtain ⟨f, h1, h2⟩ := h.ex
  refine ⟨f a, ?_, h1 a⟩
  rw [h1 a]
  cases f a <;> rfl
theorem KeyE.eqv (h : KeyE ek) (a b : κ) : PyData.eqv (ek a) (ek b) = decide (a = b) := by
  obtain ⟨f, h1, h2⟩ := h.ex
  rw [h1 a, h1 b, eqv_key]
  exact decide_eq_decide.mpr ⟨h2 a b, fun z => z ▸ rfl⟩
theorem KeyE.ntok (h : KeyE ek) (l : List (κ × α)) : isTok (eD ek e l) = false := by
  cases l with
  | nil => rfl
  | cons p l =>
    obtain ⟨k, h1, h2⟩ := h.keyN p.1
    show isTok (.dict ((ek p.1, e p.2) :: _)) = false
    rw [h2]
    cases k <;> rfl
theorem KeyE.ok (h : KeyE ek) (l : List (κ × α)) : keysOk (l.map fun p => (ek p.1, e p.2)) = true := by
  unfold keysOk
  rw [List.all_map, List.all_eq_true]
  intro p _
  obtain ⟨k, h1, h2⟩ := h.keyN p.1
  show (Q.keyN (ek p.1)).isSome = true
  rw [h1]; rfl
theorem KeyE.look (h : KeyE ek) (l : List (κ × α)) (k : κ) : lookD (l.map fun p => (ek p.1, e p.2)) (ek k) = (lookT l k).map e := by
  unfold lookD lookT
  induction l with
  | nil => rfl
  | cons p l ih =>
    rw [List.map_cons, List.find?_cons, List.find?_cons, h.eqv]
    cases decide (p.1 = k) with
    | true => rfl
    | false => exact ih
theorem ixAD_D (h : KeyE ek) [Inhabited α] {l : List (κ × α)} {k : κ} (hk : (lookT l k).isSome = true) : ixAD (eD ek e l) (ek k) = some (e ((lookT l k).getD default)) := by
  unfold ixAD
  show (if isTok (eD ek e l) = true then _ else _) = _
  rw [h.ntok, if_neg Bool.false_ne_true]
  obtain ⟨ky, h1, h2⟩ := h.keyN k
  rw [h1]
  show lookD _ (keyOf ky) = _
  rw [← h2, h.look]
  cases q : lookT l k with
  | none => rw [q] at hk; cases hk
  | some v => rfl
theorem inAD_D (h : KeyE ek) (k : κ) (l : List (κ × α)) : inAD (ek k) (eD ek e l) = some (lookT l k).isSome := by
  unfold inAD
  show (if (isTok (eD ek e l) || !keysOk _) = true then _ else _) = _
  rw [h.ntok, h.ok, if_neg (by simp)]
  obtain ⟨ky, h1, h2⟩ := h.keyN k
  rw [h1]
  show some (lookD _ (keyOf ky)).isSome = _
  rw [← h2, h.look, Option.isSome_map]
theorem notInAD_D (h : KeyE ek) (k : κ) (l : List (κ × α)) : notInAD (ek k) (eD ek e l) = some (!(lookT l k).isSome) := by
  unfold notInAD
  rw [inAD_D h]; rfl
theorem putKD_D (h : KeyE ek) (l : List (κ × α)) (k : κ) (v : α) (hl : l.length < sizeLine) : putKD (eD ek e l) (ek k) (e v) = some (eD ek e (putT l k v)) := by
  unfold putKD
  show (if (keysOk _ && (Q.keyN (ek k)).isSome && decide ((l.map _).length < sizeLine)) = true then _ else _) = _
  obtain ⟨ky, h1, h2⟩ := h.keyN k
  rw [h.ok, h1, if_pos (by simpa using hl)]
  congr 2
  unfold putD putT
  rw [h.look, Option.isSome_map]
  split
  · rw [List.map_map, List.map_map]
    refine List.map_congr_left fun p _ => ?_
    simp only [Function.comp, h.eqv]
    by_cases q : p.1 = k <;> simp [q]
  · rw [List.map_append]; rfl
end
section
variable {G G' : Env} {w w1 w2 w3 : Wd}
theorem XS.putK {κ α : Type} [DecidableEq κ] (i : Nat) {ek : κ → D} (e : α → D) (h : KeyE ek) {l : List (κ × α)} {v : α} {k : κ} {a b : E} (ha : X G a w (e v) w1) (hb : X G b w1 (ek k) w2) (hz : l.length < sizeLine) (hg : G[i]? = some (some (eD ek e l)) := by rfl) (hG : G.set i (some (eD ek e (putT l k v))) = G' := by rfl) : XS G (sPutK i b a) w (.nx G') w2 := ⟨fun g hl => by
  obtain ⟨h1, h2⟩ := XS.mut (w := w2) (f := (putKD · (ek k) (e v))) hg (putKD_D h l k v hz) g hl
  rw [hG] at h2
  refine ⟨_, ?_, h2⟩
  show bnd (a g w) _ = _
  rw [ha.run g hl, bnd_some, hb.run g hl, bnd_some]
  exact h1⟩
/-! xs.append((ys.pop(k), e)) -/
theorem erase_map {α β : Type} (f : α → β) : ∀ (xs : List α) (n : Nat), (xs.map f).eraseIdx n = (xs.eraseIdx n).map f
  | [], _ => rfl
  | x :: xs, 0 => rfl
  | x :: xs, n + 1 => by rw [List.map_cons, List.eraseIdx_cons_succ, List.eraseIdx_cons_succ, List.map_cons, erase_map f xs n]
theorem popD_L {α : Type} [Inhabited α] (e : α → D) {xs : List α} {n : Int} (h : InR xs n) (h2 : I62 n) : popD (.list (xs.map e)) (.int n) = some (e (idx xs n), .list ((xs.eraseIdx (ixN' xs.length n)).map e)) := by
  obtain ⟨h3, h4⟩ := ixN_some h
  show (if small62 n = true then _ else _) = _
  rw [if_pos (small62_I h2), List.length_map, h3, Option.bind_some, List.getElem?_map, List.getElem?_eq_getElem h4, Option.map_some, Option.map_some, erase_map]
  unfold idx
  rw [List.getD_eq_getElem?_getD, List.getElem?_eq_getElem h4]
  rfl
theorem XS.appPop {α β : Type} [Inhabited α] (i j : Nat) (ea : α → D) (eb : β → D) {xs : List α} {ys : List (α × β)} {n : Int} {v : β} {a b : E} (ha : X G a w (.int n) w1) (hb : X (G.set j (some (.list ((xs.eraseIdx (ixN' xs.length n)).map ea)))) b w1 (eb v) w2) (h1 : InR xs n) (h2 : I62 n) (hz : ys.length < sizeLine)
    (hij : i ≠ j := by decide) (hg : G[j]? = some (some (.list (xs.map ea))) := by rfl) (hg2 : G[i]? = some (some (.list (ys.map (eP2 ea eb)))) := by rfl)
    (hG : (G.set j (some (.list ((xs.eraseIdx (ixN' xs.length n)).map ea)))).set i (some (.list ((ys ++ [(idx xs n, v)]).map (eP2 ea eb)))) = G' := by rfl) : XS G (sAppPop i j a b) w (.nx G') w2 := ⟨fun g hl => by
  have hl2 := hl.set j (some (.list ((xs.eraseIdx (ixN' xs.length n)).map ea)))
  have hf : apD (.list (ys.map (eP2 ea eb))) (.tuple [ea (idx xs n), eb v]) = some (.list ((ys ++ [(idx xs n, v)]).map (eP2 ea eb))) := by
    rw [apD_l (by simpa using hz), List.map_append]; rfl
  have hgi : (G.set j (some (.list ((xs.eraseIdx (ixN' xs.length n)).map ea))))[i]? = some (some (.list (ys.map (eP2 ea eb)))) := by
    rw [List.getElem?_set_ne (Ne.symm hij)]; exact hg2
  obtain ⟨m1, m2⟩ := XS.mut (w := w2) (f := (apD · (.tuple [ea (idx xs n), eb v]))) hgi hf _ hl2
  rw [hG] at m2
  refine ⟨_, ?_, m2⟩
  show bnd (a g w) _ = _
  rw [ha.run g hl, bnd_some]
  simp only [hl.get hg, Option.join_some, popD_L ea h1 h2]
  rw [hb.run _ hl2, bnd_some]
  exact m1⟩
theorem revD_L {α : Type} (e : α → D) (xs : List α) : revD (.list (xs.map e)) = some (.list (xs.reverse.map e)) := by
  show some (PyData.list (xs.map e).reverse) = _
  rw [List.map_reverse]
/-! range down -/
def rangeDI (hi lo : Int) : List Int := (List.range (hi - lo).toNat).map fun i => hi - (i : Nat)
theorem rangeD_map (hi lo : Int) : rangeD hi (hi - lo).toNat = (rangeDI hi lo).map PyData.int := by
  unfold rangeD rangeDI
  rw [List.map_map]
  rfl
theorem XA.r3 {a b c : E} {m n : Int} (ha : X G a w (.int m) w1) (hb : X G b w1 (.int n) w2) (hc : X G c w2 (.int (-1)) w3) (hm : I62 m) (hn : I62 n) : XA G (itR3 a b c) w ((rangeDI m n).map PyData.int) w3 := ⟨fun g hg => by
  show bnd (a g w) _ = _
  rw [ha.run g hg, bnd_some, hb.run g hg, bnd_some, hc.run g hg, bnd_some]
  show lft (if (small62 m && small62 n && decide ((-1 : Int) = -1)) = true then _ else _) w3 = _
  rw [small62_I hm, small62_I hn, if_pos (by rfl), ← rangeD_map]; rfl⟩
theorem mem_rangeDI {lo hi x : Int} : x ∈ rangeDI hi lo ↔ lo < x ∧ x ≤ hi := by
  unfold rangeDI
  simp only [List.mem_map, List.mem_range]
  constructor
  · rintro ⟨i, hi, rfl⟩; omega
  · rintro ⟨h1, h2⟩; exact ⟨(hi - x).toNat, by omega, by omega⟩
theorem len_rangeDI (hi lo : Int) : (rangeDI hi lo).length = (hi - lo).toNat := by simp [rangeDI]
/-! a text walked -/
def chrs (z : Str) : List Str := z.cps.toList.map fun c => ⟨#[c]⟩
theorem XA.str {a : E} {z : Str} (ha : X G a w (.str z) w1) : XA G (itStr a) w ((chrs z).map PyData.str) w1 := ⟨fun g hg => by
  show bnd (a g w) _ = _
  rw [ha.run g hg, bnd_some]
  show lft (some (z.cps.toList.map fun c => PyData.str ⟨#[c]⟩)) w1 = _
  unfold chrs
  rw [List.map_map]
  rfl⟩
end
/-! same -/
structure AltE {α : Type} (e : α → D) (n : Nat) (ok : α → Prop) : Prop where
  alk : ∀ a, ok a → Alt n (e a)
theorem AltE.i {n : Nat} : AltE PyData.int (n + 1) (fun _ => True) := ⟨fun _ _ => Alt.i⟩
theorem AltE.b {n : Nat} : AltE PyData.bool (n + 1) (fun _ => True) := ⟨fun _ _ => Alt.b⟩
theorem AltE.s {n : Nat} : AltE PyData.str (n + 1) (fun _ => True) := ⟨fun _ _ => Alt.s⟩
theorem AltE.u {n : Nat} : AltE eU (n + 1) (fun _ => True) := ⟨fun _ _ => Alt.n⟩
theorem AltE.o {α : Type} {e : α → D} {n : Nat} {ok : α → Prop} (h : AltE e (n + 1) ok) : AltE (eO e) (n + 1) (fun a => ∀ v, a = some v → ok v) := ⟨fun a k => by
  cases a with
  | none => exact Alt.n
  | some a => exact h.alk a (k a rfl)⟩
theorem AltE.t {α : Type} {e : α → D} {n : Nat} {ok : α → Prop} (h : AltE e n ok) : AltE (eT e) (n + 1) (fun l => l.length ≤ 1000000 ∧ ∀ x ∈ l, ok x) := ⟨fun a k => Alt.t (by simpa using k.1) fun x hx => by
  obtain ⟨y, hy, rfl⟩ := List.mem_map.mp hx
  exact h.alk y (k.2 y hy)⟩
theorem AltE.p2 {α β : Type} {a : α → D} {b : β → D} {n : Nat} {p : α → Prop} {q : β → Prop} (h : AltE a n p) (k : AltE b n q) : AltE (eP2 a b) (n + 1) (fun x => p x.1 ∧ q x.2) := ⟨fun x o => Alt.t (by simp) fun y hy => by
  simp only [List.mem_cons, List.not_mem_nil, or_false] at hy
  rcases hy with rfl | rfl
  · exact h.alk _ o.1
  · exact k.alk _ o.2⟩
theorem AltE.p3 {α β γ : Type} {a : α → D} {b : β → D} {c : γ → D} {n : Nat} {p : α → Prop} {q : β → Prop} {r : γ → Prop} (h : AltE a n p) (k : AltE b n q) (m : AltE c n r) : AltE (eP3 a b c) (n + 1) (fun x => p x.1 ∧ q x.2.1 ∧ r x.2.2) := ⟨fun x o => Alt.t (by simp) fun y hy => by
  simp only [List.mem_cons, List.not_mem_nil, or_false] at hy
  rcases hy with rfl | rfl | rfl
  · exact h.alk _ o.1
  · exact k.alk _ o.2.1
  · exact m.alk _ o.2.2⟩
end Q
namespace Q
open PySem PySem.W PyProof.Rows
theorem ixAD_L {α : Type} [Inhabited α] (e : α → D) {xs : List α} {i : Int} (h : InR xs i) : ixAD (.list (xs.map e)) (.int i) = some (e (idx xs i)) := ixD_L e h
theorem ixAD_T {α : Type} [Inhabited α] (e : α → D) {xs : List α} {i : Int} (h : InR xs i) : ixAD (.tuple (xs.map e)) (.int i) = some (e (idx xs i)) := ixD_T e h
theorem ixAD_P {xs : List D} {i : Int} {d : D} (h : L2.atI xs i = some d := by rfl) : ixAD (.tuple xs) (.int i) = some d := ixD_P h
section
variable {α : Type} [DecidableEq α] {e : α → D} {n : Nat}
theorem inAL (h : EqE e n) (hn : n + 1 ≤ 60) (a : α) (xs : List α) [i : Decidable (a ∈ xs)] : inAD (e a) (.list (xs.map e)) = some (decide (a ∈ xs)) := by
  have := inL h hn a xs
  rw [show i = List.instDecidableMemOfLawfulBEq a xs from Subsingleton.elim _ _]
  exact this
theorem inAT (h : EqE e n) (hn : n + 1 ≤ 60) (a : α) (xs : List α) [i : Decidable (a ∈ xs)] : inAD (e a) (.tuple (xs.map e)) = some (decide (a ∈ xs)) := by
  have := inT h hn a xs
  rw [show i = List.instDecidableMemOfLawfulBEq a xs from Subsingleton.elim _ _]
  exact this
theorem notInAL (h : EqE e n) (hn : n + 1 ≤ 60) (a : α) (xs : List α) [i : Decidable (a ∈ xs)] : notInAD (e a) (.list (xs.map e)) = some (!decide (a ∈ xs)) := by
  unfold notInAD
  rw [inAL h hn]; rfl
theorem notInAT (h : EqE e n) (hn : n + 1 ≤ 60) (a : α) (xs : List α) [i : Decidable (a ∈ xs)] : notInAD (e a) (.tuple (xs.map e)) = some (!decide (a ∈ xs)) := by
  unfold notInAD
  rw [inAT h hn]; rfl
end
end Q
namespace Q
open PySem PySem.W PyProof.Rows
theorem revD_LO {α : Type} (e : α → D) (xs : List α) : revD (.list (xs.map e)) = some (.list ((xs.reverse.map some).map (eO e))) := by
  rw [revD_L, List.map_map]
  rfl
end Q
namespace Q
open PySem PySem.W PyProof.Rows
theorem XL.seqv1 {α : Type} {G : Env} {a b : S} {l : St} {o : Out} (v : α) (Gv : α → Env) (Lv : α → St) (ha : XS G a (some l) (.nx (Gv v)) (some (Lv v))) (hb : ∀ x, x = v → XL (Gv x) b (Lv x) o) : XL G (sSeq a b) l o := XL.seqd ha (hb v rfl)
end Q
namespace Q
open PySem PySem.W PyProof.Rows
theorem XL.forU2 {G : Env} {α : Type} {it : Es} {t : Q.G} {b : S} {vs : List Nat} {l l1 : St} (ex : α → D) {xs : List α} (Gs : Env) (Gb : α → Env) (hi : XA G it (some l) (xs.map ex) (some l1)) (h0 : LE Gs G) (ht : ∀ x, TG Gs t (ex x) (Gb x)) (hb : ∀ x, x ∈ xs → ∀ l, XL (Gb x) b l (.nx Gs)) (hw : wipeE Gs vs = Gs := by simp only [wipeE, List.set_cons_succ, List.set_cons_zero]) : XL G (sFor it t b vs) l (.nx Gs) := XL.forU ex Gs Gb hi h0 ht hb hw
end Q

set_option Elab.async false
set_option linter.all false
set_option autoImplicit false
set_option maxRecDepth 100000
/-! TYE: dict(..), d.get, t[::-1], calls of defs handed on, at Lean's own types. -/
namespace Q
open PySem PySem.W PyProof.Rows
def mergeT {κ α : Type} [DecidableEq κ] (acc more : List (κ × α)) : List (κ × α) := more.foldl (fun d p => putT d p.1 p.2) acc
section
variable {κ α : Type} [DecidableEq κ] {ek : κ → D} {e : α → D}
theorem putD_D (h : KeyE ek) (l : List (κ × α)) (k : κ) (v : α) : putD (l.map fun p => (ek p.1, e p.2)) (ek k) (e v) = (putT l k v).map fun p => (ek p.1, e p.2) := by
  unfold putD putT
  rw [h.look, Option.isSome_map]
  split
  · rw [List.map_map, List.map_map]
    refine List.map_congr_left fun p _ => ?_
    simp only [Function.comp, h.eqv]
    by_cases q : p.1 = k <;> simp [q]
  · rw [List.map_append]; rfl
theorem mergeD_D (h : KeyE ek) : ∀ (more acc : List (κ × α)), mergeD (acc.map fun p => (ek p.1, e p.2)) (more.map fun p => (ek p.1, e p.2)) = (mergeT acc more).map fun p => (ek p.1, e p.2)
  | [], acc => rfl
  | p :: more, acc => by
    unfold mergeD mergeT
    rw [List.map_cons, List.foldl_cons, List.foldl_cons, putD_D h]
    exact mergeD_D h more (putT acc p.1 p.2)
theorem pairs_D (h : KeyE ek) : ∀ (l : List (κ × α)), pairsOf (l.map (eP2 ek e)) = some (l.map fun p => (ek p.1, e p.2))
  | [] => rfl
  | p :: l => by
    rw [List.map_cons, List.map_cons]
    show (pairOf (.tuple [ek p.1, e p.2])).bind _ = _
    obtain ⟨k, h1, h2⟩ := h.keyN p.1
    have : pairOf (.tuple [ek p.1, e p.2]) = some (ek p.1, e p.2) := by
      show (if (Q.keyN (ek p.1)).isSome = true then _ else _) = _
      rw [h1]; rfl
    rw [this]
    show (pairsOf (l.map (eP2 ek e))).map _ = _
    rw [pairs_D h l]
    rfl
theorem dictD_L (h : KeyE ek) (l : List (κ × α)) : dictD (.list (l.map (eP2 ek e))) = some (eD ek e (mergeT [] l)) := by
  show (pairsOf (l.map (eP2 ek e))).map _ = _
  rw [pairs_D h, Option.map_some]
  have := mergeD_D (e := e) h l []
  rw [List.map_nil] at this
  rw [this]
theorem dictD_D (h : KeyE ek) (l : List (κ × α)) : dictD (eD ek e l) = some (eD ek e l) := by
  show (if (isTok (eD ek e l) || !keysOk _) = true then _ else _) = _
  rw [h.ntok, h.ok, if_neg (by simp)]
theorem getAD_D (h : KeyE ek) (k : κ) (l : List (κ × α)) : getAD (eD ek e l) (ek k) = some (eO e (lookT l k)) := by
  show (if (isTok (eD ek e l) || !keysOk _) = true then _ else _) = _
  rw [h.ntok, h.ok, if_neg (by simp)]
  obtain ⟨ky, h1, h2⟩ := h.keyN k
  rw [h1]
  show some ((lookD _ (keyOf ky)).getD .none) = _
  rw [← h2, h.look]
  cases lookT l k <;> rfl
end
theorem revTD_T {α : Type} (e : α → D) (xs : List α) : revTD (.tuple (xs.map e)) = some (.tuple (xs.reverse.map e)) := by
  show some (PyData.tuple (xs.map e).reverse) = _
  rw [List.map_reverse]
theorem addX (x : D) (ys : List D) {n : Nat} (h : n < 1000000) (hn : ys.length = n := by simp) : addD (.tuple [x]) (.tuple ys) = some (.tuple (x :: ys)) := if_pos (by rw [size_eq]; simp; omega)
theorem tok_str (x : Str) : fnName (tokF x) = some x := rfl
theorem X.callV2 {G : Env} {w w1 w2 : Wd} {α : Type} (i : Nat) (er : α → D) {x y c : Str} {f f' : Fn} {es : List E} {ds : List D} {u v : α} (ha : XA G (cArgs es) w ds w1) (hc : c = x ∨ c = y) (hf : c = x → f ds w1 = some (er u, w2)) (hf' : c = y → f' ds w1 = some (er v, w2))
    (hg : G[i]? = some (some (tokF c)) := by rfl) : X G (cCallV i [(x, f), (y, f')] es) w (er (if c = x then u else v)) w2 := ⟨fun g hl => by
  unfold cCallV
  rw [hl.get hg, Option.join_some, Option.bind_some, tok_str]
  show (match [(x, f), (y, f')].find? fun p => p.1 == c with
    | some p => cCall p.2 es g w
    | none => none) = _
  by_cases h : c = x
  · subst h
    rw [List.find?_cons, show ((c, f).1 == c) = true by simp, if_pos rfl]
    show cCall f es g w = _
    rw [s_cCall, ha.run g hl, bnd_some, hf rfl]
  · have hy := hc.resolve_left h
    subst hy
    rw [List.find?_cons, show ((x, f).1 == c) = false by simpa using fun z => h z.symm, if_neg h, List.find?_cons, show ((c, f').1 == c) = true by simp]
    show cCall f' es g w = _
    rw [s_cCall, ha.run g hl, bnd_some, hf' rfl]⟩
end Q
namespace Q
open PySem PySem.W PyProof.Rows
theorem neD_nilF {α : Type} (e : α → D) {xs : List α} (h : xs = []) : neD (.list (xs.map e)) (.list []) = some false := by
  subst h; rfl
end Q

set_option Elab.async false
set_option linter.all false
set_option autoImplicit false
set_option maxRecDepth 100000
/-! QL: plain mathematics for the laws. -/
namespace Q
open PySem PySem.W PyProof.Rows
theorem le_sz {n : Nat} (h : n ≤ 16000000) : n ≤ sizeLine := by rw [size_eq]; omega
theorem lt_sz {n : Nat} (h : n ≤ 16000000) : n < sizeLine := by rw [size_eq]; omega
theorem I62_of {n : Int} (h : -1000000000000 ≤ n) (k : n ≤ 1000000000000) : I62 n := ⟨by omega, by omega⟩
theorem I62_nat {n : Nat} (h : n ≤ 1000000000000) : I62 (n : Int) := ⟨by omega, by omega⟩
theorem M64_l {i j : Int} (h : -1000000000000 ≤ i) (k : i ≤ 1000000000000) : M64 i j := .inl ⟨by omega, by omega⟩
theorem M64_r {i j : Int} (h : -1000000000000 ≤ j) (k : j ≤ 1000000000000) : M64 i j := .inr ⟨by omega, by omega⟩
/-! min and max -/
section
variable {α : Type} {lt : α → α → Bool}
theorem minF_spec (L : Lin lt) : ∀ (xs : List α) (x : α), (minF lt x xs = x ∨ minF lt x xs ∈ xs) ∧ lt x (minF lt x xs) = false ∧ ∀ y ∈ xs, lt y (minF lt x xs) = false
  | [], x => ⟨.inl rfl, L.irr x, fun y hy => by simp at hy⟩
  | y :: xs, x => by
    have e : minF lt x (y :: xs) = minF lt (if lt y x = true then y else x) xs := rfl
    rw [e]
    by_cases h : lt y x = true
    · rw [if_pos h]
      obtain ⟨h1, h2, h3⟩ := minF_spec L xs y
      refine ⟨.inr ?_, ?_, fun z hz => ?_⟩
      · rcases h1 with h1 | h1
        · rw [h1]; exact List.mem_cons_self
        · exact List.mem_cons_of_mem _ h1
      · cases hx : lt x (minF lt y xs) with
        | false => rfl
        | true => rw [L.tr _ _ _ h hx] at h2; cases h2
      · rcases List.mem_cons.mp hz with rfl | hz
        · exact h2
        · exact h3 z hz
    · rw [if_neg h]
      obtain ⟨h1, h2, h3⟩ := minF_spec L xs x
      refine ⟨?_, h2, fun z hz => ?_⟩
      · rcases h1 with h1 | h1
        · exact .inl h1
        · exact .inr (List.mem_cons_of_mem _ h1)
      · rcases List.mem_cons.mp hz with rfl | hz
        · cases hx : lt z (minF lt x xs) with
          | false => rfl
          | true =>
            rcases h1 with h1 | h1
            · rw [h1] at hx; exact absurd hx h
            · have hzx : lt z x = false := by simpa using h
              cases hxz : lt x z with
              | true => rw [L.tr _ _ _ hxz hx] at h2; cases h2
              | false =>
                have := L.tot _ _ hzx hxz
                subst this
                rw [hx] at h2; cases h2
        · exact h3 z hz
variable [Inhabited α]
theorem minT_mem (L : Lin lt) {xs : List α} (h : xs ≠ []) : minT lt xs ∈ xs := by
  cases xs with
  | nil => exact absurd rfl h
  | cons x xs =>
    rcases (minF_spec L xs x).1 with q | q
    · exact List.mem_cons.mpr (.inl q)
    · exact List.mem_cons_of_mem _ q
theorem minT_le (L : Lin lt) {xs : List α} {y : α} (h : y ∈ xs) : lt y (minT lt xs) = false := by
  cases xs with
  | nil => simp at h
  | cons x xs =>
    rcases List.mem_cons.mp h with rfl | h
    · exact (minF_spec L xs y).2.1
    · exact (minF_spec L xs x).2.2 y h
theorem minT_eq (L : Lin lt) {xs : List α} {m : α} (h : m ∈ xs) (k : ∀ y ∈ xs, lt y m = false) : minT lt xs = m :=
  L.tot _ _ (k _ (minT_mem L (fun z => by rw [z] at h; simp at h))) (minT_le L h)
/-- the same least, where each is matched by a less or equal one of the other -/
theorem minT_dom (L : Lin lt) {xs ys : List α} (hx : xs ≠ []) (h : ∀ x ∈ xs, ∃ y ∈ ys, lt x y = false) (k : ∀ y ∈ ys, ∃ x ∈ xs, lt y x = false) : minT lt xs = minT lt ys := by
  have hy : ys ≠ [] := fun z => by
    obtain ⟨y, hy, _⟩ := h _ (minT_mem L hx)
    rw [z] at hy; simp at hy
  have key : ∀ {a b : List α}, a ≠ [] → (∀ x ∈ a, ∃ y ∈ b, lt x y = false) → lt (minT lt a) (minT lt b) = false := fun {a b} ha hab => by
    obtain ⟨y, hy, hl⟩ := hab _ (minT_mem L ha)
    have := minT_le L hy
    cases q : lt (minT lt a) (minT lt b) with
    | false => rfl
    | true =>
      cases q2 : lt y (minT lt a) with
      | true => rw [L.tr _ _ _ q2 q] at this; cases this
      | false =>
        have e := L.tot _ _ hl q2
        rw [← e, q] at this; cases this
  exact L.tot _ _ (key hx h) (key hy k)
theorem minT_same (L : Lin lt) {xs ys : List α} (hx : xs ≠ []) (h : ∀ x, x ∈ xs ↔ x ∈ ys) : minT lt xs = minT lt ys :=
  minT_dom L hx (fun x hx => ⟨x, (h x).mp hx, L.irr x⟩) fun y hy => ⟨y, (h y).mpr hy, L.irr y⟩
end
theorem max_min {α : Type} [Inhabited α] (lt : α → α → Bool) (xs : List α) : maxT lt xs = minT (fun a b => lt b a) xs := by
  cases xs <;> rfl
theorem Lin.flip {α : Type} {lt : α → α → Bool} (L : Lin lt) : Lin fun a b => lt b a := ⟨L.irr, fun a b c h k => L.tr c b a k h, fun a b h k => L.tot a b k h⟩
section
variable {α : Type} {lt : α → α → Bool} [Inhabited α]
theorem maxT_mem (L : Lin lt) {xs : List α} (h : xs ≠ []) : maxT lt xs ∈ xs := by rw [max_min]; exact minT_mem L.flip h
theorem maxT_ge (L : Lin lt) {xs : List α} {y : α} (h : y ∈ xs) : lt (maxT lt xs) y = false := by
  rw [max_min]
  exact minT_le (lt := fun a b => lt b a) L.flip h
theorem maxT_eq (L : Lin lt) {xs : List α} {m : α} (h : m ∈ xs) (k : ∀ y ∈ xs, lt m y = false) : maxT lt xs = m := by
  rw [max_min]
  exact minT_eq (lt := fun a b => lt b a) L.flip h k
end
theorem ltI_false {a b : Int} : ltI a b = false ↔ b ≤ a := by simp [ltI]
theorem ltI_true {a b : Int} : ltI a b = true ↔ a < b := by simp [ltI]
theorem Lin.ii : Lin (lt2 ltI ltI) := Lin.e (OrR.tup (OrR.cons OrI (OrR.one OrI)))
theorem lt_ii {a b c d : Int} : lt2 ltI ltI (a, b) (c, d) = false ↔ c < a ∨ (c = a ∧ d ≤ b) := by
  unfold lt2 ltI
  simp only
  by_cases h : a = c
  · rw [if_pos h]; simp; omega
  · rw [if_neg h]; simp; omega
/-! sums -/
theorem foldl_sum {α : Type} (f : α → Int) : ∀ (xs : List α) (a : Int), xs.foldl (fun s x => s + f x) a = a + (xs.map f).sum
  | [], a => by simp
  | x :: xs, a => by rw [List.foldl_cons, foldl_sum f xs]; simp; omega
theorem sumFilter {α : Type} (p : α → Bool) (f : α → Int) : ∀ (xs : List α), ((xs.filter p).map f).sum = (xs.map fun x => if p x = true then f x else 0).sum
  | [] => rfl
  | x :: xs => by
    rw [List.filter_cons, List.map_cons, List.sum_cons, ← sumFilter p f xs]
    split
    · simp
    · simp
theorem sum_le_map {α : Type} {f g : α → Int} : ∀ {xs : List α}, (∀ x ∈ xs, f x ≤ g x) → (xs.map f).sum ≤ (xs.map g).sum
  | [], _ => by simp
  | x :: xs, h => by
    have h1 := h x List.mem_cons_self
    have h2 := sum_le_map (f := f) (g := g) (xs := xs) fun y hy => h y (List.mem_cons_of_mem _ hy)
    simp only [List.map_cons, List.sum_cons]
    omega
theorem sum_abs {xs : List Int} {B : Int} (h : ∀ x ∈ xs, -B ≤ x ∧ x ≤ B) : -(B * xs.length) ≤ xs.sum ∧ xs.sum ≤ B * xs.length := by
  induction xs with
  | nil => simp
  | cons x xs ih =>
    have h1 := h x List.mem_cons_self
    have h2 := ih fun y hy => h y (List.mem_cons_of_mem _ hy)
    simp only [List.sum_cons, List.length_cons]
    have e : B * ((xs.length + 1 : Nat) : Int) = B * xs.length + B := by
      rw [Int.natCast_add, Int.mul_add]; simp
    rw [e]
    omega
/-- a list by its places -/
theorem map_range {α β : Type} [Inhabited α] (xs : List α) (f : α → β) : (rangeI 0 (xs.length : Int)).map (fun k => f (idx xs k)) = xs.map f := by
  unfold rangeI
  rw [List.map_map]
  refine List.ext_getElem (by simp) fun i h1 h2 => ?_
  simp at h1 h2
  simp only [List.getElem_map, List.getElem_range, Function.comp, Int.zero_add]
  rw [idx_lt xs h2]
theorem mem_idx {α : Type} [Inhabited α] {xs : List α} {x : α} (h : x ∈ xs) : ∃ i : Int, 0 ≤ i ∧ i < xs.length ∧ idx xs i = x := by
  obtain ⟨i, hi, e⟩ := List.mem_iff_getElem.mp h
  exact ⟨i, by omega, by omega, by rw [idx_lt xs hi, e]⟩
theorem mul_bnd {a b A B : Int} (h0 : 0 ≤ a) (h1 : a ≤ A) (h2 : 0 ≤ b) (h3 : b ≤ B) : 0 ≤ a * b ∧ a * b ≤ A * B := ⟨Int.mul_nonneg h0 h2, Int.mul_le_mul h1 h3 h2 (by omega)⟩
/-- of a draw -/
theorem nx (l : St) (m : Int) (h : 0 < m) : ∃ v k, nextT l m = (v, k) ∧ 0 ≤ v ∧ v < m := ⟨_, _, rfl, nextT_bnd l h⟩
end Q

set_option Elab.async false
set_option linter.all false
set_option autoImplicit false
set_option maxRecDepth 100000
namespace W
open PySem PySem.Spec PyProof.Rows L2 Q
def topS (i : Nat) : Stmt := PySem.Challenge.pw_nightbus_k16_fuel.main.body.getD i (.Pass ⟨0, 0, 0, 0⟩)
/-- the built-in names that the text uses and does not bind -/
structure Bi (mg : Str → Option Value) : Prop where
  b_abs : mg "abs" = none
  b_all : mg "all" = none
  b_bool : mg "bool" = none
  b_dict : mg "dict" = none
  b_int : mg "int" = none
  b_isinstance : mg "isinstance" = none
  len : mg "len" = none
  b_list : mg "list" = none
  b_min : mg "min" = none
  b_range : mg "range" = none
  b_str : mg "str" = none
  b_sum : mg "sum" = none
  b_tuple : mg "tuple" = none
  b_zip : mg "zip" = none
section
variable {P : Program} {w : World} {K : PySem.W.Frag} {mg : Str → Option Value} {base : Heap}
/-! price_of -/
abbrev st_price_of : Stmt := topS 8
abbrev N_price_of : List Str := ["price", "more"]
theorem sc_price_of : FnScope N_price_of ["price", "more"] (defScope st_price_of) := ⟨rfl, rfl, rfl, by decide +kernel, rfl, by decide +kernel, by decide +kernel⟩
def b_price_of : S :=
    sRet (cIf (tCmp gtD (cVar 1) (cK (.int 0))) (cOp2 mulI (cVar 0) (cVar 1)) (cK (.int 0)))
def f_price_of : Fn := bodyFn 2 0 b_price_of
theorem d_price_of (B : Bi mg) (Dd : Df K mg "price_of" st_price_of ["price", "more"])  : Ok K mg true P w base 1 "price_of" ["price", "more"] 2 f_price_of :=
  ok_of (O' := []) Dd sc_price_of fun f cdv A outer s H E hr => ESs.one (ES.ret (EV.if (ET.cmp (ok_gt hr) (EB.var 1) (EV.b (EV.int))) (EV.mul (EB.var 0) (EB.var 1)) (EV.int)))
/-! one_stop -/
abbrev st_one_stop : Stmt := topS 9
abbrev N_one_stop : List Str := ["price", "more"]
theorem sc_one_stop : FnScope N_one_stop ["price", "more"] (defScope st_one_stop) := ⟨rfl, rfl, rfl, by decide +kernel, rfl, by decide +kernel, by decide +kernel⟩
def b_one_stop : S :=
    sRet (cOp1 intD (cT (tCmp gtD (cVar 1) (cK (.int 0)))))
def f_one_stop : Fn := bodyFn 2 0 b_one_stop
theorem d_one_stop (B : Bi mg) (Dd : Df K mg "one_stop" st_one_stop ["price", "more"])  : Ok K mg true P w base 1 "one_stop" ["price", "more"] 2 f_one_stop :=
  ok_of (O' := []) Dd sc_one_stop fun f cdv A outer s H E hr => ESs.one (ES.ret (EV.int1 B.b_int (EV.b (EV.cmp (ok_gt hr) (EB.var 1) (EV.b (EV.int))))))
abbrev tabV : List (Str × Fn) := [("price_of", f_price_of), ("one_stop", f_one_stop)]
/-! _law_draws -/
abbrev st__law_draws : Stmt := topS 15
abbrev N__law_draws : List Str := ["script", "many", "draws", "mixed", "k", "cell", "rest", "turn"]
theorem sc__law_draws : FnScope N__law_draws ["script", "many"] (defScope st__law_draws) := ⟨rfl, rfl, rfl, by decide +kernel, rfl, by decide +kernel, by decide +kernel⟩
def b_law_draws_0 : S :=
    sIf (tCmp gtD (cVar 6) (cK (.int 0))) (sSeq (sApp 2 (cOp2 modD (cOp1 intD (cVar 6)) (cK (.int 997))))
    (sSet (gName 6) (cOp2 divD (cVar 6) (cK (.int 997))))) (sPass)
def b_law_draws_1 : S :=
    sSeq (sSet (gName 5) (cOp1 absD (cOp1 intD (cOp2 ixD (cVar 0) (cVar 4)))))
    (sSeq (sSet (gName 3) (cOp2 modD (cOp1 intD (cOp2 addD (cOp2 addD (cOp2 mulI (cVar 3) (cK (.int 48271))) (cOp2 modD (cVar 5) (cK (.int 1000003)))) (cVar 4))) (cK (.int 65537))))
    (sSeq (sSet (gName 6) (cIf (tCmp geD (cVar 5) (cOp2 powD (cK (.int 10)) (cK (.int 18)))) (cVar 5) (cK (.int 0))))
    (sSeq (sSet (gName 2) (cOp2 catD (cVar 2) (cIf (tCmp eqD (cVar 6) (cK (.int 0))) (cLst [cOp2 modD (cOp1 intD (cVar 5)) (cK (.int 997)), cOp2 modD (cOp2 modD (cOp1 intD (cOp2 addD (cOp2 mulI (cVar 3) (cK (.int 69621))) (cK (.int 5)))) (cK (.int 65521))) (cK (.int 997))]) (cLst []))))
    (sFor (itR1 (cK (.int 60))) (gName 7) (b_law_draws_0) [7]))))
def b_law_draws_2 : S :=
    sSeq (sSet (gName 3) (cOp2 modD (cOp1 intD (cOp2 addD (cOp2 addD (cOp2 mulI (cVar 3) (cK (.int 16807))) (cVar 4)) (cK (.int 1)))) (cK (.int 65537))))
    (sApp 2 (cOp2 modD (cOp1 intD (cVar 3)) (cK (.int 997))))
def b_law_draws : S :=
    sSeq (sPar [gName 2, gName 3] [cLst [], cK (.int 7)])
    (sSeq (sFor (itR1 (cOp1 lenD (cVar 0))) (gName 4) (b_law_draws_1) [4, 5, 6, 7])
    (sSeq (sFor (itR1 (cVar 1)) (gName 4) (b_law_draws_2) [4])
    (sRet (cCut (cVar 2) none (some (cVar 1))))))
def f_law_draws : Fn := bodyFn 2 6 b_law_draws
theorem d__law_draws (B : Bi mg) (Dd : Df K mg "_law_draws" st__law_draws ["script", "many"])  : Ok K mg true P w base 1 "_law_draws" ["script", "many"] 2 f_law_draws :=
  ok_of (O' := []) Dd sc__law_draws fun f cdv A outer s H E hr => ESs.cons (O1 := [2]) (ES.par2 (ks := [true, false]) 2 3 rfl sc__law_draws.nd (EM.consO (EO.lst (EA.nil)) (EM.consV (EV.int) (EM.nil))))
    (ESs.cons (O1 := [2]) (ES.for (Oh := [2]) (Ob := [2]) (O' := [2]) [4, 5, 6, 7] PassesOwn.never rfl (EI.r1 B.b_range (EV.b (EV.len B.len (EB.var 0)))) (GG.name 4 sc__law_draws.nd) (ESs.cons (O1 := [2]) (ES.set (EV.abs B.b_abs (EV.b (EV.int1 B.b_int (EV.b (EV.ix (EB.var 0) (EB.var 4)))))) (GG.name 5 sc__law_draws.nd))
    (ESs.cons (O1 := [2]) (ES.set (EV.mod (EV.b (EV.int1 B.b_int (EV.b (EV.add (EV.b (EV.add (EV.b (EV.mul (EB.var 3) (EV.b (EV.int)))) (EV.b (EV.mod (EB.var 5) (EV.b (EV.int)))))) (EB.var 4))))) (EV.b (EV.int))) (GG.name 3 sc__law_draws.nd))
    (ESs.cons (O1 := [2]) (ES.set (EV.if (ET.cmp (ok_ge hr) (EB.var 5) (EV.b (EV.pow (EV.b (EV.int)) (EV.b (EV.int))))) (EV.var 5) (EV.int)) (GG.name 6 sc__law_draws.nd))
    (ESs.cons (O1 := [2]) (ES.setO 2 sc__law_draws.nd (EO.cat (EB.var 2) (EV.b (EV.if (ET.cmp (ok_eq hr) (EB.var 6) (EV.b (EV.int))) (EO.v (EO.lst (EA.cons (EV.mod (EV.b (EV.int1 B.b_int (EB.var 5))) (EV.b (EV.int))) (EA.cons (EV.mod (EV.b (EV.mod (EV.b (EV.int1 B.b_int (EV.b (EV.add (EV.b (EV.mul (EB.var 3) (EV.b (EV.int)))) (EV.b (EV.int)))))) (EV.b (EV.int)))) (EV.b (EV.int))) (EA.nil))))) (EO.v (EO.lst (EA.nil)))))))
    (ESs.one (ES.for (Oh := [2]) (Ob := [2]) (O' := [2]) [7] PassesOwn.never rfl (EI.r1 B.b_range (EV.b (EV.int))) (GG.name 7 sc__law_draws.nd) (ESs.one (ES.if (ET.cmp (ok_gt hr) (EB.var 6) (EV.b (EV.int))) (ESs.cons (O1 := [2]) (ES.app 2 (EV.mod (EV.b (EV.int1 B.b_int (EB.var 6))) (EV.b (EV.int))))
    (ESs.one (ES.set (EV.div (EB.var 6) (EV.b (EV.int))) (GG.name 6 sc__law_draws.nd)))) (ESs.nil))))))))))
    (ESs.cons (O1 := [2]) (ES.for (Oh := [2]) (Ob := [2]) (O' := [2]) [4] PassesOwn.never rfl (EI.r1 B.b_range (EB.var 1)) (GG.name 4 sc__law_draws.nd) (ESs.cons (O1 := [2]) (ES.set (EV.mod (EV.b (EV.int1 B.b_int (EV.b (EV.add (EV.b (EV.add (EV.b (EV.mul (EB.var 3) (EV.b (EV.int)))) (EB.var 4))) (EV.b (EV.int)))))) (EV.b (EV.int))) (GG.name 3 sc__law_draws.nd))
    (ESs.one (ES.app 2 (EV.mod (EV.b (EV.int1 B.b_int (EB.var 3))) (EV.b (EV.int)))))))
    (ESs.one (ES.ret (EV.cut (EB.var 2) EP.none (EP.some (EB.var 1)))))))
/-! _law_next -/
abbrev st__law_next : Stmt := topS 16
abbrev N__law_next : List Str := ["w", "many"]
theorem sc__law_next : FnScope N__law_next ["w", "many"] (defScope st__law_next) := ⟨rfl, rfl, rfl, by decide +kernel, rfl, by decide +kernel, by decide +kernel⟩
theorem d__law_next (B : Bi mg) (Dd : Df K mg "_law_next" st__law_next ["w", "many"]) : Ok K mg true P w base 1 "_law_next" ["w", "many"] 2 fnNext := next_ok' Dd sc__law_next B.b_int B.len rfl rfl rfl rfl rfl
/-! _law_fills -/
abbrev st__law_fills : Stmt := topS 21
abbrev N__law_fills : List Str := ["way", "tank", "begin", "rows", "long", "price", "later", "row", "now", "more"]
theorem sc__law_fills : FnScope N__law_fills ["way", "tank", "begin"] (defScope st__law_fills) := ⟨rfl, rfl, rfl, by decide +kernel, rfl, by decide +kernel, by decide +kernel⟩
def b_law_fills_0 : S :=
    sIf (tAnd (tCmp geD (cVar 8) (cVar 4)) (tCmp leD (cOp2 addD (cOp2 subD (cVar 8) (cVar 4)) (cVar 9)) (cVar 1))) (sApp 6 (cTup [cOp2 addD (cVar 7) (cTup [cVar 9]), cOp2 addD (cOp2 subD (cVar 8) (cVar 4)) (cVar 9)])) (sPass)
def b_law_fills_1 : S :=
    sFor (itR1 (cIf (tCmp isNotND (cVar 5) (cK .none)) (cOp2 addD (cVar 1) (cK (.int 1))) (cK (.int 1)))) (gName 9) (b_law_fills_0) [9]
def b_law_fills_2 : S :=
    sSeq (sSet (gName 6) (cLst []))
    (sSeq (sFor (itSeq (cVar 3)) (gTup [gName 7, gName 8]) (b_law_fills_1) [7, 8, 9])
    (sSet (gName 3) (cVar 6)))
def b_law_fills : S :=
    sSeq (sSet (gName 3) (cLst [cTup [cTup [], cVar 2]]))
    (sSeq (sFor (itSeq (cVar 0)) (gTup [gName 4, gName 5]) (b_law_fills_2) [4, 5, 6, 7, 8, 9])
    (sRet (cLc (itSeq (cVar 3)) (gTup [gName 7, gName 8]) (tYes) (cVar 7) [7, 8])))
def f_law_fills : Fn := bodyFn 3 7 b_law_fills
theorem d__law_fills (B : Bi mg) (Dd : Df K mg "_law_fills" st__law_fills ["way", "tank", "begin"])  : Ok K mg true P w base 1 "_law_fills" ["way", "tank", "begin"] 3 f_law_fills :=
  ok_of (O' := []) Dd sc__law_fills fun f cdv A outer s H E hr => ESs.cons (O1 := []) (ES.set (EO.v (EO.lst (EA.cons (EV.tup (EA.cons (EV.tup (EA.nil)) (EA.cons (EV.var 2) (EA.nil)))) (EA.nil)))) (GG.name 3 sc__law_fills.nd))
    (ESs.cons (O1 := []) (ES.for (Oh := []) (Ob := []) (O' := []) [4, 5, 6, 7, 8, 9] PassesOwn.never rfl (EI.seq (EV.var 0)) (GG.tup rfl (GG.cons (GG.name 4 sc__law_fills.nd) (GG.cons (GG.name 5 sc__law_fills.nd) (GG.nil)))) (ESs.cons (O1 := [6]) (ES.setO 6 sc__law_fills.nd (EO.lst (EA.nil)))
    (ESs.cons (O1 := [6]) (ES.for (Oh := [6]) (Ob := [6]) (O' := [6]) [7, 8, 9] PassesOwn.never rfl (EI.seq (EV.var 3)) (GG.tup rfl (GG.cons (GG.name 7 sc__law_fills.nd) (GG.cons (GG.name 8 sc__law_fills.nd) (GG.nil)))) (ESs.one (ES.for (Oh := [6]) (Ob := [6]) (O' := [6]) [9] PassesOwn.never rfl (EI.r1 B.b_range (EV.b (EV.if (ET.cmp ok_isNot (EB.var 5) (EV.b (EV.non))) (EV.add (EB.var 1) (EV.b (EV.int))) (EV.int)))) (GG.name 9 sc__law_fills.nd) (ESs.one (ES.if ((andW (ET.cmp (ok_ge hr) (EB.var 8) (EB.var 4)) (ET.and1 (ET.cmp (ok_le hr) (EV.b (EV.add (EV.b (EV.sub (EB.var 8) (EB.var 4))) (EB.var 9))) (EB.var 1)))).pt) (ESs.one (ES.app 6 (EV.tup (EA.cons (EV.add (EB.var 7) (EV.b (EV.tup (EA.cons (EV.var 9) (EA.nil))))) (EA.cons (EV.add (EV.b (EV.sub (EB.var 8) (EB.var 4))) (EB.var 9)) (EA.nil)))))) (ESs.nil))))))
    (ESs.one (ES.frz (O1 := []) [6] (ES.set (EV.var 6) (GG.name 3 sc__law_fills.nd)))))))
    (ESs.one (ES.ret (EO.v (EO.lc (own := [("row", 7), ("now", 8)]) rfl sc__law_fills.nd (EI.seq (EV.var 3)) (blkOk_by (N := N__law_fills) (sc := defScope st__law_fills) (own := [("row", 7), ("now", 8)]) (by decide +kernel)) (fun _ _ _ _ _ => GG.tup rfl (GG.cons (GG.name 7 sc__law_fills.nd) (GG.cons (GG.name 8 sc__law_fills.nd) (GG.nil)))) (fun _ _ _ _ _ => tests0) (fun _ _ _ _ _ => EV.var 7))))))
/-! _law_stuck -/
abbrev st__law_stuck : Stmt := topS 19
abbrev N__law_stuck : List Str := ["way", "tank", "begin", "now", "k"]
theorem sc__law_stuck : FnScope N__law_stuck ["way", "tank", "begin"] (defScope st__law_stuck) := ⟨rfl, rfl, rfl, by decide +kernel, rfl, by decide +kernel, by decide +kernel⟩
def b_law_stuck_0 : S :=
    sSeq (sIf (tCmp gtD (cOp2 ixAD (cOp2 ixAD (cVar 0) (cVar 4)) (cK (.int 0))) (cVar 3)) (sRet (cVar 4)) (sPass))
    (sSet (gName 3) (cIf (tCmp isND (cOp2 ixAD (cOp2 ixAD (cVar 0) (cVar 4)) (cK (.int 1))) (cK .none)) (cOp2 subD (cVar 3) (cOp2 ixAD (cOp2 ixAD (cVar 0) (cVar 4)) (cK (.int 0)))) (cVar 1)))
def b_law_stuck : S :=
    sSeq (sSet (gName 3) (cVar 2))
    (sSeq (sFor (itR1 (cOp1 lenD (cVar 0))) (gName 4) (b_law_stuck_0) [4])
    (sRet (cK .none)))
def f_law_stuck : Fn := bodyFn 3 2 b_law_stuck
theorem d__law_stuck (B : Bi mg) (Dd : Df K mg "_law_stuck" st__law_stuck ["way", "tank", "begin"])  : Ok K mg true P w base 1 "_law_stuck" ["way", "tank", "begin"] 3 f_law_stuck :=
  ok_of (O' := []) Dd sc__law_stuck fun f cdv A outer s H E hr => ESs.cons (O1 := []) (ES.set (EV.var 2) (GG.name 3 sc__law_stuck.nd))
    (ESs.cons (O1 := []) (ES.for (Oh := []) (Ob := []) (O' := []) [4] PassesOwn.never rfl (EI.r1 B.b_range (EV.b (EV.len B.len (EB.var 0)))) (GG.name 4 sc__law_stuck.nd) (ESs.cons (O1 := []) (ES.if (ET.cmp (ok_gt hr) (EV.b (EV.ixA hr (EV.b (EV.ixA hr (EB.var 0) (EB.var 4))) (EV.b (EV.int)))) (EB.var 3)) (ESs.one (ES.ret (EV.var 4))) (ESs.nil))
    (ESs.one (ES.set (EV.if (ET.cmp ok_is (EV.b (EV.ixA hr (EV.b (EV.ixA hr (EB.var 0) (EB.var 4))) (EV.b (EV.int)))) (EV.b (EV.non))) (EV.sub (EB.var 3) (EV.b (EV.ixA hr (EV.b (EV.ixA hr (EB.var 0) (EB.var 4))) (EV.b (EV.int))))) (EV.var 1)) (GG.name 3 sc__law_stuck.nd)))))
    (ESs.one (ES.ret (EV.non))))
/-! stuck_at -/
abbrev st_stuck_at : Stmt := topS 3
abbrev N_stuck_at : List Str := ["way", "tank", "begin", "now", "k"]
theorem sc_stuck_at : FnScope N_stuck_at ["way", "tank", "begin"] (defScope st_stuck_at) := ⟨rfl, rfl, rfl, by decide +kernel, rfl, by decide +kernel, by decide +kernel⟩
def b_stuck_at_0 : S :=
    sSeq (sIf (tCmp gtD (cOp2 ixAD (cOp2 ixAD (cVar 0) (cVar 4)) (cK (.int 0))) (cVar 3)) (sRet (cVar 4)) (sPass))
    (sSet (gName 3) (cIf (tCmp isNotND (cOp2 ixAD (cOp2 ixAD (cVar 0) (cVar 4)) (cK (.int 1))) (cK .none)) (cVar 1) (cOp2 subD (cVar 3) (cOp2 ixAD (cOp2 ixAD (cVar 0) (cVar 4)) (cK (.int 0))))))
def b_stuck_at : S :=
    sSeq (sSet (gName 3) (cVar 2))
    (sSeq (sFor (itR1 (cOp1 lenD (cVar 0))) (gName 4) (b_stuck_at_0) [4])
    (sRet (cK .none)))
def f_stuck_at : Fn := bodyFn 3 2 b_stuck_at
theorem d_stuck_at (B : Bi mg) (Dd : Df K mg "stuck_at" st_stuck_at ["way", "tank", "begin"])  : Ok K mg true P w base 1 "stuck_at" ["way", "tank", "begin"] 3 f_stuck_at :=
  ok_of (O' := []) Dd sc_stuck_at fun f cdv A outer s H E hr => ESs.cons (O1 := []) (ES.set (EV.var 2) (GG.name 3 sc_stuck_at.nd))
    (ESs.cons (O1 := []) (ES.for (Oh := []) (Ob := []) (O' := []) [4] PassesOwn.never rfl (EI.r1 B.b_range (EV.b (EV.len B.len (EB.var 0)))) (GG.name 4 sc_stuck_at.nd) (ESs.cons (O1 := []) (ES.if (ET.cmp (ok_gt hr) (EV.b (EV.ixA hr (EV.b (EV.ixA hr (EB.var 0) (EB.var 4))) (EV.b (EV.int)))) (EB.var 3)) (ESs.one (ES.ret (EV.var 4))) (ESs.nil))
    (ESs.one (ES.set (EV.if (ET.cmp ok_isNot (EV.b (EV.ixA hr (EV.b (EV.ixA hr (EB.var 0) (EB.var 4))) (EV.b (EV.int)))) (EV.b (EV.non))) (EV.var 1) (EV.sub (EB.var 3) (EV.b (EV.ixA hr (EV.b (EV.ixA hr (EB.var 0) (EB.var 4))) (EV.b (EV.int)))))) (GG.name 3 sc_stuck_at.nd)))))
    (ESs.one (ES.ret (EV.non))))
/-! can_go -/
abbrev st_can_go : Stmt := topS 4
abbrev N_can_go : List Str := ["way", "tank", "begin"]
theorem sc_can_go : FnScope N_can_go ["way", "tank", "begin"] (defScope st_can_go) := ⟨rfl, rfl, rfl, by decide +kernel, rfl, by decide +kernel, by decide +kernel⟩
def b_can_go : S :=
    sRet (cT (tCmp isND (cCall f_stuck_at [cVar 0, cVar 1, cVar 2]) (cK .none)))
def f_can_go : Fn := bodyFn 3 0 b_can_go
theorem d_can_go (B : Bi mg) (Dd : Df K mg "can_go" st_can_go ["way", "tank", "begin"]) (o_stuck_at : Ok K mg true P w base 1 "stuck_at" ["way", "tank", "begin"] 3 f_stuck_at) : Ok K mg true P w base 2 "can_go" ["way", "tank", "begin"] 3 f_can_go :=
  ok_of (O' := []) Dd sc_can_go fun f cdv A outer s H E hr => ESs.one (ES.ret (EV.cmp ok_is (EV.b (EV.callO o_stuck_at (hr.mono (by decide)) (EA.cons (EV.var 0) (EA.cons (EV.var 1) (EA.cons (EV.var 2) (EA.nil)))))) (EV.b (EV.non))))
/-! fills_from -/
abbrev st_fills_from : Stmt := topS 7
abbrev N_fills_from : List Str := ["way", "tank", "cost", "rows", "long", "price", "later", "best", "units", "able", "more", "rest", "row"]
theorem sc_fills_from : FnScope N_fills_from ["way", "tank", "cost"] (defScope st_fills_from) := ⟨rfl, rfl, rfl, by decide +kernel, rfl, by decide +kernel, by decide +kernel⟩
def b_fills_from_0 : S :=
    sIf (tCmp inAD (cOp2 addD (cOp2 subD (cVar 8) (cVar 4)) (cVar 10)) (cVar 6)) (sSeq (sSet (gTup [gName 11, gName 12]) (cOp2 ixAD (cVar 6) (cOp2 addD (cOp2 subD (cVar 8) (cVar 4)) (cVar 10))))
    (sApp 9 (cTup [cOp2 addD (cCallV 2 tabV [cVar 5, cVar 10]) (cVar 11), cOp2 addD (cTup [cVar 10]) (cVar 12)]))) (sPass)
def b_fills_from_1 : S :=
    sSeq (sSet (gName 9) (cLst []))
    (sSeq (sFor (itR1 (cIf (tCmp isNotND (cVar 5) (cK .none)) (cOp2 addD (cOp2 addD (cOp2 subD (cVar 1) (cVar 8)) (cVar 4)) (cK (.int 1))) (cK (.int 1)))) (gName 10) (b_fills_from_0) [10, 11, 12])
    (sIf (tCmp neD (cVar 9) (cLst [])) (sPutK 7 (cVar 8) (cOp1 minD1 (cVar 9))) (sPass)))
def b_fills_from_2 : S :=
    sSeq (sPar [gName 6, gName 7] [cOp2 ixAD (cVar 3) (cOp1 negD (cK (.int 1))), cK (.dict [])])
    (sSeq (sFor (itR2 (cVar 4) (cOp2 addD (cVar 1) (cK (.int 1)))) (gName 8) (b_fills_from_1) [8, 9, 10, 11, 12])
    (sApp 3 (cVar 7)))
def b_fills_from : S :=
    sSeq (sSet (gName 3) (cLst [cOp1 dictD (cLc (itR1 (cOp2 addD (cVar 1) (cK (.int 1)))) (gName 8) (tYes) (cTup [cVar 8, cTup [cK (.int 0), cTup []]]) [8])]))
    (sSeq (sFor (itSeq (cOp1 revTD (cVar 0))) (gTup [gName 4, gName 5]) (b_fills_from_2) [4, 5, 6, 7, 8, 9, 10, 11, 12])
    (sRet (cVar 3)))
def f_fills_from : Fn := bodyFn 3 10 b_fills_from
theorem d_fills_from (B : Bi mg) (Dd : Df K mg "fills_from" st_fills_from ["way", "tank", "cost"]) (o_one_stop : Ok K mg true P w base 1 "one_stop" ["price", "more"] 2 f_one_stop) (o_price_of : Ok K mg true P w base 1 "price_of" ["price", "more"] 2 f_price_of) : Ok K mg true P w base 2 "fills_from" ["way", "tank", "cost"] 3 f_fills_from :=
  ok_of (O' := []) Dd sc_fills_from fun f cdv A outer s H E hr => ESs.cons (O1 := [3]) (ES.setO 3 sc_fills_from.nd (EO.lst (EA.cons (EO.v (EO.dict B.b_dict rfl (EO.b (EO.lc (own := [("units", 8)]) rfl sc_fills_from.nd (EI.r1 B.b_range (EV.b (EV.add (EB.var 1) (EV.b (EV.int))))) (blkOk_by (N := N_fills_from) (sc := defScope st_fills_from) (own := [("units", 8)]) (by decide +kernel)) (fun _ _ _ _ _ => GG.name 8 sc_fills_from.nd) (fun _ _ _ _ _ => tests0) (fun _ _ _ _ _ => EV.tup (EA.cons (EV.var 8) (EA.cons (EV.tup (EA.cons (EV.int) (EA.cons (EV.tup (EA.nil)) (EA.nil)))) (EA.nil)))))))) (EA.nil))))
    (ESs.cons (O1 := [3]) (ES.for (Oh := [3]) (Ob := [3]) (O' := [3]) [4, 5, 6, 7, 8, 9, 10, 11, 12] PassesOwn.never rfl (EI.seq (EV.revT (EB.var 0))) (GG.tup rfl (GG.cons (GG.name 4 sc_fills_from.nd) (GG.cons (GG.name 5 sc_fills_from.nd) (GG.nil)))) (ESs.cons (O1 := [3, 7]) (ES.par2 (ks := [false, true]) 6 7 rfl sc_fills_from.nd (EM.consV (EV.ixA hr (EB.var 3) (EV.b (EV.neg (EV.b (EV.int))))) (EM.consO (EO.dict0) (EM.nil))))
    (ESs.cons (O1 := [3, 7]) (ES.for (Oh := [3, 7]) (Ob := [3, 7, 9]) (O' := [3, 7]) [8, 9, 10, 11, 12] PassesOwn.never rfl (EI.r2 B.b_range (EB.var 4) (EV.b (EV.add (EB.var 1) (EV.b (EV.int))))) (GG.name 8 sc_fills_from.nd) (ESs.cons (O1 := [3, 7, 9]) (ES.setO 9 sc_fills_from.nd (EO.lst (EA.nil)))
    (ESs.cons (O1 := [3, 7, 9]) (ES.for (Oh := [3, 7, 9]) (Ob := [3, 7, 9]) (O' := [3, 7, 9]) [10, 11, 12] PassesOwn.never rfl (EI.r1 B.b_range (EV.b (EV.if (ET.cmp ok_isNot (EB.var 5) (EV.b (EV.non))) (EV.add (EV.b (EV.add (EV.b (EV.sub (EB.var 1) (EB.var 8))) (EB.var 4))) (EV.b (EV.int))) (EV.int)))) (GG.name 10 sc_fills_from.nd) (ESs.one (ES.if (ET.cmp (ok_inA hr) (EV.b (EV.add (EV.b (EV.sub (EB.var 8) (EB.var 4))) (EB.var 10))) (EB.var 6)) (ESs.cons (O1 := [3, 7, 9]) (ES.set (EV.ixA hr (EB.var 6) (EV.b (EV.add (EV.b (EV.sub (EB.var 8) (EB.var 4))) (EB.var 10)))) (GG.tup rfl (GG.cons (GG.name 11 sc_fills_from.nd) (GG.cons (GG.name 12 sc_fills_from.nd) (GG.nil)))))
    (ESs.one (ES.app 9 (EV.tup (EA.cons (EV.add (EV.b (EV.callV 2 o_price_of (hr.mono (by decide)) (EA.cons (EV.var 5) (EA.cons (EV.var 10) (EA.nil))) (EV.callV 2 o_one_stop (hr.mono (by decide)) (EA.cons (EV.var 5) (EA.cons (EV.var 10) (EA.nil))) (EV.callV0)))) (EB.var 11)) (EA.cons (EV.add (EV.b (EV.tup (EA.cons (EV.var 10) (EA.nil)))) (EB.var 12)) (EA.nil))))))) (ESs.nil))))
    (ESs.one (ES.if (ET.cmp (ok_ne hr) (EB.var 9) (EO.b (EO.lst (EA.nil)))) (ESs.one (ES.putKd 7 hr (EV.min1 B.b_min hr (EB.var 9)) (EB.var 8))) (ESs.nil))))))
    (ESs.one (ES.frz (O1 := [3]) [7] (ES.app 3 (EV.var 7)))))))
    (ESs.one (ES.frz (O1 := []) [3] (ES.ret (EV.var 3)))))
/-! cheapest_fill -/
abbrev st_cheapest_fill : Stmt := topS 10
abbrev N_cheapest_fill : List Str := ["way", "tank", "begin"]
theorem sc_cheapest_fill : FnScope N_cheapest_fill ["way", "tank", "begin"] (defScope st_cheapest_fill) := ⟨rfl, rfl, rfl, by decide +kernel, rfl, by decide +kernel, by decide +kernel⟩
def b_cheapest_fill : S :=
    sRet (cOp2 getAD (cOp2 ixAD (cCall f_fills_from [cVar 0, cVar 1, cK (tokF "price_of")]) (cOp1 negD (cK (.int 1)))) (cVar 2))
def f_cheapest_fill : Fn := bodyFn 3 0 b_cheapest_fill
theorem d_cheapest_fill (B : Bi mg) (Dd : Df K mg "cheapest_fill" st_cheapest_fill ["way", "tank", "begin"]) (o_fills_from : Ok K mg true P w base 2 "fills_from" ["way", "tank", "cost"] 3 f_fills_from) (o_price_of : Ok K mg true P w base 1 "price_of" ["price", "more"] 2 f_price_of) : Ok K mg true P w base 3 "cheapest_fill" ["way", "tank", "begin"] 3 f_cheapest_fill :=
  ok_of (O' := []) Dd sc_cheapest_fill fun f cdv A outer s H E hr => ESs.one (ES.ret (EV.get1 hr (EV.b (EV.ixA hr (EV.b (EV.callO o_fills_from (hr.mono (by decide)) (EA.cons (EV.var 0) (EA.cons (EV.var 1) (EA.cons (EV.fn o_price_of) (EA.nil)))))) (EV.b (EV.neg (EV.b (EV.int)))))) (EB.var 2)))
/-! fewest_stops -/
abbrev st_fewest_stops : Stmt := topS 11
abbrev N_fewest_stops : List Str := ["way", "tank", "begin", "told"]
theorem sc_fewest_stops : FnScope N_fewest_stops ["way", "tank", "begin"] (defScope st_fewest_stops) := ⟨rfl, rfl, rfl, by decide +kernel, rfl, by decide +kernel, by decide +kernel⟩
def b_fewest_stops : S :=
    sSeq (sSet (gName 3) (cOp2 getAD (cOp2 ixAD (cCall f_fills_from [cVar 0, cVar 1, cK (tokF "one_stop")]) (cOp1 negD (cK (.int 1)))) (cVar 2)))
    (sRet (cIf (tCmp isNotND (cVar 3) (cK .none)) (cOp2 ixAD (cVar 3) (cK (.int 0))) (cK .none)))
def f_fewest_stops : Fn := bodyFn 3 1 b_fewest_stops
theorem d_fewest_stops (B : Bi mg) (Dd : Df K mg "fewest_stops" st_fewest_stops ["way", "tank", "begin"]) (o_fills_from : Ok K mg true P w base 2 "fills_from" ["way", "tank", "cost"] 3 f_fills_from) (o_one_stop : Ok K mg true P w base 1 "one_stop" ["price", "more"] 2 f_one_stop) : Ok K mg true P w base 3 "fewest_stops" ["way", "tank", "begin"] 3 f_fewest_stops :=
  ok_of (O' := []) Dd sc_fewest_stops fun f cdv A outer s H E hr => ESs.cons (O1 := []) (ES.set (EV.get1 hr (EV.b (EV.ixA hr (EV.b (EV.callO o_fills_from (hr.mono (by decide)) (EA.cons (EV.var 0) (EA.cons (EV.var 1) (EA.cons (EV.fn o_one_stop) (EA.nil)))))) (EV.b (EV.neg (EV.b (EV.int)))))) (EB.var 2)) (GG.name 3 sc_fewest_stops.nd))
    (ESs.one (ES.ret (EV.if (ET.cmp ok_isNot (EB.var 3) (EV.b (EV.non))) (EV.ixA hr (EB.var 3) (EV.b (EV.int))) (EV.non))))
/-! least_tank -/
abbrev st_least_tank : Stmt := topS 12
abbrev N_least_tank : List Str := ["way", "begin", "most", "able", "tank", "long", "_"]
theorem sc_least_tank : FnScope N_least_tank ["way", "begin"] (defScope st_least_tank) := ⟨rfl, rfl, rfl, by decide +kernel, rfl, by decide +kernel, by decide +kernel⟩
def b_least_tank : S :=
    sSeq (sSet (gName 2) (cOp2 addD (cVar 1) (cOp1 sumD (cLc (itSeq (cVar 0)) (gTup [gName 5, gName 6]) (tYes) (cVar 5) [5, 6]))))
    (sSeq (sSet (gName 3) (cLc (itR2 (cVar 1) (cOp2 addD (cVar 2) (cK (.int 1)))) (gName 4) (tVal (cCall f_can_go [cVar 0, cVar 4, cVar 1])) (cVar 4) [4]))
    (sRet (cIf (tCmp neD (cVar 3) (cLst [])) (cOp2 ixAD (cVar 3) (cK (.int 0))) (cK .none))))
def f_least_tank : Fn := bodyFn 2 5 b_least_tank
theorem d_least_tank (B : Bi mg) (Dd : Df K mg "least_tank" st_least_tank ["way", "begin"]) (o_can_go : Ok K mg true P w base 2 "can_go" ["way", "tank", "begin"] 3 f_can_go) : Ok K mg true P w base 3 "least_tank" ["way", "begin"] 2 f_least_tank :=
  ok_of (O' := []) Dd sc_least_tank fun f cdv A outer s H E hr => ESs.cons (O1 := []) (ES.set (EV.add (EB.var 1) (EV.b (EV.sum B.b_sum rfl (EO.b (EO.lc (own := [("long", 5), ("_", 6)]) rfl sc_least_tank.nd (EI.seq (EV.var 0)) (blkOk_by (N := N_least_tank) (sc := defScope st_least_tank) (own := [("long", 5), ("_", 6)]) (by decide +kernel)) (fun _ _ _ _ _ => GG.tup rfl (GG.cons (GG.name 5 sc_least_tank.nd) (GG.cons (GG.name 6 sc_least_tank.nd) (GG.nil)))) (fun _ _ _ _ _ => tests0) (fun _ _ _ _ _ => EV.var 5)))))) (GG.name 2 sc_least_tank.nd))
    (ESs.cons (O1 := [3]) (ES.setLc (own := [("tank", 4)]) 3 rfl sc_least_tank.nd (EI.r2 B.b_range (EB.var 1) (EV.b (EV.add (EB.var 2) (EV.b (EV.int))))) (blkOk_by (N := N_least_tank) (sc := defScope st_least_tank) (own := [("tank", 4)]) (by decide +kernel)) (fun _ _ _ _ _ => GG.name 4 sc_least_tank.nd) (fun _ _ _ _ _ => tests1 (ET.val (EV.b (EV.callO o_can_go (hr.mono (by decide)) (EA.cons (EV.var 0) (EA.cons (EV.var 4) (EA.cons (EV.var 1) (EA.nil)))))))) (fun _ _ _ _ _ => EV.var 4) (sw_true rfl rfl rfl (by decide +kernel)))
    (ESs.one (ES.ret (EV.if (ET.cmp (ok_ne hr) (EB.var 3) (EO.b (EO.lst (EA.nil)))) (EV.ixA hr (EB.var 3) (EV.b (EV.int))) (EV.non)))))
/-! least_begin -/
abbrev st_least_begin : Stmt := topS 13
abbrev N_least_begin : List Str := ["way", "tank", "able", "begin"]
theorem sc_least_begin : FnScope N_least_begin ["way", "tank"] (defScope st_least_begin) := ⟨rfl, rfl, rfl, by decide +kernel, rfl, by decide +kernel, by decide +kernel⟩
def b_least_begin : S :=
    sSeq (sSet (gName 2) (cLc (itR1 (cOp2 addD (cVar 1) (cK (.int 1)))) (gName 3) (tVal (cCall f_can_go [cVar 0, cVar 1, cVar 3])) (cVar 3) [3]))
    (sRet (cIf (tCmp neD (cVar 2) (cLst [])) (cOp2 ixAD (cVar 2) (cK (.int 0))) (cK .none)))
def f_least_begin : Fn := bodyFn 2 2 b_least_begin
theorem d_least_begin (B : Bi mg) (Dd : Df K mg "least_begin" st_least_begin ["way", "tank"]) (o_can_go : Ok K mg true P w base 2 "can_go" ["way", "tank", "begin"] 3 f_can_go) : Ok K mg true P w base 3 "least_begin" ["way", "tank"] 2 f_least_begin :=
  ok_of (O' := []) Dd sc_least_begin fun f cdv A outer s H E hr => ESs.cons (O1 := [2]) (ES.setLc (own := [("begin", 3)]) 2 rfl sc_least_begin.nd (EI.r1 B.b_range (EV.b (EV.add (EB.var 1) (EV.b (EV.int))))) (blkOk_by (N := N_least_begin) (sc := defScope st_least_begin) (own := [("begin", 3)]) (by decide +kernel)) (fun _ _ _ _ _ => GG.name 3 sc_least_begin.nd) (fun _ _ _ _ _ => tests1 (ET.val (EV.b (EV.callO o_can_go (hr.mono (by decide)) (EA.cons (EV.var 0) (EA.cons (EV.var 1) (EA.cons (EV.var 3) (EA.nil)))))))) (fun _ _ _ _ _ => EV.var 3) (sw_true rfl rfl rfl (by decide +kernel)))
    (ESs.one (ES.ret (EV.if (ET.cmp (ok_ne hr) (EB.var 2) (EO.b (EO.lst (EA.nil)))) (EV.ixA hr (EB.var 2) (EV.b (EV.int))) (EV.non))))
/-! _law_alike -/
abbrev st__law_alike : Stmt := topS 18
abbrev N__law_alike : List Str := ["seen", "due", "kind", "key", "k"]
theorem sc__law_alike : FnScope N__law_alike ["seen", "due"] (defScope st__law_alike) := ⟨rfl, rfl, rfl, by decide +kernel, rfl, by decide +kernel, by decide +kernel⟩
def b_law_alike (self : Fn) : S :=
    sSeq (sIf (tVal (cOp1 (isaD .dict) (cVar 1))) (sDead) (sPass))
    (sSeq (sIf (tOr (tVal (cOp1 (isaD .tuple) (cVar 1))) (tVal (cOp1 (isaD .list) (cVar 1)))) (sSeq (sSet (gName 2) (cIf (tVal (cOp1 (isaD .tuple) (cVar 1))) (cOp1 (isaD .tuple) (cVar 0)) (cOp1 (isaD .list) (cVar 0))))
    (sRet (cAnd (cVar 2) (cAnd (cT (tCmp eqD (cOp1 lenD (cVar 0)) (cOp1 lenD (cVar 1)))) (cT (tCmp eqD (cLc (itR1 (cOp1 lenD (cVar 1))) (gName 4) (tNot (tVal (cCall self [cOp2 ixD (cVar 0) (cVar 4), cOp2 ixD (cVar 1) (cVar 4)]))) (cVar 4) [4]) (cLst []))))))) (sPass))
    (sSeq (sIf (tOr (tCmp isND (cVar 1) (cK .none)) (tVal (cOp1 (isaD .str) (cVar 1)))) (sRet (cIf (tCmp isND (cVar 1) (cK .none)) (cT (tCmp isND (cVar 0) (cK .none))) (cAnd (cOp1 (isaD .str) (cVar 0)) (cT (tCmp eqD (cVar 0) (cVar 1)))))) (sPass))
    (sRet (cAnd (cOp1 (isaD .int) (cVar 0)) (cAnd (cT (tCmp eqD (cOp1 (isaD .bool) (cVar 0)) (cOp1 (isaD .bool) (cVar 1)))) (cT (tCmp eqD (cVar 0) (cVar 1))))))))
def f_law_alike : Nat → Fn
  | 0 => bodyFn 2 3 sDead
  | n + 1 => bodyFn 2 3 (b_law_alike (f_law_alike n))
theorem d__law_alike (B : Bi mg) (Dd : Df K mg "_law_alike" st__law_alike ["seen", "due"])  : ∀ n : Nat, Ok K mg true P w base (0 + n + 1) "_law_alike" ["seen", "due"] 2 (f_law_alike n)
  | 0 => ok_of (O' := []) Dd sc__law_alike fun f cdv A outer s H E hr => ESs.dead
  | n + 1 => have ih := d__law_alike B Dd  n
    ok_of (O' := []) Dd sc__law_alike fun f cdv A outer s H E hr => ESs.cons (O1 := []) (ES.if (ET.val (EV.b (EV.isa .dict B.b_isinstance B.b_dict (by decide +kernel) (EB.var 1)))) (ESs.dead) (ESs.nil))
    (ESs.cons (O1 := []) (ES.if ((orW (ET.val (EV.b (EV.isa .tuple B.b_isinstance B.b_tuple (by decide +kernel) (EB.var 1)))) (ET.or1 (ET.val (EV.b (EV.isa .list B.b_isinstance B.b_list (by decide +kernel) (EB.var 1)))))).pt) (ESs.cons (O1 := []) (ES.set (EV.if (ET.val (EV.b (EV.isa .tuple B.b_isinstance B.b_tuple (by decide +kernel) (EB.var 1)))) (EV.isa .tuple B.b_isinstance B.b_tuple (by decide +kernel) (EB.var 0)) (EV.isa .list B.b_isinstance B.b_list (by decide +kernel) (EB.var 0))) (GG.name 2 sc__law_alike.nd))
    (ESs.one (ES.ret (EV.and (EB.var 2) (EV.and (EV.b (EV.cmp (ok_eq hr) (EV.b (EV.len B.len (EB.var 0))) (EV.b (EV.len B.len (EB.var 1))))) (EV.one (EV.cmp (ok_eq hr) (EO.b (EO.lc (own := [("k", 4)]) rfl sc__law_alike.nd (EI.r1 B.b_range (EV.b (EV.len B.len (EB.var 1)))) (blkOk_by (N := N__law_alike) (sc := defScope st__law_alike) (own := [("k", 4)]) (by decide +kernel)) (fun _ _ _ _ _ => GG.name 4 sc__law_alike.nd) (fun _ _ _ _ _ => tests1 (ET.not (ET.val (EV.b (EV.callO ih (hr.mono (by omega)) (EA.cons (EV.ix (EB.var 0) (EB.var 4)) (EA.cons (EV.ix (EB.var 1) (EB.var 4)) (EA.nil)))))))) (fun _ _ _ _ _ => EV.var 4))) (EO.b (EO.lst (EA.nil)))))))))) (ESs.nil))
    (ESs.cons (O1 := []) (ES.if ((orW (ET.cmp ok_is (EB.var 1) (EV.b (EV.non))) (ET.or1 (ET.val (EV.b (EV.isa .str B.b_isinstance B.b_str (by decide +kernel) (EB.var 1)))))).pt) (ESs.one (ES.ret (EV.if (ET.cmp ok_is (EB.var 1) (EV.b (EV.non))) (EV.cmp ok_is (EB.var 0) (EV.b (EV.non))) (EV.and (EV.b (EV.isa .str B.b_isinstance B.b_str (by decide +kernel) (EB.var 0))) (EV.one (EV.cmp (ok_eq hr) (EB.var 0) (EB.var 1))))))) (ESs.nil))
    (ESs.one (ES.ret (EV.and (EV.b (EV.isa .int B.b_isinstance B.b_int (by decide +kernel) (EB.var 0))) (EV.and (EV.b (EV.cmp (ok_eq hr) (EV.b (EV.isa .bool B.b_isinstance B.b_bool (by decide +kernel) (EB.var 0))) (EV.b (EV.isa .bool B.b_isinstance B.b_bool (by decide +kernel) (EB.var 1))))) (EV.one (EV.cmp (ok_eq hr) (EB.var 0) (EB.var 1)))))))))
/-! _law_pick -/
abbrev st__law_pick : Stmt := topS 17
abbrev N__law_pick : List Str := ["w", "rows"]
theorem sc__law_pick : FnScope N__law_pick ["w", "rows"] (defScope st__law_pick) := ⟨rfl, rfl, rfl, by decide +kernel, rfl, by decide +kernel, by decide +kernel⟩
def b_law_pick : S :=
    sRet (cOp2 ixAD (cVar 1) (cCall fnNext [cVar 0, cOp1 lenD (cVar 1)]))
def f_law_pick : Fn := bodyFn 2 0 b_law_pick
theorem d__law_pick (B : Bi mg) (Dd : Df K mg "_law_pick" st__law_pick ["w", "rows"]) (o__law_next : Ok K mg true P w base 1 "_law_next" ["w", "many"] 2 fnNext) : Ok K mg true P w base 2 "_law_pick" ["w", "rows"] 2 f_law_pick :=
  ok_of (O' := []) Dd sc__law_pick fun f cdv A outer s H E hr => ESs.one (ES.ret (EV.ixA hr (EB.var 1) (EV.b (EV.callO o__law_next (hr.mono (by decide)) (EA.cons (EV.var 0) (EA.cons (EV.len B.len (EB.var 1)) (EA.nil)))))))
/-! is_number -/
abbrev st_is_number : Stmt := topS 1
abbrev N_is_number : List Str := ["thing"]
theorem sc_is_number : FnScope N_is_number ["thing"] (defScope st_is_number) := ⟨rfl, rfl, rfl, by decide +kernel, rfl, by decide +kernel, by decide +kernel⟩
def b_is_number : S :=
    sRet (cAnd (cOp1 (isaD .int) (cVar 0)) (cNot (cOp1 (isaD .bool) (cVar 0))))
def f_is_number : Fn := bodyFn 1 0 b_is_number
theorem d_is_number (B : Bi mg) (Dd : Df K mg "is_number" st_is_number ["thing"])  : Ok K mg true P w base 1 "is_number" ["thing"] 1 f_is_number :=
  ok_of (O' := []) Dd sc_is_number fun f cdv A outer s H E hr => ESs.one (ES.ret (EV.and (EV.b (EV.isa .int B.b_isinstance B.b_int (by decide +kernel) (EB.var 0))) (EV.one (EV.not (EV.b (EV.isa .bool B.b_isinstance B.b_bool (by decide +kernel) (EB.var 0)))))))
/-! is_fill -/
abbrev st_is_fill : Stmt := topS 6
abbrev N_is_fill : List Str := ["way", "tank", "begin", "row", "now", "long", "price", "more"]
theorem sc_is_fill : FnScope N_is_fill ["way", "tank", "begin", "row"] (defScope st_is_fill) := ⟨rfl, rfl, rfl, by decide +kernel, rfl, by decide +kernel, by decide +kernel⟩
def b_is_fill_0 : S :=
    sSeq (sIf (tOr (tCmp gtD (cVar 5) (cVar 4)) (tAnd (tCmp gtD (cVar 7) (cK (.int 0))) (tCmp isND (cVar 6) (cK .none)))) (sRet (cK (.bool false))) (sPass))
    (sSeq (sAugN 4 addI (cOp2 subD (cVar 7) (cVar 5)))
    (sIf (tCmp gtD (cVar 4) (cVar 1)) (sRet (cK (.bool false))) (sPass)))
def b_is_fill : S :=
    sSeq (sIf (tOr (tNot (tVal (cOp1 (isaD .tuple) (cVar 3)))) (tOr (tCmp neD (cOp1 lenD (cVar 3)) (cOp1 lenD (cVar 0))) (tNot (tVal (cOp1 allD (cLc (itSeq (cVar 3)) (gName 7) (tYes) (cAnd (cCall f_is_number [cVar 7]) (cT (tCmp geD (cVar 7) (cK (.int 0))))) [7])))))) (sRet (cK (.bool false))) (sPass))
    (sSeq (sSet (gName 4) (cVar 2))
    (sSeq (sFor (itZip (cVar 0) (cVar 3)) (gTup [gTup [gName 5, gName 6], gName 7]) (b_is_fill_0) [5, 6, 7])
    (sRet (cK (.bool true)))))
def f_is_fill : Fn := bodyFn 4 4 b_is_fill
theorem d_is_fill (B : Bi mg) (Dd : Df K mg "is_fill" st_is_fill ["way", "tank", "begin", "row"]) (o_is_number : Ok K mg true P w base 1 "is_number" ["thing"] 1 f_is_number) : Ok K mg true P w base 2 "is_fill" ["way", "tank", "begin", "row"] 4 f_is_fill :=
  ok_of (O' := []) Dd sc_is_fill fun f cdv A outer s H E hr => ESs.cons (O1 := []) (ES.if ((orW (ET.not (ET.val (EV.b (EV.isa .tuple B.b_isinstance B.b_tuple (by decide +kernel) (EB.var 3))))) (orW (ET.cmp (ok_ne hr) (EV.b (EV.len B.len (EB.var 3))) (EV.b (EV.len B.len (EB.var 0)))) (ET.or1 (ET.not (ET.val (EV.b (EV.all B.b_all rfl (EO.b (EO.lc (own := [("more", 7)]) rfl sc_is_fill.nd (EI.seq (EV.var 3)) (blkOk_by (N := N_is_fill) (sc := defScope st_is_fill) (own := [("more", 7)]) (by decide +kernel)) (fun _ _ _ _ _ => GG.name 7 sc_is_fill.nd) (fun _ _ _ _ _ => tests0) (fun _ _ _ _ _ => EV.and (EV.b (EV.callO o_is_number (hr.mono (by decide)) (EA.cons (EV.var 7) (EA.nil)))) (EV.one (EV.cmp (ok_ge hr) (EB.var 7) (EV.b (EV.int)))))))))))))).pt) (ESs.one (ES.ret (EV.bl))) (ESs.nil))
    (ESs.cons (O1 := []) (ES.set (EV.var 2) (GG.name 4 sc_is_fill.nd))
    (ESs.cons (O1 := []) (ES.for (Oh := []) (Ob := []) (O' := []) [5, 6, 7] PassesOwn.never rfl (EI.zip B.b_zip (EV.var 0) (EV.var 3)) (GG.tup rfl (GG.cons (GG.tup rfl (GG.cons (GG.name 5 sc_is_fill.nd) (GG.cons (GG.name 6 sc_is_fill.nd) (GG.nil)))) (GG.cons (GG.name 7 sc_is_fill.nd) (GG.nil)))) (ESs.cons (O1 := []) (ES.if ((orW (ET.cmp (ok_gt hr) (EB.var 5) (EB.var 4)) (ET.or1 ((andW (ET.cmp (ok_gt hr) (EB.var 7) (EV.b (EV.int))) (ET.and1 (ET.cmp ok_is (EB.var 6) (EV.b (EV.non))))).pt))).pt) (ESs.one (ES.ret (EV.bl))) (ESs.nil))
    (ESs.cons (O1 := []) (ES.augAdd 4 sc_is_fill.nd (EV.b (EV.sub (EB.var 7) (EB.var 5))))
    (ESs.one (ES.if (ET.cmp (ok_gt hr) (EB.var 4) (EB.var 1)) (ESs.one (ES.ret (EV.bl))) (ESs.nil))))))
    (ESs.one (ES.ret (EV.bl)))))
/-! left_after -/
abbrev st_left_after : Stmt := topS 5
abbrev N_left_after : List Str := ["way", "begin", "row", "found", "now", "long", "_", "more"]
theorem sc_left_after : FnScope N_left_after ["way", "begin", "row"] (defScope st_left_after) := ⟨rfl, rfl, rfl, by decide +kernel, rfl, by decide +kernel, by decide +kernel⟩
def b_left_after_0 : S :=
    sSeq (sAugN 4 addI (cOp2 subD (cVar 7) (cVar 5)))
    (sApp 3 (cVar 4))
def b_left_after : S :=
    sSeq (sPar [gName 3, gName 4] [cLst [], cVar 1])
    (sSeq (sFor (itZip (cVar 0) (cVar 2)) (gTup [gTup [gName 5, gName 6], gName 7]) (b_left_after_0) [5, 6, 7])
    (sRet (cOp1 tupD (cVar 3))))
def f_left_after : Fn := bodyFn 3 5 b_left_after
theorem d_left_after (B : Bi mg) (Dd : Df K mg "left_after" st_left_after ["way", "begin", "row"])  : Ok K mg true P w base 1 "left_after" ["way", "begin", "row"] 3 f_left_after :=
  ok_of (O' := []) Dd sc_left_after fun f cdv A outer s H E hr => ESs.cons (O1 := [3]) (ES.par2 (ks := [true, false]) 3 4 rfl sc_left_after.nd (EM.consO (EO.lst (EA.nil)) (EM.consV (EV.var 1) (EM.nil))))
    (ESs.cons (O1 := [3]) (ES.for (Oh := [3]) (Ob := [3]) (O' := [3]) [5, 6, 7] PassesOwn.never rfl (EI.zip B.b_zip (EV.var 0) (EV.var 2)) (GG.tup rfl (GG.cons (GG.tup rfl (GG.cons (GG.name 5 sc_left_after.nd) (GG.cons (GG.name 6 sc_left_after.nd) (GG.nil)))) (GG.cons (GG.name 7 sc_left_after.nd) (GG.nil)))) (ESs.cons (O1 := [3]) (ES.augAdd 4 sc_left_after.nd (EV.b (EV.sub (EB.var 7) (EB.var 5))))
    (ESs.one (ES.app 3 (EV.var 4)))))
    (ESs.one (ES.ret (EV.tuple B.b_tuple (EB.var 3)))))
/-! _law_left -/
abbrev st__law_left : Stmt := topS 20
abbrev N__law_left : List Str := ["way", "begin", "row", "found", "now", "k"]
theorem sc__law_left : FnScope N__law_left ["way", "begin", "row"] (defScope st__law_left) := ⟨rfl, rfl, rfl, by decide +kernel, rfl, by decide +kernel, by decide +kernel⟩
def b_law_left_0 : S :=
    sSeq (sSet (gName 4) (cOp2 addD (cOp2 subD (cVar 4) (cOp2 ixAD (cOp2 ixAD (cVar 0) (cVar 5)) (cK (.int 0)))) (cOp2 ixAD (cVar 2) (cVar 5))))
    (sApp 3 (cVar 4))
def b_law_left : S :=
    sSeq (sPar [gName 3, gName 4] [cLst [], cVar 1])
    (sSeq (sFor (itR1 (cOp1 lenD (cVar 0))) (gName 5) (b_law_left_0) [5])
    (sRet (cOp1 tupD (cVar 3))))
def f_law_left : Fn := bodyFn 3 3 b_law_left
theorem d__law_left (B : Bi mg) (Dd : Df K mg "_law_left" st__law_left ["way", "begin", "row"])  : Ok K mg true P w base 1 "_law_left" ["way", "begin", "row"] 3 f_law_left :=
  ok_of (O' := []) Dd sc__law_left fun f cdv A outer s H E hr => ESs.cons (O1 := [3]) (ES.par2 (ks := [true, false]) 3 4 rfl sc__law_left.nd (EM.consO (EO.lst (EA.nil)) (EM.consV (EV.var 1) (EM.nil))))
    (ESs.cons (O1 := [3]) (ES.for (Oh := [3]) (Ob := [3]) (O' := [3]) [5] PassesOwn.never rfl (EI.r1 B.b_range (EV.b (EV.len B.len (EB.var 0)))) (GG.name 5 sc__law_left.nd) (ESs.cons (O1 := [3]) (ES.set (EV.add (EV.b (EV.sub (EB.var 4) (EV.b (EV.ixA hr (EV.b (EV.ixA hr (EB.var 0) (EB.var 5))) (EV.b (EV.int)))))) (EV.b (EV.ixA hr (EB.var 2) (EB.var 5)))) (GG.name 4 sc__law_left.nd))
    (ESs.one (ES.app 3 (EV.var 4)))))
    (ESs.one (ES.ret (EV.tuple B.b_tuple (EB.var 3)))))
/-! law -/
abbrev st_law : Stmt := topS 22
abbrev N_law : List Str := ["script", "w", "turn", "way", "tank", "begin", "rows", "prices", "stops", "told", "stuck", "due", "whole", "tanks", "begins", "row", "some", "own", "things", "k", "piece", "thing", "more", "long", "price"]
theorem sc_law : FnScope N_law ["script"] (defScope st_law) := ⟨rfl, rfl, rfl, by decide +kernel, rfl, by decide +kernel, by decide +kernel⟩
def b_law_0 : S :=
    sIf (tNot (tVal (cCall (f_law_alike 12) [cTup [cCall f_is_fill [cVar 3, cVar 4, cVar 5, cVar 17], cCall f_left_after [cVar 3, cVar 5, cVar 17]], cTup [cT (tCmp inAD (cVar 17) (cVar 6)), cCall f_law_left [cVar 3, cVar 5, cVar 17]]]))) (sRet (cK (.bool false))) (sPass)
def b_law_1 : S :=
    sSeq (sSet (gName 3) (cOp1 tupD (cLc (itR1 (cOp2 addD (cK (.int 1)) (cCall fnNext [cVar 1, cK (.int 4)]))) (gName 19) (tYes) (cTup [cOp2 addD (cK (.int 1)) (cCall fnNext [cVar 1, cK (.int 5)]), cCall f_law_pick [cVar 1, cLst [cK .none, cK (.int 0), cK (.int 1), cK (.int 2), cK (.int 3), cK (.int 5)]]]) [19])))
    (sSeq (sSet (gName 4) (cOp2 addD (cK (.int 1)) (cCall fnNext [cVar 1, cK (.int 7)])))
    (sSeq (sSet (gName 5) (cCall fnNext [cVar 1, cOp2 addD (cVar 4) (cK (.int 1))]))
    (sSeq (sSet (gName 6) (cCall f_law_fills [cVar 3, cVar 4, cVar 5]))
    (sSeq (sSet (gName 7) (cLc (itSeq (cVar 6)) (gName 15) (tYes) (cTup [cOp1 sumD (cLc (itR1 (cOp1 lenD (cVar 15))) (gName 19) (tCmp gtD (cOp2 ixAD (cVar 15) (cVar 19)) (cK (.int 0))) (cOp2 mulI (cOp2 ixAD (cVar 15) (cVar 19)) (cOp2 ixAD (cOp2 ixAD (cVar 3) (cVar 19)) (cK (.int 1)))) [19]), cVar 15]) [15]))
    (sSeq (sSet (gName 8) (cLc (itSeq (cVar 6)) (gName 15) (tYes) (cOp1 lenD (cLc (itSeq (cVar 15)) (gName 22) (tCmp gtD (cVar 22) (cK (.int 0))) (cVar 22) [22])) [15]))
    (sSeq (sSet (gName 9) (cTup [cCall f_stuck_at [cVar 3, cVar 4, cVar 5], cCall f_can_go [cVar 3, cVar 4, cVar 5], cCall f_cheapest_fill [cVar 3, cVar 4, cVar 5], cCall f_fewest_stops [cVar 3, cVar 4, cVar 5]]))
    (sSeq (sSet (gName 10) (cCall f_law_stuck [cVar 3, cVar 4, cVar 5]))
    (sSeq (sSet (gName 11) (cTup [cVar 10, cT (tCmp isND (cVar 10) (cK .none)), cIf (tCmp neD (cVar 7) (cLst [])) (cOp1 minD1 (cVar 7)) (cK .none), cIf (tCmp neD (cVar 8) (cLst [])) (cOp1 minD1 (cVar 8)) (cK .none)]))
    (sSeq (sIf (tOr (tNot (tVal (cCall (f_law_alike 12) [cVar 9, cVar 11]))) (tCmp neD (cT (tCmp isND (cVar 10) (cK .none))) (cT (tCmp neD (cVar 6) (cLst []))))) (sRet (cK (.bool false))) (sPass))
    (sSeq (sSet (gName 12) (cOp2 addD (cVar 5) (cOp1 sumD (cLc (itSeq (cVar 3)) (gTup [gName 23, gName 24]) (tYes) (cVar 23) [23, 24]))))
    (sSeq (sSet (gName 13) (cLc (itR2 (cVar 5) (cOp2 addD (cVar 12) (cK (.int 1)))) (gName 17) (tCmp isND (cCall f_law_stuck [cVar 3, cVar 17, cVar 5]) (cK .none)) (cVar 17) [17]))
    (sSeq (sSet (gName 14) (cLc (itR1 (cOp2 addD (cVar 4) (cK (.int 1)))) (gName 17) (tCmp isND (cCall f_law_stuck [cVar 3, cVar 4, cVar 17]) (cK .none)) (cVar 17) [17]))
    (sSeq (sSet (gName 9) (cTup [cCall f_least_tank [cVar 3, cVar 5], cCall f_least_begin [cVar 3, cVar 4]]))
    (sSeq (sIf (tNot (tVal (cCall (f_law_alike 12) [cVar 9, cTup [cIf (tCmp neD (cVar 13) (cLst [])) (cOp2 ixAD (cVar 13) (cK (.int 0))) (cK .none), cIf (tCmp neD (cVar 14) (cLst [])) (cOp2 ixAD (cVar 14) (cK (.int 0))) (cK .none)]]))) (sRet (cK (.bool false))) (sPass))
    (sSeq (sSet (gName 15) (cOp1 tupD (cLc (itSeq (cVar 3)) (gName 20) (tYes) (cIf (tCmp gtD (cCall fnNext [cVar 1, cK (.int 3)]) (cK (.int 0))) (cCall fnNext [cVar 1, cK (.int 4)]) (cK (.int 0))) [20])))
    (sSeq (sSet (gName 16) (cIf (tCmp neD (cVar 6) (cLst [])) (cCall f_law_pick [cVar 1, cVar 6]) (cVar 15)))
    (sSeq (sFor (itSeq (cTup [cVar 15, cVar 16, cOp2 addD (cCut (cVar 16) none (some (cOp1 negD (cK (.int 1))))) (cTup [cOp2 addD (cOp2 ixAD (cVar 16) (cOp1 negD (cK (.int 1)))) (cK (.int 1))])])) (gName 17) (b_law_0) [17])
    (sSeq (sSet (gName 18) (cLst [cOp1 lst1D (cVar 16), cOp2 addD (cVar 16) (cTup [cK (.int 0)]), cCut (cVar 16) (some (cK (.int 1))) none, cOp2 addD (cTup [cOp1 negD (cK (.int 1))]) (cCut (cVar 16) (some (cK (.int 1))) none), cOp2 addD (cTup [cK (.bool true)]) (cCut (cVar 16) (some (cK (.int 1))) none), cOp2 addD (cTup [cK (.str "1")]) (cCut (cVar 16) (some (cK (.int 1))) none), cK .none]))
    (sIf (tCmp neD (cLc (itSeq (cVar 18)) (gName 21) (tNot (tVal (cCall (f_law_alike 12) [cCall f_is_fill [cVar 3, cVar 4, cVar 5, cVar 21], cK (.bool false)]))) (cVar 21) [21]) (cLst [])) (sRet (cK (.bool false))) (sPass))))))))))))))))))))
def e_law : E := cCall f_law_draws [cVar 0, cK (.int 700)]
def b_law : S :=
    sSeq (sFor (itR1 (cK (.int 9))) (gName 2) (b_law_1) [2, 3, 4, 5, 6, 7, 8, 9, 10, 11, 12, 13, 14, 15, 16, 17, 18])
    (sRet (cK (.bool true)))
set_option maxHeartbeats 0 in
theorem d_law (B : Bi mg) {f : Addr} {fd : FuncData} (Fd : Fun K "law" "law" st_law f fd) (o__law_draws : Ok K mg true P w base 1 "_law_draws" ["script", "many"] 2 f_law_draws) (o__law_next : Ok K mg true P w base 1 "_law_next" ["w", "many"] 2 fnNext) (o__law_pick : Ok K mg true P w base 2 "_law_pick" ["w", "rows"] 2 f_law_pick) (o__law_fills : Ok K mg true P w base 1 "_law_fills" ["way", "tank", "begin"] 3 f_law_fills) (o_stuck_at : Ok K mg true P w base 1 "stuck_at" ["way", "tank", "begin"] 3 f_stuck_at) (o_can_go : Ok K mg true P w base 2 "can_go" ["way", "tank", "begin"] 3 f_can_go) (o_cheapest_fill : Ok K mg true P w base 3 "cheapest_fill" ["way", "tank", "begin"] 3 f_cheapest_fill) (o_fewest_stops : Ok K mg true P w base 3 "fewest_stops" ["way", "tank", "begin"] 3 f_fewest_stops) (o__law_stuck : Ok K mg true P w base 1 "_law_stuck" ["way", "tank", "begin"] 3 f_law_stuck) (o__law_alike : Ok K mg true P w base 13 "_law_alike" ["seen", "due"] 2 (f_law_alike 12)) (o_least_tank : Ok K mg true P w base 3 "least_tank" ["way", "begin"] 2 f_least_tank) (o_least_begin : Ok K mg true P w base 3 "least_begin" ["way", "tank"] 2 f_least_begin) (o_is_fill : Ok K mg true P w base 2 "is_fill" ["way", "tank", "begin", "row"] 4 f_is_fill) (o_left_after : Ok K mg true P w base 1 "left_after" ["way", "begin", "row"] 3 f_left_after) (o__law_left : Ok K mg true P w base 1 "_law_left" ["way", "begin", "row"] 3 f_law_left)
    (math : ∀ ns : List Int, ns.length ≤ 63 → ∃ l w', e_law (some (tokS ns) :: List.replicate 24 none) none = some (.list (l.map .int), none) ∧ b_law ((some (tokS ns) :: List.replicate 24 none).set 1 (some tokW)) (some l) = some (.rt (.bool true), w')) :
    FnOk P w K mg base CX0 14 f fd ["script"] (spLaw K 63) :=
  law_ok (O' := []) Fd sc_law rfl rfl (by first | exact Or.inl rfl | exact Or.inr rfl) (fun cdv A outer s H E hr => EV.callO o__law_draws (hr.mono (by decide)) (EA.cons (EV.var 0) (EA.cons (EV.int) (EA.nil)))) (fun cdv A outer s H E hr => ESs.cons (O1 := []) (ES.for (Oh := []) (Ob := [7, 8, 13, 14]) (O' := []) [2, 3, 4, 5, 6, 7, 8, 9, 10, 11, 12, 13, 14, 15, 16, 17, 18] PassesOwn.never rfl (EI.r1 B.b_range (EV.b (EV.int))) (GG.name 2 sc_law.nd) (ESs.cons (O1 := []) (ES.set (EV.tuple B.b_tuple (EO.b (EO.lc (own := [("k", 19)]) rfl sc_law.nd (EI.r1 B.b_range (EV.b (EV.add (EV.b (EV.int)) (EV.b (EV.callO o__law_next (hr.mono (by decide)) (EA.cons (EV.var 1) (EA.cons (EV.int) (EA.nil)))))))) (blkOk_by (N := N_law) (sc := defScope st_law) (own := [("k", 19)]) (by decide +kernel)) (fun _ _ _ _ _ => GG.name 19 sc_law.nd) (fun _ _ _ _ _ => tests0) (fun _ _ _ _ _ => EV.tup (EA.cons (EV.add (EV.b (EV.int)) (EV.b (EV.callO o__law_next (hr.mono (by decide)) (EA.cons (EV.var 1) (EA.cons (EV.int) (EA.nil)))))) (EA.cons (EV.callO o__law_pick (hr.mono (by decide)) (EA.cons (EV.var 1) (EA.cons (EO.v (EO.lst (EA.cons (EV.non) (EA.cons (EV.int) (EA.cons (EV.int) (EA.cons (EV.int) (EA.cons (EV.int) (EA.cons (EV.int) (EA.nil))))))))) (EA.nil)))) (EA.nil))))))) (GG.name 3 sc_law.nd))
    (ESs.cons (O1 := []) (ES.set (EV.add (EV.b (EV.int)) (EV.b (EV.callO o__law_next (hr.mono (by decide)) (EA.cons (EV.var 1) (EA.cons (EV.int) (EA.nil)))))) (GG.name 4 sc_law.nd))
    (ESs.cons (O1 := []) (ES.set (EV.callO o__law_next (hr.mono (by decide)) (EA.cons (EV.var 1) (EA.cons (EV.add (EB.var 4) (EV.b (EV.int))) (EA.nil)))) (GG.name 5 sc_law.nd))
    (ESs.cons (O1 := []) (ES.set (EV.callO o__law_fills (hr.mono (by decide)) (EA.cons (EV.var 3) (EA.cons (EV.var 4) (EA.cons (EV.var 5) (EA.nil))))) (GG.name 6 sc_law.nd))
    (ESs.cons (O1 := [7]) (ES.setLc (own := [("row", 15)]) 7 rfl sc_law.nd (EI.seq (EV.var 6)) (blkOk_by (N := N_law) (sc := defScope st_law) (own := [("row", 15)]) (by decide +kernel)) (fun _ _ _ _ _ => GG.name 15 sc_law.nd) (fun _ _ _ _ _ => tests0) (fun _ _ _ _ _ => EV.tup (EA.cons (EV.sum B.b_sum rfl (EO.b (EO.lc (own := [("k", 19)]) rfl sc_law.nd (EI.r1 B.b_range (EV.b (EV.len B.len (EB.var 15)))) (blkOk_by (own := [("k", 19)]) (by first | rfl | decide +kernel)) (fun _ _ _ _ _ => GG.name 19 sc_law.nd) (fun _ _ _ _ _ => tests1 (ET.cmp (ok_gt hr) (EV.b (EV.ixA hr (EB.var 15) (EB.var 19))) (EV.b (EV.int)))) (fun _ _ _ _ _ => EV.mul (EV.b (EV.ixA hr (EB.var 15) (EB.var 19))) (EV.b (EV.ixA hr (EV.b (EV.ixA hr (EB.var 3) (EB.var 19))) (EV.b (EV.int)))))))) (EA.cons (EV.var 15) (EA.nil)))) (sw_true rfl rfl rfl (by decide +kernel)))
    (ESs.cons (O1 := [7, 8]) (ES.setLc (own := [("row", 15)]) 8 rfl sc_law.nd (EI.seq (EV.var 6)) (blkOk_by (N := N_law) (sc := defScope st_law) (own := [("row", 15)]) (by decide +kernel)) (fun _ _ _ _ _ => GG.name 15 sc_law.nd) (fun _ _ _ _ _ => tests0) (fun _ _ _ _ _ => EV.len B.len (EO.b (EO.lc (own := [("more", 22)]) rfl sc_law.nd (EI.seq (EV.var 15)) (blkOk_by (own := [("more", 22)]) (by first | rfl | decide +kernel)) (fun _ _ _ _ _ => GG.name 22 sc_law.nd) (fun _ _ _ _ _ => tests1 (ET.cmp (ok_gt hr) (EB.var 22) (EV.b (EV.int)))) (fun _ _ _ _ _ => EV.var 22)))) (sw_true rfl rfl rfl (by decide +kernel)))
    (ESs.cons (O1 := [7, 8]) (ES.set (EV.tup (EA.cons (EV.callO o_stuck_at (hr.mono (by decide)) (EA.cons (EV.var 3) (EA.cons (EV.var 4) (EA.cons (EV.var 5) (EA.nil))))) (EA.cons (EV.callO o_can_go (hr.mono (by decide)) (EA.cons (EV.var 3) (EA.cons (EV.var 4) (EA.cons (EV.var 5) (EA.nil))))) (EA.cons (EV.callO o_cheapest_fill (hr.mono (by decide)) (EA.cons (EV.var 3) (EA.cons (EV.var 4) (EA.cons (EV.var 5) (EA.nil))))) (EA.cons (EV.callO o_fewest_stops (hr.mono (by decide)) (EA.cons (EV.var 3) (EA.cons (EV.var 4) (EA.cons (EV.var 5) (EA.nil))))) (EA.nil)))))) (GG.name 9 sc_law.nd))
    (ESs.cons (O1 := [7, 8]) (ES.set (EV.callO o__law_stuck (hr.mono (by decide)) (EA.cons (EV.var 3) (EA.cons (EV.var 4) (EA.cons (EV.var 5) (EA.nil))))) (GG.name 10 sc_law.nd))
    (ESs.cons (O1 := [7, 8]) (ES.set (EV.tup (EA.cons (EV.var 10) (EA.cons (EV.cmp ok_is (EB.var 10) (EV.b (EV.non))) (EA.cons (EV.if (ET.cmp (ok_ne hr) (EB.var 7) (EO.b (EO.lst (EA.nil)))) (EV.min1 B.b_min hr (EB.var 7)) (EV.non)) (EA.cons (EV.if (ET.cmp (ok_ne hr) (EB.var 8) (EO.b (EO.lst (EA.nil)))) (EV.min1 B.b_min hr (EB.var 8)) (EV.non)) (EA.nil)))))) (GG.name 11 sc_law.nd))
    (ESs.cons (O1 := [7, 8]) (ES.if ((orW (ET.not (ET.val (EV.b (EV.callO o__law_alike (hr.mono (by decide)) (EA.cons (EV.var 9) (EA.cons (EV.var 11) (EA.nil))))))) (ET.or1 (ET.cmp (ok_ne hr) (EV.b (EV.cmp ok_is (EB.var 10) (EV.b (EV.non)))) (EV.b (EV.cmp (ok_ne hr) (EB.var 6) (EO.b (EO.lst (EA.nil)))))))).pt) (ESs.one (ES.ret (EV.bl))) (ESs.nil))
    (ESs.cons (O1 := [7, 8]) (ES.set (EV.add (EB.var 5) (EV.b (EV.sum B.b_sum rfl (EO.b (EO.lc (own := [("long", 23), ("price", 24)]) rfl sc_law.nd (EI.seq (EV.var 3)) (blkOk_by (N := N_law) (sc := defScope st_law) (own := [("long", 23), ("price", 24)]) (by decide +kernel)) (fun _ _ _ _ _ => GG.tup rfl (GG.cons (GG.name 23 sc_law.nd) (GG.cons (GG.name 24 sc_law.nd) (GG.nil)))) (fun _ _ _ _ _ => tests0) (fun _ _ _ _ _ => EV.var 23)))))) (GG.name 12 sc_law.nd))
    (ESs.cons (O1 := [7, 8, 13]) (ES.setLc (own := [("own", 17)]) 13 rfl sc_law.nd (EI.r2 B.b_range (EB.var 5) (EV.b (EV.add (EB.var 12) (EV.b (EV.int))))) (blkOk_by (N := N_law) (sc := defScope st_law) (own := [("own", 17)]) (by decide +kernel)) (fun _ _ _ _ _ => GG.name 17 sc_law.nd) (fun _ _ _ _ _ => tests1 (ET.cmp ok_is (EV.b (EV.callO o__law_stuck (hr.mono (by decide)) (EA.cons (EV.var 3) (EA.cons (EV.var 17) (EA.cons (EV.var 5) (EA.nil)))))) (EV.b (EV.non)))) (fun _ _ _ _ _ => EV.var 17) (sw_true rfl rfl rfl (by decide +kernel)))
    (ESs.cons (O1 := [7, 8, 13, 14]) (ES.setLc (own := [("own", 17)]) 14 rfl sc_law.nd (EI.r1 B.b_range (EV.b (EV.add (EB.var 4) (EV.b (EV.int))))) (blkOk_by (N := N_law) (sc := defScope st_law) (own := [("own", 17)]) (by decide +kernel)) (fun _ _ _ _ _ => GG.name 17 sc_law.nd) (fun _ _ _ _ _ => tests1 (ET.cmp ok_is (EV.b (EV.callO o__law_stuck (hr.mono (by decide)) (EA.cons (EV.var 3) (EA.cons (EV.var 4) (EA.cons (EV.var 17) (EA.nil)))))) (EV.b (EV.non)))) (fun _ _ _ _ _ => EV.var 17) (sw_true rfl rfl rfl (by decide +kernel)))
    (ESs.cons (O1 := [7, 8, 13, 14]) (ES.set (EV.tup (EA.cons (EV.callO o_least_tank (hr.mono (by decide)) (EA.cons (EV.var 3) (EA.cons (EV.var 5) (EA.nil)))) (EA.cons (EV.callO o_least_begin (hr.mono (by decide)) (EA.cons (EV.var 3) (EA.cons (EV.var 4) (EA.nil)))) (EA.nil)))) (GG.name 9 sc_law.nd))
    (ESs.cons (O1 := [7, 8, 13, 14]) (ES.if (ET.not (ET.val (EV.b (EV.callO o__law_alike (hr.mono (by decide)) (EA.cons (EV.var 9) (EA.cons (EV.tup (EA.cons (EV.if (ET.cmp (ok_ne hr) (EB.var 13) (EO.b (EO.lst (EA.nil)))) (EV.ixA hr (EB.var 13) (EV.b (EV.int))) (EV.non)) (EA.cons (EV.if (ET.cmp (ok_ne hr) (EB.var 14) (EO.b (EO.lst (EA.nil)))) (EV.ixA hr (EB.var 14) (EV.b (EV.int))) (EV.non)) (EA.nil)))) (EA.nil))))))) (ESs.one (ES.ret (EV.bl))) (ESs.nil))
    (ESs.cons (O1 := [7, 8, 13, 14]) (ES.set (EV.tuple B.b_tuple (EO.b (EO.lc (own := [("piece", 20)]) rfl sc_law.nd (EI.seq (EV.var 3)) (blkOk_by (N := N_law) (sc := defScope st_law) (own := [("piece", 20)]) (by decide +kernel)) (fun _ _ _ _ _ => GG.name 20 sc_law.nd) (fun _ _ _ _ _ => tests0) (fun _ _ _ _ _ => EV.if (ET.cmp (ok_gt hr) (EV.b (EV.callO o__law_next (hr.mono (by decide)) (EA.cons (EV.var 1) (EA.cons (EV.int) (EA.nil))))) (EV.b (EV.int))) (EV.callO o__law_next (hr.mono (by decide)) (EA.cons (EV.var 1) (EA.cons (EV.int) (EA.nil)))) (EV.int))))) (GG.name 15 sc_law.nd))
    (ESs.cons (O1 := [7, 8, 13, 14]) (ES.set (EV.if (ET.cmp (ok_ne hr) (EB.var 6) (EO.b (EO.lst (EA.nil)))) (EV.callO o__law_pick (hr.mono (by decide)) (EA.cons (EV.var 1) (EA.cons (EV.var 6) (EA.nil)))) (EV.var 15)) (GG.name 16 sc_law.nd))
    (ESs.cons (O1 := [7, 8, 13, 14]) (ES.for (Oh := [7, 8, 13, 14]) (Ob := [7, 8, 13, 14]) (O' := [7, 8, 13, 14]) [17] PassesOwn.never rfl (EI.seq (EV.tup (EA.cons (EV.var 15) (EA.cons (EV.var 16) (EA.cons (EV.add (EV.b (EV.cut (EB.var 16) EP.none (EP.some (EV.b (EV.neg (EV.b (EV.int))))))) (EV.b (EV.tup (EA.cons (EV.add (EV.b (EV.ixA hr (EB.var 16) (EV.b (EV.neg (EV.b (EV.int)))))) (EV.b (EV.int))) (EA.nil))))) (EA.nil)))))) (GG.name 17 sc_law.nd) (ESs.one (ES.if (ET.not (ET.val (EV.b (EV.callO o__law_alike (hr.mono (by decide)) (EA.cons (EV.tup (EA.cons (EV.callO o_is_fill (hr.mono (by decide)) (EA.cons (EV.var 3) (EA.cons (EV.var 4) (EA.cons (EV.var 5) (EA.cons (EV.var 17) (EA.nil)))))) (EA.cons (EV.callO o_left_after (hr.mono (by decide)) (EA.cons (EV.var 3) (EA.cons (EV.var 5) (EA.cons (EV.var 17) (EA.nil))))) (EA.nil)))) (EA.cons (EV.tup (EA.cons (EV.cmp (ok_inA hr) (EB.var 17) (EB.var 6)) (EA.cons (EV.callO o__law_left (hr.mono (by decide)) (EA.cons (EV.var 3) (EA.cons (EV.var 5) (EA.cons (EV.var 17) (EA.nil))))) (EA.nil)))) (EA.nil))))))) (ESs.one (ES.ret (EV.bl))) (ESs.nil))))
    (ESs.cons (O1 := [7, 8, 13, 14]) (ES.set (EO.v (EO.lst (EA.cons (EO.v (EO.list B.b_list (EB.var 16))) (EA.cons (EV.add (EB.var 16) (EV.b (EV.tup (EA.cons (EV.int) (EA.nil))))) (EA.cons (EV.cut (EB.var 16) (EP.some (EV.b (EV.int))) EP.none) (EA.cons (EV.add (EV.b (EV.tup (EA.cons (EV.neg (EV.b (EV.int))) (EA.nil)))) (EV.b (EV.cut (EB.var 16) (EP.some (EV.b (EV.int))) EP.none))) (EA.cons (EV.add (EV.b (EV.tup (EA.cons (EV.bl) (EA.nil)))) (EV.b (EV.cut (EB.var 16) (EP.some (EV.b (EV.int))) EP.none))) (EA.cons (EV.add (EV.b (EV.tup (EA.cons (EV.str) (EA.nil)))) (EV.b (EV.cut (EB.var 16) (EP.some (EV.b (EV.int))) EP.none))) (EA.cons (EV.non) (EA.nil)))))))))) (GG.name 18 sc_law.nd))
    (ESs.one (ES.if (ET.cmp (ok_ne hr) (EO.b (EO.lc (own := [("thing", 21)]) rfl sc_law.nd (EI.seq (EV.var 18)) (blkOk_by (N := N_law) (sc := defScope st_law) (own := [("thing", 21)]) (by decide +kernel)) (fun _ _ _ _ _ => GG.name 21 sc_law.nd) (fun _ _ _ _ _ => tests1 (ET.not (ET.val (EV.b (EV.callO o__law_alike (hr.mono (by decide)) (EA.cons (EV.callO o_is_fill (hr.mono (by decide)) (EA.cons (EV.var 3) (EA.cons (EV.var 4) (EA.cons (EV.var 5) (EA.cons (EV.var 21) (EA.nil)))))) (EA.cons (EV.bl) (EA.nil)))))))) (fun _ _ _ _ _ => EV.var 21))) (EO.b (EO.lst (EA.nil)))) (ESs.one (ES.ret (EV.bl))) (ESs.nil)))))))))))))))))))))))
    (ESs.one (ES.ret (EV.bl)))) rfl math
theorem all_mk {l : PySem.W.OpenLaw} {w : World} {K : PySem.W.Frag} {h : Heap} {mg : Str → Option Value} {fa : Addr} {g0 g1 g2 g3 g4 g5 g6 g7 g8 g9 g10 g11 g12 g13 g14 g15 g16 g17 g18 g19 : Addr} (X : K.In h) (G : h.Ns mainGlobals mg) (hfa : mg "law" = some (.ref fa))
    {od0 an0 : Option Addr} {sl0 : Array (Option Value)} {oc0 kV0 dc0 pm0 cd0 ct0 : Value}
    {od1 an1 : Option Addr} {sl1 : Array (Option Value)} {oc1 kV1 dc1 pm1 cd1 ct1 : Value}
    {od2 an2 : Option Addr} {sl2 : Array (Option Value)} {oc2 kV2 dc2 pm2 cd2 ct2 : Value}
    {od3 an3 : Option Addr} {sl3 : Array (Option Value)} {oc3 kV3 dc3 pm3 cd3 ct3 : Value}
    {od4 an4 : Option Addr} {sl4 : Array (Option Value)} {oc4 kV4 dc4 pm4 cd4 ct4 : Value}
    {od5 an5 : Option Addr} {sl5 : Array (Option Value)} {oc5 kV5 dc5 pm5 cd5 ct5 : Value}
    {od6 an6 : Option Addr} {sl6 : Array (Option Value)} {oc6 kV6 dc6 pm6 cd6 ct6 : Value}
    {od7 an7 : Option Addr} {sl7 : Array (Option Value)} {oc7 kV7 dc7 pm7 cd7 ct7 : Value}
    {od8 an8 : Option Addr} {sl8 : Array (Option Value)} {oc8 kV8 dc8 pm8 cd8 ct8 : Value}
    {od9 an9 : Option Addr} {sl9 : Array (Option Value)} {oc9 kV9 dc9 pm9 cd9 ct9 : Value}
    {od10 an10 : Option Addr} {sl10 : Array (Option Value)} {oc10 kV10 dc10 pm10 cd10 ct10 : Value}
    {od11 an11 : Option Addr} {sl11 : Array (Option Value)} {oc11 kV11 dc11 pm11 cd11 ct11 : Value}
    {od12 an12 : Option Addr} {sl12 : Array (Option Value)} {oc12 kV12 dc12 pm12 cd12 ct12 : Value}
    {od13 an13 : Option Addr} {sl13 : Array (Option Value)} {oc13 kV13 dc13 pm13 cd13 ct13 : Value}
    {od14 an14 : Option Addr} {sl14 : Array (Option Value)} {oc14 kV14 dc14 pm14 cd14 ct14 : Value}
    {od15 an15 : Option Addr} {sl15 : Array (Option Value)} {oc15 kV15 dc15 pm15 cd15 ct15 : Value}
    {od16 an16 : Option Addr} {sl16 : Array (Option Value)} {oc16 kV16 dc16 pm16 cd16 ct16 : Value}
    {od17 an17 : Option Addr} {sl17 : Array (Option Value)} {oc17 kV17 dc17 pm17 cd17 ct17 : Value}
    {od18 an18 : Option Addr} {sl18 : Array (Option Value)} {oc18 kV18 dc18 pm18 cd18 ct18 : Value}
    {od19 an19 : Option Addr} {sl19 : Array (Option Value)} {oc19 kV19 dc19 pm19 cd19 ct19 : Value}
    (a0 : PySem.W.nsIn K mainGlobals "price_of" = some (some (.ref g0))) (l0 : K.lookup g0 = some ⟨oc0, od0, .func (PySem.W.fnOf "price_of" "price_of" (defArgs st_price_of) (defBody st_price_of) (defScope st_price_of) .none kV0 dc0 pm0 an0 cd0 ct0), sl0⟩) (c0 : PySem.W.codeIn K cd0 "price_of" = true) (k0 : PySem.W.keepIn K (.ref g0) = true)
    (a1 : PySem.W.nsIn K mainGlobals "one_stop" = some (some (.ref g1))) (l1 : K.lookup g1 = some ⟨oc1, od1, .func (PySem.W.fnOf "one_stop" "one_stop" (defArgs st_one_stop) (defBody st_one_stop) (defScope st_one_stop) .none kV1 dc1 pm1 an1 cd1 ct1), sl1⟩) (c1 : PySem.W.codeIn K cd1 "one_stop" = true) (k1 : PySem.W.keepIn K (.ref g1) = true)
    (a2 : PySem.W.nsIn K mainGlobals "_law_draws" = some (some (.ref g2))) (l2 : K.lookup g2 = some ⟨oc2, od2, .func (PySem.W.fnOf "_law_draws" "_law_draws" (defArgs st__law_draws) (defBody st__law_draws) (defScope st__law_draws) .none kV2 dc2 pm2 an2 cd2 ct2), sl2⟩) (c2 : PySem.W.codeIn K cd2 "_law_draws" = true) (k2 : PySem.W.keepIn K (.ref g2) = true)
    (a3 : PySem.W.nsIn K mainGlobals "_law_next" = some (some (.ref g3))) (l3 : K.lookup g3 = some ⟨oc3, od3, .func (PySem.W.fnOf "_law_next" "_law_next" (defArgs st__law_next) (defBody st__law_next) (defScope st__law_next) .none kV3 dc3 pm3 an3 cd3 ct3), sl3⟩) (c3 : PySem.W.codeIn K cd3 "_law_next" = true) (k3 : PySem.W.keepIn K (.ref g3) = true)
    (a4 : PySem.W.nsIn K mainGlobals "_law_fills" = some (some (.ref g4))) (l4 : K.lookup g4 = some ⟨oc4, od4, .func (PySem.W.fnOf "_law_fills" "_law_fills" (defArgs st__law_fills) (defBody st__law_fills) (defScope st__law_fills) .none kV4 dc4 pm4 an4 cd4 ct4), sl4⟩) (c4 : PySem.W.codeIn K cd4 "_law_fills" = true) (k4 : PySem.W.keepIn K (.ref g4) = true)
    (a5 : PySem.W.nsIn K mainGlobals "_law_stuck" = some (some (.ref g5))) (l5 : K.lookup g5 = some ⟨oc5, od5, .func (PySem.W.fnOf "_law_stuck" "_law_stuck" (defArgs st__law_stuck) (defBody st__law_stuck) (defScope st__law_stuck) .none kV5 dc5 pm5 an5 cd5 ct5), sl5⟩) (c5 : PySem.W.codeIn K cd5 "_law_stuck" = true) (k5 : PySem.W.keepIn K (.ref g5) = true)
    (a6 : PySem.W.nsIn K mainGlobals "stuck_at" = some (some (.ref g6))) (l6 : K.lookup g6 = some ⟨oc6, od6, .func (PySem.W.fnOf "stuck_at" "stuck_at" (defArgs st_stuck_at) (defBody st_stuck_at) (defScope st_stuck_at) .none kV6 dc6 pm6 an6 cd6 ct6), sl6⟩) (c6 : PySem.W.codeIn K cd6 "stuck_at" = true) (k6 : PySem.W.keepIn K (.ref g6) = true)
    (a7 : PySem.W.nsIn K mainGlobals "can_go" = some (some (.ref g7))) (l7 : K.lookup g7 = some ⟨oc7, od7, .func (PySem.W.fnOf "can_go" "can_go" (defArgs st_can_go) (defBody st_can_go) (defScope st_can_go) .none kV7 dc7 pm7 an7 cd7 ct7), sl7⟩) (c7 : PySem.W.codeIn K cd7 "can_go" = true) (k7 : PySem.W.keepIn K (.ref g7) = true)
    (a8 : PySem.W.nsIn K mainGlobals "fills_from" = some (some (.ref g8))) (l8 : K.lookup g8 = some ⟨oc8, od8, .func (PySem.W.fnOf "fills_from" "fills_from" (defArgs st_fills_from) (defBody st_fills_from) (defScope st_fills_from) .none kV8 dc8 pm8 an8 cd8 ct8), sl8⟩) (c8 : PySem.W.codeIn K cd8 "fills_from" = true) (k8 : PySem.W.keepIn K (.ref g8) = true)
    (a9 : PySem.W.nsIn K mainGlobals "cheapest_fill" = some (some (.ref g9))) (l9 : K.lookup g9 = some ⟨oc9, od9, .func (PySem.W.fnOf "cheapest_fill" "cheapest_fill" (defArgs st_cheapest_fill) (defBody st_cheapest_fill) (defScope st_cheapest_fill) .none kV9 dc9 pm9 an9 cd9 ct9), sl9⟩) (c9 : PySem.W.codeIn K cd9 "cheapest_fill" = true) (k9 : PySem.W.keepIn K (.ref g9) = true)
    (a10 : PySem.W.nsIn K mainGlobals "fewest_stops" = some (some (.ref g10))) (l10 : K.lookup g10 = some ⟨oc10, od10, .func (PySem.W.fnOf "fewest_stops" "fewest_stops" (defArgs st_fewest_stops) (defBody st_fewest_stops) (defScope st_fewest_stops) .none kV10 dc10 pm10 an10 cd10 ct10), sl10⟩) (c10 : PySem.W.codeIn K cd10 "fewest_stops" = true) (k10 : PySem.W.keepIn K (.ref g10) = true)
    (a11 : PySem.W.nsIn K mainGlobals "least_tank" = some (some (.ref g11))) (l11 : K.lookup g11 = some ⟨oc11, od11, .func (PySem.W.fnOf "least_tank" "least_tank" (defArgs st_least_tank) (defBody st_least_tank) (defScope st_least_tank) .none kV11 dc11 pm11 an11 cd11 ct11), sl11⟩) (c11 : PySem.W.codeIn K cd11 "least_tank" = true) (k11 : PySem.W.keepIn K (.ref g11) = true)
    (a12 : PySem.W.nsIn K mainGlobals "least_begin" = some (some (.ref g12))) (l12 : K.lookup g12 = some ⟨oc12, od12, .func (PySem.W.fnOf "least_begin" "least_begin" (defArgs st_least_begin) (defBody st_least_begin) (defScope st_least_begin) .none kV12 dc12 pm12 an12 cd12 ct12), sl12⟩) (c12 : PySem.W.codeIn K cd12 "least_begin" = true) (k12 : PySem.W.keepIn K (.ref g12) = true)
    (a13 : PySem.W.nsIn K mainGlobals "_law_alike" = some (some (.ref g13))) (l13 : K.lookup g13 = some ⟨oc13, od13, .func (PySem.W.fnOf "_law_alike" "_law_alike" (defArgs st__law_alike) (defBody st__law_alike) (defScope st__law_alike) .none kV13 dc13 pm13 an13 cd13 ct13), sl13⟩) (c13 : PySem.W.codeIn K cd13 "_law_alike" = true) (k13 : PySem.W.keepIn K (.ref g13) = true)
    (a14 : PySem.W.nsIn K mainGlobals "_law_pick" = some (some (.ref g14))) (l14 : K.lookup g14 = some ⟨oc14, od14, .func (PySem.W.fnOf "_law_pick" "_law_pick" (defArgs st__law_pick) (defBody st__law_pick) (defScope st__law_pick) .none kV14 dc14 pm14 an14 cd14 ct14), sl14⟩) (c14 : PySem.W.codeIn K cd14 "_law_pick" = true) (k14 : PySem.W.keepIn K (.ref g14) = true)
    (a15 : PySem.W.nsIn K mainGlobals "is_number" = some (some (.ref g15))) (l15 : K.lookup g15 = some ⟨oc15, od15, .func (PySem.W.fnOf "is_number" "is_number" (defArgs st_is_number) (defBody st_is_number) (defScope st_is_number) .none kV15 dc15 pm15 an15 cd15 ct15), sl15⟩) (c15 : PySem.W.codeIn K cd15 "is_number" = true) (k15 : PySem.W.keepIn K (.ref g15) = true)
    (a16 : PySem.W.nsIn K mainGlobals "is_fill" = some (some (.ref g16))) (l16 : K.lookup g16 = some ⟨oc16, od16, .func (PySem.W.fnOf "is_fill" "is_fill" (defArgs st_is_fill) (defBody st_is_fill) (defScope st_is_fill) .none kV16 dc16 pm16 an16 cd16 ct16), sl16⟩) (c16 : PySem.W.codeIn K cd16 "is_fill" = true) (k16 : PySem.W.keepIn K (.ref g16) = true)
    (a17 : PySem.W.nsIn K mainGlobals "left_after" = some (some (.ref g17))) (l17 : K.lookup g17 = some ⟨oc17, od17, .func (PySem.W.fnOf "left_after" "left_after" (defArgs st_left_after) (defBody st_left_after) (defScope st_left_after) .none kV17 dc17 pm17 an17 cd17 ct17), sl17⟩) (c17 : PySem.W.codeIn K cd17 "left_after" = true) (k17 : PySem.W.keepIn K (.ref g17) = true)
    (a18 : PySem.W.nsIn K mainGlobals "_law_left" = some (some (.ref g18))) (l18 : K.lookup g18 = some ⟨oc18, od18, .func (PySem.W.fnOf "_law_left" "_law_left" (defArgs st__law_left) (defBody st__law_left) (defScope st__law_left) .none kV18 dc18 pm18 an18 cd18 ct18), sl18⟩) (c18 : PySem.W.codeIn K cd18 "_law_left" = true) (k18 : PySem.W.keepIn K (.ref g18) = true)
    (a19 : PySem.W.nsIn K mainGlobals "law" = some (some (.ref g19))) (l19 : K.lookup g19 = some ⟨oc19, od19, .func (PySem.W.fnOf "law" "law" (defArgs st_law) (defBody st_law) (defScope st_law) .none kV19 dc19 pm19 an19 cd19 ct19), sl19⟩) (c19 : PySem.W.codeIn K cd19 "law" = true) (k19 : PySem.W.keepIn K (.ref g19) = true)
    (z_abs : PySem.W.nsIn K mainGlobals "abs" = some none)
    (z_all : PySem.W.nsIn K mainGlobals "all" = some none)
    (z_bool : PySem.W.nsIn K mainGlobals "bool" = some none)
    (z_dict : PySem.W.nsIn K mainGlobals "dict" = some none)
    (z_int : PySem.W.nsIn K mainGlobals "int" = some none)
    (z_isinstance : PySem.W.nsIn K mainGlobals "isinstance" = some none)
    (z_len : PySem.W.nsIn K mainGlobals "len" = some none)
    (z_list : PySem.W.nsIn K mainGlobals "list" = some none)
    (z_min : PySem.W.nsIn K mainGlobals "min" = some none)
    (z_range : PySem.W.nsIn K mainGlobals "range" = some none)
    (z_str : PySem.W.nsIn K mainGlobals "str" = some none)
    (z_sum : PySem.W.nsIn K mainGlobals "sum" = some none)
    (z_tuple : PySem.W.nsIn K mainGlobals "tuple" = some none)
    (z_zip : PySem.W.nsIn K mainGlobals "zip" = some none)
    (math : ∀ ns : List Int, ns.length ≤ 63 → ∃ l w', e_law (some (tokS ns) :: List.replicate 24 none) none = some (.list (l.map .int), none) ∧ b_law ((some (tokS ns) :: List.replicate 24 none).set 1 (some tokW)) (some l) = some (.rt (.bool true), w')) :
    ∃ fd : FuncData, (∀ (s : Shared) (v : Value), BindsTo s fd ⟨[v], []⟩ [("script", v)]) ∧ ∀ base : Heap, K.In base → base.Ns mainGlobals mg → FnOk l.prog w K mg base CX0 14 fa fd ["script"] (spLaw K 63) := by
  have e := hfa.symm.trans (PySem.W.mg_of X G a19)
  cases e
  have B : Bi mg := ⟨PySem.W.mg_none_of X G z_abs, PySem.W.mg_none_of X G z_all, PySem.W.mg_none_of X G z_bool, PySem.W.mg_none_of X G z_dict, PySem.W.mg_none_of X G z_int, PySem.W.mg_none_of X G z_isinstance, PySem.W.mg_none_of X G z_len, PySem.W.mg_none_of X G z_list, PySem.W.mg_none_of X G z_min, PySem.W.mg_none_of X G z_range, PySem.W.mg_none_of X G z_str, PySem.W.mg_none_of X G z_sum, PySem.W.mg_none_of X G z_tuple, PySem.W.mg_none_of X G z_zip⟩
  have D0 : Df K mg "price_of" st_price_of ["price", "more"] := df_mk X G a0 l0 c0 k0 fun _ _ _ _ _ _ us hl => match us, hl with | [_, _], _ => rfl
  have D1 : Df K mg "one_stop" st_one_stop ["price", "more"] := df_mk X G a1 l1 c1 k1 fun _ _ _ _ _ _ us hl => match us, hl with | [_, _], _ => rfl
  have D2 : Df K mg "_law_draws" st__law_draws ["script", "many"] := df_mk X G a2 l2 c2 k2 fun _ _ _ _ _ _ us hl => match us, hl with | [_, _], _ => rfl
  have D3 : Df K mg "_law_next" st__law_next ["w", "many"] := df_mk X G a3 l3 c3 k3 fun _ _ _ _ _ _ us hl => match us, hl with | [_, _], _ => rfl
  have D4 : Df K mg "_law_fills" st__law_fills ["way", "tank", "begin"] := df_mk X G a4 l4 c4 k4 fun _ _ _ _ _ _ us hl => match us, hl with | [_, _, _], _ => rfl
  have D5 : Df K mg "_law_stuck" st__law_stuck ["way", "tank", "begin"] := df_mk X G a5 l5 c5 k5 fun _ _ _ _ _ _ us hl => match us, hl with | [_, _, _], _ => rfl
  have D6 : Df K mg "stuck_at" st_stuck_at ["way", "tank", "begin"] := df_mk X G a6 l6 c6 k6 fun _ _ _ _ _ _ us hl => match us, hl with | [_, _, _], _ => rfl
  have D7 : Df K mg "can_go" st_can_go ["way", "tank", "begin"] := df_mk X G a7 l7 c7 k7 fun _ _ _ _ _ _ us hl => match us, hl with | [_, _, _], _ => rfl
  have D8 : Df K mg "fills_from" st_fills_from ["way", "tank", "cost"] := df_mk X G a8 l8 c8 k8 fun _ _ _ _ _ _ us hl => match us, hl with | [_, _, _], _ => rfl
  have D9 : Df K mg "cheapest_fill" st_cheapest_fill ["way", "tank", "begin"] := df_mk X G a9 l9 c9 k9 fun _ _ _ _ _ _ us hl => match us, hl with | [_, _, _], _ => rfl
  have D10 : Df K mg "fewest_stops" st_fewest_stops ["way", "tank", "begin"] := df_mk X G a10 l10 c10 k10 fun _ _ _ _ _ _ us hl => match us, hl with | [_, _, _], _ => rfl
  have D11 : Df K mg "least_tank" st_least_tank ["way", "begin"] := df_mk X G a11 l11 c11 k11 fun _ _ _ _ _ _ us hl => match us, hl with | [_, _], _ => rfl
  have D12 : Df K mg "least_begin" st_least_begin ["way", "tank"] := df_mk X G a12 l12 c12 k12 fun _ _ _ _ _ _ us hl => match us, hl with | [_, _], _ => rfl
  have D13 : Df K mg "_law_alike" st__law_alike ["seen", "due"] := df_mk X G a13 l13 c13 k13 fun _ _ _ _ _ _ us hl => match us, hl with | [_, _], _ => rfl
  have D14 : Df K mg "_law_pick" st__law_pick ["w", "rows"] := df_mk X G a14 l14 c14 k14 fun _ _ _ _ _ _ us hl => match us, hl with | [_, _], _ => rfl
  have D15 : Df K mg "is_number" st_is_number ["thing"] := df_mk X G a15 l15 c15 k15 fun _ _ _ _ _ _ us hl => match us, hl with | [_], _ => rfl
  have D16 : Df K mg "is_fill" st_is_fill ["way", "tank", "begin", "row"] := df_mk X G a16 l16 c16 k16 fun _ _ _ _ _ _ us hl => match us, hl with | [_, _, _, _], _ => rfl
  have D17 : Df K mg "left_after" st_left_after ["way", "begin", "row"] := df_mk X G a17 l17 c17 k17 fun _ _ _ _ _ _ us hl => match us, hl with | [_, _, _], _ => rfl
  have D18 : Df K mg "_law_left" st__law_left ["way", "begin", "row"] := df_mk X G a18 l18 c18 k18 fun _ _ _ _ _ _ us hl => match us, hl with | [_, _, _], _ => rfl
  refine ⟨PySem.W.fnOf "law" "law" (defArgs st_law) (defBody st_law) (defScope st_law) .none kV19 dc19 pm19 an19 cd19 ct19, fun s v => .of_eq rfl, fun base _ _ => ?_⟩
  have o_price_of := d_price_of (P := l.prog) (w := w) (base := base) B D0 
  have o_one_stop := d_one_stop (P := l.prog) (w := w) (base := base) B D1 
  have o__law_draws := d__law_draws (P := l.prog) (w := w) (base := base) B D2 
  have o__law_next := d__law_next (P := l.prog) (w := w) (base := base) B D3 
  have o__law_fills := d__law_fills (P := l.prog) (w := w) (base := base) B D4 
  have o__law_stuck := d__law_stuck (P := l.prog) (w := w) (base := base) B D5 
  have o_stuck_at := d_stuck_at (P := l.prog) (w := w) (base := base) B D6 
  have o_can_go := d_can_go (P := l.prog) (w := w) (base := base) B D7 o_stuck_at
  have o_fills_from := d_fills_from (P := l.prog) (w := w) (base := base) B D8 o_one_stop o_price_of
  have o_cheapest_fill := d_cheapest_fill (P := l.prog) (w := w) (base := base) B D9 o_fills_from o_price_of
  have o_fewest_stops := d_fewest_stops (P := l.prog) (w := w) (base := base) B D10 o_fills_from o_one_stop
  have o_least_tank := d_least_tank (P := l.prog) (w := w) (base := base) B D11 o_can_go
  have o_least_begin := d_least_begin (P := l.prog) (w := w) (base := base) B D12 o_can_go
  have o__law_alike := d__law_alike (P := l.prog) (w := w) (base := base) B D13  12
  have o__law_pick := d__law_pick (P := l.prog) (w := w) (base := base) B D14 o__law_next
  have o_is_number := d_is_number (P := l.prog) (w := w) (base := base) B D15 
  have o_is_fill := d_is_fill (P := l.prog) (w := w) (base := base) B D16 o_is_number
  have o_left_after := d_left_after (P := l.prog) (w := w) (base := base) B D17 
  have o__law_left := d__law_left (P := l.prog) (w := w) (base := base) B D18 
  exact d_law (P := l.prog) (w := w) (base := base) B (fun_mk (st := st_law) l19 c19 k19) o__law_draws o__law_next o__law_pick o__law_fills o_stuck_at o_can_go o_cheapest_fill o_fewest_stops o__law_stuck o__law_alike o_least_tank o_least_begin o_is_fill o_left_after o__law_left math
end
end W

set_option Elab.async false
set_option linter.all false
set_option autoImplicit false
set_option maxRecDepth 100000
namespace W
open PySem PySem.W Q
theorem al_eq : ∀ n, f_law_alike n = fAl n
  | 0 => rfl
  | n + 1 => by
    show bodyFn 2 3 (b_law_alike (f_law_alike n)) = bodyFn 2 3 (bAlike (fAl n))
    rw [al_eq n]
    rfl
theorem al_tie {α : Type} {e : α → D} {a b : α} (h : a = b) (k : Alk 12 (e a)) (w : Wd) : f_law_alike 12 [e a, e b] w = some (.bool true, w) := by
  rw [← h, al_eq]
  exact alike_refl 12 _ k w
abbrev eWay : List (Int × Option Int) → D := eT (eP2 PyData.int (eO PyData.int))
/-- things that are no rows of fills -/
def is_fill2_t (way : List (Int × Option Int)) (tank begin : Int) (row : D) : Bool := false
def is_fill2_ok (way : List (Int × Option Int)) (tank begin : Int) (row : D) : Prop := ∀ w : Wd, f_is_fill [eWay way, PyData.int tank, PyData.int begin, row] w = some (.bool false, w)
theorem is_fill2_tie (way : List (Int × Option Int)) (tank begin : Int) (row : D) (h : is_fill2_ok way tank begin row) (w : Wd) : f_is_fill [(eT (eP2 PyData.int (eO PyData.int))) way, PyData.int tank, PyData.int begin, id row] w = some (PyData.bool (is_fill2_t way tank begin row), w) := h w
/-! law_pick -/
def law_pick_t (rows : List (Option Int)) (l0 : St) : (Option Int) × St := ((idx rows ((nextT l0 (rows.length : Int)).1)), (nextT l0 (rows.length : Int)).2)
def law_pick_ok (rows : List (Option Int)) (l0 : St) : Prop := (rows.length : Int) ≠ 0 ∧ InR rows ((nextT l0 (rows.length : Int)).1)
theorem law_pick_tie (rows : List (Option Int)) (l0 : St) (h : law_pick_ok rows l0) : f_law_pick [tokW, (eL (eO PyData.int)) rows] (some l0) = some ((eO PyData.int) (law_pick_t rows l0).1, some (law_pick_t rows l0).2) := fn_tie (XS.ret (X.op2 (X.var 1) (X.call (XA.cons (X.var 0) (XA.cons (X.op1 (X.var 1) (lenD_L (eO PyData.int) rows)) XA.nil)) (next_tie h.1)) (ixAD_L (eO PyData.int) h.2)))
/-! law_fills -/
def law_fills_t (way : List (Int × Option Int)) (tank : Int) (begin : Int) : List (List Int) := (let rows : List (List Int × Int) := [([], begin)]; (let rows_1 : (List (List Int × Int)) := (way.foldl (fun (s_ : (List (List Int × Int))) (p : Int × Option Int) => (let later_2 : (List (List Int × Int)) := (s_.foldl (fun (s__1 : (List (List Int × Int))) (p_1 : List Int × Int) => (let later_1 : (List (List Int × Int)) := ((rangeI 0 (if p.2.isSome = true then (tank + 1) else 1)).foldl (fun (s__2 : (List (List Int × Int))) (more : Int) => (if ((decide (p.1 ≤ p_1.2)) && (decide (((p_1.2 - p.1) + more) ≤ tank))) = true then (let later : List (List Int × Int) := s__2 ++ [((p_1.1 ++ [more]), ((p_1.2 - p.1) + more))]; later) else s__2)) s__1); later_1)) []); later_2)) rows); (rows_1.map (fun (p_2 : List Int × Int) => p_2.1))))
def law_fills_ok (way : List (Int × Option Int)) (tank : Int) (begin : Int) : Prop := ∀ rows : List (List Int × Int), rows = [([], begin)] → (OkF (fun (s_ : (List (List Int × Int))) (p : Int × Option Int) => OkF (fun (s__1 : (List (List Int × Int))) (p_1 : List Int × Int) => I62 (if p.2.isSome = true then (tank + 1) else 1) ∧ (OkF (fun (s__2 : (List (List Int × Int))) (more : Int) => ((decide (p.1 ≤ p_1.2)) && (decide (((p_1.2 - p.1) + more) ≤ tank))) = true → p_1.1.length + [more].length ≤ sizeLine ∧ s__2.length < sizeLine) (fun (s__2 : (List (List Int × Int))) (more : Int) => (if ((decide (p.1 ≤ p_1.2)) && (decide (((p_1.2 - p.1) + more) ≤ tank))) = true then (let later : List (List Int × Int) := s__2 ++ [((p_1.1 ++ [more]), ((p_1.2 - p.1) + more))]; later) else s__2)) s__1 (rangeI 0 (if p.2.isSome = true then (tank + 1) else 1)))) (fun (s__1 : (List (List Int × Int))) (p_1 : List Int × Int) => (let later_1 : (List (List Int × Int)) := ((rangeI 0 (if p.2.isSome = true then (tank + 1) else 1)).foldl (fun (s__2 : (List (List Int × Int))) (more : Int) => (if ((decide (p.1 ≤ p_1.2)) && (decide (((p_1.2 - p.1) + more) ≤ tank))) = true then (let later : List (List Int × Int) := s__2 ++ [((p_1.1 ++ [more]), ((p_1.2 - p.1) + more))]; later) else s__2)) s__1); later_1)) [] s_) (fun (s_ : (List (List Int × Int))) (p : Int × Option Int) => (let later_2 : (List (List Int × Int)) := (s_.foldl (fun (s__1 : (List (List Int × Int))) (p_1 : List Int × Int) => (let later_1 : (List (List Int × Int)) := ((rangeI 0 (if p.2.isSome = true then (tank + 1) else 1)).foldl (fun (s__2 : (List (List Int × Int))) (more : Int) => (if ((decide (p.1 ≤ p_1.2)) && (decide (((p_1.2 - p.1) + more) ≤ tank))) = true then (let later : List (List Int × Int) := s__2 ++ [((p_1.1 ++ [more]), ((p_1.2 - p.1) + more))]; later) else s__2)) s__1); later_1)) []); later_2)) rows way) ∧ (∀ rows_1 : (List (List Int × Int)), rows_1 = (way.foldl (fun (s_ : (List (List Int × Int))) (p : Int × Option Int) => (let later_2 : (List (List Int × Int)) := (s_.foldl (fun (s__1 : (List (List Int × Int))) (p_1 : List Int × Int) => (let later_1 : (List (List Int × Int)) := ((rangeI 0 (if p.2.isSome = true then (tank + 1) else 1)).foldl (fun (s__2 : (List (List Int × Int))) (more : Int) => (if ((decide (p.1 ≤ p_1.2)) && (decide (((p_1.2 - p.1) + more) ≤ tank))) = true then (let later : List (List Int × Int) := s__2 ++ [((p_1.1 ++ [more]), ((p_1.2 - p.1) + more))]; later) else s__2)) s__1); later_1)) []); later_2)) rows) → rows_1.length ≤ sizeLine)
theorem law_fills_tie (way : List (Int × Option Int)) (tank : Int) (begin : Int) (h : law_fills_ok way tank begin) (w : Wd) : f_law_fills [(eT (eP2 PyData.int (eO PyData.int))) way, PyData.int tank, PyData.int begin] w = some ((eL (eT PyData.int)) (law_fills_t way tank begin), w) := fn_tie (XS.seq1 ([([], begin)]) (fun (rows : List (List Int × Int)) => [some ((eT (eP2 PyData.int (eO PyData.int))) way), some (PyData.int tank), some (PyData.int begin), some ((eL (eP2 (eT PyData.int) PyData.int)) rows), none, none, none, none, none, none]) (fun (rows : List (List Int × Int)) => w) (fun (rows : List (List Int × Int)) => Out.rt ((eL (eT PyData.int)) (let rows_1 : (List (List Int × Int)) := (way.foldl (fun (s_ : (List (List Int × Int))) (p : Int × Option Int) => (let later_2 : (List (List Int × Int)) := (s_.foldl (fun (s__1 : (List (List Int × Int))) (p_1 : List Int × Int) => (let later_1 : (List (List Int × Int)) := ((rangeI 0 (if p.2.isSome = true then (tank + 1) else 1)).foldl (fun (s__2 : (List (List Int × Int))) (more : Int) => (if ((decide (p.1 ≤ p_1.2)) && (decide (((p_1.2 - p.1) + more) ≤ tank))) = true then (let later : List (List Int × Int) := s__2 ++ [((p_1.1 ++ [more]), ((p_1.2 - p.1) + more))]; later) else s__2)) s__1); later_1)) []); later_2)) rows); (rows_1.map (fun (p_2 : List Int × Int) => p_2.1))))) (fun (rows : List (List Int × Int)) => w) (XS.set (X.lst (XA.cons (X.tup (XA.cons (X.tup XA.nil) (XA.cons (X.var 2) XA.nil))) XA.nil)) (TG.name 3)) (fun rows hv_4 => (have hq_3 := h rows hv_4; (XS.seq1 (way.foldl (fun (s_ : (List (List Int × Int))) (p : Int × Option Int) => (let later_2 : (List (List Int × Int)) := (s_.foldl (fun (s__1 : (List (List Int × Int))) (p_1 : List Int × Int) => (let later_1 : (List (List Int × Int)) := ((rangeI 0 (if p.2.isSome = true then (tank + 1) else 1)).foldl (fun (s__2 : (List (List Int × Int))) (more : Int) => (if ((decide (p.1 ≤ p_1.2)) && (decide (((p_1.2 - p.1) + more) ≤ tank))) = true then (let later : List (List Int × Int) := s__2 ++ [((p_1.1 ++ [more]), ((p_1.2 - p.1) + more))]; later) else s__2)) s__1); later_1)) []); later_2)) rows) (fun (rows_1 : (List (List Int × Int))) => [some ((eT (eP2 PyData.int (eO PyData.int))) way), some (PyData.int tank), some (PyData.int begin), some ((eL (eP2 (eT PyData.int) PyData.int)) rows_1), none, none, none, none, none, none]) (fun (rows_1 : (List (List Int × Int))) => w) (fun (rows_1 : (List (List Int × Int))) => Out.rt ((eL (eT PyData.int)) (rows_1.map (fun (p_2 : List Int × Int) => p_2.1)))) (fun (rows_1 : (List (List Int × Int))) => w) (XS.for (eP2 PyData.int (eO PyData.int)) (xs := way) rows (fun (s_ : (List (List Int × Int))) => [some ((eT (eP2 PyData.int (eO PyData.int))) way), some (PyData.int tank), some (PyData.int begin), some ((eL (eP2 (eT PyData.int) PyData.int)) s_), none, none, none, none, none, none]) (fun _ => w) (fun (s_ : (List (List Int × Int))) (p : Int × Option Int) => [some ((eT (eP2 PyData.int (eO PyData.int))) way), some (PyData.int tank), some (PyData.int begin), some ((eL (eP2 (eT PyData.int) PyData.int)) s_), some (PyData.int p.1), some ((eO PyData.int) p.2), none, none, none, none]) (fun (s_ : (List (List Int × Int))) (p : Int × Option Int) => (let later_2 : (List (List Int × Int)) := (s_.foldl (fun (s__1 : (List (List Int × Int))) (p_1 : List Int × Int) => (let later_1 : (List (List Int × Int)) := ((rangeI 0 (if p.2.isSome = true then (tank + 1) else 1)).foldl (fun (s__2 : (List (List Int × Int))) (more : Int) => (if ((decide (p.1 ≤ p_1.2)) && (decide (((p_1.2 - p.1) + more) ≤ tank))) = true then (let later : List (List Int × Int) := s__2 ++ [((p_1.1 ++ [more]), ((p_1.2 - p.1) + more))]; later) else s__2)) s__1); later_1)) []); later_2)) (fun (s_ : (List (List Int × Int))) (p : Int × Option Int) => OkF (fun (s__1 : (List (List Int × Int))) (p_1 : List Int × Int) => I62 (if p.2.isSome = true then (tank + 1) else 1) ∧ (OkF (fun (s__2 : (List (List Int × Int))) (more : Int) => ((decide (p.1 ≤ p_1.2)) && (decide (((p_1.2 - p.1) + more) ≤ tank))) = true → p_1.1.length + [more].length ≤ sizeLine ∧ s__2.length < sizeLine) (fun (s__2 : (List (List Int × Int))) (more : Int) => (if ((decide (p.1 ≤ p_1.2)) && (decide (((p_1.2 - p.1) + more) ≤ tank))) = true then (let later : List (List Int × Int) := s__2 ++ [((p_1.1 ++ [more]), ((p_1.2 - p.1) + more))]; later) else s__2)) s__1 (rangeI 0 (if p.2.isSome = true then (tank + 1) else 1)))) (fun (s__1 : (List (List Int × Int))) (p_1 : List Int × Int) => (let later_1 : (List (List Int × Int)) := ((rangeI 0 (if p.2.isSome = true then (tank + 1) else 1)).foldl (fun (s__2 : (List (List Int × Int))) (more : Int) => (if ((decide (p.1 ≤ p_1.2)) && (decide (((p_1.2 - p.1) + more) ≤ tank))) = true then (let later : List (List Int × Int) := s__2 ++ [((p_1.1 ++ [more]), ((p_1.2 - p.1) + more))]; later) else s__2)) s__1); later_1)) [] s_) (XA.seqT (X.var 0)) (show LE _ _ from .same (.same (.same (.same (.same (.same (.same (.same (.same (.same (.nil))))))))))) (fun s_ p => (TG.tup (TGs.cons (TG.name 4) (TGs.cons (TG.name 5) TGs.nil)))) (fun s_ p hx hk => (XS.seqd (XS.set (X.lst XA.nil) (TG.name 6)) (XS.seq1 (s_.foldl (fun (s__1 : (List (List Int × Int))) (p_1 : List Int × Int) => (let later_1 : (List (List Int × Int)) := ((rangeI 0 (if p.2.isSome = true then (tank + 1) else 1)).foldl (fun (s__2 : (List (List Int × Int))) (more : Int) => (if ((decide (p.1 ≤ p_1.2)) && (decide (((p_1.2 - p.1) + more) ≤ tank))) = true then (let later : List (List Int × Int) := s__2 ++ [((p_1.1 ++ [more]), ((p_1.2 - p.1) + more))]; later) else s__2)) s__1); later_1)) []) (fun (later_2 : (List (List Int × Int))) => [some ((eT (eP2 PyData.int (eO PyData.int))) way), some (PyData.int tank), some (PyData.int begin), some ((eL (eP2 (eT PyData.int) PyData.int)) s_), some (PyData.int p.1), some ((eO PyData.int) p.2), some ((eL (eP2 (eT PyData.int) PyData.int)) later_2), none, none, none]) (fun (later_2 : (List (List Int × Int))) => w) (fun (later_2 : (List (List Int × Int))) => Out.nx ((fun (st : (List (List Int × Int))) => [some ((eT (eP2 PyData.int (eO PyData.int))) way), some (PyData.int tank), some (PyData.int begin), some ((eL (eP2 (eT PyData.int) PyData.int)) st), none, none, none, none, none, none]) later_2)) (fun (later_2 : (List (List Int × Int))) => w) (XS.for (eP2 (eT PyData.int) PyData.int) (xs := s_) [] (fun (s__1 : (List (List Int × Int))) => [some ((eT (eP2 PyData.int (eO PyData.int))) way), some (PyData.int tank), some (PyData.int begin), some ((eL (eP2 (eT PyData.int) PyData.int)) s_), some (PyData.int p.1), some ((eO PyData.int) p.2), some ((eL (eP2 (eT PyData.int) PyData.int)) s__1), none, none, none]) (fun _ => w) (fun (s__1 : (List (List Int × Int))) (p_1 : List Int × Int) => [some ((eT (eP2 PyData.int (eO PyData.int))) way), some (PyData.int tank), some (PyData.int begin), some ((eL (eP2 (eT PyData.int) PyData.int)) s_), some (PyData.int p.1), some ((eO PyData.int) p.2), some ((eL (eP2 (eT PyData.int) PyData.int)) s__1), some ((eT PyData.int) p_1.1), some (PyData.int p_1.2), none]) (fun (s__1 : (List (List Int × Int))) (p_1 : List Int × Int) => (let later_1 : (List (List Int × Int)) := ((rangeI 0 (if p.2.isSome = true then (tank + 1) else 1)).foldl (fun (s__2 : (List (List Int × Int))) (more : Int) => (if ((decide (p.1 ≤ p_1.2)) && (decide (((p_1.2 - p.1) + more) ≤ tank))) = true then (let later : List (List Int × Int) := s__2 ++ [((p_1.1 ++ [more]), ((p_1.2 - p.1) + more))]; later) else s__2)) s__1); later_1)) (fun (s__1 : (List (List Int × Int))) (p_1 : List Int × Int) => I62 (if p.2.isSome = true then (tank + 1) else 1) ∧ (OkF (fun (s__2 : (List (List Int × Int))) (more : Int) => ((decide (p.1 ≤ p_1.2)) && (decide (((p_1.2 - p.1) + more) ≤ tank))) = true → p_1.1.length + [more].length ≤ sizeLine ∧ s__2.length < sizeLine) (fun (s__2 : (List (List Int × Int))) (more : Int) => (if ((decide (p.1 ≤ p_1.2)) && (decide (((p_1.2 - p.1) + more) ≤ tank))) = true then (let later : List (List Int × Int) := s__2 ++ [((p_1.1 ++ [more]), ((p_1.2 - p.1) + more))]; later) else s__2)) s__1 (rangeI 0 (if p.2.isSome = true then (tank + 1) else 1)))) (XA.seqL (X.var 3)) (show LE _ _ from .same (.same (.same (.same (.same (.same (.same (.same (.same (.same (.nil))))))))))) (fun s__1 p_1 => (TG.tup (TGs.cons (TG.name 7) (TGs.cons (TG.name 8) TGs.nil)))) (fun s__1 p_1 hx_1 hk_1 => (XS.seqPass (XS.seq1 ((rangeI 0 (if p.2.isSome = true then (tank + 1) else 1)).foldl (fun (s__2 : (List (List Int × Int))) (more : Int) => (if ((decide (p.1 ≤ p_1.2)) && (decide (((p_1.2 - p.1) + more) ≤ tank))) = true then (let later : List (List Int × Int) := s__2 ++ [((p_1.1 ++ [more]), ((p_1.2 - p.1) + more))]; later) else s__2)) s__1) (fun (later_1 : (List (List Int × Int))) => [some ((eT (eP2 PyData.int (eO PyData.int))) way), some (PyData.int tank), some (PyData.int begin), some ((eL (eP2 (eT PyData.int) PyData.int)) s_), some (PyData.int p.1), some ((eO PyData.int) p.2), some ((eL (eP2 (eT PyData.int) PyData.int)) later_1), some ((eT PyData.int) p_1.1), some (PyData.int p_1.2), none]) (fun (later_1 : (List (List Int × Int))) => w) (fun (later_1 : (List (List Int × Int))) => Out.nx ((fun (st : (List (List Int × Int))) => [some ((eT (eP2 PyData.int (eO PyData.int))) way), some (PyData.int tank), some (PyData.int begin), some ((eL (eP2 (eT PyData.int) PyData.int)) s_), some (PyData.int p.1), some ((eO PyData.int) p.2), some ((eL (eP2 (eT PyData.int) PyData.int)) st), none, none, none]) later_1)) (fun (later_1 : (List (List Int × Int))) => w) (XS.for PyData.int (xs := (rangeI 0 (if p.2.isSome = true then (tank + 1) else 1))) s__1 (fun (s__2 : (List (List Int × Int))) => [some ((eT (eP2 PyData.int (eO PyData.int))) way), some (PyData.int tank), some (PyData.int begin), some ((eL (eP2 (eT PyData.int) PyData.int)) s_), some (PyData.int p.1), some ((eO PyData.int) p.2), some ((eL (eP2 (eT PyData.int) PyData.int)) s__2), some ((eT PyData.int) p_1.1), some (PyData.int p_1.2), none]) (fun _ => w) (fun (s__2 : (List (List Int × Int))) (more : Int) => [some ((eT (eP2 PyData.int (eO PyData.int))) way), some (PyData.int tank), some (PyData.int begin), some ((eL (eP2 (eT PyData.int) PyData.int)) s_), some (PyData.int p.1), some ((eO PyData.int) p.2), some ((eL (eP2 (eT PyData.int) PyData.int)) s__2), some ((eT PyData.int) p_1.1), some (PyData.int p_1.2), some (PyData.int more)]) (fun (s__2 : (List (List Int × Int))) (more : Int) => (if ((decide (p.1 ≤ p_1.2)) && (decide (((p_1.2 - p.1) + more) ≤ tank))) = true then (let later : List (List Int × Int) := s__2 ++ [((p_1.1 ++ [more]), ((p_1.2 - p.1) + more))]; later) else s__2)) (fun (s__2 : (List (List Int × Int))) (more : Int) => ((decide (p.1 ≤ p_1.2)) && (decide (((p_1.2 - p.1) + more) ≤ tank))) = true → p_1.1.length + [more].length ≤ sizeLine ∧ s__2.length < sizeLine) (XA.r1 (X.if PyData.int (u := (tank + 1)) (v := 1) (XT.cmp (X.var 5) (X.k _) (isNotND_O NN.i p.2)) (fun hk_2 => (X.op2 (X.var 1) (X.k _) (addD_i _ _))) (fun hk_2 => (X.k _))) hk_1.1) (show LE _ _ from .same (.same (.same (.same (.same (.same (.same (.same (.same (.same (.nil))))))))))) (fun s__2 more => (TG.name 9)) (fun s__2 more hx_2 hk_3 => (XS.if (fun (st : (List (List Int × Int))) => Out.nx [some ((eT (eP2 PyData.int (eO PyData.int))) way), some (PyData.int tank), some (PyData.int begin), some ((eL (eP2 (eT PyData.int) PyData.int)) s_), some (PyData.int p.1), some ((eO PyData.int) p.2), some ((eL (eP2 (eT PyData.int) PyData.int)) st), some ((eT PyData.int) p_1.1), some (PyData.int p_1.2), none]) (XT.and (XT.cmp (X.var 8) (X.var 4) (geD_i _ _)) (fun hk_4 => (XT.cmp (X.op2 (X.op2 (X.var 8) (X.var 4) (subD_i _ _)) (X.var 9) (addD_i _ _)) (X.var 1) (leD_i _ _)))) (fun hk_5 => (have hq_1 := hk_3 hk_5; (XS.seqPass (XS.seq1 (s__2 ++ [((p_1.1 ++ [more]), ((p_1.2 - p.1) + more))]) (fun (later : List (List Int × Int)) => [some ((eT (eP2 PyData.int (eO PyData.int))) way), some (PyData.int tank), some (PyData.int begin), some ((eL (eP2 (eT PyData.int) PyData.int)) s_), some (PyData.int p.1), some ((eO PyData.int) p.2), some ((eL (eP2 (eT PyData.int) PyData.int)) later), some ((eT PyData.int) p_1.1), some (PyData.int p_1.2), some (PyData.int more)]) (fun (later : List (List Int × Int)) => w) (fun (later : List (List Int × Int)) => Out.nx ((fun (st : (List (List Int × Int))) => [some ((eT (eP2 PyData.int (eO PyData.int))) way), some (PyData.int tank), some (PyData.int begin), some ((eL (eP2 (eT PyData.int) PyData.int)) s_), some (PyData.int p.1), some ((eO PyData.int) p.2), some ((eL (eP2 (eT PyData.int) PyData.int)) st), some ((eT PyData.int) p_1.1), some (PyData.int p_1.2), none]) later)) (fun (later : List (List Int × Int)) => w) (XS.app 6 (eP2 (eT PyData.int) PyData.int) (v := ((p_1.1 ++ [more]), ((p_1.2 - p.1) + more))) (X.tup (XA.cons (X.op2 (X.var 7) (X.tup (XA.cons (X.var 9) XA.nil)) (addD_T PyData.int p_1.1 [more] hq_1.1)) (XA.cons (X.op2 (X.op2 (X.var 8) (X.var 4) (subD_i _ _)) (X.var 9) (addD_i _ _)) XA.nil))) hq_1.2) (fun later hv => (XS.wpass (show LE _ _ from .same (.same (.same (.same (.same (.same (.same (.same (.same (.skip (.nil))))))))))))))))) (fun hk_5 => (XS.wpass (show LE _ _ from .same (.same (.same (.same (.same (.same (.same (.same (.same (.skip (.nil))))))))))))))) hk_1.2) (fun later_1 hv_1 => (XS.wpass (show LE _ _ from .same (.same (.same (.same (.same (.same (.same (.skip (.skip (.same (.nil)))))))))))))))) (hk)) (fun later_2 hv_2 => (XS.seqPass (XS.seqd (XS.set (X.var 6) (TG.name 3)) (XS.wpass (show LE _ _ from .same (.same (.same (.same (.skip (.skip (.skip (.same (.same (.same (.nil)))))))))))))))))) hq_3.1) (fun rows_1 hv_3 => (have hq_2 := hq_3.2 rows_1 hv_3; (XS.ret (X.lcM (eP2 (eT PyData.int) PyData.int) (eT PyData.int) (xs := rows_1) [some ((eT (eP2 PyData.int (eO PyData.int))) way), some (PyData.int tank), some (PyData.int begin), some ((eL (eP2 (eT PyData.int) PyData.int)) rows_1), none, none, none, none, none, none] (fun (p_2 : List Int × Int) => [some ((eT (eP2 PyData.int (eO PyData.int))) way), some (PyData.int tank), some (PyData.int begin), some ((eL (eP2 (eT PyData.int) PyData.int)) rows_1), none, none, none, some ((eT PyData.int) p_2.1), some (PyData.int p_2.2), none]) (fun (p_2 : List Int × Int) => p_2.1) (XA.seqL (X.var 3)) (fun p_2 => (TG.tup (TGs.cons (TG.name 7) (TGs.cons (TG.name 8) TGs.nil)))) hq_2 (fun p_2 hx_3 => (X.var 7))))))))))
/-! stuck_at -/
def stuck_at_t (way : List (Int × Option Int)) (tank : Int) (begin : Int) : Option Int := ((loopT (fun (s_ : Int) (k_ : Int) => ((if (decide (s_ < (idx way k_).1)) = true then (Stp.ret (some k_)) else (let now : Int := (if ((idx way k_).2).isSome = true then tank else (s_ - (idx way k_).1)); (Stp.nx now))) : Stp (Option Int) Int)) begin (rangeI 0 (way.length : Int))).el (fun r => r) (fun (s__1 : Int) => (none : Option Int)))
def stuck_at_ok (way : List (Int × Option Int)) (tank : Int) (begin : Int) : Prop := I62 (way.length : Int) ∧ (OkL (fun (s_ : Int) (k_ : Int) => InR way k_ ∧ ((decide (s_ < (idx way k_).1)) = false → InR way k_ ∧ ((((idx way k_).2).isSome) = false → InR way k_))) (fun (s_ : Int) (k_ : Int) => ((if (decide (s_ < (idx way k_).1)) = true then (Stp.ret (some k_)) else (let now : Int := (if ((idx way k_).2).isSome = true then tank else (s_ - (idx way k_).1)); (Stp.nx now))) : Stp (Option Int) Int)) begin (rangeI 0 (way.length : Int)))
theorem stuck_at_tie (way : List (Int × Option Int)) (tank : Int) (begin : Int) (h : stuck_at_ok way tank begin) (w : Wd) : f_stuck_at [(eT (eP2 PyData.int (eO PyData.int))) way, PyData.int tank, PyData.int begin] w = some ((eO PyData.int) (stuck_at_t way tank begin), w) := fn_tie (XS.seqd (XS.set (X.var 2) (TG.name 3)) (XS.seqR (eO PyData.int) (fun (s_ : Int) => [some ((eT (eP2 PyData.int (eO PyData.int))) way), some (PyData.int tank), some (PyData.int begin), some (PyData.int s_), none]) (loopT (fun (s_ : Int) (k_ : Int) => ((if (decide (s_ < (idx way k_).1)) = true then (Stp.ret (some k_)) else (let now : Int := (if ((idx way k_).2).isSome = true then tank else (s_ - (idx way k_).1)); (Stp.nx now))) : Stp (Option Int) Int)) begin (rangeI 0 (way.length : Int))) (fun r => Out.rt ((eO PyData.int) r)) (fun r => r) (fun (s__1 : Int) => (none : Option Int)) (XS.forR PyData.int (eO PyData.int) (xs := (rangeI 0 (way.length : Int))) begin (fun (s_ : Int) => [some ((eT (eP2 PyData.int (eO PyData.int))) way), some (PyData.int tank), some (PyData.int begin), some (PyData.int s_), none]) (fun (s_ : Int) (k_ : Int) => [some ((eT (eP2 PyData.int (eO PyData.int))) way), some (PyData.int tank), some (PyData.int begin), some (PyData.int s_), some (PyData.int k_)]) (fun (s_ : Int) (k_ : Int) => ((if (decide (s_ < (idx way k_).1)) = true then (Stp.ret (some k_)) else (let now : Int := (if ((idx way k_).2).isSome = true then tank else (s_ - (idx way k_).1)); (Stp.nx now))) : Stp (Option Int) Int)) (fun (s_ : Int) (k_ : Int) => InR way k_ ∧ ((decide (s_ < (idx way k_).1)) = false → InR way k_ ∧ ((((idx way k_).2).isSome) = false → InR way k_))) (XA.r1 (X.op1 (X.var 0) (lenD_T (eP2 PyData.int (eO PyData.int)) way)) (h).1) (show LE _ _ from .same (.same (.same (.same (.same (.nil)))))) (fun s_ k_ => (TG.name 4)) (fun s_ k_ hx hk => (XS.dist (XS.if (outS (eO PyData.int) (fun (st : Int) => [some ((eT (eP2 PyData.int (eO PyData.int))) way), some (PyData.int tank), some (PyData.int begin), some (PyData.int st), none])) (XT.cmp (X.op2 (X.op2 (X.var 0) (X.var 4) (ixAD_T (eP2 PyData.int (eO PyData.int)) hk.1)) (X.k _) ixAD_P) (X.var 3) (gtD_i _ _)) (fun hk_1 => (XS.exitR (XS.ret (X.var 4)))) (fun hk_1 => (have hq_5 := hk.2 hk_1; (XS.passSeq (XS.seqPass (XS.seq1 (if ((idx way k_).2).isSome = true then tank else (s_ - (idx way k_).1)) (fun (now : Int) => [some ((eT (eP2 PyData.int (eO PyData.int))) way), some (PyData.int tank), some (PyData.int begin), some (PyData.int now), some (PyData.int k_)]) (fun (now : Int) => w) (fun (now : Int) => outS (eO PyData.int) (fun (st : Int) => [some ((eT (eP2 PyData.int (eO PyData.int))) way), some (PyData.int tank), some (PyData.int begin), some (PyData.int st), none]) (Stp.nx now)) (fun (now : Int) => w) (XS.set (X.if PyData.int (u := tank) (v := (s_ - (idx way k_).1)) (XT.cmp (X.op2 (X.op2 (X.var 0) (X.var 4) (ixAD_T (eP2 PyData.int (eO PyData.int)) hq_5.1)) (X.k _) ixAD_P) (X.k _) (isNotND_O NN.i ((idx way k_).2))) (fun hk_2 => (X.var 1)) (fun hk_2 => (have hq_4 := hq_5.2 hk_2; (X.op2 (X.var 3) (X.op2 (X.op2 (X.var 0) (X.var 4) (ixAD_T (eP2 PyData.int (eO PyData.int)) hq_4)) (X.k _) ixAD_P) (subD_i _ _))))) (TG.name 3)) (fun now hv => (XS.wpass (show LE _ _ from .same (.same (.same (.same (.skip (.nil)))))))))))))))) (h).2) (fun _ => rfl) (loopT_bk _ _ _) (fun s__1 hr => (XS.ret (X.k _)))))
/-! can_go -/
def can_go_t (way : List (Int × Option Int)) (tank : Int) (begin : Int) : Bool := (stuck_at_t way tank begin).isNone
def can_go_ok (way : List (Int × Option Int)) (tank : Int) (begin : Int) : Prop := stuck_at_ok way tank begin
theorem can_go_tie (way : List (Int × Option Int)) (tank : Int) (begin : Int) (h : can_go_ok way tank begin) (w : Wd) : f_can_go [(eT (eP2 PyData.int (eO PyData.int))) way, PyData.int tank, PyData.int begin] w = some (PyData.bool (can_go_t way tank begin), w) := fn_tie (XS.ret (X.cT (XT.cmp (X.call (XA.cons (X.var 0) (XA.cons (X.var 1) (XA.cons (X.var 2) XA.nil))) (stuck_at_tie way tank begin h _)) (X.k _) (isND_O NN.i (stuck_at_t way tank begin)))))
/-! price_of -/
def price_of_t (price : Option Int) (more : Int) : Int := (if (decide (0 < more)) = true then ((price.getD default) * more) else 0)
def price_of_ok (price : Option Int) (more : Int) : Prop := (decide (0 < more)) = true → price.isSome = true ∧ M64 (price.getD default) more
theorem price_of_tie (price : Option Int) (more : Int) (h : price_of_ok price more) (w : Wd) : f_price_of [(eO PyData.int) price, PyData.int more] w = some (PyData.int (price_of_t price more), w) := fn_tie (XS.ret (X.if PyData.int (u := ((price.getD default) * more)) (v := 0) (XT.cmp (X.var 1) (X.k _) (gtD_i _ _)) (fun hk => (have hq_6 := h hk; (X.op2 (X.get (e := PyData.int) (X.var 0) hq_6.1) (X.var 1) (mulI_ok hq_6.2)))) (fun hk => (X.k _))))
/-! one_stop -/
def one_stop_t (price : Option Int) (more : Int) : Int := (b2n (decide (0 < more)))
theorem one_stop_tie (price : Option Int) (more : Int) (w : Wd) : f_one_stop [(eO PyData.int) price, PyData.int more] w = some (PyData.int (one_stop_t price more), w) := fn_tie (XS.ret (X.op1 (X.cT (XT.cmp (X.var 1) (X.k _) (gtD_i _ _))) (intD_B _)))
/-! fills_from -/
def fills_from_t (way : List (Int × Option Int)) (tank : Int) (cost : Str) : List (List (Int × (Int × List Int))) := (let rows : List (List (Int × (Int × List Int))) := [(mergeT [] ((rangeI 0 (tank + 1)).map (fun (units : Int) => (units, (0, [])))))]; (let rows_2 : (List (List (Int × (Int × List Int)))) := (way.reverse.foldl (fun (s_ : (List (List (Int × (Int × List Int))))) (p : Int × Option Int) => (let later : List (Int × (Int × List Int)) := (idx s_ (-1)); let best : List (Int × (Int × List Int)) := ([] : List (Int × (Int × List Int))); (let best_2 : (List (Int × (Int × List Int))) := ((rangeI p.1 (tank + 1)).foldl (fun (s__1 : (List (Int × (Int × List Int)))) (units_1 : Int) => (let able_1 : (List (Int × List Int)) := ((rangeI 0 (if p.2.isSome = true then (((tank - units_1) + p.1) + 1) else 1)).foldl (fun (s__2 : (List (Int × List Int))) (more : Int) => (if (lookT later ((units_1 - p.1) + more)).isSome = true then (let p_1 : Int × List Int := ((lookT later ((units_1 - p.1) + more)).getD default); (let able : List (Int × List Int) := s__2 ++ [(((if cost = ("price_of" : Str) then price_of_t p.2 more else one_stop_t p.2 more) + p_1.1), ([more] ++ p_1.2))]; able)) else s__2)) []); (if (!decide (able_1 = [])) = true then (let best_1 : List (Int × (Int × List Int)) := putT s__1 units_1 (minT (lt2 ltI (ltL ltI)) able_1); best_1) else s__1))) best); (let rows_1 : List (List (Int × (Int × List Int))) := s_ ++ [best_2]; rows_1)))) rows); rows_2))
def fills_from_ok (way : List (Int × Option Int)) (tank : Int) (cost : Str) : Prop := I62 (tank + 1) ∧ (rangeI 0 (tank + 1)).length ≤ sizeLine ∧ (∀ rows : List (List (Int × (Int × List Int))), rows = [(mergeT [] ((rangeI 0 (tank + 1)).map (fun (units : Int) => (units, (0, [])))))] → OkF (fun (s_ : (List (List (Int × (Int × List Int))))) (p : Int × Option Int) => InR s_ (-1) ∧ (∀ later : List (Int × (Int × List Int)), later = (idx s_ (-1)) → ∀ best : List (Int × (Int × List Int)), best = ([] : List (Int × (Int × List Int))) → I62 p.1 ∧ I62 (tank + 1) ∧ (OkF (fun (s__1 : (List (Int × (Int × List Int)))) (units_1 : Int) => I62 (if p.2.isSome = true then (((tank - units_1) + p.1) + 1) else 1) ∧ (OkF (fun (s__2 : (List (Int × List Int))) (more : Int) => ((lookT later ((units_1 - p.1) + more)).isSome) = true → (lookT later ((units_1 - p.1) + more)).isSome = true ∧ (∀ p_1 : Int × List Int, p_1 = ((lookT later ((units_1 - p.1) + more)).getD default) → (cost = ("price_of" : Str) → price_of_ok p.2 more) ∧ (cost = ("price_of" : Str) ∨ cost = ("one_stop" : Str)) ∧ [more].length + p_1.2.length ≤ sizeLine ∧ s__2.length < sizeLine)) (fun (s__2 : (List (Int × List Int))) (more : Int) => (if (lookT later ((units_1 - p.1) + more)).isSome = true then (let p_1 : Int × List Int := ((lookT later ((units_1 - p.1) + more)).getD default); (let able : List (Int × List Int) := s__2 ++ [(((if cost = ("price_of" : Str) then price_of_t p.2 more else one_stop_t p.2 more) + p_1.1), ([more] ++ p_1.2))]; able)) else s__2)) [] (rangeI 0 (if p.2.isSome = true then (((tank - units_1) + p.1) + 1) else 1))) ∧ (∀ able_1 : (List (Int × List Int)), able_1 = ((rangeI 0 (if p.2.isSome = true then (((tank - units_1) + p.1) + 1) else 1)).foldl (fun (s__2 : (List (Int × List Int))) (more : Int) => (if (lookT later ((units_1 - p.1) + more)).isSome = true then (let p_1 : Int × List Int := ((lookT later ((units_1 - p.1) + more)).getD default); (let able : List (Int × List Int) := s__2 ++ [(((if cost = ("price_of" : Str) then price_of_t p.2 more else one_stop_t p.2 more) + p_1.1), ([more] ++ p_1.2))]; able)) else s__2)) []) → (!decide (able_1 = [])) = true → able_1 ≠ [] ∧ s__1.length < sizeLine)) (fun (s__1 : (List (Int × (Int × List Int)))) (units_1 : Int) => (let able_1 : (List (Int × List Int)) := ((rangeI 0 (if p.2.isSome = true then (((tank - units_1) + p.1) + 1) else 1)).foldl (fun (s__2 : (List (Int × List Int))) (more : Int) => (if (lookT later ((units_1 - p.1) + more)).isSome = true then (let p_1 : Int × List Int := ((lookT later ((units_1 - p.1) + more)).getD default); (let able : List (Int × List Int) := s__2 ++ [(((if cost = ("price_of" : Str) then price_of_t p.2 more else one_stop_t p.2 more) + p_1.1), ([more] ++ p_1.2))]; able)) else s__2)) []); (if (!decide (able_1 = [])) = true then (let best_1 : List (Int × (Int × List Int)) := putT s__1 units_1 (minT (lt2 ltI (ltL ltI)) able_1); best_1) else s__1))) best (rangeI p.1 (tank + 1))) ∧ (∀ best_2 : (List (Int × (Int × List Int))), best_2 = ((rangeI p.1 (tank + 1)).foldl (fun (s__1 : (List (Int × (Int × List Int)))) (units_1 : Int) => (let able_1 : (List (Int × List Int)) := ((rangeI 0 (if p.2.isSome = true then (((tank - units_1) + p.1) + 1) else 1)).foldl (fun (s__2 : (List (Int × List Int))) (more : Int) => (if (lookT later ((units_1 - p.1) + more)).isSome = true then (let p_1 : Int × List Int := ((lookT later ((units_1 - p.1) + more)).getD default); (let able : List (Int × List Int) := s__2 ++ [(((if cost = ("price_of" : Str) then price_of_t p.2 more else one_stop_t p.2 more) + p_1.1), ([more] ++ p_1.2))]; able)) else s__2)) []); (if (!decide (able_1 = [])) = true then (let best_1 : List (Int × (Int × List Int)) := putT s__1 units_1 (minT (lt2 ltI (ltL ltI)) able_1); best_1) else s__1))) best) → s_.length < sizeLine))) (fun (s_ : (List (List (Int × (Int × List Int))))) (p : Int × Option Int) => (let later : List (Int × (Int × List Int)) := (idx s_ (-1)); let best : List (Int × (Int × List Int)) := ([] : List (Int × (Int × List Int))); (let best_2 : (List (Int × (Int × List Int))) := ((rangeI p.1 (tank + 1)).foldl (fun (s__1 : (List (Int × (Int × List Int)))) (units_1 : Int) => (let able_1 : (List (Int × List Int)) := ((rangeI 0 (if p.2.isSome = true then (((tank - units_1) + p.1) + 1) else 1)).foldl (fun (s__2 : (List (Int × List Int))) (more : Int) => (if (lookT later ((units_1 - p.1) + more)).isSome = true then (let p_1 : Int × List Int := ((lookT later ((units_1 - p.1) + more)).getD default); (let able : List (Int × List Int) := s__2 ++ [(((if cost = ("price_of" : Str) then price_of_t p.2 more else one_stop_t p.2 more) + p_1.1), ([more] ++ p_1.2))]; able)) else s__2)) []); (if (!decide (able_1 = [])) = true then (let best_1 : List (Int × (Int × List Int)) := putT s__1 units_1 (minT (lt2 ltI (ltL ltI)) able_1); best_1) else s__1))) best); (let rows_1 : List (List (Int × (Int × List Int))) := s_ ++ [best_2]; rows_1)))) rows way.reverse)
theorem fills_from_tie (way : List (Int × Option Int)) (tank : Int) (cost : Str) (h : fills_from_ok way tank cost) (w : Wd) : f_fills_from [(eT (eP2 PyData.int (eO PyData.int))) way, PyData.int tank, tokF cost] w = some ((eL (eD PyData.int (eP2 PyData.int (eT PyData.int)))) (fills_from_t way tank cost), w) := fn_tie (XS.seq1 ([(mergeT [] ((rangeI 0 (tank + 1)).map (fun (units : Int) => (units, (0, [])))))]) (fun (rows : List (List (Int × (Int × List Int)))) => [some ((eT (eP2 PyData.int (eO PyData.int))) way), some (PyData.int tank), some (tokF cost), some ((eL (eD PyData.int (eP2 PyData.int (eT PyData.int)))) rows), none, none, none, none, none, none, none, none, none]) (fun (rows : List (List (Int × (Int × List Int)))) => w) (fun (rows : List (List (Int × (Int × List Int)))) => Out.rt ((eL (eD PyData.int (eP2 PyData.int (eT PyData.int)))) (let rows_2 : (List (List (Int × (Int × List Int)))) := (way.reverse.foldl (fun (s_ : (List (List (Int × (Int × List Int))))) (p : Int × Option Int) => (let later : List (Int × (Int × List Int)) := (idx s_ (-1)); let best : List (Int × (Int × List Int)) := ([] : List (Int × (Int × List Int))); (let best_2 : (List (Int × (Int × List Int))) := ((rangeI p.1 (tank + 1)).foldl (fun (s__1 : (List (Int × (Int × List Int)))) (units_1 : Int) => (let able_1 : (List (Int × List Int)) := ((rangeI 0 (if p.2.isSome = true then (((tank - units_1) + p.1) + 1) else 1)).foldl (fun (s__2 : (List (Int × List Int))) (more : Int) => (if (lookT later ((units_1 - p.1) + more)).isSome = true then (let p_1 : Int × List Int := ((lookT later ((units_1 - p.1) + more)).getD default); (let able : List (Int × List Int) := s__2 ++ [(((if cost = ("price_of" : Str) then price_of_t p.2 more else one_stop_t p.2 more) + p_1.1), ([more] ++ p_1.2))]; able)) else s__2)) []); (if (!decide (able_1 = [])) = true then (let best_1 : List (Int × (Int × List Int)) := putT s__1 units_1 (minT (lt2 ltI (ltL ltI)) able_1); best_1) else s__1))) best); (let rows_1 : List (List (Int × (Int × List Int))) := s_ ++ [best_2]; rows_1)))) rows); rows_2))) (fun (rows : List (List (Int × (Int × List Int)))) => w) (XS.set (X.lst (XA.cons (X.op1 (X.lcM PyData.int (eP2 PyData.int (eP2 PyData.int (eT PyData.int))) (xs := (rangeI 0 (tank + 1))) [some ((eT (eP2 PyData.int (eO PyData.int))) way), some (PyData.int tank), some (tokF cost), none, none, none, none, none, none, none, none, none, none] (fun (units : Int) => [some ((eT (eP2 PyData.int (eO PyData.int))) way), some (PyData.int tank), some (tokF cost), none, none, none, none, none, some (PyData.int units), none, none, none, none]) (fun (units : Int) => (units, (0, []))) (XA.r1 (X.op2 (X.var 1) (X.k _) (addD_i _ _)) h.1) (fun units => (TG.name 8)) h.2.1 (fun units hx => (X.tup (XA.cons (X.var 8) (XA.cons (X.tup (XA.cons (X.k _) (XA.cons (X.tup XA.nil) XA.nil))) XA.nil))))) (dictD_L KeI ((rangeI 0 (tank + 1)).map (fun (units : Int) => (units, (0, [])))))) XA.nil)) (TG.name 3)) (fun rows hv_9 => (have hq_13 := h.2.2 rows hv_9; (XS.seq1 (way.reverse.foldl (fun (s_ : (List (List (Int × (Int × List Int))))) (p : Int × Option Int) => (let later : List (Int × (Int × List Int)) := (idx s_ (-1)); let best : List (Int × (Int × List Int)) := ([] : List (Int × (Int × List Int))); (let best_2 : (List (Int × (Int × List Int))) := ((rangeI p.1 (tank + 1)).foldl (fun (s__1 : (List (Int × (Int × List Int)))) (units_1 : Int) => (let able_1 : (List (Int × List Int)) := ((rangeI 0 (if p.2.isSome = true then (((tank - units_1) + p.1) + 1) else 1)).foldl (fun (s__2 : (List (Int × List Int))) (more : Int) => (if (lookT later ((units_1 - p.1) + more)).isSome = true then (let p_1 : Int × List Int := ((lookT later ((units_1 - p.1) + more)).getD default); (let able : List (Int × List Int) := s__2 ++ [(((if cost = ("price_of" : Str) then price_of_t p.2 more else one_stop_t p.2 more) + p_1.1), ([more] ++ p_1.2))]; able)) else s__2)) []); (if (!decide (able_1 = [])) = true then (let best_1 : List (Int × (Int × List Int)) := putT s__1 units_1 (minT (lt2 ltI (ltL ltI)) able_1); best_1) else s__1))) best); (let rows_1 : List (List (Int × (Int × List Int))) := s_ ++ [best_2]; rows_1)))) rows) (fun (rows_2 : (List (List (Int × (Int × List Int))))) => [some ((eT (eP2 PyData.int (eO PyData.int))) way), some (PyData.int tank), some (tokF cost), some ((eL (eD PyData.int (eP2 PyData.int (eT PyData.int)))) rows_2), none, none, none, none, none, none, none, none, none]) (fun (rows_2 : (List (List (Int × (Int × List Int))))) => w) (fun (rows_2 : (List (List (Int × (Int × List Int))))) => Out.rt ((eL (eD PyData.int (eP2 PyData.int (eT PyData.int)))) rows_2)) (fun (rows_2 : (List (List (Int × (Int × List Int))))) => w) (XS.for (eP2 PyData.int (eO PyData.int)) (xs := way.reverse) rows (fun (s_ : (List (List (Int × (Int × List Int))))) => [some ((eT (eP2 PyData.int (eO PyData.int))) way), some (PyData.int tank), some (tokF cost), some ((eL (eD PyData.int (eP2 PyData.int (eT PyData.int)))) s_), none, none, none, none, none, none, none, none, none]) (fun _ => w) (fun (s_ : (List (List (Int × (Int × List Int))))) (p : Int × Option Int) => [some ((eT (eP2 PyData.int (eO PyData.int))) way), some (PyData.int tank), some (tokF cost), some ((eL (eD PyData.int (eP2 PyData.int (eT PyData.int)))) s_), some (PyData.int p.1), some ((eO PyData.int) p.2), none, none, none, none, none, none, none]) (fun (s_ : (List (List (Int × (Int × List Int))))) (p : Int × Option Int) => (let later : List (Int × (Int × List Int)) := (idx s_ (-1)); let best : List (Int × (Int × List Int)) := ([] : List (Int × (Int × List Int))); (let best_2 : (List (Int × (Int × List Int))) := ((rangeI p.1 (tank + 1)).foldl (fun (s__1 : (List (Int × (Int × List Int)))) (units_1 : Int) => (let able_1 : (List (Int × List Int)) := ((rangeI 0 (if p.2.isSome = true then (((tank - units_1) + p.1) + 1) else 1)).foldl (fun (s__2 : (List (Int × List Int))) (more : Int) => (if (lookT later ((units_1 - p.1) + more)).isSome = true then (let p_1 : Int × List Int := ((lookT later ((units_1 - p.1) + more)).getD default); (let able : List (Int × List Int) := s__2 ++ [(((if cost = ("price_of" : Str) then price_of_t p.2 more else one_stop_t p.2 more) + p_1.1), ([more] ++ p_1.2))]; able)) else s__2)) []); (if (!decide (able_1 = [])) = true then (let best_1 : List (Int × (Int × List Int)) := putT s__1 units_1 (minT (lt2 ltI (ltL ltI)) able_1); best_1) else s__1))) best); (let rows_1 : List (List (Int × (Int × List Int))) := s_ ++ [best_2]; rows_1)))) (fun (s_ : (List (List (Int × (Int × List Int))))) (p : Int × Option Int) => InR s_ (-1) ∧ (∀ later : List (Int × (Int × List Int)), later = (idx s_ (-1)) → ∀ best : List (Int × (Int × List Int)), best = ([] : List (Int × (Int × List Int))) → I62 p.1 ∧ I62 (tank + 1) ∧ (OkF (fun (s__1 : (List (Int × (Int × List Int)))) (units_1 : Int) => I62 (if p.2.isSome = true then (((tank - units_1) + p.1) + 1) else 1) ∧ (OkF (fun (s__2 : (List (Int × List Int))) (more : Int) => ((lookT later ((units_1 - p.1) + more)).isSome) = true → (lookT later ((units_1 - p.1) + more)).isSome = true ∧ (∀ p_1 : Int × List Int, p_1 = ((lookT later ((units_1 - p.1) + more)).getD default) → (cost = ("price_of" : Str) → price_of_ok p.2 more) ∧ (cost = ("price_of" : Str) ∨ cost = ("one_stop" : Str)) ∧ [more].length + p_1.2.length ≤ sizeLine ∧ s__2.length < sizeLine)) (fun (s__2 : (List (Int × List Int))) (more : Int) => (if (lookT later ((units_1 - p.1) + more)).isSome = true then (let p_1 : Int × List Int := ((lookT later ((units_1 - p.1) + more)).getD default); (let able : List (Int × List Int) := s__2 ++ [(((if cost = ("price_of" : Str) then price_of_t p.2 more else one_stop_t p.2 more) + p_1.1), ([more] ++ p_1.2))]; able)) else s__2)) [] (rangeI 0 (if p.2.isSome = true then (((tank - units_1) + p.1) + 1) else 1))) ∧ (∀ able_1 : (List (Int × List Int)), able_1 = ((rangeI 0 (if p.2.isSome = true then (((tank - units_1) + p.1) + 1) else 1)).foldl (fun (s__2 : (List (Int × List Int))) (more : Int) => (if (lookT later ((units_1 - p.1) + more)).isSome = true then (let p_1 : Int × List Int := ((lookT later ((units_1 - p.1) + more)).getD default); (let able : List (Int × List Int) := s__2 ++ [(((if cost = ("price_of" : Str) then price_of_t p.2 more else one_stop_t p.2 more) + p_1.1), ([more] ++ p_1.2))]; able)) else s__2)) []) → (!decide (able_1 = [])) = true → able_1 ≠ [] ∧ s__1.length < sizeLine)) (fun (s__1 : (List (Int × (Int × List Int)))) (units_1 : Int) => (let able_1 : (List (Int × List Int)) := ((rangeI 0 (if p.2.isSome = true then (((tank - units_1) + p.1) + 1) else 1)).foldl (fun (s__2 : (List (Int × List Int))) (more : Int) => (if (lookT later ((units_1 - p.1) + more)).isSome = true then (let p_1 : Int × List Int := ((lookT later ((units_1 - p.1) + more)).getD default); (let able : List (Int × List Int) := s__2 ++ [(((if cost = ("price_of" : Str) then price_of_t p.2 more else one_stop_t p.2 more) + p_1.1), ([more] ++ p_1.2))]; able)) else s__2)) []); (if (!decide (able_1 = [])) = true then (let best_1 : List (Int × (Int × List Int)) := putT s__1 units_1 (minT (lt2 ltI (ltL ltI)) able_1); best_1) else s__1))) best (rangeI p.1 (tank + 1))) ∧ (∀ best_2 : (List (Int × (Int × List Int))), best_2 = ((rangeI p.1 (tank + 1)).foldl (fun (s__1 : (List (Int × (Int × List Int)))) (units_1 : Int) => (let able_1 : (List (Int × List Int)) := ((rangeI 0 (if p.2.isSome = true then (((tank - units_1) + p.1) + 1) else 1)).foldl (fun (s__2 : (List (Int × List Int))) (more : Int) => (if (lookT later ((units_1 - p.1) + more)).isSome = true then (let p_1 : Int × List Int := ((lookT later ((units_1 - p.1) + more)).getD default); (let able : List (Int × List Int) := s__2 ++ [(((if cost = ("price_of" : Str) then price_of_t p.2 more else one_stop_t p.2 more) + p_1.1), ([more] ++ p_1.2))]; able)) else s__2)) []); (if (!decide (able_1 = [])) = true then (let best_1 : List (Int × (Int × List Int)) := putT s__1 units_1 (minT (lt2 ltI (ltL ltI)) able_1); best_1) else s__1))) best) → s_.length < sizeLine))) (XA.seqT (X.op1 (X.var 0) (revTD_T (eP2 PyData.int (eO PyData.int)) way))) (show LE _ _ from .same (.same (.same (.same (.same (.same (.same (.same (.same (.same (.same (.same (.same (.nil)))))))))))))) (fun s_ p => (TG.tup (TGs.cons (TG.name 4) (TGs.cons (TG.name 5) TGs.nil)))) (fun s_ p hx_1 hk => (XS.seq2 (idx s_ (-1)) ([] : List (Int × (Int × List Int))) (fun (later : List (Int × (Int × List Int))) (best : List (Int × (Int × List Int))) => [some ((eT (eP2 PyData.int (eO PyData.int))) way), some (PyData.int tank), some (tokF cost), some ((eL (eD PyData.int (eP2 PyData.int (eT PyData.int)))) s_), some (PyData.int p.1), some ((eO PyData.int) p.2), some ((eD PyData.int (eP2 PyData.int (eT PyData.int))) later), some ((eD PyData.int (eP2 PyData.int (eT PyData.int))) best), none, none, none, none, none]) (fun (later : List (Int × (Int × List Int))) (best : List (Int × (Int × List Int))) => w) (fun (later : List (Int × (Int × List Int))) (best : List (Int × (Int × List Int))) => Out.nx ((fun (st : (List (List (Int × (Int × List Int))))) => [some ((eT (eP2 PyData.int (eO PyData.int))) way), some (PyData.int tank), some (tokF cost), some ((eL (eD PyData.int (eP2 PyData.int (eT PyData.int)))) st), none, none, none, none, none, none, none, none, none]) (let best_2 : (List (Int × (Int × List Int))) := ((rangeI p.1 (tank + 1)).foldl (fun (s__1 : (List (Int × (Int × List Int)))) (units_1 : Int) => (let able_1 : (List (Int × List Int)) := ((rangeI 0 (if p.2.isSome = true then (((tank - units_1) + p.1) + 1) else 1)).foldl (fun (s__2 : (List (Int × List Int))) (more : Int) => (if (lookT later ((units_1 - p.1) + more)).isSome = true then (let p_1 : Int × List Int := ((lookT later ((units_1 - p.1) + more)).getD default); (let able : List (Int × List Int) := s__2 ++ [(((if cost = ("price_of" : Str) then price_of_t p.2 more else one_stop_t p.2 more) + p_1.1), ([more] ++ p_1.2))]; able)) else s__2)) []); (if (!decide (able_1 = [])) = true then (let best_1 : List (Int × (Int × List Int)) := putT s__1 units_1 (minT (lt2 ltI (ltL ltI)) able_1); best_1) else s__1))) best); (let rows_1 : List (List (Int × (Int × List Int))) := s_ ++ [best_2]; rows_1)))) (fun (later : List (Int × (Int × List Int))) (best : List (Int × (Int × List Int))) => w) (XS.par (XA.cons (X.op2 (X.var 3) (X.op1 (X.k _) (negD_i _)) (ixAD_L (eD PyData.int (eP2 PyData.int (eT PyData.int))) hk.1)) (XA.cons (X.k _) XA.nil)) (TGs.cons (TG.name 6) (TGs.cons (TG.name 7) TGs.nil))) (fun later hv_6 best hv_7 => (have hq_12 := hk.2 later hv_6 best hv_7; (XS.seq1 ((rangeI p.1 (tank + 1)).foldl (fun (s__1 : (List (Int × (Int × List Int)))) (units_1 : Int) => (let able_1 : (List (Int × List Int)) := ((rangeI 0 (if p.2.isSome = true then (((tank - units_1) + p.1) + 1) else 1)).foldl (fun (s__2 : (List (Int × List Int))) (more : Int) => (if (lookT later ((units_1 - p.1) + more)).isSome = true then (let p_1 : Int × List Int := ((lookT later ((units_1 - p.1) + more)).getD default); (let able : List (Int × List Int) := s__2 ++ [(((if cost = ("price_of" : Str) then price_of_t p.2 more else one_stop_t p.2 more) + p_1.1), ([more] ++ p_1.2))]; able)) else s__2)) []); (if (!decide (able_1 = [])) = true then (let best_1 : List (Int × (Int × List Int)) := putT s__1 units_1 (minT (lt2 ltI (ltL ltI)) able_1); best_1) else s__1))) best) (fun (best_2 : (List (Int × (Int × List Int)))) => [some ((eT (eP2 PyData.int (eO PyData.int))) way), some (PyData.int tank), some (tokF cost), some ((eL (eD PyData.int (eP2 PyData.int (eT PyData.int)))) s_), some (PyData.int p.1), some ((eO PyData.int) p.2), some ((eD PyData.int (eP2 PyData.int (eT PyData.int))) later), some ((eD PyData.int (eP2 PyData.int (eT PyData.int))) best_2), none, none, none, none, none]) (fun (best_2 : (List (Int × (Int × List Int)))) => w) (fun (best_2 : (List (Int × (Int × List Int)))) => Out.nx ((fun (st : (List (List (Int × (Int × List Int))))) => [some ((eT (eP2 PyData.int (eO PyData.int))) way), some (PyData.int tank), some (tokF cost), some ((eL (eD PyData.int (eP2 PyData.int (eT PyData.int)))) st), none, none, none, none, none, none, none, none, none]) (let rows_1 : List (List (Int × (Int × List Int))) := s_ ++ [best_2]; rows_1))) (fun (best_2 : (List (Int × (Int × List Int)))) => w) (XS.for PyData.int (xs := (rangeI p.1 (tank + 1))) best (fun (s__1 : (List (Int × (Int × List Int)))) => [some ((eT (eP2 PyData.int (eO PyData.int))) way), some (PyData.int tank), some (tokF cost), some ((eL (eD PyData.int (eP2 PyData.int (eT PyData.int)))) s_), some (PyData.int p.1), some ((eO PyData.int) p.2), some ((eD PyData.int (eP2 PyData.int (eT PyData.int))) later), some ((eD PyData.int (eP2 PyData.int (eT PyData.int))) s__1), none, none, none, none, none]) (fun _ => w) (fun (s__1 : (List (Int × (Int × List Int)))) (units_1 : Int) => [some ((eT (eP2 PyData.int (eO PyData.int))) way), some (PyData.int tank), some (tokF cost), some ((eL (eD PyData.int (eP2 PyData.int (eT PyData.int)))) s_), some (PyData.int p.1), some ((eO PyData.int) p.2), some ((eD PyData.int (eP2 PyData.int (eT PyData.int))) later), some ((eD PyData.int (eP2 PyData.int (eT PyData.int))) s__1), some (PyData.int units_1), none, none, none, none]) (fun (s__1 : (List (Int × (Int × List Int)))) (units_1 : Int) => (let able_1 : (List (Int × List Int)) := ((rangeI 0 (if p.2.isSome = true then (((tank - units_1) + p.1) + 1) else 1)).foldl (fun (s__2 : (List (Int × List Int))) (more : Int) => (if (lookT later ((units_1 - p.1) + more)).isSome = true then (let p_1 : Int × List Int := ((lookT later ((units_1 - p.1) + more)).getD default); (let able : List (Int × List Int) := s__2 ++ [(((if cost = ("price_of" : Str) then price_of_t p.2 more else one_stop_t p.2 more) + p_1.1), ([more] ++ p_1.2))]; able)) else s__2)) []); (if (!decide (able_1 = [])) = true then (let best_1 : List (Int × (Int × List Int)) := putT s__1 units_1 (minT (lt2 ltI (ltL ltI)) able_1); best_1) else s__1))) (fun (s__1 : (List (Int × (Int × List Int)))) (units_1 : Int) => I62 (if p.2.isSome = true then (((tank - units_1) + p.1) + 1) else 1) ∧ (OkF (fun (s__2 : (List (Int × List Int))) (more : Int) => ((lookT later ((units_1 - p.1) + more)).isSome) = true → (lookT later ((units_1 - p.1) + more)).isSome = true ∧ (∀ p_1 : Int × List Int, p_1 = ((lookT later ((units_1 - p.1) + more)).getD default) → (cost = ("price_of" : Str) → price_of_ok p.2 more) ∧ (cost = ("price_of" : Str) ∨ cost = ("one_stop" : Str)) ∧ [more].length + p_1.2.length ≤ sizeLine ∧ s__2.length < sizeLine)) (fun (s__2 : (List (Int × List Int))) (more : Int) => (if (lookT later ((units_1 - p.1) + more)).isSome = true then (let p_1 : Int × List Int := ((lookT later ((units_1 - p.1) + more)).getD default); (let able : List (Int × List Int) := s__2 ++ [(((if cost = ("price_of" : Str) then price_of_t p.2 more else one_stop_t p.2 more) + p_1.1), ([more] ++ p_1.2))]; able)) else s__2)) [] (rangeI 0 (if p.2.isSome = true then (((tank - units_1) + p.1) + 1) else 1))) ∧ (∀ able_1 : (List (Int × List Int)), able_1 = ((rangeI 0 (if p.2.isSome = true then (((tank - units_1) + p.1) + 1) else 1)).foldl (fun (s__2 : (List (Int × List Int))) (more : Int) => (if (lookT later ((units_1 - p.1) + more)).isSome = true then (let p_1 : Int × List Int := ((lookT later ((units_1 - p.1) + more)).getD default); (let able : List (Int × List Int) := s__2 ++ [(((if cost = ("price_of" : Str) then price_of_t p.2 more else one_stop_t p.2 more) + p_1.1), ([more] ++ p_1.2))]; able)) else s__2)) []) → (!decide (able_1 = [])) = true → able_1 ≠ [] ∧ s__1.length < sizeLine)) (XA.r2 (X.var 4) (X.op2 (X.var 1) (X.k _) (addD_i _ _)) hq_12.1 hq_12.2.1) (show LE _ _ from .same (.same (.same (.same (.same (.same (.same (.same (.same (.same (.same (.same (.same (.nil)))))))))))))) (fun s__1 units_1 => (TG.name 8)) (fun s__1 units_1 hx_2 hk_1 => (XS.seqd (XS.set (X.lst XA.nil) (TG.name 9)) (XS.seq1 ((rangeI 0 (if p.2.isSome = true then (((tank - units_1) + p.1) + 1) else 1)).foldl (fun (s__2 : (List (Int × List Int))) (more : Int) => (if (lookT later ((units_1 - p.1) + more)).isSome = true then (let p_1 : Int × List Int := ((lookT later ((units_1 - p.1) + more)).getD default); (let able : List (Int × List Int) := s__2 ++ [(((if cost = ("price_of" : Str) then price_of_t p.2 more else one_stop_t p.2 more) + p_1.1), ([more] ++ p_1.2))]; able)) else s__2)) []) (fun (able_1 : (List (Int × List Int))) => [some ((eT (eP2 PyData.int (eO PyData.int))) way), some (PyData.int tank), some (tokF cost), some ((eL (eD PyData.int (eP2 PyData.int (eT PyData.int)))) s_), some (PyData.int p.1), some ((eO PyData.int) p.2), some ((eD PyData.int (eP2 PyData.int (eT PyData.int))) later), some ((eD PyData.int (eP2 PyData.int (eT PyData.int))) s__1), some (PyData.int units_1), some ((eL (eP2 PyData.int (eT PyData.int))) able_1), none, none, none]) (fun (able_1 : (List (Int × List Int))) => w) (fun (able_1 : (List (Int × List Int))) => Out.nx ((fun (st : (List (Int × (Int × List Int)))) => [some ((eT (eP2 PyData.int (eO PyData.int))) way), some (PyData.int tank), some (tokF cost), some ((eL (eD PyData.int (eP2 PyData.int (eT PyData.int)))) s_), some (PyData.int p.1), some ((eO PyData.int) p.2), some ((eD PyData.int (eP2 PyData.int (eT PyData.int))) later), some ((eD PyData.int (eP2 PyData.int (eT PyData.int))) st), none, none, none, none, none]) (if (!decide (able_1 = [])) = true then (let best_1 : List (Int × (Int × List Int)) := putT s__1 units_1 (minT (lt2 ltI (ltL ltI)) able_1); best_1) else s__1))) (fun (able_1 : (List (Int × List Int))) => w) (XS.for PyData.int (xs := (rangeI 0 (if p.2.isSome = true then (((tank - units_1) + p.1) + 1) else 1))) [] (fun (s__2 : (List (Int × List Int))) => [some ((eT (eP2 PyData.int (eO PyData.int))) way), some (PyData.int tank), some (tokF cost), some ((eL (eD PyData.int (eP2 PyData.int (eT PyData.int)))) s_), some (PyData.int p.1), some ((eO PyData.int) p.2), some ((eD PyData.int (eP2 PyData.int (eT PyData.int))) later), some ((eD PyData.int (eP2 PyData.int (eT PyData.int))) s__1), some (PyData.int units_1), some ((eL (eP2 PyData.int (eT PyData.int))) s__2), none, none, none]) (fun _ => w) (fun (s__2 : (List (Int × List Int))) (more : Int) => [some ((eT (eP2 PyData.int (eO PyData.int))) way), some (PyData.int tank), some (tokF cost), some ((eL (eD PyData.int (eP2 PyData.int (eT PyData.int)))) s_), some (PyData.int p.1), some ((eO PyData.int) p.2), some ((eD PyData.int (eP2 PyData.int (eT PyData.int))) later), some ((eD PyData.int (eP2 PyData.int (eT PyData.int))) s__1), some (PyData.int units_1), some ((eL (eP2 PyData.int (eT PyData.int))) s__2), some (PyData.int more), none, none]) (fun (s__2 : (List (Int × List Int))) (more : Int) => (if (lookT later ((units_1 - p.1) + more)).isSome = true then (let p_1 : Int × List Int := ((lookT later ((units_1 - p.1) + more)).getD default); (let able : List (Int × List Int) := s__2 ++ [(((if cost = ("price_of" : Str) then price_of_t p.2 more else one_stop_t p.2 more) + p_1.1), ([more] ++ p_1.2))]; able)) else s__2)) (fun (s__2 : (List (Int × List Int))) (more : Int) => ((lookT later ((units_1 - p.1) + more)).isSome) = true → (lookT later ((units_1 - p.1) + more)).isSome = true ∧ (∀ p_1 : Int × List Int, p_1 = ((lookT later ((units_1 - p.1) + more)).getD default) → (cost = ("price_of" : Str) → price_of_ok p.2 more) ∧ (cost = ("price_of" : Str) ∨ cost = ("one_stop" : Str)) ∧ [more].length + p_1.2.length ≤ sizeLine ∧ s__2.length < sizeLine)) (XA.r1 (X.if PyData.int (u := (((tank - units_1) + p.1) + 1)) (v := 1) (XT.cmp (X.var 5) (X.k _) (isNotND_O NN.i p.2)) (fun hk_2 => (X.op2 (X.op2 (X.op2 (X.var 1) (X.var 8) (subD_i _ _)) (X.var 4) (addD_i _ _)) (X.k _) (addD_i _ _))) (fun hk_2 => (X.k _))) (hk_1).1) (show LE _ _ from .same (.same (.same (.same (.same (.same (.same (.same (.same (.same (.same (.same (.same (.nil)))))))))))))) (fun s__2 more => (TG.name 10)) (fun s__2 more hx_3 hk_3 => (XS.if (fun (st : (List (Int × List Int))) => Out.nx [some ((eT (eP2 PyData.int (eO PyData.int))) way), some (PyData.int tank), some (tokF cost), some ((eL (eD PyData.int (eP2 PyData.int (eT PyData.int)))) s_), some (PyData.int p.1), some ((eO PyData.int) p.2), some ((eD PyData.int (eP2 PyData.int (eT PyData.int))) later), some ((eD PyData.int (eP2 PyData.int (eT PyData.int))) s__1), some (PyData.int units_1), some ((eL (eP2 PyData.int (eT PyData.int))) st), none, none, none]) (XT.cmp (X.op2 (X.op2 (X.var 8) (X.var 4) (subD_i _ _)) (X.var 10) (addD_i _ _)) (X.var 6) (inAD_D KeI ((units_1 - p.1) + more) later)) (fun hk_4 => (have hq_8 := hk_3 hk_4; (XS.seq1 ((lookT later ((units_1 - p.1) + more)).getD default) (fun (p_1 : Int × List Int) => [some ((eT (eP2 PyData.int (eO PyData.int))) way), some (PyData.int tank), some (tokF cost), some ((eL (eD PyData.int (eP2 PyData.int (eT PyData.int)))) s_), some (PyData.int p.1), some ((eO PyData.int) p.2), some ((eD PyData.int (eP2 PyData.int (eT PyData.int))) later), some ((eD PyData.int (eP2 PyData.int (eT PyData.int))) s__1), some (PyData.int units_1), some ((eL (eP2 PyData.int (eT PyData.int))) s__2), some (PyData.int more), some (PyData.int p_1.1), some ((eT PyData.int) p_1.2)]) (fun (p_1 : Int × List Int) => w) (fun (p_1 : Int × List Int) => Out.nx ((fun (st : (List (Int × List Int))) => [some ((eT (eP2 PyData.int (eO PyData.int))) way), some (PyData.int tank), some (tokF cost), some ((eL (eD PyData.int (eP2 PyData.int (eT PyData.int)))) s_), some (PyData.int p.1), some ((eO PyData.int) p.2), some ((eD PyData.int (eP2 PyData.int (eT PyData.int))) later), some ((eD PyData.int (eP2 PyData.int (eT PyData.int))) s__1), some (PyData.int units_1), some ((eL (eP2 PyData.int (eT PyData.int))) st), none, none, none]) (let able : List (Int × List Int) := s__2 ++ [(((if cost = ("price_of" : Str) then price_of_t p.2 more else one_stop_t p.2 more) + p_1.1), ([more] ++ p_1.2))]; able))) (fun (p_1 : Int × List Int) => w) (XS.set (X.op2 (X.var 6) (X.op2 (X.op2 (X.var 8) (X.var 4) (subD_i _ _)) (X.var 10) (addD_i _ _)) (ixAD_D (e := (eP2 PyData.int (eT PyData.int))) KeI hq_8.1)) (TG.tup (TGs.cons (TG.name 11) (TGs.cons (TG.name 12) TGs.nil)))) (fun p_1 hv_1 => (have hq_7 := hq_8.2 p_1 hv_1; (XS.seqPass (XS.seq1 (s__2 ++ [(((if cost = ("price_of" : Str) then price_of_t p.2 more else one_stop_t p.2 more) + p_1.1), ([more] ++ p_1.2))]) (fun (able : List (Int × List Int)) => [some ((eT (eP2 PyData.int (eO PyData.int))) way), some (PyData.int tank), some (tokF cost), some ((eL (eD PyData.int (eP2 PyData.int (eT PyData.int)))) s_), some (PyData.int p.1), some ((eO PyData.int) p.2), some ((eD PyData.int (eP2 PyData.int (eT PyData.int))) later), some ((eD PyData.int (eP2 PyData.int (eT PyData.int))) s__1), some (PyData.int units_1), some ((eL (eP2 PyData.int (eT PyData.int))) able), some (PyData.int more), some (PyData.int p_1.1), some ((eT PyData.int) p_1.2)]) (fun (able : List (Int × List Int)) => w) (fun (able : List (Int × List Int)) => Out.nx ((fun (st : (List (Int × List Int))) => [some ((eT (eP2 PyData.int (eO PyData.int))) way), some (PyData.int tank), some (tokF cost), some ((eL (eD PyData.int (eP2 PyData.int (eT PyData.int)))) s_), some (PyData.int p.1), some ((eO PyData.int) p.2), some ((eD PyData.int (eP2 PyData.int (eT PyData.int))) later), some ((eD PyData.int (eP2 PyData.int (eT PyData.int))) s__1), some (PyData.int units_1), some ((eL (eP2 PyData.int (eT PyData.int))) st), none, none, none]) able)) (fun (able : List (Int × List Int)) => w) (XS.app 9 (eP2 PyData.int (eT PyData.int)) (v := (((if cost = ("price_of" : Str) then price_of_t p.2 more else one_stop_t p.2 more) + p_1.1), ([more] ++ p_1.2))) (X.tup (XA.cons (X.op2 (X.callV2 2 PyData.int (XA.cons (X.var 5) (XA.cons (X.var 10) XA.nil)) hq_7.2.1 (fun hf => price_of_tie p.2 more (hq_7.1 hf) _) (fun hf => one_stop_tie p.2 more _)) (X.var 11) (addD_i _ _)) (XA.cons (X.op2 (X.tup (XA.cons (X.var 10) XA.nil)) (X.var 12) (addD_T PyData.int [more] p_1.2 hq_7.2.2.1)) XA.nil))) hq_7.2.2.2) (fun able hv => (XS.wpass (show LE _ _ from .same (.same (.same (.same (.same (.same (.same (.same (.same (.same (.skip (.skip (.skip (.nil))))))))))))))))))))))) (fun hk_4 => (XS.wpass (show LE _ _ from .same (.same (.same (.same (.same (.same (.same (.same (.same (.same (.skip (.same (.same (.nil)))))))))))))))))) (hk_1).2.1) (fun able_1 hv_3 => (have hq_10 := (hk_1).2.2 able_1 hv_3; (XS.if (fun (st : (List (Int × (Int × List Int)))) => Out.nx [some ((eT (eP2 PyData.int (eO PyData.int))) way), some (PyData.int tank), some (tokF cost), some ((eL (eD PyData.int (eP2 PyData.int (eT PyData.int)))) s_), some (PyData.int p.1), some ((eO PyData.int) p.2), some ((eD PyData.int (eP2 PyData.int (eT PyData.int))) later), some ((eD PyData.int (eP2 PyData.int (eT PyData.int))) st), none, none, none, none, none]) (XT.cmp (X.var 9) (X.lst XA.nil) (neE (EqL (show EqE (eP2 PyData.int (eT PyData.int)) _ from EqR.tup (EqR.cons EqI (EqR.one (EqT EqI))))) (by decide) able_1 [])) (fun hk_5 => (have hq_9 := hq_10 hk_5; (XS.seqPass (XS.seq1 (putT s__1 units_1 (minT (lt2 ltI (ltL ltI)) able_1)) (fun (best_1 : List (Int × (Int × List Int))) => [some ((eT (eP2 PyData.int (eO PyData.int))) way), some (PyData.int tank), some (tokF cost), some ((eL (eD PyData.int (eP2 PyData.int (eT PyData.int)))) s_), some (PyData.int p.1), some ((eO PyData.int) p.2), some ((eD PyData.int (eP2 PyData.int (eT PyData.int))) later), some ((eD PyData.int (eP2 PyData.int (eT PyData.int))) best_1), some (PyData.int units_1), some ((eL (eP2 PyData.int (eT PyData.int))) able_1), none, none, none]) (fun (best_1 : List (Int × (Int × List Int))) => w) (fun (best_1 : List (Int × (Int × List Int))) => Out.nx ((fun (st : (List (Int × (Int × List Int)))) => [some ((eT (eP2 PyData.int (eO PyData.int))) way), some (PyData.int tank), some (tokF cost), some ((eL (eD PyData.int (eP2 PyData.int (eT PyData.int)))) s_), some (PyData.int p.1), some ((eO PyData.int) p.2), some ((eD PyData.int (eP2 PyData.int (eT PyData.int))) later), some ((eD PyData.int (eP2 PyData.int (eT PyData.int))) st), none, none, none, none, none]) best_1)) (fun (best_1 : List (Int × (Int × List Int))) => w) (XS.putK 7 (eP2 PyData.int (eT PyData.int)) KeI (X.op1 (X.var 9) (minD1_L (show OrE (eP2 PyData.int (eT PyData.int)) _ (lt2 ltI (ltL ltI)) from OrR.tup (OrR.cons OrI (OrR.one (OrT OrI)))) (by decide) hq_9.1)) (X.var 8) hq_9.2) (fun best_1 hv_2 => (XS.wpass (show LE _ _ from .same (.same (.same (.same (.same (.same (.same (.same (.skip (.skip (.same (.same (.same (.nil)))))))))))))))))))) (fun hk_5 => (XS.wpass (show LE _ _ from .same (.same (.same (.same (.same (.same (.same (.same (.skip (.skip (.same (.same (.same (.nil)))))))))))))))))))))) hq_12.2.2.1) (fun best_2 hv_5 => (have hq_11 := hq_12.2.2.2 best_2 hv_5; (XS.seqPass (XS.seq1 (s_ ++ [best_2]) (fun (rows_1 : List (List (Int × (Int × List Int)))) => [some ((eT (eP2 PyData.int (eO PyData.int))) way), some (PyData.int tank), some (tokF cost), some ((eL (eD PyData.int (eP2 PyData.int (eT PyData.int)))) rows_1), some (PyData.int p.1), some ((eO PyData.int) p.2), some ((eD PyData.int (eP2 PyData.int (eT PyData.int))) later), some ((eD PyData.int (eP2 PyData.int (eT PyData.int))) best_2), none, none, none, none, none]) (fun (rows_1 : List (List (Int × (Int × List Int)))) => w) (fun (rows_1 : List (List (Int × (Int × List Int)))) => Out.nx ((fun (st : (List (List (Int × (Int × List Int))))) => [some ((eT (eP2 PyData.int (eO PyData.int))) way), some (PyData.int tank), some (tokF cost), some ((eL (eD PyData.int (eP2 PyData.int (eT PyData.int)))) st), none, none, none, none, none, none, none, none, none]) rows_1)) (fun (rows_1 : List (List (Int × (Int × List Int)))) => w) (XS.app 3 (eD PyData.int (eP2 PyData.int (eT PyData.int))) (v := best_2) (X.var 7) hq_11) (fun rows_1 hv_4 => (XS.wpass (show LE _ _ from .same (.same (.same (.same (.skip (.skip (.skip (.skip (.same (.same (.same (.same (.same (.nil))))))))))))))))))))))))) hq_13) (fun rows_2 hv_8 => (XS.ret (X.var 3)))))))
/-! cheapest_fill -/
def cheapest_fill_t (way : List (Int × Option Int)) (tank : Int) (begin : Int) : Option (Int × List Int) := (lookT (idx (fills_from_t way tank ("price_of" : Str)) (-1)) begin)
def cheapest_fill_ok (way : List (Int × Option Int)) (tank : Int) (begin : Int) : Prop := fills_from_ok way tank ("price_of" : Str) ∧ InR (fills_from_t way tank ("price_of" : Str)) (-1)
theorem cheapest_fill_tie (way : List (Int × Option Int)) (tank : Int) (begin : Int) (h : cheapest_fill_ok way tank begin) (w : Wd) : f_cheapest_fill [(eT (eP2 PyData.int (eO PyData.int))) way, PyData.int tank, PyData.int begin] w = some ((eO (eP2 PyData.int (eT PyData.int))) (cheapest_fill_t way tank begin), w) := fn_tie (XS.ret (X.op2 (X.op2 (X.call (XA.cons (X.var 0) (XA.cons (X.var 1) (XA.cons (X.k _) XA.nil))) (fills_from_tie way tank ("price_of" : Str) h.1 _)) (X.op1 (X.k _) (negD_i _)) (ixAD_L (eD PyData.int (eP2 PyData.int (eT PyData.int))) h.2)) (X.var 2) (getAD_D (e := (eP2 PyData.int (eT PyData.int))) KeI begin (idx (fills_from_t way tank ("price_of" : Str)) (-1)))))
/-! fewest_stops -/
def fewest_stops_t (way : List (Int × Option Int)) (tank : Int) (begin : Int) : Option Int := (let told : Option (Int × List Int) := (lookT (idx (fills_from_t way tank ("one_stop" : Str)) (-1)) begin); (if told.isSome = true then (some ((told.getD default).1)) else (none : Option Int)))
def fewest_stops_ok (way : List (Int × Option Int)) (tank : Int) (begin : Int) : Prop := fills_from_ok way tank ("one_stop" : Str) ∧ InR (fills_from_t way tank ("one_stop" : Str)) (-1) ∧ (∀ told : Option (Int × List Int), told = (lookT (idx (fills_from_t way tank ("one_stop" : Str)) (-1)) begin) → told.isSome = true → told.isSome = true)
theorem fewest_stops_tie (way : List (Int × Option Int)) (tank : Int) (begin : Int) (h : fewest_stops_ok way tank begin) (w : Wd) : f_fewest_stops [(eT (eP2 PyData.int (eO PyData.int))) way, PyData.int tank, PyData.int begin] w = some ((eO PyData.int) (fewest_stops_t way tank begin), w) := fn_tie (XS.seq1 (lookT (idx (fills_from_t way tank ("one_stop" : Str)) (-1)) begin) (fun (told : Option (Int × List Int)) => [some ((eT (eP2 PyData.int (eO PyData.int))) way), some (PyData.int tank), some (PyData.int begin), some ((eO (eP2 PyData.int (eT PyData.int))) told)]) (fun (told : Option (Int × List Int)) => w) (fun (told : Option (Int × List Int)) => Out.rt ((eO PyData.int) (if told.isSome = true then (some ((told.getD default).1)) else (none : Option Int)))) (fun (told : Option (Int × List Int)) => w) (XS.set (X.op2 (X.op2 (X.call (XA.cons (X.var 0) (XA.cons (X.var 1) (XA.cons (X.k _) XA.nil))) (fills_from_tie way tank ("one_stop" : Str) h.1 _)) (X.op1 (X.k _) (negD_i _)) (ixAD_L (eD PyData.int (eP2 PyData.int (eT PyData.int))) h.2.1)) (X.var 2) (getAD_D (e := (eP2 PyData.int (eT PyData.int))) KeI begin (idx (fills_from_t way tank ("one_stop" : Str)) (-1)))) (TG.name 3)) (fun told hv => (have hq_15 := h.2.2 told hv; (XS.ret (X.if (eO PyData.int) (u := (some ((told.getD default).1))) (v := (none : Option Int)) (XT.cmp (X.var 3) (X.k _) (isNotND_O NN.t told)) (fun hk => (have hq_14 := hq_15 hk; (X.op2 (X.get (e := (eP2 PyData.int (eT PyData.int))) (X.var 3) hq_14) (X.k _) ixAD_P))) (fun hk => (X.k _)))))))
/-! law_stuck -/
def law_stuck_t (way : List (Int × Option Int)) (tank : Int) (begin : Int) : Option Int := ((loopT (fun (s_ : Int) (k_ : Int) => ((if (decide (s_ < (idx way k_).1)) = true then (Stp.ret (some k_)) else (let now : Int := (if ((idx way k_).2).isNone = true then (s_ - (idx way k_).1) else tank); (Stp.nx now))) : Stp (Option Int) Int)) begin (rangeI 0 (way.length : Int))).el (fun r => r) (fun (s__1 : Int) => (none : Option Int)))
def law_stuck_ok (way : List (Int × Option Int)) (tank : Int) (begin : Int) : Prop := I62 (way.length : Int) ∧ (OkL (fun (s_ : Int) (k_ : Int) => InR way k_ ∧ ((decide (s_ < (idx way k_).1)) = false → InR way k_ ∧ ((((idx way k_).2).isNone) = true → InR way k_))) (fun (s_ : Int) (k_ : Int) => ((if (decide (s_ < (idx way k_).1)) = true then (Stp.ret (some k_)) else (let now : Int := (if ((idx way k_).2).isNone = true then (s_ - (idx way k_).1) else tank); (Stp.nx now))) : Stp (Option Int) Int)) begin (rangeI 0 (way.length : Int)))
theorem law_stuck_tie (way : List (Int × Option Int)) (tank : Int) (begin : Int) (h : law_stuck_ok way tank begin) (w : Wd) : f_law_stuck [(eT (eP2 PyData.int (eO PyData.int))) way, PyData.int tank, PyData.int begin] w = some ((eO PyData.int) (law_stuck_t way tank begin), w) := fn_tie (XS.seqd (XS.set (X.var 2) (TG.name 3)) (XS.seqR (eO PyData.int) (fun (s_ : Int) => [some ((eT (eP2 PyData.int (eO PyData.int))) way), some (PyData.int tank), some (PyData.int begin), some (PyData.int s_), none]) (loopT (fun (s_ : Int) (k_ : Int) => ((if (decide (s_ < (idx way k_).1)) = true then (Stp.ret (some k_)) else (let now : Int := (if ((idx way k_).2).isNone = true then (s_ - (idx way k_).1) else tank); (Stp.nx now))) : Stp (Option Int) Int)) begin (rangeI 0 (way.length : Int))) (fun r => Out.rt ((eO PyData.int) r)) (fun r => r) (fun (s__1 : Int) => (none : Option Int)) (XS.forR PyData.int (eO PyData.int) (xs := (rangeI 0 (way.length : Int))) begin (fun (s_ : Int) => [some ((eT (eP2 PyData.int (eO PyData.int))) way), some (PyData.int tank), some (PyData.int begin), some (PyData.int s_), none]) (fun (s_ : Int) (k_ : Int) => [some ((eT (eP2 PyData.int (eO PyData.int))) way), some (PyData.int tank), some (PyData.int begin), some (PyData.int s_), some (PyData.int k_)]) (fun (s_ : Int) (k_ : Int) => ((if (decide (s_ < (idx way k_).1)) = true then (Stp.ret (some k_)) else (let now : Int := (if ((idx way k_).2).isNone = true then (s_ - (idx way k_).1) else tank); (Stp.nx now))) : Stp (Option Int) Int)) (fun (s_ : Int) (k_ : Int) => InR way k_ ∧ ((decide (s_ < (idx way k_).1)) = false → InR way k_ ∧ ((((idx way k_).2).isNone) = true → InR way k_))) (XA.r1 (X.op1 (X.var 0) (lenD_T (eP2 PyData.int (eO PyData.int)) way)) (h).1) (show LE _ _ from .same (.same (.same (.same (.same (.nil)))))) (fun s_ k_ => (TG.name 4)) (fun s_ k_ hx hk => (XS.dist (XS.if (outS (eO PyData.int) (fun (st : Int) => [some ((eT (eP2 PyData.int (eO PyData.int))) way), some (PyData.int tank), some (PyData.int begin), some (PyData.int st), none])) (XT.cmp (X.op2 (X.op2 (X.var 0) (X.var 4) (ixAD_T (eP2 PyData.int (eO PyData.int)) hk.1)) (X.k _) ixAD_P) (X.var 3) (gtD_i _ _)) (fun hk_1 => (XS.exitR (XS.ret (X.var 4)))) (fun hk_1 => (have hq_17 := hk.2 hk_1; (XS.passSeq (XS.seqPass (XS.seq1 (if ((idx way k_).2).isNone = true then (s_ - (idx way k_).1) else tank) (fun (now : Int) => [some ((eT (eP2 PyData.int (eO PyData.int))) way), some (PyData.int tank), some (PyData.int begin), some (PyData.int now), some (PyData.int k_)]) (fun (now : Int) => w) (fun (now : Int) => outS (eO PyData.int) (fun (st : Int) => [some ((eT (eP2 PyData.int (eO PyData.int))) way), some (PyData.int tank), some (PyData.int begin), some (PyData.int st), none]) (Stp.nx now)) (fun (now : Int) => w) (XS.set (X.if PyData.int (u := (s_ - (idx way k_).1)) (v := tank) (XT.cmp (X.op2 (X.op2 (X.var 0) (X.var 4) (ixAD_T (eP2 PyData.int (eO PyData.int)) hq_17.1)) (X.k _) ixAD_P) (X.k _) (isND_O NN.i ((idx way k_).2))) (fun hk_2 => (have hq_16 := hq_17.2 hk_2; (X.op2 (X.var 3) (X.op2 (X.op2 (X.var 0) (X.var 4) (ixAD_T (eP2 PyData.int (eO PyData.int)) hq_16)) (X.k _) ixAD_P) (subD_i _ _)))) (fun hk_2 => (X.var 1))) (TG.name 3)) (fun now hv => (XS.wpass (show LE _ _ from .same (.same (.same (.same (.skip (.nil)))))))))))))))) (h).2) (fun _ => rfl) (loopT_bk _ _ _) (fun s__1 hr => (XS.ret (X.k _)))))
/-! least_tank -/
def least_tank_t (way : List (Int × Option Int)) (begin : Int) : Option Int := (let most : Int := (begin + (way.map (fun (p : Int × Option Int) => p.1)).sum); (let able : List Int := ((rangeI begin (most + 1)).filter (fun (tank : Int) => (can_go_t way tank begin))); (if (!decide (able = [])) = true then (some (idx able 0)) else (none : Option Int))))
def least_tank_ok (way : List (Int × Option Int)) (begin : Int) : Prop := way.length ≤ sizeLine ∧ (∀ most : Int, most = (begin + (way.map (fun (p : Int × Option Int) => p.1)).sum) → I62 begin ∧ I62 (most + 1) ∧ (rangeI begin (most + 1)).length ≤ sizeLine ∧ (∀ tank, tank ∈ (rangeI begin (most + 1)) → can_go_ok way tank begin) ∧ (∀ able : List Int, able = ((rangeI begin (most + 1)).filter (fun (tank : Int) => (can_go_t way tank begin))) → (!decide (able = [])) = true → InR able 0))
theorem least_tank_tie (way : List (Int × Option Int)) (begin : Int) (h : least_tank_ok way begin) (w : Wd) : f_least_tank [(eT (eP2 PyData.int (eO PyData.int))) way, PyData.int begin] w = some ((eO PyData.int) (least_tank_t way begin), w) := fn_tie (XS.seq1 (begin + (way.map (fun (p : Int × Option Int) => p.1)).sum) (fun (most : Int) => [some ((eT (eP2 PyData.int (eO PyData.int))) way), some (PyData.int begin), some (PyData.int most), none, none, none, none]) (fun (most : Int) => w) (fun (most : Int) => Out.rt ((eO PyData.int) (let able : List Int := ((rangeI begin (most + 1)).filter (fun (tank : Int) => (can_go_t way tank begin))); (if (!decide (able = [])) = true then (some (idx able 0)) else (none : Option Int))))) (fun (most : Int) => w) (XS.set (X.op2 (X.var 1) (X.op1 (X.lcM (eP2 PyData.int (eO PyData.int)) PyData.int (xs := way) [some ((eT (eP2 PyData.int (eO PyData.int))) way), some (PyData.int begin), none, none, none, none, none] (fun (p : Int × Option Int) => [some ((eT (eP2 PyData.int (eO PyData.int))) way), some (PyData.int begin), none, none, none, some (PyData.int p.1), some ((eO PyData.int) p.2)]) (fun (p : Int × Option Int) => p.1) (XA.seqT (X.var 0)) (fun p => (TG.tup (TGs.cons (TG.name 5) (TGs.cons (TG.name 6) TGs.nil)))) h.1 (fun p hx => (X.var 5))) (sumD_L (way.map (fun (p : Int × Option Int) => p.1)))) (addD_i _ _)) (TG.name 2)) (fun most hv_1 => (have hq_22 := h.2 most hv_1; (XS.seq1 ((rangeI begin (most + 1)).filter (fun (tank : Int) => (can_go_t way tank begin))) (fun (able : List Int) => [some ((eT (eP2 PyData.int (eO PyData.int))) way), some (PyData.int begin), some (PyData.int most), some ((eL PyData.int) able), none, none, none]) (fun (able : List Int) => w) (fun (able : List Int) => Out.rt ((eO PyData.int) (if (!decide (able = [])) = true then (some (idx able 0)) else (none : Option Int)))) (fun (able : List Int) => w) (XS.set (X.lcS PyData.int (xs := (rangeI begin (most + 1))) [some ((eT (eP2 PyData.int (eO PyData.int))) way), some (PyData.int begin), some (PyData.int most), none, none, none, none] (fun (tank : Int) => [some ((eT (eP2 PyData.int (eO PyData.int))) way), some (PyData.int begin), some (PyData.int most), none, some (PyData.int tank), none, none]) (fun (tank : Int) => (can_go_t way tank begin)) (XA.r2 (X.var 1) (X.op2 (X.var 2) (X.k _) (addD_i _ _)) hq_22.1 hq_22.2.1) (fun tank => (TG.name 4)) hq_22.2.2.1 (fun tank hx_1 => (have hq_18 := hq_22.2.2.2.1 tank hx_1; (XT.val (X.call (XA.cons (X.var 0) (XA.cons (X.var 4) (XA.cons (X.var 1) XA.nil))) (can_go_tie way tank begin hq_18 _))))) (fun tank hx_1 hb => (have hq_19 := hq_22.2.2.2.1 tank hx_1; (X.var 4)))) (TG.name 3)) (fun able hv => (have hq_21 := hq_22.2.2.2.2 able hv; (XS.ret (X.if (eO PyData.int) (u := (some (idx able 0))) (v := (none : Option Int)) (XT.cmp (X.var 3) (X.lst XA.nil) (neE (EqL EqI) (by decide) able [])) (fun hk => (have hq_20 := hq_21 hk; (X.op2 (X.var 3) (X.k _) (ixAD_L PyData.int hq_20)))) (fun hk => (X.k _))))))))))
/-! least_begin -/
def least_begin_t (way : List (Int × Option Int)) (tank : Int) : Option Int := (let able : List Int := ((rangeI 0 (tank + 1)).filter (fun (begin : Int) => (can_go_t way tank begin))); (if (!decide (able = [])) = true then (some (idx able 0)) else (none : Option Int)))
def least_begin_ok (way : List (Int × Option Int)) (tank : Int) : Prop := I62 (tank + 1) ∧ (rangeI 0 (tank + 1)).length ≤ sizeLine ∧ (∀ begin, begin ∈ (rangeI 0 (tank + 1)) → can_go_ok way tank begin) ∧ (∀ able : List Int, able = ((rangeI 0 (tank + 1)).filter (fun (begin : Int) => (can_go_t way tank begin))) → (!decide (able = [])) = true → InR able 0)
theorem least_begin_tie (way : List (Int × Option Int)) (tank : Int) (h : least_begin_ok way tank) (w : Wd) : f_least_begin [(eT (eP2 PyData.int (eO PyData.int))) way, PyData.int tank] w = some ((eO PyData.int) (least_begin_t way tank), w) := fn_tie (XS.seq1 ((rangeI 0 (tank + 1)).filter (fun (begin : Int) => (can_go_t way tank begin))) (fun (able : List Int) => [some ((eT (eP2 PyData.int (eO PyData.int))) way), some (PyData.int tank), some ((eL PyData.int) able), none]) (fun (able : List Int) => w) (fun (able : List Int) => Out.rt ((eO PyData.int) (if (!decide (able = [])) = true then (some (idx able 0)) else (none : Option Int)))) (fun (able : List Int) => w) (XS.set (X.lcS PyData.int (xs := (rangeI 0 (tank + 1))) [some ((eT (eP2 PyData.int (eO PyData.int))) way), some (PyData.int tank), none, none] (fun (begin : Int) => [some ((eT (eP2 PyData.int (eO PyData.int))) way), some (PyData.int tank), none, some (PyData.int begin)]) (fun (begin : Int) => (can_go_t way tank begin)) (XA.r1 (X.op2 (X.var 1) (X.k _) (addD_i _ _)) h.1) (fun begin => (TG.name 3)) h.2.1 (fun begin hx => (have hq_23 := h.2.2.1 begin hx; (XT.val (X.call (XA.cons (X.var 0) (XA.cons (X.var 1) (XA.cons (X.var 3) XA.nil))) (can_go_tie way tank begin hq_23 _))))) (fun begin hx hb => (have hq_24 := h.2.2.1 begin hx; (X.var 3)))) (TG.name 2)) (fun able hv => (have hq_26 := h.2.2.2 able hv; (XS.ret (X.if (eO PyData.int) (u := (some (idx able 0))) (v := (none : Option Int)) (XT.cmp (X.var 2) (X.lst XA.nil) (neE (EqL EqI) (by decide) able [])) (fun hk => (have hq_25 := hq_26 hk; (X.op2 (X.var 2) (X.k _) (ixAD_L PyData.int hq_25)))) (fun hk => (X.k _)))))))
/-! law_pick2 -/
def law_pick2_t (rows : List (List Int)) (l0 : St) : (List Int) × St := ((idx rows ((nextT l0 (rows.length : Int)).1)), (nextT l0 (rows.length : Int)).2)
def law_pick2_ok (rows : List (List Int)) (l0 : St) : Prop := (rows.length : Int) ≠ 0 ∧ InR rows ((nextT l0 (rows.length : Int)).1)
theorem law_pick2_tie (rows : List (List Int)) (l0 : St) (h : law_pick2_ok rows l0) : f_law_pick [tokW, (eL (eT PyData.int)) rows] (some l0) = some ((eT PyData.int) (law_pick2_t rows l0).1, some (law_pick2_t rows l0).2) := fn_tie (XS.ret (X.op2 (X.var 1) (X.call (XA.cons (X.var 0) (XA.cons (X.op1 (X.var 1) (lenD_L (eT PyData.int) rows)) XA.nil)) (next_tie h.1)) (ixAD_L (eT PyData.int) h.2)))
/-! is_number -/
def is_number_t (thing : Int) : Bool := (true && (!false))
theorem is_number_tie (thing : Int) (w : Wd) : f_is_number [PyData.int thing] w = some (PyData.bool (is_number_t thing), w) := fn_tie (XS.ret (X.and (X.op1 (X.var 0) rfl) (fun hk => (X.not (X.op1 (X.var 0) rfl)))))
/-! is_fill -/
def is_fill_t (way : List (Int × Option Int)) (tank : Int) (begin : Int) (row : List Int) : Bool := (if ((!true) || ((!decide ((row.length : Int) = (way.length : Int))) || (!((row.map (fun (more : Int) => ((is_number_t more) && (decide (0 ≤ more))))).all _root_.id)))) = true then false else ((loopT (fun (s_ : Int) (p : (Int × Option Int) × Int) => ((if ((decide (s_ < p.1.1)) || ((decide (0 < p.2)) && p.1.2.isNone)) = true then (Stp.ret false) else (let now : Int := s_ + (p.2 - p.1.1); (if (decide (tank < now)) = true then (Stp.ret false) else (Stp.nx now)))) : Stp Bool Int)) begin (way.zip row)).el (fun r => r) (fun (s__1 : Int) => true)))
def is_fill_ok (way : List (Int × Option Int)) (tank : Int) (begin : Int) (row : List Int) : Prop := (!true) = false → (!decide ((row.length : Int) = (way.length : Int))) = false → row.length ≤ sizeLine
theorem is_fill_tie (way : List (Int × Option Int)) (tank : Int) (begin : Int) (row : List Int) (h : is_fill_ok way tank begin row) (w : Wd) : f_is_fill [(eT (eP2 PyData.int (eO PyData.int))) way, PyData.int tank, PyData.int begin, (eT PyData.int) row] w = some (PyData.bool (is_fill_t way tank begin row), w) := fn_tie (XS.dist (XS.if (fun r => Out.rt (PyData.bool r)) (XT.or (XT.not (XT.val (X.op1 (X.var 3) rfl))) (fun hk_2 => (have hq_28 := h hk_2; (XT.or (XT.cmp (X.op1 (X.var 3) (lenD_T PyData.int row)) (X.op1 (X.var 0) (lenD_T (eP2 PyData.int (eO PyData.int)) way)) (neE EqI (by decide) (row.length : Int) (way.length : Int))) (fun hk_1 => (have hq_27 := hq_28 hk_1; (XT.not (XT.val (X.op1 (X.lcM PyData.int PyData.bool (xs := row) [some ((eT (eP2 PyData.int (eO PyData.int))) way), some (PyData.int tank), some (PyData.int begin), some ((eT PyData.int) row), none, none, none, none] (fun (more : Int) => [some ((eT (eP2 PyData.int (eO PyData.int))) way), some (PyData.int tank), some (PyData.int begin), some ((eT PyData.int) row), none, none, none, some (PyData.int more)]) (fun (more : Int) => ((is_number_t more) && (decide (0 ≤ more)))) (XA.seqT (X.var 3)) (fun more => (TG.name 7)) hq_27 (fun more hx => (X.and (X.call (XA.cons (X.var 7) XA.nil) (is_number_tie more _)) (fun hk => (X.cT (XT.cmp (X.var 7) (X.k _) (geD_i _ _))))))) (allD_L (row.map (fun (more : Int) => ((is_number_t more) && (decide (0 ≤ more))))))))))))))) (fun hk_3 => (XS.exitR (XS.ret (X.k _)))) (fun hk_3 => (XS.passSeq (XS.seqd (XS.set (X.var 2) (TG.name 4)) (XS.seqR PyData.bool (fun (s_ : Int) => [some ((eT (eP2 PyData.int (eO PyData.int))) way), some (PyData.int tank), some (PyData.int begin), some ((eT PyData.int) row), some (PyData.int s_), none, none, none]) (loopT (fun (s_ : Int) (p : (Int × Option Int) × Int) => ((if ((decide (s_ < p.1.1)) || ((decide (0 < p.2)) && p.1.2.isNone)) = true then (Stp.ret false) else (let now : Int := s_ + (p.2 - p.1.1); (if (decide (tank < now)) = true then (Stp.ret false) else (Stp.nx now)))) : Stp Bool Int)) begin (way.zip row)) (fun r => Out.rt (PyData.bool r)) (fun r => r) (fun (s__1 : Int) => true) (XS.forR (eP2 (eP2 PyData.int (eO PyData.int)) PyData.int) PyData.bool (xs := (way.zip row)) begin (fun (s_ : Int) => [some ((eT (eP2 PyData.int (eO PyData.int))) way), some (PyData.int tank), some (PyData.int begin), some ((eT PyData.int) row), some (PyData.int s_), none, none, none]) (fun (s_ : Int) (p : (Int × Option Int) × Int) => [some ((eT (eP2 PyData.int (eO PyData.int))) way), some (PyData.int tank), some (PyData.int begin), some ((eT PyData.int) row), some (PyData.int s_), some (PyData.int p.1.1), some ((eO PyData.int) p.1.2), some (PyData.int p.2)]) (fun (s_ : Int) (p : (Int × Option Int) × Int) => ((if ((decide (s_ < p.1.1)) || ((decide (0 < p.2)) && p.1.2.isNone)) = true then (Stp.ret false) else (let now : Int := s_ + (p.2 - p.1.1); (if (decide (tank < now)) = true then (Stp.ret false) else (Stp.nx now)))) : Stp Bool Int)) (fun (s_ : Int) (p : (Int × Option Int) × Int) => True) (XA.zipT (ea := (eP2 PyData.int (eO PyData.int))) (eb := PyData.int) (X.var 0) (X.var 3)) (show LE _ _ from .same (.same (.same (.same (.same (.same (.same (.same (.nil))))))))) (fun s_ p => (TG.tup (TGs.cons (TG.tup (TGs.cons (TG.name 5) (TGs.cons (TG.name 6) TGs.nil))) (TGs.cons (TG.name 7) TGs.nil)))) (fun s_ p hx_1 hk_4 => (XS.dist (XS.if (outS PyData.bool (fun (st : Int) => [some ((eT (eP2 PyData.int (eO PyData.int))) way), some (PyData.int tank), some (PyData.int begin), some ((eT PyData.int) row), some (PyData.int st), none, none, none])) (XT.or (XT.cmp (X.var 5) (X.var 4) (gtD_i _ _)) (fun hk_6 => (XT.and (XT.cmp (X.var 7) (X.k _) (gtD_i _ _)) (fun hk_5 => (XT.cmp (X.var 6) (X.k _) (isND_O NN.i p.1.2)))))) (fun hk_7 => (XS.exitR (XS.ret (X.k _)))) (fun hk_7 => (XS.passSeq (XS.seq1 (s_ + (p.2 - p.1.1)) (fun (now : Int) => [some ((eT (eP2 PyData.int (eO PyData.int))) way), some (PyData.int tank), some (PyData.int begin), some ((eT PyData.int) row), some (PyData.int now), some (PyData.int p.1.1), some ((eO PyData.int) p.1.2), some (PyData.int p.2)]) (fun (now : Int) => w) (fun (now : Int) => outS PyData.bool (fun (st : Int) => [some ((eT (eP2 PyData.int (eO PyData.int))) way), some (PyData.int tank), some (PyData.int begin), some ((eT PyData.int) row), some (PyData.int st), none, none, none]) (if (decide (tank < now)) = true then (Stp.ret false) else (Stp.nx now))) (fun (now : Int) => w) (XS.aug 4 (X.op2 (X.var 7) (X.var 5) (subD_i _ _)) (addI_i _ _)) (fun now hv => (XS.if (outS PyData.bool (fun (st : Int) => [some ((eT (eP2 PyData.int (eO PyData.int))) way), some (PyData.int tank), some (PyData.int begin), some ((eT PyData.int) row), some (PyData.int st), none, none, none])) (XT.cmp (X.var 4) (X.var 1) (gtD_i _ _)) (fun hk_8 => (XS.ret (X.k _))) (fun hk_8 => (XS.wpass (show LE _ _ from .same (.same (.same (.same (.same (.skip (.skip (.skip (.nil))))))))))))))))))) (OkL.all fun _ _ _ => trivial)) (fun _ => rfl) (loopT_bk _ _ _) (fun s__1 hr => (XS.ret (X.k _)))))))))
/-! left_after -/
def left_after_t (way : List (Int × Option Int)) (begin : Int) (row : List Int) : List Int := (let now : Int := begin; (let s__1 : List Int × Int := ((way.zip row).foldl (fun (s_ : List Int × Int) (p : (Int × Option Int) × Int) => (let now_1 : Int := s_.2 + (p.2 - p.1.1); (let found : List Int := s_.1 ++ [now_1]; (found, now_1)))) ([], now)); s__1.1))
def left_after_ok (way : List (Int × Option Int)) (begin : Int) (row : List Int) : Prop := ∀ now : Int, now = begin → OkF (fun (s_ : List Int × Int) (p : (Int × Option Int) × Int) => ∀ now_1 : Int, now_1 = s_.2 + (p.2 - p.1.1) → s_.1.length < sizeLine) (fun (s_ : List Int × Int) (p : (Int × Option Int) × Int) => (let now_1 : Int := s_.2 + (p.2 - p.1.1); (let found : List Int := s_.1 ++ [now_1]; (found, now_1)))) ([], now) (way.zip row)
theorem left_after_tie (way : List (Int × Option Int)) (begin : Int) (row : List Int) (h : left_after_ok way begin row) (w : Wd) : f_left_after [(eT (eP2 PyData.int (eO PyData.int))) way, PyData.int begin, (eT PyData.int) row] w = some ((eT PyData.int) (left_after_t way begin row), w) := fn_tie (XS.seq1 begin (fun (now : Int) => [some ((eT (eP2 PyData.int (eO PyData.int))) way), some (PyData.int begin), some ((eT PyData.int) row), some ((eL PyData.int) []), some (PyData.int now), none, none, none]) (fun (now : Int) => w) (fun (now : Int) => Out.rt ((eT PyData.int) (let s__1 : List Int × Int := ((way.zip row).foldl (fun (s_ : List Int × Int) (p : (Int × Option Int) × Int) => (let now_1 : Int := s_.2 + (p.2 - p.1.1); (let found : List Int := s_.1 ++ [now_1]; (found, now_1)))) ([], now)); s__1.1))) (fun (now : Int) => w) (XS.par (XA.cons (X.lst XA.nil) (XA.cons (X.var 1) XA.nil)) (TGs.cons (TG.name 3) (TGs.cons (TG.name 4) TGs.nil))) (fun now hv_3 => (have hq_30 := h now hv_3; (XS.seq1 ((way.zip row).foldl (fun (s_ : List Int × Int) (p : (Int × Option Int) × Int) => (let now_1 : Int := s_.2 + (p.2 - p.1.1); (let found : List Int := s_.1 ++ [now_1]; (found, now_1)))) ([], now)) (fun (s__1 : List Int × Int) => [some ((eT (eP2 PyData.int (eO PyData.int))) way), some (PyData.int begin), some ((eT PyData.int) row), some ((eL PyData.int) s__1.1), some (PyData.int s__1.2), none, none, none]) (fun (s__1 : List Int × Int) => w) (fun (s__1 : List Int × Int) => Out.rt ((eT PyData.int) s__1.1)) (fun (s__1 : List Int × Int) => w) (XS.for (eP2 (eP2 PyData.int (eO PyData.int)) PyData.int) (xs := (way.zip row)) ([], now) (fun (s_ : List Int × Int) => [some ((eT (eP2 PyData.int (eO PyData.int))) way), some (PyData.int begin), some ((eT PyData.int) row), some ((eL PyData.int) s_.1), some (PyData.int s_.2), none, none, none]) (fun _ => w) (fun (s_ : List Int × Int) (p : (Int × Option Int) × Int) => [some ((eT (eP2 PyData.int (eO PyData.int))) way), some (PyData.int begin), some ((eT PyData.int) row), some ((eL PyData.int) s_.1), some (PyData.int s_.2), some (PyData.int p.1.1), some ((eO PyData.int) p.1.2), some (PyData.int p.2)]) (fun (s_ : List Int × Int) (p : (Int × Option Int) × Int) => (let now_1 : Int := s_.2 + (p.2 - p.1.1); (let found : List Int := s_.1 ++ [now_1]; (found, now_1)))) (fun (s_ : List Int × Int) (p : (Int × Option Int) × Int) => ∀ now_1 : Int, now_1 = s_.2 + (p.2 - p.1.1) → s_.1.length < sizeLine) (XA.zipT (ea := (eP2 PyData.int (eO PyData.int))) (eb := PyData.int) (X.var 0) (X.var 2)) (show LE _ _ from .same (.same (.same (.same (.same (.same (.same (.same (.nil))))))))) (fun s_ p => (TG.tup (TGs.cons (TG.tup (TGs.cons (TG.name 5) (TGs.cons (TG.name 6) TGs.nil))) (TGs.cons (TG.name 7) TGs.nil)))) (fun s_ p hx hk => (XS.seq1 (s_.2 + (p.2 - p.1.1)) (fun (now_1 : Int) => [some ((eT (eP2 PyData.int (eO PyData.int))) way), some (PyData.int begin), some ((eT PyData.int) row), some ((eL PyData.int) s_.1), some (PyData.int now_1), some (PyData.int p.1.1), some ((eO PyData.int) p.1.2), some (PyData.int p.2)]) (fun (now_1 : Int) => w) (fun (now_1 : Int) => Out.nx ((fun (st : List Int × Int) => [some ((eT (eP2 PyData.int (eO PyData.int))) way), some (PyData.int begin), some ((eT PyData.int) row), some ((eL PyData.int) st.1), some (PyData.int st.2), none, none, none]) (let found : List Int := s_.1 ++ [now_1]; (found, now_1)))) (fun (now_1 : Int) => w) (XS.aug 4 (X.op2 (X.var 7) (X.var 5) (subD_i _ _)) (addI_i _ _)) (fun now_1 hv_1 => (have hq_29 := hk now_1 hv_1; (XS.seqPass (XS.seq1 (s_.1 ++ [now_1]) (fun (found : List Int) => [some ((eT (eP2 PyData.int (eO PyData.int))) way), some (PyData.int begin), some ((eT PyData.int) row), some ((eL PyData.int) found), some (PyData.int now_1), some (PyData.int p.1.1), some ((eO PyData.int) p.1.2), some (PyData.int p.2)]) (fun (found : List Int) => w) (fun (found : List Int) => Out.nx ((fun (st : List Int × Int) => [some ((eT (eP2 PyData.int (eO PyData.int))) way), some (PyData.int begin), some ((eT PyData.int) row), some ((eL PyData.int) st.1), some (PyData.int st.2), none, none, none]) (found, now_1))) (fun (found : List Int) => w) (XS.app 3 PyData.int (v := now_1) (X.var 4) hq_29) (fun found hv => (XS.wpass (show LE _ _ from .same (.same (.same (.same (.same (.skip (.skip (.skip (.nil))))))))))))))))) hq_30) (fun s__1 hv_2 => (XS.ret (X.op1 (X.var 3) (tupD_l _))))))))
/-! law_left -/
def law_left_t (way : List (Int × Option Int)) (begin : Int) (row : List Int) : List Int := (let now : Int := begin; (let s__1 : List Int × Int := ((rangeI 0 (way.length : Int)).foldl (fun (s_ : List Int × Int) (k_ : Int) => (let now_1 : Int := ((s_.2 - (idx way k_).1) + (idx row k_)); (let found : List Int := s_.1 ++ [now_1]; (found, now_1)))) ([], now)); s__1.1))
def law_left_ok (way : List (Int × Option Int)) (begin : Int) (row : List Int) : Prop := ∀ now : Int, now = begin → I62 (way.length : Int) ∧ (OkF (fun (s_ : List Int × Int) (k_ : Int) => InR way k_ ∧ InR row k_ ∧ (∀ now_1 : Int, now_1 = ((s_.2 - (idx way k_).1) + (idx row k_)) → s_.1.length < sizeLine)) (fun (s_ : List Int × Int) (k_ : Int) => (let now_1 : Int := ((s_.2 - (idx way k_).1) + (idx row k_)); (let found : List Int := s_.1 ++ [now_1]; (found, now_1)))) ([], now) (rangeI 0 (way.length : Int)))
theorem law_left_tie (way : List (Int × Option Int)) (begin : Int) (row : List Int) (h : law_left_ok way begin row) (w : Wd) : f_law_left [(eT (eP2 PyData.int (eO PyData.int))) way, PyData.int begin, (eT PyData.int) row] w = some ((eT PyData.int) (law_left_t way begin row), w) := fn_tie (XS.seq1 begin (fun (now : Int) => [some ((eT (eP2 PyData.int (eO PyData.int))) way), some (PyData.int begin), some ((eT PyData.int) row), some ((eL PyData.int) []), some (PyData.int now), none]) (fun (now : Int) => w) (fun (now : Int) => Out.rt ((eT PyData.int) (let s__1 : List Int × Int := ((rangeI 0 (way.length : Int)).foldl (fun (s_ : List Int × Int) (k_ : Int) => (let now_1 : Int := ((s_.2 - (idx way k_).1) + (idx row k_)); (let found : List Int := s_.1 ++ [now_1]; (found, now_1)))) ([], now)); s__1.1))) (fun (now : Int) => w) (XS.par (XA.cons (X.lst XA.nil) (XA.cons (X.var 1) XA.nil)) (TGs.cons (TG.name 3) (TGs.cons (TG.name 4) TGs.nil))) (fun now hv_3 => (have hq_32 := h now hv_3; (XS.seq1 ((rangeI 0 (way.length : Int)).foldl (fun (s_ : List Int × Int) (k_ : Int) => (let now_1 : Int := ((s_.2 - (idx way k_).1) + (idx row k_)); (let found : List Int := s_.1 ++ [now_1]; (found, now_1)))) ([], now)) (fun (s__1 : List Int × Int) => [some ((eT (eP2 PyData.int (eO PyData.int))) way), some (PyData.int begin), some ((eT PyData.int) row), some ((eL PyData.int) s__1.1), some (PyData.int s__1.2), none]) (fun (s__1 : List Int × Int) => w) (fun (s__1 : List Int × Int) => Out.rt ((eT PyData.int) s__1.1)) (fun (s__1 : List Int × Int) => w) (XS.for PyData.int (xs := (rangeI 0 (way.length : Int))) ([], now) (fun (s_ : List Int × Int) => [some ((eT (eP2 PyData.int (eO PyData.int))) way), some (PyData.int begin), some ((eT PyData.int) row), some ((eL PyData.int) s_.1), some (PyData.int s_.2), none]) (fun _ => w) (fun (s_ : List Int × Int) (k_ : Int) => [some ((eT (eP2 PyData.int (eO PyData.int))) way), some (PyData.int begin), some ((eT PyData.int) row), some ((eL PyData.int) s_.1), some (PyData.int s_.2), some (PyData.int k_)]) (fun (s_ : List Int × Int) (k_ : Int) => (let now_1 : Int := ((s_.2 - (idx way k_).1) + (idx row k_)); (let found : List Int := s_.1 ++ [now_1]; (found, now_1)))) (fun (s_ : List Int × Int) (k_ : Int) => InR way k_ ∧ InR row k_ ∧ (∀ now_1 : Int, now_1 = ((s_.2 - (idx way k_).1) + (idx row k_)) → s_.1.length < sizeLine)) (XA.r1 (X.op1 (X.var 0) (lenD_T (eP2 PyData.int (eO PyData.int)) way)) hq_32.1) (show LE _ _ from .same (.same (.same (.same (.same (.same (.nil))))))) (fun s_ k_ => (TG.name 5)) (fun s_ k_ hx hk => (XS.seq1 ((s_.2 - (idx way k_).1) + (idx row k_)) (fun (now_1 : Int) => [some ((eT (eP2 PyData.int (eO PyData.int))) way), some (PyData.int begin), some ((eT PyData.int) row), some ((eL PyData.int) s_.1), some (PyData.int now_1), some (PyData.int k_)]) (fun (now_1 : Int) => w) (fun (now_1 : Int) => Out.nx ((fun (st : List Int × Int) => [some ((eT (eP2 PyData.int (eO PyData.int))) way), some (PyData.int begin), some ((eT PyData.int) row), some ((eL PyData.int) st.1), some (PyData.int st.2), none]) (let found : List Int := s_.1 ++ [now_1]; (found, now_1)))) (fun (now_1 : Int) => w) (XS.set (X.op2 (X.op2 (X.var 4) (X.op2 (X.op2 (X.var 0) (X.var 5) (ixAD_T (eP2 PyData.int (eO PyData.int)) hk.1)) (X.k _) ixAD_P) (subD_i _ _)) (X.op2 (X.var 2) (X.var 5) (ixAD_T PyData.int hk.2.1)) (addD_i _ _)) (TG.name 4)) (fun now_1 hv_1 => (have hq_31 := hk.2.2 now_1 hv_1; (XS.seqPass (XS.seq1 (s_.1 ++ [now_1]) (fun (found : List Int) => [some ((eT (eP2 PyData.int (eO PyData.int))) way), some (PyData.int begin), some ((eT PyData.int) row), some ((eL PyData.int) found), some (PyData.int now_1), some (PyData.int k_)]) (fun (found : List Int) => w) (fun (found : List Int) => Out.nx ((fun (st : List Int × Int) => [some ((eT (eP2 PyData.int (eO PyData.int))) way), some (PyData.int begin), some ((eT PyData.int) row), some ((eL PyData.int) st.1), some (PyData.int st.2), none]) (found, now_1))) (fun (found : List Int) => w) (XS.app 3 PyData.int (v := now_1) (X.var 4) hq_31) (fun found hv => (XS.wpass (show LE _ _ from .same (.same (.same (.same (.same (.skip (.nil))))))))))))))) hq_32.2) (fun s__1 hv_2 => (XS.ret (X.op1 (X.var 3) (tupD_l _))))))))
/-! the law: one turn -/
def law_ok (l0 : St) : Prop := ∀ turn, turn ∈ (rangeI 0 9) → ∀ l_ : St, I62 (1 + (nextT l_ 4).1) ∧ (rangeI 0 (1 + (nextT l_ 4).1)).length ≤ sizeLine ∧ (∀ k_, k_ ∈ (rangeI 0 (1 + (nextT l_ 4).1)) → ∀ l__1 : St, law_pick_ok ([(none : Option Int), (some 0), (some 1), (some 2), (some 3), (some 5)]) ((nextT l__1 5).2)) ∧ (∀ way : List (Int × Option Int), way = (mapW (fun (k_ : Int) (l__1 : St) => (((1 + (nextT l__1 5).1), (law_pick_t ([(none : Option Int), (some 0), (some 1), (some 2), (some 3), (some 5)]) ((nextT l__1 5).2)).1), (law_pick_t ([(none : Option Int), (some 0), (some 1), (some 2), (some 3), (some 5)]) ((nextT l__1 5).2)).2)) (rangeI 0 (1 + (nextT l_ 4).1)) ((nextT l_ 4).2)).1 → ∀ l__2 : St, l__2 = (mapW (fun (k_ : Int) (l__1 : St) => (((1 + (nextT l__1 5).1), (law_pick_t ([(none : Option Int), (some 0), (some 1), (some 2), (some 3), (some 5)]) ((nextT l__1 5).2)).1), (law_pick_t ([(none : Option Int), (some 0), (some 1), (some 2), (some 3), (some 5)]) ((nextT l__1 5).2)).2)) (rangeI 0 (1 + (nextT l_ 4).1)) ((nextT l_ 4).2)).2 → ∀ tank : Int, tank = (1 + (nextT l__2 7).1) → ∀ l__3 : St, l__3 = (nextT l__2 7).2 → (tank + 1) ≠ 0 ∧ (∀ begin : Int, begin = (nextT l__3 (tank + 1)).1 → ∀ l__4 : St, l__4 = (nextT l__3 (tank + 1)).2 → law_fills_ok way tank begin ∧ (∀ rows : List (List Int), rows = (law_fills_t way tank begin) → rows.length ≤ sizeLine ∧ (∀ row, row ∈ rows → I62 (row.length : Int) ∧ (rangeI 0 (row.length : Int)).length ≤ sizeLine ∧ (∀ k__1, k__1 ∈ (rangeI 0 (row.length : Int)) → InR row k__1 ∧ ((decide (0 < (idx row k__1))) = true → InR row k__1 ∧ InR way k__1 ∧ ((idx way k__1).2).isSome = true ∧ M64 (idx row k__1) (((idx way k__1).2).getD default)))) ∧ (∀ prices : List (Int × List Int), prices = (rows.map (fun (row : List Int) => ((((rangeI 0 (row.length : Int)).filter (fun (k__1 : Int) => (decide (0 < (idx row k__1))))).map (fun (k__1 : Int) => ((idx row k__1) * (((idx way k__1).2).getD default)))).sum, row))) → rows.length ≤ sizeLine ∧ (∀ row_1, row_1 ∈ rows → row_1.length ≤ sizeLine) ∧ (∀ stops : List Int, stops = (rows.map (fun (row_1 : List Int) => ((row_1.filter (fun (more : Int) => (decide (0 < more)))).length : Int))) → stuck_at_ok way tank begin ∧ can_go_ok way tank begin ∧ cheapest_fill_ok way tank begin ∧ fewest_stops_ok way tank begin ∧ (∀ told : Option Int × Bool × (Option (Int × List Int)) × Option Int, told = ((stuck_at_t way tank begin), (can_go_t way tank begin), (cheapest_fill_t way tank begin), (fewest_stops_t way tank begin)) → law_stuck_ok way tank begin ∧ (∀ stuck : Option Int, stuck = (law_stuck_t way tank begin) → ((!decide (prices = [])) = true → prices ≠ []) ∧ ((!decide (stops = [])) = true → stops ≠ []) ∧ (∀ due : Option Int × Bool × (Option (Int × List Int)) × Option Int, due = (stuck, stuck.isNone, (if (!decide (prices = [])) = true then (some (minT (lt2 ltI (ltL ltI)) prices)) else (none : Option (Int × List Int))), (if (!decide (stops = [])) = true then (some (minT ltI stops)) else (none : Option Int))) → told = due ∧ Alk 12 ((eP4 (eO PyData.int) PyData.bool (eO (eP2 PyData.int (eT PyData.int))) (eO PyData.int)) told) ∧ (!decide (stuck.isNone = (!decide (rows = [])))) = false ∧ (way.length ≤ sizeLine ∧ (∀ whole : Int, whole = (begin + (way.map (fun (p : Int × Option Int) => p.1)).sum) → I62 begin ∧ I62 (whole + 1) ∧ (rangeI begin (whole + 1)).length ≤ sizeLine ∧ (∀ own, own ∈ (rangeI begin (whole + 1)) → law_stuck_ok way own begin) ∧ (∀ tanks : List Int, tanks = ((rangeI begin (whole + 1)).filter (fun (own : Int) => (law_stuck_t way own begin).isNone)) → I62 (tank + 1) ∧ (rangeI 0 (tank + 1)).length ≤ sizeLine ∧ (∀ own_1, own_1 ∈ (rangeI 0 (tank + 1)) → law_stuck_ok way tank own_1) ∧ (∀ begins : List Int, begins = ((rangeI 0 (tank + 1)).filter (fun (own_1 : Int) => (law_stuck_t way tank own_1).isNone)) → least_tank_ok way begin ∧ least_begin_ok way tank ∧ (∀ told_1 : Option Int × Option Int, told_1 = ((least_tank_t way begin), (least_begin_t way tank)) → ((!decide (tanks = [])) = true → InR tanks 0) ∧ ((!decide (begins = [])) = true → InR begins 0) ∧ told_1 = ((if (!decide (tanks = [])) = true then (some (idx tanks 0)) else (none : Option Int)), (if (!decide (begins = [])) = true then (some (idx begins 0)) else (none : Option Int))) ∧ (way.length ≤ sizeLine ∧ (∀ row_2 : List Int, row_2 = (mapW (fun (piece : Int × Option Int) (l__5 : St) => ((if (decide (0 < (nextT l__5 3).1)) = true then ((nextT ((nextT l__5 3).2) 4).1, (nextT ((nextT l__5 3).2) 4).2) else (0, (nextT l__5 3).2)).1, (if (decide (0 < (nextT l__5 3).1)) = true then ((nextT ((nextT l__5 3).2) 4).1, (nextT ((nextT l__5 3).2) 4).2) else (0, (nextT l__5 3).2)).2)) way l__4).1 → ∀ l__6 : St, l__6 = (mapW (fun (piece : Int × Option Int) (l__5 : St) => ((if (decide (0 < (nextT l__5 3).1)) = true then ((nextT ((nextT l__5 3).2) 4).1, (nextT ((nextT l__5 3).2) 4).2) else (0, (nextT l__5 3).2)).1, (if (decide (0 < (nextT l__5 3).1)) = true then ((nextT ((nextT l__5 3).2) 4).1, (nextT ((nextT l__5 3).2) 4).2) else (0, (nextT l__5 3).2)).2)) way l__4).2 → ((!decide (rows = [])) = true → law_pick2_ok rows l__6) ∧ (∀ some_ : List Int, some_ = (if (!decide (rows = [])) = true then ((law_pick2_t rows l__6).1, (law_pick2_t rows l__6).2) else (row_2, l__6)).1 → ∀ l__7 : St, l__7 = (if (!decide (rows = [])) = true then ((law_pick2_t rows l__6).1, (law_pick2_t rows l__6).2) else (row_2, l__6)).2 → InR some_ (-1) ∧ (cutL some_ none (some (-1))).length + ([((idx some_ (-1)) + 1)]).length ≤ sizeLine ∧ (∀ own_2, own_2 ∈ [row_2, some_, ((cutL some_ none (some (-1))) ++ [((idx some_ (-1)) + 1)])] → is_fill_ok way tank begin own_2 ∧ left_after_ok way begin own_2 ∧ law_left_ok way begin own_2 ∧ ((is_fill_t way tank begin own_2), (left_after_t way begin own_2)) = ((decide (own_2 ∈ rows)), (law_left_t way begin own_2)) ∧ Alk 12 ((eP2 PyData.bool (eT PyData.int)) ((is_fill_t way tank begin own_2), (left_after_t way begin own_2)))) ∧ (some_.length + [0].length ≤ sizeLine ∧ [(-1)].length + (cutL some_ (some 1) none).length ≤ sizeLine ∧ (cutL some_ (some 1) none).length < 1000000 ∧ (∀ things : List D, things = [((eL PyData.int) some_), ((eT PyData.int) (some_ ++ [0])), ((eT PyData.int) (cutL some_ (some 1) none)), ((eT PyData.int) ([(-1)] ++ (cutL some_ (some 1) none))), (PyData.tuple (PyData.bool true :: (cutL some_ (some 1) none).map PyData.int)), (PyData.tuple (PyData.str ("1" : Str) :: (cutL some_ (some 1) none).map PyData.int)), PyData.none] → things.length ≤ sizeLine ∧ (∀ thing, thing ∈ things → is_fill2_ok way tank begin thing ∧ (is_fill2_t way tank begin thing) = false)))))))))))))))))))
set_option maxHeartbeats 0 in
theorem law_tie (sc : D) (l0 : St) (h : law_ok l0) : XL [some (id sc), some (tokW), none, none, none, none, none, none, none, none, none, none, none, none, none, none, none, none, none, none, none, none, none, none, none] b_law l0 (.rt (.bool true)) := (XL.seqL (XL.forU2 PyData.int (xs := (rangeI 0 9)) [some (id sc), some (tokW), none, none, none, none, none, none, none, none, none, none, none, none, none, none, none, none, none, none, none, none, none, none, none] (fun (turn : Int) => [some (id sc), some (tokW), some (PyData.int turn), none, none, none, none, none, none, none, none, none, none, none, none, none, none, none, none, none, none, none, none, none, none]) (XA.r1 (X.k _) (by unfold I62; decide)) (show LE _ _ from .same (.same (.same (.same (.same (.same (.same (.same (.same (.same (.same (.same (.same (.same (.same (.same (.same (.same (.same (.same (.same (.same (.same (.same (.same (.nil)))))))))))))))))))))))))) (fun turn => (TG.name 2)) (fun turn hx l_ => (have hq_67 := h turn hx l_; (XL.seq1 ((mapW (fun (k_ : Int) (l__1 : St) => (((1 + (nextT l__1 5).1), (law_pick_t ([(none : Option Int), (some 0), (some 1), (some 2), (some 3), (some 5)]) ((nextT l__1 5).2)).1), (law_pick_t ([(none : Option Int), (some 0), (some 1), (some 2), (some 3), (some 5)]) ((nextT l__1 5).2)).2)) (rangeI 0 (1 + (nextT l_ 4).1)) ((nextT l_ 4).2)).1) ((mapW (fun (k_ : Int) (l__1 : St) => (((1 + (nextT l__1 5).1), (law_pick_t ([(none : Option Int), (some 0), (some 1), (some 2), (some 3), (some 5)]) ((nextT l__1 5).2)).1), (law_pick_t ([(none : Option Int), (some 0), (some 1), (some 2), (some 3), (some 5)]) ((nextT l__1 5).2)).2)) (rangeI 0 (1 + (nextT l_ 4).1)) ((nextT l_ 4).2)).2) (fun (way : List (Int × Option Int)) => [some (id sc), some (tokW), some (PyData.int turn), some ((eT (eP2 PyData.int (eO PyData.int))) way), none, none, none, none, none, none, none, none, none, none, none, none, none, none, none, none, none, none, none, none, none]) (XS.set (X.op1 (X.lcW PyData.int (eP2 PyData.int (eO PyData.int)) (xs := (rangeI 0 (1 + (nextT l_ 4).1))) [some (id sc), some (tokW), some (PyData.int turn), none, none, none, none, none, none, none, none, none, none, none, none, none, none, none, none, none, none, none, none, none, none] (fun (k_ : Int) => [some (id sc), some (tokW), some (PyData.int turn), none, none, none, none, none, none, none, none, none, none, none, none, none, none, none, none, some (PyData.int k_), none, none, none, none, none]) (fun (k_ : Int) (l__1 : St) => (((1 + (nextT l__1 5).1), (law_pick_t ([(none : Option Int), (some 0), (some 1), (some 2), (some 3), (some 5)]) ((nextT l__1 5).2)).1), (law_pick_t ([(none : Option Int), (some 0), (some 1), (some 2), (some 3), (some 5)]) ((nextT l__1 5).2)).2)) (XA.r1 (X.op2 (X.k _) (X.call (XA.cons (X.var 1) (XA.cons (X.k _) XA.nil)) (next_tie (by decide))) (addD_i _ _)) hq_67.1) (fun k_ => (TG.name 19)) hq_67.2.1 (fun k_ hx_1 l__1 => (have hq_33 := hq_67.2.2.1 k_ hx_1 l__1; (X.tup (XA.cons (X.op2 (X.k _) (X.call (XA.cons (X.var 1) (XA.cons (X.k _) XA.nil)) (next_tie (by decide))) (addD_i _ _)) (XA.cons (X.call (XA.cons (X.var 1) (XA.cons (X.lst (XA.cons (X.k _) (XA.cons (X.k _) (XA.cons (X.k _) (XA.cons (X.k _) (XA.cons (X.k _) (XA.cons (X.k _) XA.nil))))))) XA.nil)) (law_pick_tie ([(none : Option Int), (some 0), (some 1), (some 2), (some 3), (some 5)]) ((nextT l__1 5).2) hq_33)) XA.nil)))))) (tupD_l _)) (TG.name 3)) (fun way hv_19 l__2 hv_20 => (have hq_66 := hq_67.2.2.2 way hv_19 l__2 hv_20; (XL.seq1 (1 + (nextT l__2 7).1) ((nextT l__2 7).2) (fun (tank : Int) => [some (id sc), some (tokW), some (PyData.int turn), some ((eT (eP2 PyData.int (eO PyData.int))) way), some (PyData.int tank), none, none, none, none, none, none, none, none, none, none, none, none, none, none, none, none, none, none, none, none]) (XS.set (X.op2 (X.k _) (X.call (XA.cons (X.var 1) (XA.cons (X.k _) XA.nil)) (next_tie (by decide))) (addD_i _ _)) (TG.name 4)) (fun tank hv_17 l__3 hv_18 => (have hq_65 := hq_66 tank hv_17 l__3 hv_18; (XL.seq1 ((nextT l__3 (tank + 1)).1) ((nextT l__3 (tank + 1)).2) (fun (begin : Int) => [some (id sc), some (tokW), some (PyData.int turn), some ((eT (eP2 PyData.int (eO PyData.int))) way), some (PyData.int tank), some (PyData.int begin), none, none, none, none, none, none, none, none, none, none, none, none, none, none, none, none, none, none, none]) (XS.set (X.call (XA.cons (X.var 1) (XA.cons (X.op2 (X.var 4) (X.k _) (addD_i _ _)) XA.nil)) (next_tie hq_65.1)) (TG.name 5)) (fun begin hv_15 l__4 hv_16 => (have hq_64 := hq_65.2 begin hv_15 l__4 hv_16; (XL.seqp1 (law_fills_t way tank begin) (fun (rows : List (List Int)) => [some (id sc), some (tokW), some (PyData.int turn), some ((eT (eP2 PyData.int (eO PyData.int))) way), some (PyData.int tank), some (PyData.int begin), some ((eL (eT PyData.int)) rows), none, none, none, none, none, none, none, none, none, none, none, none, none, none, none, none, none, none]) (XS.set (X.call (XA.cons (X.var 3) (XA.cons (X.var 4) (XA.cons (X.var 5) XA.nil))) (law_fills_tie way tank begin hq_64.1 _)) (TG.name 6)) (fun rows hv_14 => (have hq_63 := hq_64.2 rows hv_14; (XL.seqp1 (rows.map (fun (row : List Int) => ((((rangeI 0 (row.length : Int)).filter (fun (k__1 : Int) => (decide (0 < (idx row k__1))))).map (fun (k__1 : Int) => ((idx row k__1) * (((idx way k__1).2).getD default)))).sum, row))) (fun (prices : List (Int × List Int)) => [some (id sc), some (tokW), some (PyData.int turn), some ((eT (eP2 PyData.int (eO PyData.int))) way), some (PyData.int tank), some (PyData.int begin), some ((eL (eT PyData.int)) rows), some ((eL (eP2 PyData.int (eT PyData.int))) prices), none, none, none, none, none, none, none, none, none, none, none, none, none, none, none, none, none]) (XS.set (X.lcM (eT PyData.int) (eP2 PyData.int (eT PyData.int)) (xs := rows) [some (id sc), some (tokW), some (PyData.int turn), some ((eT (eP2 PyData.int (eO PyData.int))) way), some (PyData.int tank), some (PyData.int begin), some ((eL (eT PyData.int)) rows), none, none, none, none, none, none, none, none, none, none, none, none, none, none, none, none, none, none] (fun (row : List Int) => [some (id sc), some (tokW), some (PyData.int turn), some ((eT (eP2 PyData.int (eO PyData.int))) way), some (PyData.int tank), some (PyData.int begin), some ((eL (eT PyData.int)) rows), none, none, none, none, none, none, none, none, some ((eT PyData.int) row), none, none, none, none, none, none, none, none, none]) (fun (row : List Int) => ((((rangeI 0 (row.length : Int)).filter (fun (k__1 : Int) => (decide (0 < (idx row k__1))))).map (fun (k__1 : Int) => ((idx row k__1) * (((idx way k__1).2).getD default)))).sum, row)) (XA.seqL (X.var 6)) (fun row => (TG.name 15)) hq_63.1 (fun row hx_2 => (have hq_37 := hq_63.2.1 row hx_2; (X.tup (XA.cons (X.op1 (X.lcF PyData.int PyData.int (xs := (rangeI 0 (row.length : Int))) [some (id sc), some (tokW), some (PyData.int turn), some ((eT (eP2 PyData.int (eO PyData.int))) way), some (PyData.int tank), some (PyData.int begin), some ((eL (eT PyData.int)) rows), none, none, none, none, none, none, none, none, some ((eT PyData.int) row), none, none, none, none, none, none, none, none, none] (fun (k__1 : Int) => [some (id sc), some (tokW), some (PyData.int turn), some ((eT (eP2 PyData.int (eO PyData.int))) way), some (PyData.int tank), some (PyData.int begin), some ((eL (eT PyData.int)) rows), none, none, none, none, none, none, none, none, some ((eT PyData.int) row), none, none, none, some (PyData.int k__1), none, none, none, none, none]) (fun (k__1 : Int) => (decide (0 < (idx row k__1)))) (fun (k__1 : Int) => ((idx row k__1) * (((idx way k__1).2).getD default))) (XA.r1 (X.op1 (X.var 15) (lenD_T PyData.int row)) hq_37.1) (fun k__1 => (TG.name 19)) hq_37.2.1 (fun k__1 hx_3 => (have hq_35 := hq_37.2.2 k__1 hx_3; (XT.cmp (X.op2 (X.var 15) (X.var 19) (ixAD_T PyData.int hq_35.1)) (X.k _) (gtD_i _ _)))) (fun k__1 hx_3 hb => (have hq_36 := hq_37.2.2 k__1 hx_3; (have hq_34 := hq_36.2 hb; (X.op2 (X.op2 (X.var 15) (X.var 19) (ixAD_T PyData.int hq_34.1)) (X.get (e := PyData.int) (X.op2 (X.op2 (X.var 3) (X.var 19) (ixAD_T (eP2 PyData.int (eO PyData.int)) hq_34.2.1)) (X.k _) ixAD_P) hq_34.2.2.1) (mulI_ok hq_34.2.2.2)))))) (sumD_L (((rangeI 0 (row.length : Int)).filter (fun (k__1 : Int) => (decide (0 < (idx row k__1))))).map (fun (k__1 : Int) => ((idx row k__1) * (((idx way k__1).2).getD default)))))) (XA.cons (X.var 15) XA.nil)))))) (TG.name 7)) (fun prices hv_13 => (have hq_62 := hq_63.2.2 prices hv_13; (XL.seqp1 (rows.map (fun (row_1 : List Int) => ((row_1.filter (fun (more : Int) => (decide (0 < more)))).length : Int))) (fun (stops : List Int) => [some (id sc), some (tokW), some (PyData.int turn), some ((eT (eP2 PyData.int (eO PyData.int))) way), some (PyData.int tank), some (PyData.int begin), some ((eL (eT PyData.int)) rows), some ((eL (eP2 PyData.int (eT PyData.int))) prices), some ((eL PyData.int) stops), none, none, none, none, none, none, none, none, none, none, none, none, none, none, none, none]) (XS.set (X.lcM (eT PyData.int) PyData.int (xs := rows) [some (id sc), some (tokW), some (PyData.int turn), some ((eT (eP2 PyData.int (eO PyData.int))) way), some (PyData.int tank), some (PyData.int begin), some ((eL (eT PyData.int)) rows), some ((eL (eP2 PyData.int (eT PyData.int))) prices), none, none, none, none, none, none, none, none, none, none, none, none, none, none, none, none, none] (fun (row_1 : List Int) => [some (id sc), some (tokW), some (PyData.int turn), some ((eT (eP2 PyData.int (eO PyData.int))) way), some (PyData.int tank), some (PyData.int begin), some ((eL (eT PyData.int)) rows), some ((eL (eP2 PyData.int (eT PyData.int))) prices), none, none, none, none, none, none, none, some ((eT PyData.int) row_1), none, none, none, none, none, none, none, none, none]) (fun (row_1 : List Int) => ((row_1.filter (fun (more : Int) => (decide (0 < more)))).length : Int)) (XA.seqL (X.var 6)) (fun row_1 => (TG.name 15)) hq_62.1 (fun row_1 hx_4 => (have hq_38 := hq_62.2.1 row_1 hx_4; (X.op1 (X.lcS PyData.int (xs := row_1) [some (id sc), some (tokW), some (PyData.int turn), some ((eT (eP2 PyData.int (eO PyData.int))) way), some (PyData.int tank), some (PyData.int begin), some ((eL (eT PyData.int)) rows), some ((eL (eP2 PyData.int (eT PyData.int))) prices), none, none, none, none, none, none, none, some ((eT PyData.int) row_1), none, none, none, none, none, none, none, none, none] (fun (more : Int) => [some (id sc), some (tokW), some (PyData.int turn), some ((eT (eP2 PyData.int (eO PyData.int))) way), some (PyData.int tank), some (PyData.int begin), some ((eL (eT PyData.int)) rows), some ((eL (eP2 PyData.int (eT PyData.int))) prices), none, none, none, none, none, none, none, some ((eT PyData.int) row_1), none, none, none, none, none, none, some (PyData.int more), none, none]) (fun (more : Int) => (decide (0 < more))) (XA.seqT (X.var 15)) (fun more => (TG.name 22)) hq_38 (fun more hx_5 => (XT.cmp (X.var 22) (X.k _) (gtD_i _ _))) (fun more hx_5 hb_1 => (X.var 22))) (lenD_L PyData.int (row_1.filter (fun (more : Int) => (decide (0 < more))))))))) (TG.name 8)) (fun stops hv_12 => (have hq_61 := hq_62.2.2 stops hv_12; (XL.seqp1 ((stuck_at_t way tank begin), (can_go_t way tank begin), (cheapest_fill_t way tank begin), (fewest_stops_t way tank begin)) (fun (told : Option Int × Bool × (Option (Int × List Int)) × Option Int) => [some (id sc), some (tokW), some (PyData.int turn), some ((eT (eP2 PyData.int (eO PyData.int))) way), some (PyData.int tank), some (PyData.int begin), some ((eL (eT PyData.int)) rows), some ((eL (eP2 PyData.int (eT PyData.int))) prices), some ((eL PyData.int) stops), some ((eP4 (eO PyData.int) PyData.bool (eO (eP2 PyData.int (eT PyData.int))) (eO PyData.int)) told), none, none, none, none, none, none, none, none, none, none, none, none, none, none, none]) (XS.set (X.tup (XA.cons (X.call (XA.cons (X.var 3) (XA.cons (X.var 4) (XA.cons (X.var 5) XA.nil))) (stuck_at_tie way tank begin hq_61.1 _)) (XA.cons (X.call (XA.cons (X.var 3) (XA.cons (X.var 4) (XA.cons (X.var 5) XA.nil))) (can_go_tie way tank begin hq_61.2.1 _)) (XA.cons (X.call (XA.cons (X.var 3) (XA.cons (X.var 4) (XA.cons (X.var 5) XA.nil))) (cheapest_fill_tie way tank begin hq_61.2.2.1 _)) (XA.cons (X.call (XA.cons (X.var 3) (XA.cons (X.var 4) (XA.cons (X.var 5) XA.nil))) (fewest_stops_tie way tank begin hq_61.2.2.2.1 _)) XA.nil))))) (TG.name 9)) (fun told hv_11 => (have hq_60 := hq_61.2.2.2.2 told hv_11; (XL.seqp1 (law_stuck_t way tank begin) (fun (stuck : Option Int) => [some (id sc), some (tokW), some (PyData.int turn), some ((eT (eP2 PyData.int (eO PyData.int))) way), some (PyData.int tank), some (PyData.int begin), some ((eL (eT PyData.int)) rows), some ((eL (eP2 PyData.int (eT PyData.int))) prices), some ((eL PyData.int) stops), some ((eP4 (eO PyData.int) PyData.bool (eO (eP2 PyData.int (eT PyData.int))) (eO PyData.int)) told), some ((eO PyData.int) stuck), none, none, none, none, none, none, none, none, none, none, none, none, none, none]) (XS.set (X.call (XA.cons (X.var 3) (XA.cons (X.var 4) (XA.cons (X.var 5) XA.nil))) (law_stuck_tie way tank begin hq_60.1 _)) (TG.name 10)) (fun stuck hv_10 => (have hq_59 := hq_60.2 stuck hv_10; (XL.seqp1 (stuck, stuck.isNone, (if (!decide (prices = [])) = true then (some (minT (lt2 ltI (ltL ltI)) prices)) else (none : Option (Int × List Int))), (if (!decide (stops = [])) = true then (some (minT ltI stops)) else (none : Option Int))) (fun (due : Option Int × Bool × (Option (Int × List Int)) × Option Int) => [some (id sc), some (tokW), some (PyData.int turn), some ((eT (eP2 PyData.int (eO PyData.int))) way), some (PyData.int tank), some (PyData.int begin), some ((eL (eT PyData.int)) rows), some ((eL (eP2 PyData.int (eT PyData.int))) prices), some ((eL PyData.int) stops), some ((eP4 (eO PyData.int) PyData.bool (eO (eP2 PyData.int (eT PyData.int))) (eO PyData.int)) told), some ((eO PyData.int) stuck), some ((eP4 (eO PyData.int) PyData.bool (eO (eP2 PyData.int (eT PyData.int))) (eO PyData.int)) due), none, none, none, none, none, none, none, none, none, none, none, none, none]) (XS.set (X.tup (XA.cons (X.var 10) (XA.cons (X.cT (XT.cmp (X.var 10) (X.k _) (isND_O NN.i stuck))) (XA.cons (X.if (eO (eP2 PyData.int (eT PyData.int))) (u := (some (minT (lt2 ltI (ltL ltI)) prices))) (v := (none : Option (Int × List Int))) (XT.cmp (X.var 7) (X.lst XA.nil) (neE (EqL (show EqE (eP2 PyData.int (eT PyData.int)) _ from EqR.tup (EqR.cons EqI (EqR.one (EqT EqI))))) (by decide) prices [])) (fun hk => (have hq_39 := hq_59.1 hk; (X.op1 (X.var 7) (minD1_L (show OrE (eP2 PyData.int (eT PyData.int)) _ (lt2 ltI (ltL ltI)) from OrR.tup (OrR.cons OrI (OrR.one (OrT OrI)))) (by decide) hq_39)))) (fun hk => (X.k _))) (XA.cons (X.if (eO PyData.int) (u := (some (minT ltI stops))) (v := (none : Option Int)) (XT.cmp (X.var 8) (X.lst XA.nil) (neE (EqL EqI) (by decide) stops [])) (fun hk_1 => (have hq_40 := hq_59.2.1 hk_1; (X.op1 (X.var 8) (minD1_L OrI (by decide) hq_40)))) (fun hk_1 => (X.k _))) XA.nil))))) (TG.name 11)) (fun due hv_9 => (have hq_58 := hq_59.2.2 due hv_9; (XL.seqd (XS.ifF (XT.orF (XT.not (XT.val (X.call (XA.cons (X.var 9) (XA.cons (X.var 11) XA.nil)) (al_tie (e := (eP4 (eO PyData.int) PyData.bool (eO (eP2 PyData.int (eT PyData.int))) (eO PyData.int))) hq_58.1 hq_58.2.1 _)))) (XT.eq (XT.cmp (X.cT (XT.cmp (X.var 10) (X.k _) (isND_O NN.i stuck))) (X.cT (XT.cmp (X.var 6) (X.lst XA.nil) (neE (EqL (EqT EqI)) (by decide) rows []))) (neE EqB (by decide) stuck.isNone (!decide (rows = [])))) hq_58.2.2.1)) XS.pass) (XL.seqp1 (begin + (way.map (fun (p : Int × Option Int) => p.1)).sum) (fun (whole : Int) => [some (id sc), some (tokW), some (PyData.int turn), some ((eT (eP2 PyData.int (eO PyData.int))) way), some (PyData.int tank), some (PyData.int begin), some ((eL (eT PyData.int)) rows), some ((eL (eP2 PyData.int (eT PyData.int))) prices), some ((eL PyData.int) stops), some ((eP4 (eO PyData.int) PyData.bool (eO (eP2 PyData.int (eT PyData.int))) (eO PyData.int)) told), some ((eO PyData.int) stuck), some ((eP4 (eO PyData.int) PyData.bool (eO (eP2 PyData.int (eT PyData.int))) (eO PyData.int)) due), some (PyData.int whole), none, none, none, none, none, none, none, none, none, none, none, none]) (XS.set (X.op2 (X.var 5) (X.op1 (X.lcM (eP2 PyData.int (eO PyData.int)) PyData.int (xs := way) [some (id sc), some (tokW), some (PyData.int turn), some ((eT (eP2 PyData.int (eO PyData.int))) way), some (PyData.int tank), some (PyData.int begin), some ((eL (eT PyData.int)) rows), some ((eL (eP2 PyData.int (eT PyData.int))) prices), some ((eL PyData.int) stops), some ((eP4 (eO PyData.int) PyData.bool (eO (eP2 PyData.int (eT PyData.int))) (eO PyData.int)) told), some ((eO PyData.int) stuck), some ((eP4 (eO PyData.int) PyData.bool (eO (eP2 PyData.int (eT PyData.int))) (eO PyData.int)) due), none, none, none, none, none, none, none, none, none, none, none, none, none] (fun (p : Int × Option Int) => [some (id sc), some (tokW), some (PyData.int turn), some ((eT (eP2 PyData.int (eO PyData.int))) way), some (PyData.int tank), some (PyData.int begin), some ((eL (eT PyData.int)) rows), some ((eL (eP2 PyData.int (eT PyData.int))) prices), some ((eL PyData.int) stops), some ((eP4 (eO PyData.int) PyData.bool (eO (eP2 PyData.int (eT PyData.int))) (eO PyData.int)) told), some ((eO PyData.int) stuck), some ((eP4 (eO PyData.int) PyData.bool (eO (eP2 PyData.int (eT PyData.int))) (eO PyData.int)) due), none, none, none, none, none, none, none, none, none, none, none, some (PyData.int p.1), some ((eO PyData.int) p.2)]) (fun (p : Int × Option Int) => p.1) (XA.seqT (X.var 3)) (fun p => (TG.tup (TGs.cons (TG.name 23) (TGs.cons (TG.name 24) TGs.nil)))) (hq_58.2.2.2).1 (fun p hx_6 => (X.var 23))) (sumD_L (way.map (fun (p : Int × Option Int) => p.1)))) (addD_i _ _)) (TG.name 12)) (fun whole hv_8 => (have hq_57 := (hq_58.2.2.2).2 whole hv_8; (XL.seqp1 ((rangeI begin (whole + 1)).filter (fun (own : Int) => (law_stuck_t way own begin).isNone)) (fun (tanks : List Int) => [some (id sc), some (tokW), some (PyData.int turn), some ((eT (eP2 PyData.int (eO PyData.int))) way), some (PyData.int tank), some (PyData.int begin), some ((eL (eT PyData.int)) rows), some ((eL (eP2 PyData.int (eT PyData.int))) prices), some ((eL PyData.int) stops), some ((eP4 (eO PyData.int) PyData.bool (eO (eP2 PyData.int (eT PyData.int))) (eO PyData.int)) told), some ((eO PyData.int) stuck), some ((eP4 (eO PyData.int) PyData.bool (eO (eP2 PyData.int (eT PyData.int))) (eO PyData.int)) due), some (PyData.int whole), some ((eL PyData.int) tanks), none, none, none, none, none, none, none, none, none, none, none]) (XS.set (X.lcS PyData.int (xs := (rangeI begin (whole + 1))) [some (id sc), some (tokW), some (PyData.int turn), some ((eT (eP2 PyData.int (eO PyData.int))) way), some (PyData.int tank), some (PyData.int begin), some ((eL (eT PyData.int)) rows), some ((eL (eP2 PyData.int (eT PyData.int))) prices), some ((eL PyData.int) stops), some ((eP4 (eO PyData.int) PyData.bool (eO (eP2 PyData.int (eT PyData.int))) (eO PyData.int)) told), some ((eO PyData.int) stuck), some ((eP4 (eO PyData.int) PyData.bool (eO (eP2 PyData.int (eT PyData.int))) (eO PyData.int)) due), some (PyData.int whole), none, none, none, none, none, none, none, none, none, none, none, none] (fun (own : Int) => [some (id sc), some (tokW), some (PyData.int turn), some ((eT (eP2 PyData.int (eO PyData.int))) way), some (PyData.int tank), some (PyData.int begin), some ((eL (eT PyData.int)) rows), some ((eL (eP2 PyData.int (eT PyData.int))) prices), some ((eL PyData.int) stops), some ((eP4 (eO PyData.int) PyData.bool (eO (eP2 PyData.int (eT PyData.int))) (eO PyData.int)) told), some ((eO PyData.int) stuck), some ((eP4 (eO PyData.int) PyData.bool (eO (eP2 PyData.int (eT PyData.int))) (eO PyData.int)) due), some (PyData.int whole), none, none, none, none, some (PyData.int own), none, none, none, none, none, none, none]) (fun (own : Int) => (law_stuck_t way own begin).isNone) (XA.r2 (X.var 5) (X.op2 (X.var 12) (X.k _) (addD_i _ _)) hq_57.1 hq_57.2.1) (fun own => (TG.name 17)) hq_57.2.2.1 (fun own hx_7 => (have hq_41 := hq_57.2.2.2.1 own hx_7; (XT.cmp (X.call (XA.cons (X.var 3) (XA.cons (X.var 17) (XA.cons (X.var 5) XA.nil))) (law_stuck_tie way own begin hq_41 _)) (X.k _) (isND_O NN.i (law_stuck_t way own begin))))) (fun own hx_7 hb_2 => (have hq_42 := hq_57.2.2.2.1 own hx_7; (X.var 17)))) (TG.name 13)) (fun tanks hv_7 => (have hq_56 := hq_57.2.2.2.2 tanks hv_7; (XL.seqp1 ((rangeI 0 (tank + 1)).filter (fun (own_1 : Int) => (law_stuck_t way tank own_1).isNone)) (fun (begins : List Int) => [some (id sc), some (tokW), some (PyData.int turn), some ((eT (eP2 PyData.int (eO PyData.int))) way), some (PyData.int tank), some (PyData.int begin), some ((eL (eT PyData.int)) rows), some ((eL (eP2 PyData.int (eT PyData.int))) prices), some ((eL PyData.int) stops), some ((eP4 (eO PyData.int) PyData.bool (eO (eP2 PyData.int (eT PyData.int))) (eO PyData.int)) told), some ((eO PyData.int) stuck), some ((eP4 (eO PyData.int) PyData.bool (eO (eP2 PyData.int (eT PyData.int))) (eO PyData.int)) due), some (PyData.int whole), some ((eL PyData.int) tanks), some ((eL PyData.int) begins), none, none, none, none, none, none, none, none, none, none]) (XS.set (X.lcS PyData.int (xs := (rangeI 0 (tank + 1))) [some (id sc), some (tokW), some (PyData.int turn), some ((eT (eP2 PyData.int (eO PyData.int))) way), some (PyData.int tank), some (PyData.int begin), some ((eL (eT PyData.int)) rows), some ((eL (eP2 PyData.int (eT PyData.int))) prices), some ((eL PyData.int) stops), some ((eP4 (eO PyData.int) PyData.bool (eO (eP2 PyData.int (eT PyData.int))) (eO PyData.int)) told), some ((eO PyData.int) stuck), some ((eP4 (eO PyData.int) PyData.bool (eO (eP2 PyData.int (eT PyData.int))) (eO PyData.int)) due), some (PyData.int whole), some ((eL PyData.int) tanks), none, none, none, none, none, none, none, none, none, none, none] (fun (own_1 : Int) => [some (id sc), some (tokW), some (PyData.int turn), some ((eT (eP2 PyData.int (eO PyData.int))) way), some (PyData.int tank), some (PyData.int begin), some ((eL (eT PyData.int)) rows), some ((eL (eP2 PyData.int (eT PyData.int))) prices), some ((eL PyData.int) stops), some ((eP4 (eO PyData.int) PyData.bool (eO (eP2 PyData.int (eT PyData.int))) (eO PyData.int)) told), some ((eO PyData.int) stuck), some ((eP4 (eO PyData.int) PyData.bool (eO (eP2 PyData.int (eT PyData.int))) (eO PyData.int)) due), some (PyData.int whole), some ((eL PyData.int) tanks), none, none, none, some (PyData.int own_1), none, none, none, none, none, none, none]) (fun (own_1 : Int) => (law_stuck_t way tank own_1).isNone) (XA.r1 (X.op2 (X.var 4) (X.k _) (addD_i _ _)) hq_56.1) (fun own_1 => (TG.name 17)) hq_56.2.1 (fun own_1 hx_8 => (have hq_43 := hq_56.2.2.1 own_1 hx_8; (XT.cmp (X.call (XA.cons (X.var 3) (XA.cons (X.var 4) (XA.cons (X.var 17) XA.nil))) (law_stuck_tie way tank own_1 hq_43 _)) (X.k _) (isND_O NN.i (law_stuck_t way tank own_1))))) (fun own_1 hx_8 hb_3 => (have hq_44 := hq_56.2.2.1 own_1 hx_8; (X.var 17)))) (TG.name 14)) (fun begins hv_6 => (have hq_55 := hq_56.2.2.2 begins hv_6; (XL.seqp1 ((least_tank_t way begin), (least_begin_t way tank)) (fun (told_1 : Option Int × Option Int) => [some (id sc), some (tokW), some (PyData.int turn), some ((eT (eP2 PyData.int (eO PyData.int))) way), some (PyData.int tank), some (PyData.int begin), some ((eL (eT PyData.int)) rows), some ((eL (eP2 PyData.int (eT PyData.int))) prices), some ((eL PyData.int) stops), some ((eP2 (eO PyData.int) (eO PyData.int)) told_1), some ((eO PyData.int) stuck), some ((eP4 (eO PyData.int) PyData.bool (eO (eP2 PyData.int (eT PyData.int))) (eO PyData.int)) due), some (PyData.int whole), some ((eL PyData.int) tanks), some ((eL PyData.int) begins), none, none, none, none, none, none, none, none, none, none]) (XS.set (X.tup (XA.cons (X.call (XA.cons (X.var 3) (XA.cons (X.var 5) XA.nil)) (least_tank_tie way begin hq_55.1 _)) (XA.cons (X.call (XA.cons (X.var 3) (XA.cons (X.var 4) XA.nil)) (least_begin_tie way tank hq_55.2.1 _)) XA.nil))) (TG.name 9)) (fun told_1 hv_5 => (have hq_54 := hq_55.2.2 told_1 hv_5; (XL.seqd (XS.ifF (XT.not (XT.val (X.call (XA.cons (X.var 9) (XA.cons (X.tup (XA.cons (X.if (eO PyData.int) (u := (some (idx tanks 0))) (v := (none : Option Int)) (XT.cmp (X.var 13) (X.lst XA.nil) (neE (EqL EqI) (by decide) tanks [])) (fun hk_2 => (have hq_45 := hq_54.1 hk_2; (X.op2 (X.var 13) (X.k _) (ixAD_L PyData.int hq_45)))) (fun hk_2 => (X.k _))) (XA.cons (X.if (eO PyData.int) (u := (some (idx begins 0))) (v := (none : Option Int)) (XT.cmp (X.var 14) (X.lst XA.nil) (neE (EqL EqI) (by decide) begins [])) (fun hk_3 => (have hq_46 := hq_54.2.1 hk_3; (X.op2 (X.var 14) (X.k _) (ixAD_L PyData.int hq_46)))) (fun hk_3 => (X.k _))) XA.nil))) XA.nil)) (al_tie (e := (eP2 (eO PyData.int) (eO PyData.int))) hq_54.2.2.1 ((AlkE.p2 (AlkE.o AlkE.i) (AlkE.o AlkE.i)).alk _ ⟨(fun _ _ => trivial), (fun _ _ => trivial)⟩) _)))) XS.pass) (XL.seq1 ((mapW (fun (piece : Int × Option Int) (l__5 : St) => ((if (decide (0 < (nextT l__5 3).1)) = true then ((nextT ((nextT l__5 3).2) 4).1, (nextT ((nextT l__5 3).2) 4).2) else (0, (nextT l__5 3).2)).1, (if (decide (0 < (nextT l__5 3).1)) = true then ((nextT ((nextT l__5 3).2) 4).1, (nextT ((nextT l__5 3).2) 4).2) else (0, (nextT l__5 3).2)).2)) way l__4).1) ((mapW (fun (piece : Int × Option Int) (l__5 : St) => ((if (decide (0 < (nextT l__5 3).1)) = true then ((nextT ((nextT l__5 3).2) 4).1, (nextT ((nextT l__5 3).2) 4).2) else (0, (nextT l__5 3).2)).1, (if (decide (0 < (nextT l__5 3).1)) = true then ((nextT ((nextT l__5 3).2) 4).1, (nextT ((nextT l__5 3).2) 4).2) else (0, (nextT l__5 3).2)).2)) way l__4).2) (fun (row_2 : List Int) => [some (id sc), some (tokW), some (PyData.int turn), some ((eT (eP2 PyData.int (eO PyData.int))) way), some (PyData.int tank), some (PyData.int begin), some ((eL (eT PyData.int)) rows), some ((eL (eP2 PyData.int (eT PyData.int))) prices), some ((eL PyData.int) stops), some ((eP2 (eO PyData.int) (eO PyData.int)) told_1), some ((eO PyData.int) stuck), some ((eP4 (eO PyData.int) PyData.bool (eO (eP2 PyData.int (eT PyData.int))) (eO PyData.int)) due), some (PyData.int whole), some ((eL PyData.int) tanks), some ((eL PyData.int) begins), some ((eT PyData.int) row_2), none, none, none, none, none, none, none, none, none]) (XS.set (X.op1 (X.lcW (eP2 PyData.int (eO PyData.int)) PyData.int (xs := way) [some (id sc), some (tokW), some (PyData.int turn), some ((eT (eP2 PyData.int (eO PyData.int))) way), some (PyData.int tank), some (PyData.int begin), some ((eL (eT PyData.int)) rows), some ((eL (eP2 PyData.int (eT PyData.int))) prices), some ((eL PyData.int) stops), some ((eP2 (eO PyData.int) (eO PyData.int)) told_1), some ((eO PyData.int) stuck), some ((eP4 (eO PyData.int) PyData.bool (eO (eP2 PyData.int (eT PyData.int))) (eO PyData.int)) due), some (PyData.int whole), some ((eL PyData.int) tanks), some ((eL PyData.int) begins), none, none, none, none, none, none, none, none, none, none] (fun (piece : Int × Option Int) => [some (id sc), some (tokW), some (PyData.int turn), some ((eT (eP2 PyData.int (eO PyData.int))) way), some (PyData.int tank), some (PyData.int begin), some ((eL (eT PyData.int)) rows), some ((eL (eP2 PyData.int (eT PyData.int))) prices), some ((eL PyData.int) stops), some ((eP2 (eO PyData.int) (eO PyData.int)) told_1), some ((eO PyData.int) stuck), some ((eP4 (eO PyData.int) PyData.bool (eO (eP2 PyData.int (eT PyData.int))) (eO PyData.int)) due), some (PyData.int whole), some ((eL PyData.int) tanks), some ((eL PyData.int) begins), none, none, none, none, none, some ((eP2 PyData.int (eO PyData.int)) piece), none, none, none, none]) (fun (piece : Int × Option Int) (l__5 : St) => ((if (decide (0 < (nextT l__5 3).1)) = true then ((nextT ((nextT l__5 3).2) 4).1, (nextT ((nextT l__5 3).2) 4).2) else (0, (nextT l__5 3).2)).1, (if (decide (0 < (nextT l__5 3).1)) = true then ((nextT ((nextT l__5 3).2) 4).1, (nextT ((nextT l__5 3).2) 4).2) else (0, (nextT l__5 3).2)).2)) (XA.seqT (X.var 3)) (fun piece => (TG.name 20)) (hq_54.2.2.2).1 (fun piece hx_9 l__5 => (X.ifW PyData.int (u := ((nextT ((nextT l__5 3).2) 4).1, (nextT ((nextT l__5 3).2) 4).2)) (v := (0, (nextT l__5 3).2)) (XT.cmp (X.call (XA.cons (X.var 1) (XA.cons (X.k _) XA.nil)) (next_tie (by decide))) (X.k _) (gtD_i _ _)) (fun hk_4 => (X.call (XA.cons (X.var 1) (XA.cons (X.k _) XA.nil)) (next_tie (by decide)))) (fun hk_4 => (X.k _))))) (tupD_l _)) (TG.name 15)) (fun row_2 hv_3 l__6 hv_4 => (have hq_53 := (hq_54.2.2.2).2 row_2 hv_3 l__6 hv_4; (XL.seq1 ((if (!decide (rows = [])) = true then ((law_pick2_t rows l__6).1, (law_pick2_t rows l__6).2) else (row_2, l__6)).1) ((if (!decide (rows = [])) = true then ((law_pick2_t rows l__6).1, (law_pick2_t rows l__6).2) else (row_2, l__6)).2) (fun (some_ : List Int) => [some (id sc), some (tokW), some (PyData.int turn), some ((eT (eP2 PyData.int (eO PyData.int))) way), some (PyData.int tank), some (PyData.int begin), some ((eL (eT PyData.int)) rows), some ((eL (eP2 PyData.int (eT PyData.int))) prices), some ((eL PyData.int) stops), some ((eP2 (eO PyData.int) (eO PyData.int)) told_1), some ((eO PyData.int) stuck), some ((eP4 (eO PyData.int) PyData.bool (eO (eP2 PyData.int (eT PyData.int))) (eO PyData.int)) due), some (PyData.int whole), some ((eL PyData.int) tanks), some ((eL PyData.int) begins), some ((eT PyData.int) row_2), some ((eT PyData.int) some_), none, none, none, none, none, none, none, none]) (XS.set (X.ifW (eT PyData.int) (u := ((law_pick2_t rows l__6).1, (law_pick2_t rows l__6).2)) (v := (row_2, l__6)) (XT.cmp (X.var 6) (X.lst XA.nil) (neE (EqL (EqT EqI)) (by decide) rows [])) (fun hk_5 => (have hq_47 := hq_53.1 hk_5; (X.call (XA.cons (X.var 1) (XA.cons (X.var 6) XA.nil)) (law_pick2_tie rows l__6 hq_47)))) (fun hk_5 => (X.var 15))) (TG.name 16)) (fun some_ hv_1 l__7 hv_2 => (have hq_52 := hq_53.2 some_ hv_1 l__7 hv_2; (XL.seqd (XS.forU (eT PyData.int) (xs := [row_2, some_, ((cutL some_ none (some (-1))) ++ [((idx some_ (-1)) + 1)])]) [some (id sc), some (tokW), some (PyData.int turn), some ((eT (eP2 PyData.int (eO PyData.int))) way), some (PyData.int tank), some (PyData.int begin), some ((eL (eT PyData.int)) rows), some ((eL (eP2 PyData.int (eT PyData.int))) prices), some ((eL PyData.int) stops), some ((eP2 (eO PyData.int) (eO PyData.int)) told_1), some ((eO PyData.int) stuck), some ((eP4 (eO PyData.int) PyData.bool (eO (eP2 PyData.int (eT PyData.int))) (eO PyData.int)) due), some (PyData.int whole), some ((eL PyData.int) tanks), some ((eL PyData.int) begins), some ((eT PyData.int) row_2), some ((eT PyData.int) some_), none, none, none, none, none, none, none, none] (fun (own_2 : List Int) => [some (id sc), some (tokW), some (PyData.int turn), some ((eT (eP2 PyData.int (eO PyData.int))) way), some (PyData.int tank), some (PyData.int begin), some ((eL (eT PyData.int)) rows), some ((eL (eP2 PyData.int (eT PyData.int))) prices), some ((eL PyData.int) stops), some ((eP2 (eO PyData.int) (eO PyData.int)) told_1), some ((eO PyData.int) stuck), some ((eP4 (eO PyData.int) PyData.bool (eO (eP2 PyData.int (eT PyData.int))) (eO PyData.int)) due), some (PyData.int whole), some ((eL PyData.int) tanks), some ((eL PyData.int) begins), some ((eT PyData.int) row_2), some ((eT PyData.int) some_), some ((eT PyData.int) own_2), none, none, none, none, none, none, none]) (XA.seqT (X.tup (XA.cons (X.var 15) (XA.cons (X.var 16) (XA.cons (X.op2 (X.cut (X.var 16) XO.none (XO.some (X.op1 (X.k _) (negD_i _))) (cutD_T PyData.int some_ none (some (-1)))) (X.tup (XA.cons (X.op2 (X.op2 (X.var 16) (X.op1 (X.k _) (negD_i _)) (ixAD_T PyData.int hq_52.1)) (X.k _) (addD_i _ _)) XA.nil)) (addD_T PyData.int (cutL some_ none (some (-1))) ([((idx some_ (-1)) + 1)]) hq_52.2.1)) XA.nil))))) (show LE _ _ from .same (.same (.same (.same (.same (.same (.same (.same (.same (.same (.same (.same (.same (.same (.same (.same (.same (.same (.same (.same (.same (.same (.same (.same (.same (.nil)))))))))))))))))))))))))) (fun own_2 => (TG.name 17)) (fun own_2 hx_10 => (have hq_48 := hq_52.2.2.1 own_2 hx_10; (XS.seqPass (XS.seqd (XS.ifF (XT.not (XT.val (X.call (XA.cons (X.tup (XA.cons (X.call (XA.cons (X.var 3) (XA.cons (X.var 4) (XA.cons (X.var 5) (XA.cons (X.var 17) XA.nil)))) (is_fill_tie way tank begin own_2 hq_48.1 _)) (XA.cons (X.call (XA.cons (X.var 3) (XA.cons (X.var 5) (XA.cons (X.var 17) XA.nil))) (left_after_tie way begin own_2 hq_48.2.1 _)) XA.nil))) (XA.cons (X.tup (XA.cons (X.cT (XT.cmp (X.var 17) (X.var 6) (inAL (EqT EqI) (by decide) own_2 rows))) (XA.cons (X.call (XA.cons (X.var 3) (XA.cons (X.var 5) (XA.cons (X.var 17) XA.nil))) (law_left_tie way begin own_2 hq_48.2.2.1 _)) XA.nil))) XA.nil)) (al_tie (e := (eP2 PyData.bool (eT PyData.int))) hq_48.2.2.2.1 hq_48.2.2.2.2 _)))) XS.pass) (XS.wpass (show LE _ _ from .same (.same (.same (.same (.same (.same (.same (.same (.same (.same (.same (.same (.same (.same (.same (.same (.same (.skip (.same (.same (.same (.same (.same (.same (.same (.nil)))))))))))))))))))))))))))))))) (XL.seqp1 ([((eL PyData.int) some_), ((eT PyData.int) (some_ ++ [0])), ((eT PyData.int) (cutL some_ (some 1) none)), ((eT PyData.int) ([(-1)] ++ (cutL some_ (some 1) none))), (PyData.tuple (PyData.bool true :: (cutL some_ (some 1) none).map PyData.int)), (PyData.tuple (PyData.str ("1" : Str) :: (cutL some_ (some 1) none).map PyData.int)), PyData.none]) (fun (things : List D) => [some (id sc), some (tokW), some (PyData.int turn), some ((eT (eP2 PyData.int (eO PyData.int))) way), some (PyData.int tank), some (PyData.int begin), some ((eL (eT PyData.int)) rows), some ((eL (eP2 PyData.int (eT PyData.int))) prices), some ((eL PyData.int) stops), some ((eP2 (eO PyData.int) (eO PyData.int)) told_1), some ((eO PyData.int) stuck), some ((eP4 (eO PyData.int) PyData.bool (eO (eP2 PyData.int (eT PyData.int))) (eO PyData.int)) due), some (PyData.int whole), some ((eL PyData.int) tanks), some ((eL PyData.int) begins), some ((eT PyData.int) row_2), some ((eT PyData.int) some_), none, some ((eL id) things), none, none, none, none, none, none]) (XS.set (X.lst (XA.cons (X.op1 (X.var 16) rfl) (XA.cons (X.op2 (X.var 16) (X.tup (XA.cons (X.k _) XA.nil)) (addD_T PyData.int some_ [0] (hq_52.2.2.2).1)) (XA.cons (X.cut (X.var 16) (XO.some (X.k _)) XO.none (cutD_T PyData.int some_ (some 1) none)) (XA.cons (X.op2 (X.tup (XA.cons (X.op1 (X.k _) (negD_i _)) XA.nil)) (X.cut (X.var 16) (XO.some (X.k _)) XO.none (cutD_T PyData.int some_ (some 1) none)) (addD_T PyData.int [(-1)] (cutL some_ (some 1) none) (hq_52.2.2.2).2.1)) (XA.cons (X.op2 (X.tup (XA.cons (X.k _) XA.nil)) (X.cut (X.var 16) (XO.some (X.k _)) XO.none (cutD_T PyData.int some_ (some 1) none)) (addX _ _ (hq_52.2.2.2).2.2.1)) (XA.cons (X.op2 (X.tup (XA.cons (X.k _) XA.nil)) (X.cut (X.var 16) (XO.some (X.k _)) XO.none (cutD_T PyData.int some_ (some 1) none)) (addX _ _ (hq_52.2.2.2).2.2.1)) (XA.cons (X.k _) XA.nil)))))))) (TG.name 18)) (fun things hv => (have hq_51 := (hq_52.2.2.2).2.2.2 things hv; (XL.seqPass (XL.seqd (XS.ifF (XT.cmp (X.lcS id (xs := things) [some (id sc), some (tokW), some (PyData.int turn), some ((eT (eP2 PyData.int (eO PyData.int))) way), some (PyData.int tank), some (PyData.int begin), some ((eL (eT PyData.int)) rows), some ((eL (eP2 PyData.int (eT PyData.int))) prices), some ((eL PyData.int) stops), some ((eP2 (eO PyData.int) (eO PyData.int)) told_1), some ((eO PyData.int) stuck), some ((eP4 (eO PyData.int) PyData.bool (eO (eP2 PyData.int (eT PyData.int))) (eO PyData.int)) due), some (PyData.int whole), some ((eL PyData.int) tanks), some ((eL PyData.int) begins), some ((eT PyData.int) row_2), some ((eT PyData.int) some_), none, some ((eL id) things), none, none, none, none, none, none] (fun (thing : D) => [some (id sc), some (tokW), some (PyData.int turn), some ((eT (eP2 PyData.int (eO PyData.int))) way), some (PyData.int tank), some (PyData.int begin), some ((eL (eT PyData.int)) rows), some ((eL (eP2 PyData.int (eT PyData.int))) prices), some ((eL PyData.int) stops), some ((eP2 (eO PyData.int) (eO PyData.int)) told_1), some ((eO PyData.int) stuck), some ((eP4 (eO PyData.int) PyData.bool (eO (eP2 PyData.int (eT PyData.int))) (eO PyData.int)) due), some (PyData.int whole), some ((eL PyData.int) tanks), some ((eL PyData.int) begins), some ((eT PyData.int) row_2), some ((eT PyData.int) some_), none, some ((eL id) things), none, none, some (id thing), none, none, none]) (fun (thing : D) => (!true)) (XA.seqL (X.var 18)) (fun thing => (TG.name 21)) hq_51.1 (fun thing hx_11 => (have hq_49 := hq_51.2 thing hx_11; (XT.not (XT.val (X.call (XA.cons (X.call (XA.cons (X.var 3) (XA.cons (X.var 4) (XA.cons (X.var 5) (XA.cons (X.var 21) XA.nil)))) (is_fill2_tie way tank begin thing hq_49.1 _)) (XA.cons (X.k _) XA.nil)) (al_tie (e := PyData.bool) hq_49.2 (AlkE.b.alk _ trivial) _)))))) (fun thing hx_11 hb_4 => (have hq_50 := hq_51.2 thing hx_11; (X.var 21)))) (X.lst XA.nil) (neD_nilF id (by simp))) XS.pass) (XL.done (show LE _ _ from .same (.same (.skip (.skip (.skip (.skip (.skip (.skip (.skip (.skip (.skip (.skip (.skip (.skip (.skip (.skip (.skip (.same (.skip (.same (.same (.same (.same (.same (.same (.nil)))))))))))))))))))))))))) _))))))))))))))))))))))))))))))))))))))))))))))))))))))))) (fun l__8 => (XL.ret (X.k _))))
end W

set_option Elab.async false
set_option linter.all false
set_option autoImplicit false
set_option maxRecDepth 100000
namespace W
open PySem Q
abbrev Way := List (Int × Option Int)
/-- rows of what is filled, from now -/
def Fill (tank : Int) : Way → Int → List Int → Prop
  | [], _, row => row = []
  | p :: ps, now, row => ∃ more r, row = more :: r ∧ p.1 ≤ now ∧ 0 ≤ more ∧ (more = 0 ∨ p.2.isSome = true) ∧ now - p.1 + more ≤ tank ∧ Fill tank ps (now - p.1 + more) r
def cost (c : Option Int → Int → Int) : Way → List Int → Int
  | p :: ps, m :: r => c p.2 m + cost c ps r
  | _, _ => 0
theorem Fill.len {tank : Int} : ∀ {way : Way} {now : Int} {row : List Int}, Fill tank way now row → row.length = way.length
  | [], _, _, h => by
    have h : _ = [] := h
    rw [h]; rfl
  | p :: ps, now, row, h => by
    obtain ⟨m, r, rfl, _, _, _, _, k⟩ := h
    simp [Fill.len k]
theorem Fill.nn {tank : Int} : ∀ {way : Way} {now : Int} {row : List Int}, Fill tank way now row → ∀ m ∈ row, 0 ≤ m
  | [], _, _, h, m, hm => by
    have h : _ = [] := h
    rw [h] at hm; simp at hm
  | p :: ps, now, row, h, m, hm => by
    obtain ⟨m', r, rfl, _, h0, _, _, k⟩ := h
    rcases List.mem_cons.mp hm with rfl | hm
    · exact h0
    · exact Fill.nn k m hm
/-! ### the least, backwards -/
abbrev lT : Int × List Int → Int × List Int → Bool := lt2 ltI (ltL ltI)
theorem LinT : Lin lT := Lin.e (OrR.tup (OrR.cons OrI (OrR.one (OrT OrI))))
theorem lT_cons {a b c : Int} {m : Int} {r s : List Int} : lT (c + a, m :: r) (c + b, m :: s) = lT (a, r) (b, s) := by
  unfold lT lt2
  simp only
  by_cases h : a = b
  · subst h
    rw [if_pos rfl, if_pos rfl]
    show (if m = m then ltL ltI r s else ltI m m) = _
    rw [if_pos rfl]
  · rw [if_neg h, if_neg (by omega)]
    simp only [ltI]
    exact decide_eq_decide.mpr (by omega)
structure IsMin (tank : Int) (c : Option Int → Int → Int) (way : Way) (now : Int) (v : Int × List Int) : Prop where
  fill : Fill tank way now v.2
  val : v.1 = cost c way v.2
  le : ∀ r, Fill tank way now r → lT (cost c way r, r) v = false
abbrev Tab := List (Int × (Int × List Int))
structure TabOk (tank : Int) (c : Option Int → Int → Int) (way : Way) (t : Tab) : Prop where
  min : ∀ u v, lookT t u = some v → 0 ≤ u ∧ u ≤ tank ∧ IsMin tank c way u v
  all : ∀ u r, 0 ≤ u → u ≤ tank → Fill tank way u r → (lookT t u).isSome = true
  len : t.length ≤ 100
theorem look_putT {κ α : Type} [DecidableEq κ] (l : List (κ × α)) (k : κ) (v : α) (k' : κ) : lookT (putT l k v) k' = if k' = k then some v else lookT l k' := by
  unfold putT
  split
  · rename_i h
    have key : ∀ l : List (κ × α), (lookT l k).isSome = true → lookT (l.map fun p => if p.1 = k then (p.1, v) else p) k' = if k' = k then some v else lookT l k' := by
      intro l
      induction l with
      | nil => intro h; simp [lookT] at h
      | cons p l ih =>
        intro h
        unfold lookT at h ih ⊢
        rw [List.map_cons, List.find?_cons, List.find?_cons]
        rw [List.find?_cons] at h
        by_cases h1 : p.1 = k
        · rw [if_pos h1]
          by_cases h2 : k' = k
          · rw [if_pos h2]
            simp [h1, h2]
          · rw [if_neg h2]
            have h3 : ¬ p.1 = k' := fun z => h2 (z.symm.trans h1)
            simp only [h3, decide_false]
            have : ∀ l : List (κ × α), ((l.map fun p => if p.1 = k then (p.1, v) else p).find? fun p => decide (p.1 = k')).map (·.2) = (l.find? fun p => decide (p.1 = k')).map (·.2) := by
              intro l
              induction l with
              | nil => rfl
              | cons q l ih2 =>
                rw [List.map_cons, List.find?_cons, List.find?_cons]
                by_cases e : q.1 = k
                · rw [if_pos e]
                  have : ¬ q.1 = k' := fun z => h2 (z.symm.trans e)
                  simp only [this, decide_false]
                  exact ih2
                · rw [if_neg e]
                  by_cases e2 : q.1 = k' <;> simp [e2]
                  simpa using ih2
            exact this l
        · rw [if_neg h1]
          simp only [h1, decide_false] at h
          by_cases h3 : p.1 = k'
          · have h2 : ¬ k' = k := fun z => h1 (h3.trans z)
            rw [if_neg h2]
            simp [h3]
          · simp only [h3, decide_false]
            exact ih h
    exact key l h
  · rename_i h
    unfold lookT at h ⊢
    rw [List.find?_append]
    by_cases h2 : k' = k
    · subst h2
      rw [if_pos rfl]
      have : l.find? (fun p => decide (p.1 = k')) = none := by
        cases q : l.find? fun p => decide (p.1 = k') with
        | none => rfl
        | some x => rw [q] at h; simp at h
      rw [this]
      simp
    · rw [if_neg h2]
      have : ([(k, v)] : List (κ × α)).find? (fun p => decide (p.1 = k')) = none := by
        simp; exact fun z => h2 z.symm
      rw [this, Option.or_none]
theorem len_putT {κ α : Type} [DecidableEq κ] (l : List (κ × α)) (k : κ) (v : α) : (putT l k v).length ≤ l.length + 1 := by
  unfold putT
  split <;> simp
theorem OkF.ix {α σ : Type} {ok : σ → α → Prop} {step : σ → α → σ} (I : Nat → σ → Prop) : ∀ (xs : List α) (s : σ) (n : Nat), I n s → (∀ i s (h : i < xs.length), I (n + i) s → ok s xs[i] ∧ I (n + i + 1) (step s xs[i])) → OkF ok step s xs ∧ I (n + xs.length) (xs.foldl step s)
  | [], s, n, h, _ => ⟨trivial, h⟩
  | x :: xs, s, n, h, k => by
    have h0 := k 0 s (by simp) h
    obtain ⟨i1, i2⟩ := OkF.ix I xs (step s x) (n + 1) h0.2 fun i s hi hI => by
      have := k (i + 1) s (by simp; omega) (by rw [← Nat.add_assoc, Nat.add_right_comm]; exact hI)
      rw [Nat.add_right_comm n 1 i]
      exact this
    refine ⟨⟨h0.1, i1⟩, ?_⟩
    rw [List.length_cons, List.foldl_cons, show n + (xs.length + 1) = n + 1 + xs.length by omega]
    exact i2
/-- the list of what may be done at units -/
def ableT (tank : Int) (c : Option Int → Int → Int) (p : Int × Option Int) (later : Tab) (units : Int) : List (Int × List Int) :=
  (rangeI 0 (if p.2.isSome = true then tank - units + p.1 + 1 else 1)).foldl (fun s more => if (lookT later (units - p.1 + more)).isSome = true then s ++ [(c p.2 more + ((lookT later (units - p.1 + more)).getD default).1, [more] ++ ((lookT later (units - p.1 + more)).getD default).2)] else s) []
theorem foldl_some {α β : Type} (f : α → Bool) (g : α → β) : ∀ (xs : List α) (s : List β), xs.foldl (fun s x => if f x = true then s ++ [g x] else s) s = s ++ (xs.filter f).map g
  | [], s => by simp
  | x :: xs, s => by
    rw [List.foldl_cons, foldl_some f g xs, List.filter_cons]
    split <;> simp
theorem mem_able {tank : Int} {c : Option Int → Int → Int} {p : Int × Option Int} {later : Tab} {units : Int} {x : Int × List Int} : x ∈ ableT tank c p later units ↔ ∃ more v, 0 ≤ more ∧ (p.2.isSome = true → more ≤ tank - units + p.1) ∧ (p.2.isSome = false → more = 0) ∧ lookT later (units - p.1 + more) = some v ∧ x = (c p.2 more + v.1, more :: v.2) := by
  unfold ableT
  rw [foldl_some (fun more => (lookT later (units - p.1 + more)).isSome) (fun more => (c p.2 more + ((lookT later (units - p.1 + more)).getD default).1, [more] ++ ((lookT later (units - p.1 + more)).getD default).2)), List.nil_append, List.mem_map]
  constructor
  · rintro ⟨m, hm, rfl⟩
    obtain ⟨h1, h2⟩ := List.mem_filter.mp hm
    obtain ⟨h3, h4⟩ := mem_rangeI.mp h1
    obtain ⟨v, hv⟩ := Option.isSome_iff_exists.mp h2
    refine ⟨m, v, h3, fun h => ?_, fun h => ?_, hv, by rw [hv]; rfl⟩
    · rw [if_pos h] at h4; omega
    · rw [if_neg (by rw [h]; simp)] at h4; omega
  · rintro ⟨m, v, h1, h2, h3, hv, rfl⟩
    refine ⟨m, List.mem_filter.mpr ⟨mem_rangeI.mpr ⟨h1, ?_⟩, by simp only [hv, Option.isSome_some]⟩, by rw [hv]; rfl⟩
    cases h : p.2.isSome with
    | true => rw [if_pos rfl]; have := h2 h; omega
    | false => rw [if_neg (by simp)]; have := h3 h; omega
theorem able_min {tank : Int} {c : Option Int → Int → Int} {p : Int × Option Int} {ps : Way} {later : Tab} (T : TabOk tank c ps later) {units : Int} (h1 : p.1 ≤ units) (h2 : units ≤ tank) (hne : ableT tank c p later units ≠ []) : IsMin tank c (p :: ps) units (minT lT (ableT tank c p later units)) := by
  have hm := minT_mem LinT hne
  obtain ⟨m, v, m0, m1, m2, hv, e⟩ := mem_able.mp hm
  obtain ⟨v0, v1, vm⟩ := T.min _ _ hv
  have hfill : Fill tank (p :: ps) units (m :: v.2) := ⟨m, v.2, rfl, h1, m0, by
    cases q : p.2.isSome with
    | true => exact .inr rfl
    | false => exact .inl (m2 q), by omega, vm.fill⟩
  refine ⟨by rw [e]; exact hfill, ?_, fun r hr => ?_⟩
  · rw [e]
    show c p.2 m + v.1 = c p.2 m + cost c ps v.2
    rw [vm.val]
  · obtain ⟨m', r', rfl, _, k0, k1, k2, k⟩ := hr
    obtain ⟨w, hw⟩ := Option.isSome_iff_exists.mp (T.all _ _ (by omega) k2 k)
    obtain ⟨w0, w1, wm⟩ := T.min _ _ hw
    have hmem : (c p.2 m' + w.1, m' :: w.2) ∈ ableT tank c p later units := mem_able.mpr ⟨m', w, k0, fun _ => by omega, fun q => k1.elim id fun z => absurd (q.symm.trans z) (by decide), hw, rfl⟩
    have a1 := minT_le LinT hmem
    have a2 : lT (c p.2 m' + cost c ps r', m' :: r') (c p.2 m' + w.1, m' :: w.2) = false := by
      rw [lT_cons]
      exact wm.le r' k
    show lT (c p.2 m' + cost c ps r', m' :: r') _ = false
    cases q : lT (c p.2 m' + cost c ps r', m' :: r') (minT lT (ableT tank c p later units)) with
    | false => rfl
    | true =>
      cases q2 : lT (c p.2 m' + w.1, m' :: w.2) (c p.2 m' + cost c ps r', m' :: r') with
      | true => rw [LinT.tr _ _ _ q2 q] at a1; cases a1
      | false =>
        have := LinT.tot _ _ a2 q2
        rw [this] at q
        rw [q] at a1
        cases a1
def stepU (tank : Int) (c : Option Int → Int → Int) (p : Int × Option Int) (later : Tab) (s : Tab) (u : Int) : Tab := if (!decide (ableT tank c p later u = [])) = true then putT s u (minT lT (ableT tank c p later u)) else s
def stepT (tank : Int) (c : Option Int → Int → Int) (p : Int × Option Int) (later : Tab) : Tab := (rangeI p.1 (tank + 1)).foldl (stepU tank c p later) []
theorem look_fold {tank : Int} {c : Option Int → Int → Int} {p : Int × Option Int} {later : Tab} (u : Int) : ∀ (xs : List Int) (s : Tab), lookT (xs.foldl (stepU tank c p later) s) u = if u ∈ xs ∧ ableT tank c p later u ≠ [] then some (minT lT (ableT tank c p later u)) else lookT s u
  | [], s => by simp
  | x :: xs, s => by
    rw [List.foldl_cons, look_fold u xs]
    by_cases h : u ∈ xs ∧ ableT tank c p later u ≠ []
    · rw [if_pos h, if_pos ⟨List.mem_cons_of_mem _ h.1, h.2⟩]
    · rw [if_neg h]
      unfold stepU
      by_cases hx : ableT tank c p later x = []
      · rw [if_neg (by simpa using hx), if_neg]
        rintro ⟨h1, h2⟩
        rcases List.mem_cons.mp h1 with rfl | h1
        · exact h2 hx
        · exact h ⟨h1, h2⟩
      · rw [if_pos (by simpa using hx), look_putT]
        by_cases e : u = x
        · subst e
          rw [if_pos rfl, if_pos ⟨List.mem_cons_self, hx⟩]
        · rw [if_neg e, if_neg]
          rintro ⟨h1, h2⟩
          rcases List.mem_cons.mp h1 with z | h1
          · exact e z
          · exact h ⟨h1, h2⟩
theorem len_fold {tank : Int} {c : Option Int → Int → Int} {p : Int × Option Int} {later : Tab} : ∀ (xs : List Int) (s : Tab), (xs.foldl (stepU tank c p later) s).length ≤ s.length + xs.length
  | [], s => by simp
  | x :: xs, s => by
    rw [List.foldl_cons]
    have h1 := len_fold xs (stepU tank c p later s x) (tank := tank) (c := c) (p := p) (later := later)
    have h2 : (stepU tank c p later s x).length ≤ s.length + 1 := by
      unfold stepU
      split
      · exact len_putT _ _ _
      · omega
    simp only [List.length_cons]
    omega
theorem step_ok {tank : Int} {c : Option Int → Int → Int} {p : Int × Option Int} {ps : Way} {later : Tab} (T : TabOk tank c ps later) (hp : 0 ≤ p.1) (ht : tank ≤ 50) : TabOk tank c (p :: ps) (stepT tank c p later) := by
  refine ⟨fun u v h => ?_, fun u r u0 u1 hr => ?_, ?_⟩
  · unfold stepT at h
    rw [look_fold] at h
    by_cases k : u ∈ rangeI p.1 (tank + 1) ∧ ableT tank c p later u ≠ []
    · rw [if_pos k] at h
      obtain ⟨k1, k2⟩ := mem_rangeI.mp k.1
      have h := Option.some.inj h
      subst h
      exact ⟨by omega, by omega, able_min T k1 (by omega) k.2⟩
    · rw [if_neg k] at h
      simp [lookT] at h
  · obtain ⟨m', r', rfl, h1, k0, k1, k2, k⟩ := hr
    unfold stepT
    rw [look_fold, if_pos]
    · rfl
    · refine ⟨mem_rangeI.mpr ⟨h1, by omega⟩, fun z => ?_⟩
      obtain ⟨w, hw⟩ := Option.isSome_iff_exists.mp (T.all _ _ (by omega) k2 k)
      have hmem : (c p.2 m' + w.1, m' :: w.2) ∈ ableT tank c p later u := mem_able.mpr ⟨m', w, k0, fun _ => by omega, fun q => k1.elim id fun z => absurd (q.symm.trans z) (by decide), hw, rfl⟩
      rw [z] at hmem
      simp at hmem
  · have := len_fold (tank := tank) (c := c) (p := p) (later := later) (rangeI p.1 (tank + 1)) []
    rw [len_rangeI] at this
    unfold stepT
    simp at this
    omega
end W

set_option Elab.async false
set_option linter.all false
set_option autoImplicit false
set_option maxRecDepth 100000
namespace W
open PySem Q
structure WayOk (way : Way) : Prop where
  one : 1 ≤ way.length
  four : way.length ≤ 4
  ok : ∀ p ∈ way, 1 ≤ p.1 ∧ p.1 ≤ 5 ∧ ∀ v, p.2 = some v → 0 ≤ v ∧ v ≤ 5
def cF (cst : Str) : Option Int → Int → Int := fun price more => if cst = ("price_of" : Str) then price_of_t price more else one_stop_t price more
theorem look_merge {α : Type} (z : α) (u : Int) : ∀ (xs : List Int) (acc : List (Int × α)), lookT (mergeT acc (xs.map fun u => (u, z))) u = if u ∈ xs then some z else lookT acc u
  | [], acc => by simp [mergeT]
  | x :: xs, acc => by
    have e : mergeT acc ((x :: xs).map fun u => (u, z)) = mergeT (putT acc x z) (xs.map fun u => (u, z)) := rfl
    rw [e, look_merge z u xs, look_putT]
    by_cases h : u ∈ xs
    · rw [if_pos h, if_pos (List.mem_cons_of_mem _ h)]
    · rw [if_neg h]
      by_cases h2 : u = x
      · subst h2
        rw [if_pos rfl, if_pos List.mem_cons_self]
      · rw [if_neg h2, if_neg]
        intro k
        rcases List.mem_cons.mp k with k | k
        · exact h2 k
        · exact h k
theorem len_merge {α : Type} (z : α) : ∀ (xs : List Int) (acc : List (Int × α)), (mergeT acc (xs.map fun u => (u, z))).length ≤ acc.length + xs.length
  | [], acc => by simp [mergeT]
  | x :: xs, acc => by
    have e : mergeT acc ((x :: xs).map fun u => (u, z)) = mergeT (putT acc x z) (xs.map fun u => (u, z)) := rfl
    rw [e]
    have h1 := len_merge z xs (putT acc x z)
    have h2 := len_putT acc x z
    simp only [List.length_cons]
    omega
def tab0 (tank : Int) : Tab := mergeT [] ((rangeI 0 (tank + 1)).map fun u => (u, (0, [])))
theorem tab0_ok {tank : Int} (c : Option Int → Int → Int) (h : tank ≤ 50) : TabOk tank c [] (tab0 tank) := by
  refine ⟨fun u v h => ?_, fun u r h0 h1 _ => ?_, ?_⟩
  · unfold tab0 at h
    rw [look_merge] at h
    by_cases k : u ∈ rangeI 0 (tank + 1)
    · rw [if_pos k] at h
      obtain ⟨k1, k2⟩ := mem_rangeI.mp k
      have h := Option.some.inj h
      subst h
      refine ⟨k1, by omega, rfl, rfl, fun r hr => ?_⟩
      have hr : r = [] := hr
      subst hr
      exact LinT.irr _
    · rw [if_neg k] at h
      simp [lookT] at h
  · unfold tab0
    rw [look_merge, if_pos (mem_rangeI.mpr ⟨h0, by omega⟩)]
    rfl
  · have := len_merge ((0, []) : Int × List Int) (rangeI 0 (tank + 1)) []
    rw [len_rangeI] at this
    unfold tab0
    simp at this
    omega
def stepS (tank : Int) (c : Option Int → Int → Int) (s : List Tab) (p : Int × Option Int) : List Tab := s ++ [stepT tank c p (idx s (-1))]
def okA (cst : Str) (p : Int × Option Int) (later : Tab) (units : Int) (s : List (Int × List Int)) (more : Int) : Prop := (lookT later ((units - p.1) + more)).isSome = true → (lookT later ((units - p.1) + more)).isSome = true ∧ (∀ q : Int × List Int, q = ((lookT later ((units - p.1) + more)).getD default) → (cst = ("price_of" : Str) → price_of_ok p.2 more) ∧ (cst = ("price_of" : Str) ∨ cst = ("one_stop" : Str)) ∧ [more].length + q.2.length ≤ sizeLine ∧ s.length < sizeLine)
def stepA (c : Option Int → Int → Int) (p : Int × Option Int) (later : Tab) (units : Int) (s : List (Int × List Int)) (more : Int) : List (Int × List Int) := if (lookT later (units - p.1 + more)).isSome = true then s ++ [(c p.2 more + ((lookT later (units - p.1 + more)).getD default).1, [more] ++ ((lookT later (units - p.1 + more)).getD default).2)] else s
def okU (tank : Int) (cst : Str) (p : Int × Option Int) (later : Tab) (s : Tab) (units : Int) : Prop := I62 (if p.2.isSome = true then (((tank - units) + p.1) + 1) else 1) ∧ OkF (okA cst p later units) (stepA (cF cst) p later units) [] (rangeI 0 (if p.2.isSome = true then (((tank - units) + p.1) + 1) else 1)) ∧ (∀ able : List (Int × List Int), able = ableT tank (cF cst) p later units → (!decide (able = [])) = true → able ≠ [] ∧ s.length < sizeLine)
def okS (tank : Int) (cst : Str) (s : List Tab) (p : Int × Option Int) : Prop := InR s (-1) ∧ (∀ later : Tab, later = idx s (-1) → ∀ best : Tab, best = [] → I62 p.1 ∧ I62 (tank + 1) ∧ OkF (okU tank cst p later) (stepU tank (cF cst) p later) best (rangeI p.1 (tank + 1)) ∧ (∀ best2 : Tab, best2 = (rangeI p.1 (tank + 1)).foldl (stepU tank (cF cst) p later) best → s.length < sizeLine))
theorem idx_last {α : Type} [Inhabited α] (s : List α) (x : α) : idx (s ++ [x]) (-1) = x := by
  unfold idx ixN'
  rw [if_neg (by omega)]
  have e : (((s ++ [x]).length : Int) + -1).toNat = s.length := by
    rw [List.length_append, List.length_singleton]; omega
  rw [e, List.getD_eq_getElem?_getD, List.getElem?_append_right (Nat.le_refl _)]
  simp
theorem price_ok {price : Option Int} {more : Int} (h : ∀ v, price = some v → 0 ≤ v ∧ v ≤ 5) (k : price.isSome = false → more = 0) : price_of_ok price more := fun hm => by
  have hm : 0 < more := by simpa using hm
  cases price with
  | none => have := k rfl; omega
  | some v =>
    have := h v rfl
    exact ⟨rfl, M64_l (by show _ ≤ v; omega) (by show v ≤ _; omega)⟩
theorem okS_of {tank : Int} {cst : Str} (hc : cst = ("price_of" : Str) ∨ cst = ("one_stop" : Str)) (ht0 : 0 ≤ tank) (ht : tank ≤ 50) {s : List Tab} {p : Int × Option Int} {ps : Way} (hsl : s.length ≤ 100) (hs : s ≠ []) (T : TabOk tank (cF cst) ps (idx s (-1))) (hps : ps.length ≤ 100) (hp : 1 ≤ p.1 ∧ p.1 ≤ 5 ∧ ∀ v, p.2 = some v → 0 ≤ v ∧ v ≤ 5) : okS tank cst s p := by
  have hl := List.length_pos_iff.mpr hs
  refine ⟨⟨by omega, by omega⟩, ?_⟩
  rintro later rfl best rfl
  refine ⟨I62_of (by omega) (by omega), I62_of (by omega) (by omega), ?_, fun _ _ => lt_sz (by omega)⟩
  refine OkF.invN (fun i s => s.length ≤ i) 0 (by simp) fun i s u hu hi w => ?_
  obtain ⟨u1, u2⟩ := mem_rangeI.mp hu
  rw [len_rangeI] at hi
  refine ⟨⟨?_, ?_, ?_⟩, ?_⟩
  · split
    · exact I62_of (by omega) (by omega)
    · exact I62_of (by omega) (by omega)
  · refine OkF.invN (fun i s => s.length ≤ i) 0 (by simp) fun i s m hm hi w => ?_
    have hm2 := mem_rangeI.mp hm
    have hi2 : i < 200 := by
      rw [len_rangeI] at hi
      split at hi <;> omega
    refine ⟨fun hsome => ⟨hsome, fun q hq => ⟨fun _ => price_ok hp.2.2 fun z => ?_, hc, le_sz ?_, lt_sz (by omega)⟩⟩, ?_⟩
    · rw [if_neg (by rw [z]; simp)] at hm2
      omega
    · obtain ⟨v, hv⟩ := Option.isSome_iff_exists.mp hsome
      rw [hv] at hq
      have hq : q = v := hq
      obtain ⟨_, _, vm⟩ := T.min _ _ hv
      have := vm.fill.len
      rw [hq]
      simp; omega
    · show (stepA _ _ _ _ _ _).length ≤ i + 1
      unfold stepA
      split
      · simp; omega
      · omega
  · intro able _ h
    exact ⟨by simpa using h, lt_sz (by omega)⟩
  · show (stepU _ _ _ _ _ _).length ≤ i + 1
    unfold stepU
    split
    · exact Nat.le_trans (len_putT _ _ _) (by omega)
    · omega
theorem fills_run {tank : Int} {cst : Str} (hc : cst = ("price_of" : Str) ∨ cst = ("one_stop" : Str)) (ht0 : 0 ≤ tank) (ht : tank ≤ 50) {way : Way} (W : WayOk way) :
    fills_from_ok way tank cst ∧ fills_from_t way tank cst ≠ [] ∧ TabOk tank (cF cst) way (idx (fills_from_t way tank cst) (-1)) := by
  have h := OkF.ix (ok := okS tank cst) (step := stepS tank (cF cst)) (fun i s => s.length ≤ i + 1 ∧ s ≠ [] ∧ TabOk tank (cF cst) ((way.reverse.take i).reverse) (idx s (-1))) way.reverse [tab0 tank] 0 ⟨by simp, by simp, by
      have : idx [tab0 tank] (-1) = tab0 tank := idx_last [] _
      rw [this]
      simp only [List.take_zero, List.reverse_nil]
      exact tab0_ok _ ht⟩ fun i s hi w => by
    rw [Nat.zero_add] at w ⊢
    have hp := W.ok way.reverse[i] (List.mem_reverse.mp (List.getElem_mem hi))
    have hi4 : i < way.length := by simpa using hi
    have h4 := W.four
    refine ⟨okS_of hc ht0 ht (by have := w.1; omega) w.2.1 w.2.2 (by simp; omega) hp, by have := w.1; simp [stepS]; omega, by simp [stepS], ?_⟩
    have e : (way.reverse.take (i + 1)).reverse = way.reverse[i] :: (way.reverse.take i).reverse := by
      rw [List.take_succ_eq_append_getElem hi, List.reverse_append]
      rfl
    rw [e]
    show TabOk tank (cF cst) _ (idx (s ++ [_]) (-1))
    rw [idx_last]
    exact step_ok w.2.2 (by omega) ht
  obtain ⟨h1, _, h2, h3⟩ := h
  rw [Nat.zero_add, List.take_length, List.reverse_reverse] at h3
  refine ⟨⟨I62_of (by omega) (by omega), le_sz (by rw [len_rangeI]; omega), ?_⟩, h2, h3⟩
  rintro rows rfl
  exact h1
end W

set_option Elab.async false
set_option linter.all false
set_option autoImplicit false
set_option maxRecDepth 100000
namespace W
open PySem Q
/-! ### forwards: all rows -/
abbrev RN := List (List Int × Int)
def condF (tank : Int) (p : Int × Option Int) (q : List Int × Int) (more : Int) : Bool := decide (p.1 ≤ q.2) && decide (((q.2 - p.1) + more) ≤ tank)
def stepI (tank : Int) (p : Int × Option Int) (q : List Int × Int) (s : RN) (more : Int) : RN := if condF tank p q more = true then s ++ [((q.1 ++ [more]), ((q.2 - p.1) + more))] else s
def stepQ (tank : Int) (p : Int × Option Int) (s : RN) (q : List Int × Int) : RN := (rangeI 0 (if p.2.isSome = true then (tank + 1) else 1)).foldl (stepI tank p q) s
def stepF (tank : Int) (s : RN) (p : Int × Option Int) : RN := s.foldl (stepQ tank p) []
theorem stepQ_eq (tank : Int) (p : Int × Option Int) (s : RN) (q : List Int × Int) : stepQ tank p s q = s ++ ((rangeI 0 (if p.2.isSome = true then (tank + 1) else 1)).filter (condF tank p q)).map fun more => ((q.1 ++ [more]), ((q.2 - p.1) + more)) := foldl_some (condF tank p q) (fun more => ((q.1 ++ [more]), ((q.2 - p.1) + more))) _ s
theorem mem_foldQ {tank : Int} {p : Int × Option Int} {x : List Int × Int} : ∀ (s acc : RN), x ∈ s.foldl (stepQ tank p) acc ↔ x ∈ acc ∨ ∃ q ∈ s, ∃ more, more ∈ rangeI 0 (if p.2.isSome = true then (tank + 1) else 1) ∧ condF tank p q more = true ∧ x = ((q.1 ++ [more]), ((q.2 - p.1) + more))
  | [], acc => by simp
  | q :: s, acc => by
    rw [List.foldl_cons, mem_foldQ s, stepQ_eq, List.mem_append, List.mem_map]
    constructor
    · rintro ((h | ⟨m, hm, rfl⟩) | ⟨q', hq, h⟩)
      · exact .inl h
      · obtain ⟨h1, h2⟩ := List.mem_filter.mp hm
        exact .inr ⟨q, List.mem_cons_self, m, h1, h2, rfl⟩
      · exact .inr ⟨q', List.mem_cons_of_mem _ hq, h⟩
    · rintro (h | ⟨q', hq, m, h1, h2, rfl⟩)
      · exact .inl (.inl h)
      · rcases List.mem_cons.mp hq with rfl | hq
        · exact .inl (.inr ⟨m, List.mem_filter.mpr ⟨h1, h2⟩, rfl⟩)
        · exact .inr ⟨q', hq, m, h1, h2, rfl⟩
theorem mem_fold {tank : Int} (ht : 0 ≤ tank) {r : List Int} : ∀ (way : Way) (s : RN), (∃ n, (r, n) ∈ way.foldl (stepF tank) s) ↔ ∃ q ∈ s, ∃ r', r = q.1 ++ r' ∧ Fill tank way q.2 r'
  | [], s => by
    constructor
    · rintro ⟨n, h⟩
      exact ⟨(r, n), h, [], by simp, rfl⟩
    · rintro ⟨q, hq, r', rfl, hr⟩
      have hr : r' = [] := hr
      subst hr
      exact ⟨q.2, by simpa using hq⟩
  | p :: ps, s => by
    rw [List.foldl_cons, mem_fold ht ps]
    unfold stepF
    constructor
    · rintro ⟨x, hx, r', rfl, hr⟩
      rcases (mem_foldQ s []).mp hx with h | ⟨q, hq, m, h1, h2, rfl⟩
      · simp at h
      · obtain ⟨m1, m2⟩ := mem_rangeI.mp h1
        have h2 : p.1 ≤ q.2 ∧ q.2 - p.1 + m ≤ tank := by simpa [condF] using h2
        refine ⟨q, hq, m :: r', by simp, m, r', rfl, h2.1, m1, ?_, h2.2, hr⟩
        cases z : p.2.isSome with
        | true => exact .inr rfl
        | false => rw [z, if_neg (by simp)] at m2; exact .inl (by omega)
    · rintro ⟨q, hq, _, rfl, m, r', rfl, h1, h2, h3, h4, h5⟩
      refine ⟨(q.1 ++ [m], q.2 - p.1 + m), (mem_foldQ s []).mpr (.inr ⟨q, hq, m, mem_rangeI.mpr ⟨h2, ?_⟩, by simp [condF]; omega, rfl⟩), r', by simp, h5⟩
      rcases h3 with h3 | h3
      · split <;> omega
      · rw [if_pos h3]; omega
theorem fills_mem {tank : Int} (ht : 0 ≤ tank) {way : Way} {begin : Int} {r : List Int} : r ∈ law_fills_t way tank begin ↔ Fill tank way begin r := by
  have h := mem_fold (r := r) ht way [([], begin)]
  have e : law_fills_t way tank begin = (way.foldl (stepF tank) [([], begin)]).map fun q => q.1 := rfl
  rw [e, List.mem_map]
  constructor
  · rintro ⟨q, hq, rfl⟩
    obtain ⟨q', hq', r', e2, hf⟩ := h.mp ⟨q.2, hq⟩
    have : q' = ([], begin) := by simpa using hq'
    subst this
    rw [e2]
    simpa using hf
  · intro hf
    obtain ⟨n, hn⟩ := h.mpr ⟨_, List.mem_singleton.mpr rfl, r, by simp, hf⟩
    exact ⟨_, hn, rfl⟩
def okI (tank : Int) (p : Int × Option Int) (q : List Int × Int) (s : RN) (more : Int) : Prop := condF tank p q more = true → q.1.length + [more].length ≤ sizeLine ∧ s.length < sizeLine
def okQ (tank : Int) (p : Int × Option Int) (s : RN) (q : List Int × Int) : Prop := I62 (if p.2.isSome = true then (tank + 1) else 1) ∧ OkF (okI tank p q) (stepI tank p q) s (rangeI 0 (if p.2.isSome = true then (tank + 1) else 1))
def okF (tank : Int) (s : RN) (p : Int × Option Int) : Prop := OkF (okQ tank p) (stepQ tank p) [] s
theorem rng8 {tank : Int} (ht : tank ≤ 7) (b : Bool) : (rangeI 0 (if b = true then (tank + 1) else 1)).length ≤ 8 := by
  rw [len_rangeI]
  split <;> omega
theorem stepQ_len {tank : Int} (ht : tank ≤ 7) (p : Int × Option Int) (s : RN) (q : List Int × Int) : (stepQ tank p s q).length ≤ s.length + 8 := by
  rw [stepQ_eq, List.length_append, List.length_map]
  have := List.length_filter_le (condF tank p q) (rangeI 0 (if p.2.isSome = true then (tank + 1) else 1))
  have := rng8 ht p.2.isSome
  omega
theorem stepF_ok {tank : Int} (ht0 : 0 ≤ tank) (ht : tank ≤ 7) {i n : Nat} {s : RN} (hs : s.length ≤ n) (hn : n ≤ 100000) (hi : i ≤ 100) (hq : ∀ q ∈ s, q.1.length = i) (p : Int × Option Int) : okF tank s p ∧ (stepF tank s p).length ≤ 8 * n ∧ ∀ q ∈ stepF tank s p, q.1.length = i + 1 := by
  have h := OkF.ix (ok := okQ tank p) (step := stepQ tank p) (fun j t => t.length ≤ 8 * j) s [] 0 (by simp) fun j t hj w => by
    rw [Nat.zero_add] at w ⊢
    have hl := stepQ_len ht p t s[j]
    refine ⟨⟨?_, ?_⟩, by omega⟩
    · split
      · exact I62_of (by omega) (by omega)
      · exact I62_of (by omega) (by omega)
    · refine OkF.invN (fun k t => t.length ≤ 8 * j + k) 0 w fun k t m hm hk hw => ?_
      have r8 := rng8 ht p.2.isSome
      refine ⟨fun _ => ⟨le_sz ?_, lt_sz (by omega)⟩, ?_⟩
      · have := hq s[j] (List.getElem_mem hj)
        simp; omega
      · show (stepI _ _ _ _ _).length ≤ _
        unfold stepI
        split
        · simp; omega
        · omega
  refine ⟨h.1, ?_, fun q hq2 => ?_⟩
  · have h2 : (s.foldl (stepQ tank p) []).length ≤ 8 * (0 + s.length) := h.2
    show (s.foldl (stepQ tank p) []).length ≤ _
    omega
  · rcases (mem_foldQ s []).mp hq2 with z | ⟨q', h1, m, _, _, rfl⟩
    · simp at z
    · have := hq q' h1
      simp; omega
theorem fills_ok {tank : Int} (ht0 : 0 ≤ tank) (ht : tank ≤ 7) {way : Way} (hw : way.length ≤ 4) (begin : Int) : law_fills_ok way tank begin ∧ (law_fills_t way tank begin).length ≤ 5000 := by
  have h := OkF.ix (ok := okF tank) (step := stepF tank) (fun i s => s.length ≤ 8 ^ i ∧ ∀ q ∈ s, q.1.length = i) way [([], begin)] 0 ⟨by simp, fun q hq => by
      rw [List.mem_singleton.mp hq]; rfl⟩ fun i s hi w => by
    rw [Nat.zero_add] at w ⊢
    have h8 : 8 ^ i ≤ 8 ^ 4 := Nat.pow_le_pow_right (by omega) (by omega)
    obtain ⟨h1, h2, h3⟩ := stepF_ok ht0 ht w.1 (by omega) (by omega) w.2 way[i]
    exact ⟨h1, by rw [Nat.pow_succ]; omega, h3⟩
  rw [Nat.zero_add] at h
  have h8 : 8 ^ way.length ≤ 8 ^ 4 := Nat.pow_le_pow_right (by omega) hw
  have hl : (way.foldl (stepF tank) [([], begin)]).length ≤ 5000 := by have := h.2.1; omega
  refine ⟨?_, by
    show ((way.foldl (stepF tank) [([], begin)]).map fun q => q.1).length ≤ _
    rw [List.length_map]; exact hl⟩
  rintro rows rfl
  refine ⟨h.1, ?_⟩
  rintro rows1 rfl
  exact le_sz (by
    show (way.foldl (stepF tank) [([], begin)]).length ≤ _
    omega)
/-! ### can it be gone -/
def goB (tank : Int) : Way → Int → Bool
  | [], _ => true
  | p :: ps, now => decide (p.1 ≤ now) && goB tank ps (if p.2.isSome = true then tank else now - p.1)
theorem goB_mono {tank : Int} : ∀ (way : Way) {a b : Int}, a ≤ b → goB tank way a = true → goB tank way b = true
  | [], _, _, _, _ => rfl
  | p :: ps, a, b, h, k => by
    simp only [goB, Bool.and_eq_true, decide_eq_true_eq] at k ⊢
    refine ⟨by omega, ?_⟩
    cases z : p.2.isSome with
    | true => rw [z] at k; exact k.2
    | false =>
      rw [z] at k
      exact goB_mono ps (by simp; omega) k.2
theorem goB_fill {tank : Int} (ht : 0 ≤ tank) : ∀ (way : Way) (hw : ∀ p ∈ way, 1 ≤ p.1) (now : Int), now ≤ tank → (goB tank way now = true ↔ ∃ r, Fill tank way now r)
  | [], _, now, _ => ⟨fun _ => ⟨[], rfl⟩, fun _ => rfl⟩
  | p :: ps, hw, now, h => by
    have hp := hw p List.mem_cons_self
    have hps := fun q hq => hw q (List.mem_cons_of_mem p hq)
    simp only [goB, Bool.and_eq_true, decide_eq_true_eq]
    constructor
    · rintro ⟨h1, h2⟩
      cases z : p.2.isSome with
      | true =>
        rw [z, if_pos rfl] at h2
        obtain ⟨r, hr⟩ := (goB_fill ht ps hps tank (Int.le_refl _)).mp h2
        refine ⟨(tank - (now - p.1)) :: r, _, r, rfl, h1, by omega, .inr z, by omega, ?_⟩
        have : now - p.1 + (tank - (now - p.1)) = tank := by omega
        rw [this]; exact hr
      | false =>
        rw [z, if_neg (by simp)] at h2
        obtain ⟨r, hr⟩ := (goB_fill ht ps hps (now - p.1) (by omega)).mp h2
        exact ⟨0 :: r, 0, r, rfl, h1, by omega, .inl rfl, by omega, by rw [Int.add_zero]; exact hr⟩
    · rintro ⟨_, m, r, rfl, h1, h2, h3, h4, h5⟩
      have := (goB_fill ht ps hps _ h4).mpr ⟨r, h5⟩
      refine ⟨h1, ?_⟩
      cases z : p.2.isSome with
      | true => rw [if_pos rfl]; exact goB_mono ps h4 this
      | false =>
        rw [if_neg (by simp)]
        rcases h3 with h3 | h3
        · subst h3; rw [Int.add_zero] at this; exact this
        · rw [z] at h3; cases h3
def stuckF (way : Way) (tank : Int) (s k : Int) : Stp (Option Int) Int := if decide (s < (idx way k).1) = true then .ret (some k) else .nx (if (idx way k).2.isNone = true then s - (idx way k).1 else tank)
theorem stuck_same (way : Way) (tank begin : Int) : stuck_at_t way tank begin = law_stuck_t way tank begin := by
  have : (fun (s_ : Int) (k_ : Int) => ((if (decide (s_ < (idx way k_).1)) = true then (Stp.ret (some k_)) else (Stp.nx (if ((idx way k_).2).isSome = true then tank else (s_ - (idx way k_).1)))) : Stp (Option Int) Int)) = stuckF way tank := by
    funext s k
    unfold stuckF
    cases (idx way k).2 <;> rfl
  show (loopT _ begin _).el _ _ = (loopT (stuckF way tank) begin _).el _ _
  rw [this]
theorem range_cons {j n : Int} (h : j < n) : rangeI j n = j :: rangeI (j + 1) n := by
  refine List.ext_getElem (by simp [len_rangeI]; omega) fun i h1 h2 => ?_
  cases i with
  | zero => simp [rangeI]
  | succ i => simp [rangeI]; omega
theorem range_nil {j n : Int} (h : n ≤ j) : rangeI j n = [] := List.eq_nil_of_length_eq_zero (by rw [len_rangeI]; omega)
theorem stuck_loop (way : Way) (tank : Int) : ∀ (m j : Nat) (s : Int), way.length - j = m → j ≤ way.length → ((loopT (stuckF way tank) s (rangeI (j : Int) (way.length : Int))).el (fun r => r) (fun _ => (none : Option Int))).isNone = goB tank (way.drop j) s
  | 0, j, s, h, hj => by
    rw [range_nil (by omega), List.drop_eq_nil_of_le (by omega)]
    rfl
  | m + 1, j, s, h, hj => by
    have hj : j < way.length := by omega
    rw [range_cons (by omega), List.drop_eq_getElem_cons hj]
    have e : idx way (j : Int) = way[j] := idx_lt way hj
    have e2 : ((j : Int) + 1) = ((j + 1 : Nat) : Int) := by omega
    rw [e2]
    have ih := stuck_loop way tank m (j + 1)
    unfold loopT goB
    unfold stuckF at ih ⊢
    rw [e]
    by_cases hs : s < way[j].1
    · rw [if_pos (by simpa using hs)]
      rw [decide_eq_false (by omega), Bool.false_and]
      rfl
    · rw [if_neg (by simpa using hs), decide_eq_true (by omega), Bool.true_and]
      dsimp only
      rw [ih _ (by omega) (by omega)]
      cases way[j].2 <;> rfl
theorem stuck_go (way : Way) (tank begin : Int) : (law_stuck_t way tank begin).isNone = goB tank way begin := by
  have := stuck_loop way tank way.length 0 begin (by omega) (by omega)
  rw [List.drop_zero] at this
  exact this
theorem stuck_ok (way : Way) (hw : way.length ≤ 100) (tank begin : Int) : law_stuck_ok way tank begin ∧ stuck_at_ok way tank begin := by
  refine ⟨⟨I62_nat (by omega), OkL.all fun s k hk => ?_⟩, I62_nat (by omega), OkL.all fun s k hk => ?_⟩
  all_goals
    obtain ⟨k1, k2⟩ := mem_rangeI.mp hk
    have := InR.of (xs := way) k1 k2
    exact ⟨this, fun _ => ⟨this, fun _ => this⟩⟩
end W

set_option Elab.async false
set_option linter.all false
set_option autoImplicit false
set_option maxRecDepth 100000
namespace W
open PySem Q
theorem map_zip2 {α β γ : Type} [Inhabited α] [Inhabited β] (G : α → β → γ) {xs : List α} {ys : List β} {n : Nat} (h : xs.length = n) (h2 : ys.length = n) : (rangeI 0 (n : Int)).map (fun k => G (idx xs k) (idx ys k)) = (xs.zip ys).map fun q => G q.1 q.2 := by
  unfold rangeI
  rw [List.map_map]
  refine List.ext_getElem (by simp; omega) fun i h1 h3 => ?_
  simp at h1 h3
  simp only [List.getElem_map, List.getElem_range, Function.comp, Int.zero_add, List.getElem_zip]
  rw [idx_lt xs (by omega), idx_lt ys (by omega)]
theorem cost_zip (c : Option Int → Int → Int) : ∀ (way : Way) (row : List Int), ((way.zip row).map fun q => c q.1.2 q.2).sum = cost c way row
  | [], row => by cases row <;> rfl
  | p :: ps, [] => rfl
  | p :: ps, m :: r => by
    rw [List.zip_cons_cons, List.map_cons, List.sum_cons, cost_zip c ps r]
    rfl
abbrev cP : Option Int → Int → Int := cF ("price_of" : Str)
abbrev cO : Option Int → Int → Int := cF ("one_stop" : Str)
theorem price_sum {way : Way} {row : List Int} (h : row.length = way.length) : (((rangeI 0 (row.length : Int)).filter (fun (k__1 : Int) => (decide (0 < (idx row k__1))))).map (fun (k__1 : Int) => ((idx row k__1) * (((idx way k__1).2).getD default)))).sum = cost cP way row := by
  rw [sumFilter, ← cost_zip, ← map_zip2 (fun p m => cP p.2 m) (xs := way) (ys := row) (n := row.length) h.symm rfl]
  congr 1
  refine List.map_congr_left fun k _ => ?_
  show _ = (if ("price_of" : Str) = ("price_of" : Str) then price_of_t (idx way k).2 (idx row k) else _)
  rw [if_pos rfl]
  unfold price_of_t
  rw [Int.mul_comm]
theorem stops_sum : ∀ {way : Way} {row : List Int}, row.length = way.length → ((row.filter (fun (more : Int) => (decide (0 < more)))).length : Int) = cost cO way row
  | [], [], _ => rfl
  | [], _ :: _, h => by simp at h
  | _ :: _, [], h => by simp at h
  | p :: ps, m :: r, h => by
    have ih := stops_sum (way := ps) (row := r) (by simpa using h)
    show _ = cO p.2 m + cost cO ps r
    rw [← ih]
    have e : cO p.2 m = b2n (decide (0 < m)) := by
      show (if ("one_stop" : Str) = ("price_of" : Str) then _ else one_stop_t p.2 m) = _
      rw [if_neg (by decide)]
      rfl
    rw [e, List.filter_cons]
    by_cases hm : 0 < m
    · rw [if_pos (by simpa using hm), decide_eq_true hm]
      simp [b2n]; omega
    · rw [if_neg (by simpa using hm), decide_eq_false hm]
      simp [b2n]
theorem cheap_eq {tank begin : Int} (ht0 : 0 ≤ tank) (ht : tank ≤ 7) (b0 : 0 ≤ begin) (b1 : begin ≤ tank) {way : Way} (W : WayOk way) {prices : List (Int × List Int)} (hp : prices = (law_fills_t way tank begin).map fun row => (cost cP way row, row)) :
    cheapest_fill_t way tank begin = if (!decide (prices = [])) = true then some (minT lT prices) else none := by
  obtain ⟨_, _, T⟩ := fills_run (cst := ("price_of" : Str)) (.inl rfl) ht0 (by omega) W
  unfold cheapest_fill_t
  cases hv : lookT (idx (fills_from_t way tank ("price_of" : Str)) (-1)) begin with
  | none =>
    rw [if_neg]
    intro h
    have h : prices ≠ [] := by simpa using h
    obtain ⟨x, hx⟩ := List.exists_mem_of_ne_nil _ h
    rw [hp] at hx
    obtain ⟨r, hr, _⟩ := List.mem_map.mp hx
    have := T.all begin r b0 b1 ((fills_mem ht0).mp hr)
    rw [hv] at this
    cases this
  | some v =>
    obtain ⟨_, _, vm⟩ := T.min _ _ hv
    have hmem : v ∈ prices := by
      rw [hp, List.mem_map]
      exact ⟨v.2, (fills_mem ht0).mpr vm.fill, Prod.ext vm.val.symm rfl⟩
    have hne : prices ≠ [] := fun z => by rw [z] at hmem; simp at hmem
    rw [if_pos (by simpa using hne), minT_eq LinT hmem fun y hy => ?_]
    rw [hp] at hy
    obtain ⟨r, hr, rfl⟩ := List.mem_map.mp hy
    exact vm.le r ((fills_mem ht0).mp hr)
theorem few_eq {tank begin : Int} (ht0 : 0 ≤ tank) (ht : tank ≤ 7) (b0 : 0 ≤ begin) (b1 : begin ≤ tank) {way : Way} (W : WayOk way) {stops : List Int} (hp : stops = (law_fills_t way tank begin).map fun row => cost cO way row) :
    fewest_stops_t way tank begin = if (!decide (stops = [])) = true then some (minT ltI stops) else none := by
  obtain ⟨_, _, T⟩ := fills_run (cst := ("one_stop" : Str)) (.inr rfl) ht0 (by omega) W
  unfold fewest_stops_t
  dsimp only
  cases hv : lookT (idx (fills_from_t way tank ("one_stop" : Str)) (-1)) begin with
  | none =>
    rw [if_neg (by simp), if_neg]
    intro h
    have h : stops ≠ [] := by simpa using h
    obtain ⟨x, hx⟩ := List.exists_mem_of_ne_nil _ h
    rw [hp] at hx
    obtain ⟨r, hr, _⟩ := List.mem_map.mp hx
    have := T.all begin r b0 b1 ((fills_mem ht0).mp hr)
    rw [hv] at this
    cases this
  | some v =>
    obtain ⟨_, _, vm⟩ := T.min _ _ hv
    have hmem : v.1 ∈ stops := by
      rw [hp, List.mem_map]
      exact ⟨v.2, (fills_mem ht0).mpr vm.fill, vm.val.symm⟩
    have hne : stops ≠ [] := fun z => by rw [z] at hmem; simp at hmem
    rw [if_pos (show (some v).isSome = true from rfl), if_pos (by simpa using hne), minT_eq Lin.i hmem fun y hy => ?_]
    · rfl
    rw [hp] at hy
    obtain ⟨r, hr, rfl⟩ := List.mem_map.mp hy
    have := vm.le r ((fills_mem ht0).mp hr)
    rw [ltI_false]
    unfold lT lt2 at this
    by_cases e : cost cO way r = v.1
    · omega
    · simp only [if_neg e] at this
      exact ltI_false.mp this
/-! is it a fill -/
def stepL (tank : Int) (s : Int) (p : (Int × Option Int) × Int) : Stp Bool Int := if ((decide (s < p.1.1)) || ((decide (0 < p.2)) && p.1.2.isNone)) = true then (Stp.ret false) else (if (decide (tank < s + (p.2 - p.1.1))) = true then (Stp.ret false) else (Stp.nx (s + (p.2 - p.1.1))))
theorem loop_fill {tank : Int} : ∀ (way : Way) (row : List Int) (now : Int), row.length = way.length → (∀ m ∈ row, 0 ≤ m) → (((loopT (stepL tank) now (way.zip row)).el (fun r => r) (fun _ => true)) = true ↔ Fill tank way now row)
  | [], [], now, _, _ => ⟨fun _ => rfl, fun _ => rfl⟩
  | [], _ :: _, _, h, _ => by simp at h
  | _ :: _, [], _, h, _ => by simp at h
  | p :: ps, m :: r, now, h, hn => by
    have ih := loop_fill (tank := tank) ps r (now + (m - p.1)) (by simpa using h) fun x hx => hn x (List.mem_cons_of_mem _ hx)
    have h0 := hn m List.mem_cons_self
    have en : now + (m - p.1) = now - p.1 + m := by omega
    rw [List.zip_cons_cons]
    unfold loopT
    unfold stepL at ih ⊢
    by_cases h1 : (decide (now < p.1) || (decide (0 < m) && p.2.isNone)) = true
    · rw [if_pos h1]
      refine ⟨fun z => (by cases z), ?_⟩
      rintro ⟨m', r', e, k1, k2, k3, k4, k5⟩
      cases e
      have h1 : now < p.1 ∨ (0 < m ∧ p.2.isNone = true) := by simpa using h1
      rcases h1 with h1 | ⟨h1, h2⟩
      · omega
      · rcases k3 with k3 | k3
        · omega
        · cases hp : p.2 with
          | none => rw [hp] at k3; cases k3
          | some v => rw [hp] at h2; cases h2
    · rw [if_neg h1]
      have h1 : ¬ (now < p.1 ∨ (0 < m ∧ p.2.isNone = true)) := by simpa using h1
      by_cases h2 : tank < now + (m - p.1)
      · dsimp only
        rw [if_pos (by simpa using h2)]
        refine ⟨fun z => (by cases z), ?_⟩
        rintro ⟨m', r', e, k1, k2, k3, k4, k5⟩
        cases e
        omega
      · dsimp only
        rw [if_neg (by simpa using h2)]
        dsimp only
        rw [ih]
        constructor
        · intro k
          refine ⟨m, r, rfl, by omega, h0, ?_, by omega, by rw [← en]; exact k⟩
          cases hp : p.2 with
          | none =>
            rw [hp] at h1
            refine .inl ?_
            have : ¬ (0 < m) := fun z => h1 (.inr ⟨z, rfl⟩)
            omega
          | some v => exact .inr rfl
        · rintro ⟨m', r', e, k1, k2, k3, k4, k5⟩
          cases e
          rw [en]; exact k5
theorem fill_iff {tank begin : Int} {way : Way} {row : List Int} : is_fill_t way tank begin row = true ↔ Fill tank way begin row := by
  have e : is_fill_t way tank begin row = if ((!true) || ((!decide ((row.length : Int) = (way.length : Int))) || (!((row.map (fun (more : Int) => ((is_number_t more) && (decide (0 ≤ more))))).all _root_.id)))) = true then false else ((loopT (stepL tank) begin (way.zip row)).el (fun r => r) (fun _ => true)) := rfl
  rw [e]
  by_cases hl : row.length = way.length
  · by_cases hn : ∀ m ∈ row, 0 ≤ m
    · rw [if_neg, loop_fill way row begin hl hn]
      have h1 : (row.map (fun (more : Int) => ((is_number_t more) && (decide (0 ≤ more))))).all _root_.id = true := by
        rw [List.all_map, List.all_eq_true]
        intro m hm
        simpa [is_number_t] using hn m hm
      rw [h1]
      simp [hl]
    · rw [if_pos]
      · exact ⟨fun z => (by cases z), fun k => absurd k.nn hn⟩
      · have h1 : (row.map (fun (more : Int) => ((is_number_t more) && (decide (0 ≤ more))))).all _root_.id = false := by
          cases z : (row.map (fun (more : Int) => ((is_number_t more) && (decide (0 ≤ more))))).all _root_.id with
          | false => rfl
          | true =>
            rw [List.all_map, List.all_eq_true] at z
            exact absurd (fun m hm => by simpa [is_number_t] using z m hm) hn
        rw [h1]
        simp
  · rw [if_pos]
    · exact ⟨fun z => (by cases z), fun k => absurd k.len hl⟩
    · have : ¬ (row.length : Int) = (way.length : Int) := by omega
      simp [this]
/-! what is left -/
theorem left_eq {way : Way} {row : List Int} (h : row.length = way.length) (begin : Int) : left_after_t way begin row = law_left_t way begin row := by
  unfold left_after_t law_left_t
  dsimp only
  have e := map_zip2 (fun (p : Int × Option Int) (m : Int) => (p, m)) (xs := way) (ys := row) (n := way.length) rfl h
  have e2 : (way.zip row).map (fun q => (q.1, q.2)) = way.zip row := by simp
  rw [e2] at e
  rw [← e, List.foldl_map]
  congr 1
  have : ∀ (xs : List Int) (s t : List Int × Int), s = t → xs.foldl (fun (s_ : List Int × Int) (k : Int) => (s_.1 ++ [s_.2 + ((idx way k, idx row k).2 - (idx way k, idx row k).1.1)], s_.2 + ((idx way k, idx row k).2 - (idx way k, idx row k).1.1))) s = xs.foldl (fun (s_ : List Int × Int) (k : Int) => (s_.1 ++ [s_.2 - (idx way k).1 + idx row k], s_.2 - (idx way k).1 + idx row k)) t := by
    intro xs
    induction xs with
    | nil => intro s t e; exact e
    | cons x xs ih =>
      intro s t e
      subst e
      rw [List.foldl_cons, List.foldl_cons]
      refine ih _ _ ?_
      have : s.2 + ((idx way x, idx row x).2 - (idx way x, idx row x).1.1) = s.2 - (idx way x).1 + idx row x := by
        show s.2 + (idx row x - (idx way x).1) = _
        omega
      rw [this]
  exact this _ _ _ rfl
theorem left_ok {way : Way} {row : List Int} (h : row.length = way.length) (hw : way.length ≤ 100) (begin : Int) : left_after_ok way begin row ∧ law_left_ok way begin row := by
  refine ⟨?_, ?_⟩
  · rintro now rfl
    refine OkF.invN (fun i s => s.1.length ≤ i) 0 (by simp) fun i s p hp hi w => ?_
    have : (way.zip row).length ≤ 100 := by simp; omega
    exact ⟨fun _ _ => lt_sz (by omega), by simp; omega⟩
  · rintro now rfl
    refine ⟨I62_nat (by omega), OkF.invN (fun i s => s.1.length ≤ i) 0 (by simp) fun i s k hk hi w => ?_⟩
    obtain ⟨k1, k2⟩ := mem_rangeI.mp hk
    rw [len_rangeI] at hi
    exact ⟨⟨InR.of k1 k2, InR.of k1 (by omega), fun _ _ => lt_sz (by omega)⟩, by simp; omega⟩
theorem left_len {way : Way} {row : List Int} (begin : Int) : (left_after_t way begin row).length ≤ way.length := by
  unfold left_after_t
  dsimp only
  have : ∀ (xs : List ((Int × Option Int) × Int)) (s : List Int × Int), (xs.foldl (fun (s_ : List Int × Int) (p : (Int × Option Int) × Int) => (s_.1 ++ [s_.2 + (p.2 - p.1.1)], s_.2 + (p.2 - p.1.1))) s).1.length = s.1.length + xs.length := by
    intro xs
    induction xs with
    | nil => intro s; simp
    | cons x xs ih => intro s; rw [List.foldl_cons, ih]; simp; omega
  have h := this (way.zip row) ([], begin)
  have h2 : (way.zip row).length ≤ way.length := by simp; omega
  have : (((way.zip row).foldl (fun (s_ : List Int × Int) (p : (Int × Option Int) × Int) => (s_.1 ++ [s_.2 + (p.2 - p.1.1)], s_.2 + (p.2 - p.1.1))) ([], begin)).1).length ≤ way.length := by rw [h]; simp; omega
  exact this
end W

set_option Elab.async false
set_option linter.all false
set_option autoImplicit false
set_option maxRecDepth 100000
namespace W
open PySem Q
/-! things that are no fills -/
theorem nf_typed {way : Way} {tank begin : Int} {row : List Int} (hl : row.length ≤ 1000) (h : ¬ Fill tank way begin row) : is_fill2_ok way tank begin (eT PyData.int row) := fun w => by
  have := is_fill_tie way tank begin row (fun _ _ => le_sz (by omega)) w
  have e : is_fill_t way tank begin row = false := by
    cases z : is_fill_t way tank begin row with
    | false => rfl
    | true => exact absurd (fill_iff.mp z) h
  rw [e] at this
  exact this
theorem nf_list {way : Way} {tank begin : Int} {ds : List D} : is_fill2_ok way tank begin (.list ds) := fun w => by
  refine fn_eq rfl ?_
  unfold b_is_fill
  simp -implicitDefEqProofs [s_sSeq, isaD_l, isTy]
theorem nf_none {way : Way} {tank begin : Int} : is_fill2_ok way tank begin .none := fun w => by
  refine fn_eq rfl ?_
  unfold b_is_fill
  simp -implicitDefEqProofs [s_sSeq, isaD_n, isTy]
theorem num_bool (w : Wd) : f_is_number [.bool true] w = some (.bool false, w) := by
  refine fn_eq rfl ?_
  unfold b_is_number
  simp -implicitDefEqProofs [s_sSeq, isaD_b, isTy]
theorem num_str (z : Str) (w : Wd) : f_is_number [.str z] w = some (.bool false, w) := by
  refine fn_eq rfl ?_
  unfold b_is_number
  simp -implicitDefEqProofs [s_sSeq, isaD_s, isTy]
theorem bools_false (bs : List Bool) : allD (.list (.bool false :: bs.map PyData.bool)) = some (.bool false) := by
  have := allD_L (false :: bs)
  simpa using this
theorem nf_head {way : Way} {tank begin : Int} {d : D} {rest : List Int} (hd : ∀ w, f_is_number [d] w = some (.bool false, w)) (hl : rest.length + 1 = way.length) (hw : way.length ≤ 1000) : is_fill2_ok way tank begin (.tuple (d :: rest.map PyData.int)) := fun w => by
  have hz : (d :: rest.map PyData.int).length ≤ sizeLine := le_sz (by simp; omega)
  have key : lcLoop (gName 7) tYes (cAnd (cCall f_is_number [cVar 7]) (cT (tCmp geD (cVar 7) (cK (.int 0))))) [some (eWay way), some (.int tank), some (.int begin), some (.tuple (d :: rest.map PyData.int)), none, none, none, none] (d :: rest.map PyData.int) w = some (.bool false :: (rest.map fun m => decide (0 ≤ m)).map PyData.bool, w) := by
    rw [lc_cons]
    have h0 : turnE (gName 7) tYes (cAnd (cCall f_is_number [cVar 7]) (cT (tCmp geD (cVar 7) (cK (.int 0))))) d [some (eWay way), some (.int tank), some (.int begin), some (.tuple (d :: rest.map PyData.int)), none, none, none, none] w = some (some (.bool false), w) := by
      unfold turnE
      generalize PyData.tuple (d :: rest.map PyData.int) = T
      generalize eWay way = Y
      simp -implicitDefEqProofs [hd]
    have h1 := lc_map (t := gName 7) (c := tYes) (e := cAnd (cCall f_is_number [cVar 7]) (cT (tCmp geD (cVar 7) (cK (.int 0))))) (g := [some (eWay way), some (.int tank), some (.int begin), some (.tuple (d :: rest.map PyData.int)), none, none, none, none]) (w := w) PyData.int (fun m => PyData.bool (decide (0 ≤ m))) rest fun m hm => by
      have hn := is_number_tie m w
      have e : is_number_t m = true := rfl
      rw [e] at hn
      unfold turnE
      generalize PyData.tuple (d :: rest.map PyData.int) = T
      generalize eWay way = Y
      simp -implicitDefEqProofs [hn]
    rw [h0, bnd_some, h1, bnd_some, List.map_map]
    rfl
  have hb := bools_false (rest.map fun m => decide (0 ≤ m))
  have hlen : ((d :: rest.map PyData.int).length : Int) = (way.length : Int) := by simp; omega
  have hl1 : lenD (.tuple (d :: rest.map PyData.int)) = some (.int (way.length : Int)) := by rw [lenD_t, hlen]
  have hl2 : lenD (eWay way) = some (.int (way.length : Int)) := lenD_T _ _
  have hi : itemsD (.tuple (d :: rest.map PyData.int)) = some (d :: rest.map PyData.int) := rfl
  have ht : isaD .tuple (.tuple (d :: rest.map PyData.int)) = some (.bool true) := rfl
  refine fn_eq rfl ?_
  unfold b_is_fill
  generalize hB : PyData.bool false :: (rest.map fun m => decide (0 ≤ m)).map PyData.bool = bs at key hb
  generalize hT : PyData.tuple (d :: rest.map PyData.int) = T at *
  generalize hY : eWay way = Y at *
  generalize hL : d :: rest.map PyData.int = xs at *
  simp -implicitDefEqProofs [s_sSeq, ht, hl1, hl2, hi, key, hz, hb]
end W

set_option Elab.async false
set_option linter.all false
set_option autoImplicit false
set_option maxRecDepth 100000
namespace W
open PySem Q
theorem alk_told {a : Option Int} {b : Bool} {c : Option (Int × List Int)} {d : Option Int} (h : ∀ v, c = some v → v.2.length ≤ 1000) : Alk 12 ((eP4 (eO PyData.int) PyData.bool (eO (eP2 PyData.int (eT PyData.int))) (eO PyData.int)) (a, b, c, d)) :=
  (AlkE.p4 (AlkE.o AlkE.i) AlkE.b (AlkE.o (AlkE.p2 AlkE.i (AlkE.t AlkE.i))) (AlkE.o AlkE.i)).alk _ ⟨fun _ _ => trivial, trivial, fun v hv => ⟨trivial, by have := h v hv; omega, fun _ _ => trivial⟩, fun _ _ => trivial⟩
theorem alk_two {b : Bool} {l : List Int} (h : l.length ≤ 1000) : Alk 12 ((eP2 PyData.bool (eT PyData.int)) (b, l)) :=
  (AlkE.p2 AlkE.b (AlkE.t AlkE.i)).alk _ ⟨trivial, by show l.length ≤ _; omega, fun _ _ => trivial⟩
theorem sum_bnd : ∀ (way : Way), (∀ p ∈ way, 1 ≤ p.1 ∧ p.1 ≤ 5) → 0 ≤ (way.map fun p => p.1).sum ∧ (way.map fun p => p.1).sum ≤ 5 * way.length
  | [], _ => by simp
  | p :: ps, h => by
    have h1 := h p List.mem_cons_self
    have h2 := sum_bnd ps fun q hq => h q (List.mem_cons_of_mem _ hq)
    simp only [List.map_cons, List.sum_cons, List.length_cons]
    omega
theorem cut_last {α : Type} (xs : List α) (h : 1 ≤ xs.length) : cutL xs none (some (-1)) = xs.dropLast := by
  unfold cutL
  have e : HT.sIx xs.length xs.length (some (-1)) = xs.length - 1 := by
    show (if (-1 : Int) < 0 then ((-1 : Int) + (xs.length : Int)).toNat else min (-1 : Int).toNat xs.length) = _
    rw [if_pos (by omega)]; omega
  rw [e, HT.sIx_none, List.dropLast_eq_take]
  rfl
set_option maxHeartbeats 1000000 in
theorem all_ok (l0 : St) : law_ok l0 := by
  intro turn hturn l
  have b1 := nextT_bnd l (m := 4) (by decide)
  refine ⟨I62_of (by omega) (by omega), le_sz (by rw [len_rangeI]; omega), fun k hk l1 => ?_, ?_⟩
  · have := nextT_bnd (nextT l1 5).2 (m := ([(none : Option Int), some 0, some 1, some 2, some 3, some 5].length : Int)) (by decide)
    exact ⟨by decide, InR.of this.1 this.2⟩
  intro way hway l2 hl2 tank htank l3 hl3
  have W : WayOk way := by
    refine ⟨?_, ?_, ?_⟩
    · rw [hway, mapW_len, len_rangeI]; omega
    · rw [hway, mapW_len, len_rangeI]; omega
    · rw [hway]
      refine mapW_all fun k hk l => ?_
      have c1 := nextT_bnd l (m := 5) (by decide)
      have c2 := nextT_bnd (nextT l 5).2 (m := ([(none : Option Int), some 0, some 1, some 2, some 3, some 5].length : Int)) (by decide)
      refine ⟨by show 1 ≤ 1 + (nextT l 5).1; omega, by show 1 + (nextT l 5).1 ≤ 5; omega, fun v hv => ?_⟩
      have hm := idx_mem (InR.of c2.1 c2.2)
      have hv : idx [(none : Option Int), some 0, some 1, some 2, some 3, some 5] (nextT (nextT l 5).2 ([(none : Option Int), some 0, some 1, some 2, some 3, some 5].length : Int)).1 = some v := hv
      rw [hv] at hm
      simp at hm
      omega
  clear hway hl2
  have b2 := nextT_bnd l2 (m := 7) (by decide)
  have t1 : 1 ≤ tank ∧ tank ≤ 7 := by omega
  clear htank hl3
  have w1 := W.one
  have w4 := W.four
  refine ⟨by omega, ?_⟩
  intro begin hbegin l4 hl4
  have b3 := nextT_bnd l3 (m := tank + 1) (by omega)
  have bg : 0 ≤ begin ∧ begin ≤ tank := by omega
  clear hbegin hl4
  obtain ⟨f1, f2⟩ := fills_ok (tank := tank) (by omega) t1.2 w4 begin
  refine ⟨f1, ?_⟩
  intro rows hrows
  have hmem : ∀ r, r ∈ rows ↔ Fill tank way begin r := fun r => by rw [hrows]; exact fills_mem (by omega)
  have hrl : rows.length ≤ 5000 := by rw [hrows]; exact f2
  refine ⟨le_sz (by omega), fun row hr => ?_, ?_⟩
  · have hf := (hmem row).mp hr
    have hl := hf.len
    refine ⟨I62_nat (by omega), le_sz (by rw [len_rangeI]; omega), fun k hk => ?_⟩
    obtain ⟨k1, k2⟩ := mem_rangeI.mp hk
    have i1 := InR.of (xs := row) k1 k2
    have i2 := InR.of (xs := way) k1 (by omega)
    refine ⟨i1, fun hpos => ⟨i1, i2, ?_, ?_⟩⟩
    · have hpos : 0 < idx row k := by simpa using hpos
      have key : ∀ (way : Way) (now : Int) (row : List Int), Fill tank way now row → ∀ j : Nat, j < row.length → 0 < idx row (j : Int) → (idx way (j : Int)).2.isSome = true := by
        intro way
        induction way with
        | nil =>
          intro now row h j hj _
          have h : row = [] := h
          subst h; simp at hj
        | cons p ps ih =>
          rintro now _ ⟨m, r, rfl, _, _, h3, _, h5⟩ j hj hp
          cases j with
          | zero =>
            rcases h3 with h3 | h3
            · subst h3
              have : idx ((0 : Int) :: r) ((0 : Nat) : Int) = 0 := rfl
              omega
            · exact h3
          | succ j =>
            have hj2 : j < r.length := by simpa using hj
            have hl := h5.len
            have e1 : idx (m :: r) ((j + 1 : Nat) : Int) = idx r (j : Int) := by
              rw [idx_lt (m :: r) (by simpa using hj), idx_lt r hj2]; rfl
            have e2 : idx (p :: ps) ((j + 1 : Nat) : Int) = idx ps (j : Int) := by
              rw [idx_lt (p :: ps) (by simp; omega), idx_lt ps (by omega)]; rfl
            rw [e1] at hp
            rw [e2]
            exact ih _ r h5 j hj2 hp
      obtain ⟨j, rfl⟩ := Int.eq_ofNat_of_zero_le k1
      exact key way begin row hf j (by omega) hpos
    · have hp := W.ok _ (idx_mem i2)
      refine M64_r ?_ ?_
      · cases hq : (idx way k).2 with
        | none => show _ ≤ (0 : Int); omega
        | some v => have := hp.2.2 v hq; show _ ≤ v; omega
      · cases hq : (idx way k).2 with
        | none => show (0 : Int) ≤ _; omega
        | some v => have := hp.2.2 v hq; show v ≤ _; omega
  intro prices hprices
  have hprices2 : prices = (law_fills_t way tank begin).map fun row => (cost cP way row, row) := by
    rw [hprices, ← hrows]
    refine List.map_congr_left fun row hr => ?_
    rw [price_sum ((hmem row).mp hr).len]
  refine ⟨le_sz (by omega), fun row hr => le_sz (by rw [((hmem row).mp hr).len]; omega), ?_⟩
  intro stops hstops
  have hstops2 : stops = (law_fills_t way tank begin).map fun row => cost cO way row := by
    rw [hstops, ← hrows]
    refine List.map_congr_left fun row hr => ?_
    rw [stops_sum ((hmem row).mp hr).len]
  obtain ⟨s1, s2⟩ := stuck_ok way (by omega) tank begin
  obtain ⟨p1, p2, pT⟩ := fills_run (cst := ("price_of" : Str)) (tank := tank) (.inl rfl) (by omega) (by omega) W
  obtain ⟨o1, o2, oT⟩ := fills_run (cst := ("one_stop" : Str)) (tank := tank) (.inr rfl) (by omega) (by omega) W
  have inr : ∀ {s : List Tab}, s ≠ [] → InR s (-1) := fun h => by
    have := List.length_pos_iff.mpr h
    exact ⟨by omega, by omega⟩
  refine ⟨s2, s2, ⟨p1, inr p2⟩, ⟨o1, inr o2, fun _ _ h => h⟩, ?_⟩
  intro told htold
  refine ⟨s1, ?_⟩
  intro stuck hstuck
  refine ⟨fun h => by simpa using h, fun h => by simpa using h, ?_⟩
  intro due hdue
  have hce := cheap_eq (tank := tank) (by omega) t1.2 bg.1 bg.2 W hprices2
  have hfe := few_eq (tank := tank) (by omega) t1.2 bg.1 bg.2 W hstops2
  refine ⟨?_, ?_, ?_, le_sz (by omega), ?_⟩
  · rw [htold, hdue, hce, hfe, stuck_same, hstuck]
    unfold can_go_t
    rw [stuck_same]
  · rw [htold]
    refine alk_told fun v hv => ?_
    obtain ⟨_, _, vm⟩ := pT.min begin v hv
    rw [vm.fill.len]; omega
  · have hg : stuck.isNone = true ↔ rows ≠ [] := by
      rw [hstuck, stuck_go, goB_fill (by omega) way (fun p hp => (W.ok p hp).1) begin bg.2]
      constructor
      · rintro ⟨r, hr⟩ z
        have := (hmem r).mpr hr
        rw [z] at this; simp at this
      · intro h
        obtain ⟨r, hr⟩ := List.exists_mem_of_ne_nil _ h
        exact ⟨r, (hmem r).mp hr⟩
    have : stuck.isNone = (!decide (rows = [])) := by
      rw [Bool.eq_iff_iff, hg]
      simp
    simp [this]
  intro whole hwhole
  have sb := sum_bnd way fun p hp => ⟨(W.ok p hp).1, (W.ok p hp).2.1⟩
  have wb : begin ≤ whole ∧ whole ≤ 40 := by omega
  refine ⟨I62_of (by omega) (by omega), I62_of (by omega) (by omega), le_sz (by rw [len_rangeI]; omega), fun own _ => (stuck_ok way (by omega) own begin).1, ?_⟩
  intro tanks htanks
  refine ⟨I62_of (by omega) (by omega), le_sz (by rw [len_rangeI]; omega), fun own _ => (stuck_ok way (by omega) tank own).1, ?_⟩
  intro begins hbegins
  have in0 : ∀ {s : List Int}, s ≠ [] → InR s 0 := fun h => by
    have := List.length_pos_iff.mpr h
    exact ⟨by omega, by omega⟩
  have cg : ∀ t b, can_go_t way t b = (law_stuck_t way t b).isNone := fun t b => by unfold can_go_t; rw [stuck_same]
  refine ⟨⟨le_sz (by omega), ?_⟩, ⟨I62_of (by omega) (by omega), le_sz (by rw [len_rangeI]; omega), fun b _ => (stuck_ok way (by omega) tank b).2, fun able _ h => in0 (by simpa using h)⟩, ?_⟩
  · intro most hmost
    have : most = whole := hmost.trans hwhole.symm
    subst this
    exact ⟨I62_of (by omega) (by omega), I62_of (by omega) (by omega), le_sz (by rw [len_rangeI]; omega), fun t _ => (stuck_ok way (by omega) t begin).2, fun able _ h => in0 (by simpa using h)⟩
  intro told1 htold1
  refine ⟨fun h => in0 (by simpa using h), fun h => in0 (by simpa using h), ?_, le_sz (by omega), ?_⟩
  · rw [htold1, htanks, hbegins, hwhole]
    unfold least_tank_t least_begin_t
    simp only [cg]
  intro row2 hrow2 l6 hl6
  have hr2 : row2.length = way.length := by rw [hrow2, mapW_len]
  have lp : rows ≠ [] → law_pick2_ok rows l6 := fun h => by
    have hl := List.length_pos_iff.mpr h
    have := nextT_bnd l6 (m := (rows.length : Int)) (by omega)
    exact ⟨by omega, InR.of this.1 this.2⟩
  refine ⟨fun h => lp (by simpa using h), ?_⟩
  intro some_ hsome l7 hl7
  have hs : some_.length = way.length := by
    rw [hsome]
    by_cases h : rows = []
    · rw [if_neg (by simpa using h)]; exact hr2
    · rw [if_pos (by simpa using h)]
      have hl := List.length_pos_iff.mpr h
      have b := nextT_bnd l6 (m := (rows.length : Int)) (by omega)
      exact ((hmem _).mp (idx_mem (InR.of b.1 b.2))).len
  clear hsome hl7
  have hcut := cut_last some_ (by omega)
  have hd1 : cutL some_ (some 1) none = some_.drop 1 := cutL_from some_ (by decide)
  refine ⟨⟨by omega, by omega⟩, le_sz (by rw [hcut]; simp; omega), ?_, le_sz (by simp; omega), le_sz (by rw [hd1]; simp; omega), by rw [hd1]; simp; omega, ?_⟩
  · intro own hown
    have hl : own.length = way.length := by
      simp only [List.mem_cons, List.not_mem_nil, or_false] at hown
      rcases hown with rfl | rfl | rfl
      · exact hr2
      · exact hs
      · rw [hcut]; simp; omega
    obtain ⟨e1, e2⟩ := left_ok hl (by omega) begin
    refine ⟨fun _ _ => le_sz (by omega), e1, e2, ?_, alk_two (Nat.le_trans (left_len begin) (by omega))⟩
    rw [left_eq hl begin]
    congr 1
    rw [Bool.eq_iff_iff, fill_iff, decide_eq_true_iff, hmem]
  intro things hthings
  refine ⟨le_sz (by rw [hthings]; simp), fun thing hth => ⟨?_, rfl⟩⟩
  rw [hthings] at hth
  have hdl : (some_.drop 1).length + 1 = way.length := by simp; omega
  simp only [List.mem_cons, List.not_mem_nil, or_false] at hth
  rcases hth with rfl | rfl | rfl | rfl | rfl | rfl | rfl
  · exact nf_list
  · exact nf_typed (by simp; omega) fun h => by have := h.len; simp at this; omega
  · exact nf_typed (by rw [hd1]; omega) fun h => by have := h.len; rw [hd1] at this; omega
  · exact nf_typed (by rw [hd1]; simp; omega) fun h => by have := h.nn (-1) (by simp); omega
  · rw [hd1]; exact nf_head num_bool hdl (by omega)
  · rw [hd1]; exact nf_head (num_str _) hdl (by omega)
  · exact nf_none
end W

set_option Elab.async false
set_option linter.all false
set_option autoImplicit false
set_option maxRecDepth 100000
namespace W
open PySem Q
theorem math : ∀ ns : List Int, ns.length ≤ 63 → ∃ l w', e_law (some (tokS ns) :: List.replicate 24 none) none = some (.list (l.map .int), none) ∧ b_law ((some (tokS ns) :: List.replicate 24 none).set 1 (some tokW)) (some l) = some (.rt (.bool true), w') := by
  intro ns hns
  obtain ⟨l, hl⟩ := draws_ok ns 700 (by omega) (by omega) hns none
  have hl : f_law_draws [tokS ns, .int 700] none = some (.list (l.map .int), none) := hl
  have he : e_law (some (tokS ns) :: List.replicate 24 none) none = some (.list (l.map .int), none) := by
    unfold e_law
    simp -implicitDefEqProofs [hl]
  obtain ⟨o, l', e, k⟩ := (law_tie (tokS ns) l (all_ok l)).run _ (LE.rfl' _)
  cases k
  exact ⟨l, some l', he, e⟩
end W

open PySem PySem.W PyProof.Rows
set_option maxHeartbeats 0 in
theorem PySem.Challenge.cw_nightbus_k16_fuel_holds : PySem.Challenge.rw_nightbus_k16_fuel.Holds := by
  w_on; o_law; k_head; (case hw => w_witness2)
  k_fill
  refine L2.walk_of (l := PySem.Challenge.rw_nightbus_k16_fuel) (n := 63) (k := 14) (x := "script") (CX := fun _ => L2.CX0) (sp := fun w => Q.spLaw _ 63) rfl (by decide) rfl ⟨rfl, by decide, by decide⟩ (fun w h Y => PySem.W.kIn_of Y) ?F (fun _ _ a ns hl _ hS => ⟨a, ns, rfl, hS, hl, fun _ => rfl⟩) (fun _ _ _ _ _ h => h)
  case F =>
    intro w mg fa h KX G hmg
    refine' W.all_mk KX G hmg ?a0 ?l0 ?c0 ?k0 ?a1 ?l1 ?c1 ?k1 ?a2 ?l2 ?c2 ?k2 ?a3 ?l3 ?c3 ?k3 ?a4 ?l4 ?c4 ?k4 ?a5 ?l5 ?c5 ?k5 ?a6 ?l6 ?c6 ?k6 ?a7 ?l7 ?c7 ?k7 ?a8 ?l8 ?c8 ?k8 ?a9 ?l9 ?c9 ?k9 ?a10 ?l10 ?c10 ?k10 ?a11 ?l11 ?c11 ?k11 ?a12 ?l12 ?c12 ?k12 ?a13 ?l13 ?c13 ?k13 ?a14 ?l14 ?c14 ?k14 ?a15 ?l15 ?c15 ?k15 ?a16 ?l16 ?c16 ?k16 ?a17 ?l17 ?c17 ?k17 ?a18 ?l18 ?c18 ?k18 ?a19 ?l19 ?c19 ?k19 ?z_abs ?z_all ?z_bool ?z_dict ?z_int ?z_isinstance ?z_len ?z_list ?z_min ?z_range ?z_str ?z_sum ?z_tuple ?z_zip ?hmath
    (case a0 => k_is); (case l0 => k_is); (case c0 => k_is); (case k0 => k_is); (case a1 => k_is); (case l1 => k_is); (case c1 => k_is); (case k1 => k_is); (case a2 => k_is); (case l2 => k_is); (case c2 => k_is); (case k2 => k_is); (case a3 => k_is); (case l3 => k_is); (case c3 => k_is); (case k3 => k_is); (case a4 => k_is); (case l4 => k_is); (case c4 => k_is); (case k4 => k_is); (case a5 => k_is); (case l5 => k_is); (case c5 => k_is); (case k5 => k_is); (case a6 => k_is); (case l6 => k_is); (case c6 => k_is); (case k6 => k_is); (case a7 => k_is); (case l7 => k_is); (case c7 => k_is); (case k7 => k_is); (case a8 => k_is); (case l8 => k_is); (case c8 => k_is); (case k8 => k_is); (case a9 => k_is); (case l9 => k_is); (case c9 => k_is); (case k9 => k_is); (case a10 => k_is); (case l10 => k_is); (case c10 => k_is); (case k10 => k_is); (case a11 => k_is); (case l11 => k_is); (case c11 => k_is); (case k11 => k_is); (case a12 => k_is); (case l12 => k_is); (case c12 => k_is); (case k12 => k_is); (case a13 => k_is); (case l13 => k_is); (case c13 => k_is); (case k13 => k_is); (case a14 => k_is); (case l14 => k_is); (case c14 => k_is); (case k14 => k_is); (case a15 => k_is); (case l15 => k_is); (case c15 => k_is); (case k15 => k_is); (case a16 => k_is); (case l16 => k_is); (case c16 => k_is); (case k16 => k_is); (case a17 => k_is); (case l17 => k_is); (case c17 => k_is); (case k17 => k_is); (case a18 => k_is); (case l18 => k_is); (case c18 => k_is); (case k18 => k_is); (case a19 => k_is); (case l19 => k_is); (case c19 => k_is); (case k19 => k_is)
    (case z_abs => k_is); (case z_all => k_is); (case z_bool => k_is); (case z_dict => k_is); (case z_int => k_is); (case z_isinstance => k_is); (case z_len => k_is); (case z_list => k_is); (case z_min => k_is); (case z_range => k_is); (case z_str => k_is); (case z_sum => k_is); (case z_tuple => k_is); (case z_zip => k_is)
    case hmath => exact W.math
