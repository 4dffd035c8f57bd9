import PyProof.Rows.All
import KE.DatumMoreOrd
import KE.SortData
import KE.DataFind
import KE.DataAny
import KE.DataIsa
import HandS.List
import Wide.All
import OpenK.AllK
import Wide.FinOn
import HandS.ForMost
import HandS.TupAny
import HandS.Style
import HandS.Deep
import HandS.Zip
import KE.DatumIndex
import HandS.SortInts
import KE.DataMinMax
import HandS.IsInst
import HandS.TupSets
import PySem.Challenge.RW_nightbus_k19_buses_that_bunch
set_option linter.all false
set_option autoImplicit false
/-! Q: the subset of Python that the laws use, as plain functions of data (PyData), slots and a stream of draws. -/
namespace Q
open PySem PySem.W

abbrev D := PyData
abbrev Env := List (Option D)
/-- the draws that are left; none: no dict of draws is about -/
abbrev Wd := Option (List Int)
abbrev E := Env → Wd → Option (D × Wd)
abbrev T := Env → Wd → Option (Bool × Wd)
abbrev Es := Env → Wd → Option (List D × Wd)
inductive Out where
  | nx (g : Env) | rt (d : D) | bk (g : Env) | ct (g : Env)
abbrev S := Env → Wd → Option (Out × Wd)
/-- a target -/
abbrev G := D → Env → Option Env
abbrev Fn := List D → Wd → Option (D × Wd)

def bnd {α β : Type} (x : Option (α × Wd)) (f : α → Wd → Option β) : Option β := match x with
  | some (a, w) => f a w
  | none => none
@[simp] theorem bnd_some {α β : Type} (a : α) (w : Wd) (f : α → Wd → Option β) : bnd (some (a, w)) f = f a w := rfl
@[simp] theorem bnd_none {α β : Type} (f : α → Wd → Option β) : bnd (none : Option (α × Wd)) f = none := rfl
theorem bnd_eq {α β : Type} {x : Option (α × Wd)} {f : α → Wd → Option β} {r : β} (h : bnd x f = some r) : ∃ a w, x = some (a, w) ∧ f a w = some r := by
  cases x with
  | none => simp at h
  | some p => exact ⟨p.1, p.2, rfl, h⟩
def lft {α : Type} (o : Option α) (w : Wd) : Option (α × Wd) := match o with
  | some a => some (a, w)
  | none => none
@[simp] theorem lft_some {α : Type} (a : α) (w : Wd) : lft (some a) w = some (a, w) := rfl
@[simp] theorem lft_none {α : Type} (w : Wd) : lft (none : Option α) w = none := rfl
theorem lft_eq {α : Type} {o : Option α} {w : Wd} {r : α × Wd} (h : lft o w = some r) : o = some r.1 ∧ w = r.2 := by
  cases o with
  | none => simp at h
  | some a => simp at h; subst h; exact ⟨rfl, rfl⟩

/-! ### expressions -/
def cVar (i : Nat) : E := fun g w => lft (g[i]?).join w
def cK (d : D) : E := fun _ w => some (d, w)
def cArgs : List E → Es
  | [], _, w => some ([], w)
  | e :: es, g, w => bnd (e g w) fun d w1 => bnd (cArgs es g w1) fun ds w2 => some (d :: ds, w2)
def cTup (es : List E) : E := fun g w => bnd (cArgs es g w) fun ds w1 => some (.tuple ds, w1)
def cLst (es : List E) : E := fun g w => bnd (cArgs es g w) fun ds w1 => some (.list ds, w1)
def cOp1 (f : D → Option D) (a : E) : E := fun g w => bnd (a g w) fun x w1 => lft (f x) w1
def cOp2 (f : D → D → Option D) (a b : E) : E := fun g w => bnd (a g w) fun x w1 => bnd (b g w1) fun y w2 => lft (f x y) w2
def cIf (c : T) (a b : E) : E := fun g w => bnd (c g w) fun k w1 => if k = true then a g w1 else b g w1
def cCall (f : Fn) (es : List E) : E := fun g w => bnd (cArgs es g w) fun ds w1 => f ds w1
/-- a value that is a bool, as a test -/
def boolD : D → Option Bool
  | .bool b => some b
  | _ => none
def tVal (a : E) : T := fun g w => bnd (a g w) fun x w1 => lft (boolD x) w1
def tCmp (f : D → D → Option Bool) (a b : E) : T := fun g w => bnd (a g w) fun x w1 => bnd (b g w1) fun y w2 => lft (f x y) w2
def tNot (a : T) : T := fun g w => bnd (a g w) fun k w1 => some (!k, w1)
def tAnd (a b : T) : T := fun g w => bnd (a g w) fun k w1 => if k = true then b g w1 else some (false, w1)
def tOr (a b : T) : T := fun g w => bnd (a g w) fun k w1 => if k = true then some (true, w1) else b g w1
/-- a < b < c -/
def tChain (f f' : D → D → Option Bool) (a b c : E) : T := fun g w => bnd (a g w) fun x w1 => bnd (b g w1) fun y w2 => bnd (lft (f x y) w2) fun k w3 =>
  if k = true then bnd (c g w3) fun z w4 => lft (f' y z) w4 else some (false, w3)
/-- a test as a value -/
def cT (t : T) : E := fun g w => bnd (t g w) fun k w1 => some (.bool k, w1)

/-- x and y, x or y, not x as values: all but the last are bools -/
def cAnd (a b : E) : E := fun g w => bnd (a g w) fun x w1 => bnd (lft (boolD x) w1) fun k w2 => if k = true then b g w2 else some (.bool false, w2)
def cOr (a b : E) : E := fun g w => bnd (a g w) fun x w1 => bnd (lft (boolD x) w1) fun k w2 => if k = true then some (.bool true, w2) else b g w2
def cNot (a : E) : E := fun g w => bnd (a g w) fun x w1 => bnd (lft (boolD x) w1) fun k w2 => some (.bool (!k), w2)

/-! ### operators on data -/
def addD : D → D → Option D
  | .int i, .int j => some (.int (i + j))
  | .str x, .str y => if x.length + y.length ≤ sizeLine then some (.str (x ++ y)) else none
  | .list xs, .list ys => if xs.length + ys.length ≤ sizeLine then some (.list (xs ++ ys)) else none
  | .tuple xs, .tuple ys => if xs.length + ys.length ≤ sizeLine then some (.tuple (xs ++ ys)) else none
  | _, _ => none
def subD : D → D → Option D
  | .int i, .int j => some (.int (i - j))
  | _, _ => none
/-- the numbers that * takes: one of them below 2^64 -/
def small64 (i : Int) : Bool := decide (-(2 ^ 64) < i) && decide (i < 2 ^ 64)
def mulD : D → D → Option D
  | .int i, .int j => if (small64 i || small64 j) = true then some (.int (i * j)) else none
  | .list xs, .int k => if -(2 ^ 63) ≤ k ∧ k < 2 ^ 63 ∧ xs.length * k.toNat ≤ sizeLine then some (.list (List.replicate k.toNat xs).flatten) else none
  | _, _ => none
def divD : D → D → Option D
  | .int i, .int j => if j ≠ 0 ∧ j.natAbs < 1073741824 then some (.int (i.fdiv j)) else none
  | _, _ => none
def modD : D → D → Option D
  | .int i, .int j => if j ≠ 0 then some (.int (i.fmod j)) else none
  | _, _ => none
def powD : D → D → Option D
  | .int i, .int j => if 0 ≤ j ∧ j ≤ 1000000 ∧ i.natAbs < 2 ^ 64 then some (.int (i ^ j.toNat)) else none
  | _, _ => none
def negD : D → Option D
  | .int i => some (.int (-i))
  | _ => none
/-- the depth that comparisons may go down -/
def lowD (d : D) : Bool := decide (d.depth ≤ 60)
def eqD (x y : D) : Option Bool := if (x.plain && y.plain && lowD x && lowD y) = true then some (PyData.eqv x y) else none
def neD (x y : D) : Option Bool := (eqD x y).map (!·)
def isNoneD : D → Bool
  | .none => true
  | _ => false
def okLt (x y : D) : Bool := x.plain && y.plain && alike x y && !isNoneD x && lowD x
def ltD (x y : D) : Option Bool := if okLt x y = true then some (dataLt x y) else none
def gtD (x y : D) : Option Bool := if okLt x y = true then some (dataLt y x) else none
def leD (x y : D) : Option Bool := if okLt x y = true then some (!dataLt y x) else none
def geD (x y : D) : Option Bool := if okLt x y = true then some (!dataLt x y) else none
/-- is None -/
def isND (x y : D) : Option Bool := if isNoneD y = true then some (isNoneD x) else none
def isNotND (x y : D) : Option Bool := if isNoneD y = true then some (!isNoneD x) else none
/-- keys of dicts: ints, texts, tuples of these -/
def atomD : D → Bool
  | .int _ => true
  | .str _ => true
  | _ => false
def keyD : D → Bool
  | .int _ => true
  | .str _ => true
  | .tuple ds => ds.all atomD
  | _ => false
def lookD (kvs : List (D × D)) (k : D) : Option D := (kvs.find? fun p => PyData.eqv p.1 k).map (·.2)
def putD (kvs : List (D × D)) (k v : D) : List (D × D) := if (lookD kvs k).isSome = true then kvs.map (fun p => if PyData.eqv p.1 k = true then (p.1, v) else p) else kvs ++ [(k, v)]
def inD (x c : D) : Option Bool := match c with
  | .list ys => if (PyData.plainAll ys && x.plain && lowD x && lowD c) = true then some (ys.any fun y => PyData.eqv y x) else none
  | .tuple ys => if (PyData.plainAll ys && x.plain && lowD x && lowD c) = true then some (ys.any fun y => PyData.eqv y x) else none
  | _ => none
def notInD (x c : D) : Option Bool := (inD x c).map (!·)
/-- the script is told by an odd dict -/
def scrOf : List (D × D) → Option (List D)
  | [(.none, .list xs)] => some xs
  | _ => none
/-- c[i] -/
def ixD (c i : D) : Option D := match c, i with
  | .list xs, .int k => L2.atI xs k
  | .tuple xs, .int k => L2.atI xs k
  | .str z, .int k => if z.length ≤ sizeLine then (L2.atI z.cps.toList k).map fun c => .str ⟨#[c]⟩ else none
  | .dict kvs, .int k => (scrOf kvs).bind fun xs => L2.atI xs k
  | _, _ => none
/-- the dict of draws, a def that is handed on, the script: as data -/
def tokW : D := .dict [(.none, .none)]
def tokF (x : Str) : D := .dict [(.none, .str x)]
def tokS (ns : List Int) : D := .dict [(.none, .list (ns.map .int))]
def cutL {α : Type} (xs : List α) (lo hi : Option Int) : List α := (xs.drop (HT.sIx xs.length 0 lo)).take (HT.sIx xs.length xs.length hi - HT.sIx xs.length 0 lo)
def cutD (c : D) (lo hi : Option Int) : Option D := match c with
  | .list xs => some (.list (cutL xs lo hi))
  | .tuple xs => some (.tuple (cutL xs lo hi))
  | _ => none
def optE : Option E → Env → Wd → Option (Option Int × Wd)
  | none, _, w => some (none, w)
  | some e, g, w => bnd (e g w) fun d w1 => match d with
    | .int i => some (some i, w1)
    | _ => none
def cCut (a : E) (lo hi : Option E) : E := fun g w => bnd (a g w) fun x w1 => bnd (optE lo g w1) fun l w2 => bnd (optE hi g w2) fun h w3 => lft (cutD x l h) w3
def lenD : D → Option D
  | .list xs => some (.int xs.length)
  | .tuple xs => some (.int xs.length)
  | .str z => if z.length ≤ sizeLine then some (.int z.length) else none
  | .dict kvs => (scrOf kvs).map fun xs => .int xs.length
  | _ => none
def intsOf : List D → Option (List Int)
  | [] => some []
  | .int i :: r => (intsOf r).map (i :: ·)
  | _ :: _ => none
def boolsOf : List D → Option (List Bool)
  | [] => some []
  | .bool i :: r => (boolsOf r).map (i :: ·)
  | _ :: _ => none
def itemsD : D → Option (List D)
  | .list xs => some xs
  | .tuple xs => some xs
  | _ => none
def sumD : D → Option D
  | .list xs => (intsOf xs).map fun ns => .int ns.sum
  | _ => none
def allD : D → Option D
  | .list xs => (boolsOf xs).map fun bs => .bool (bs.all id)
  | _ => none
def anyD : D → Option D
  | .list xs => (boolsOf xs).map fun bs => .bool (bs.any id)
  | _ => none
def alikeB (xs : List D) : Bool := xs.all fun x => xs.all fun y => alike x y
def noNoneB (xs : List D) : Bool := xs.all fun x => !isNoneD x
def minD1 (d : D) : Option D := match itemsD d with
  | some (x :: xs) => if (d.plain && alikeB (x :: xs) && noNoneB (x :: xs) && lowD d) = true then some (minD x xs) else none
  | _ => none
def maxD1 (d : D) : Option D := match itemsD d with
  | some (x :: xs) => if (d.plain && alikeB (x :: xs) && noNoneB (x :: xs) && lowD d) = true then some (maxD x xs) else none
  | _ => none
def max2D : D → D → Option D
  | .int i, .int j => some (.int (if j > i then j else i))
  | _, _ => none
def min2D : D → D → Option D
  | .int i, .int j => some (.int (if j < i then j else i))
  | _, _ => none
def absD : D → Option D
  | .int i => some (.int (if i < 0 then -i else i))
  | _ => none
def intD : D → Option D
  | .int i => some (.int i)
  | .bool b => some (.int (if b then 1 else 0))
  | _ => none
def tupD : D → Option D
  | .list xs => some (.tuple xs)
  | .tuple xs => some (.tuple xs)
  | _ => none
def lstD : D → Option D
  | .list xs => some (.list xs)
  | .tuple xs => some (.list xs)
  | .dict kvs => some (.list (kvs.map (·.1)))
  | _ => none
/-- sorted(..): tuples with an item at least, or other things than None and tuples -/
def sortableB (xs : List D) : Bool := (xs.all fun x => match x with | .tuple (_ :: _) => true | _ => false) || (xs.all fun x => match x with | .none => false | .tuple _ => false | _ => true)
def sortD (d : D) : Option D := match itemsD d with
  | some xs => if (d.plain && alikeB xs && sortableB xs && lowD d && decide (xs.length ≤ sizeLine)) = true then some (.list (xs.mergeSort (dataLe false id))) else none
  | none => none
def indexD (c x : D) : Option D := match itemsD c with
  | some ys => if (PyData.plainAll ys && x.plain && lowD x && lowD c) = true then (ys.findIdx? fun y => PyData.eqv y x).map fun j => .int (j : Nat) else none
  | none => none
def countD (c x : D) : Option D := match itemsD c with
  | some ys => if (PyData.plainAll ys && x.plain && lowD x && lowD c) = true then some (.int (ys.countP fun y => PyData.eqv y x : Nat)) else none
  | none => none

/-! ### what is walked -/
def itSeq (a : E) : Es := fun g w => bnd (a g w) fun x w1 => lft (itemsD x) w1
def small62 (i : Int) : Bool := decide (-(2 ^ 62) ≤ i) && decide (i < 2 ^ 62)
def rangeL (lo : Int) (n : Nat) : List D := (List.range n).map fun i => .int (lo + (i : Nat))
def range1 : D → Option (List D)
  | .int n => if small62 n = true then some (rangeL 0 n.toNat) else none
  | _ => none
def range2 : D → D → Option (List D)
  | .int i, .int j => if (small62 i && small62 j) = true then some (rangeL i (j - i).toNat) else none
  | _, _ => none
def itR1 (a : E) : Es := fun g w => bnd (a g w) fun x w1 => lft (range1 x) w1
def itR2 (a b : E) : Es := fun g w => bnd (a g w) fun x w1 => bnd (b g w1) fun y w2 => lft (range2 x y) w2
def zipD : D → D → Option (List D)
  | .list xs, .list ys => some ((xs.zip ys).map fun p => .tuple [p.1, p.2])
  | .tuple xs, .tuple ys => some ((xs.zip ys).map fun p => .tuple [p.1, p.2])
  | _, _ => none
def itZip (a b : E) : Es := fun g w => bnd (a g w) fun x w1 => bnd (b g w1) fun y w2 => lft (zipD x y) w2

/-! ### targets -/
def wipeE (g : Env) : List Nat → Env
  | [] => g
  | v :: vs => (wipeE g vs).set v none
def gName (i : Nat) : G := fun d g => if i < g.length then some (g.set i (some d)) else none
def gList : List G → List D → Env → Option Env
  | [], [], g => some g
  | t :: ts, d :: ds, g => match t d g with
    | some g1 => gList ts ds g1
    | none => none
  | _, _, _ => none
def gTup (ts : List G) : G := fun d g => match d with
  | .tuple ds => gList ts ds g
  | _ => none

/-! ### comprehensions -/
def lcLoop (t : G) (c : T) (e : E) (g : Env) : List D → Wd → Option (List D × Wd)
  | [], w => some ([], w)
  | x :: xs, w => match t x g with
    | none => none
    | some g1 => bnd (c g1 w) fun k w1 => if k = true then bnd (e g1 w1) fun d w2 => bnd (lcLoop t c e g xs w2) fun ds w3 => some (d :: ds, w3) else lcLoop t c e g xs w1
def tYes : T := fun _ w => some (true, w)
/-- [e for t in it if c], vs the slots of its own names -/
def cLc (it : Es) (t : G) (c : T) (e : E) (vs : List Nat) : E := fun g w => bnd (it g w) fun xs w1 => bnd (lcLoop t c e (wipeE g vs) xs w1) fun ds w2 => if xs.length ≤ sizeLine then some (.list ds, w2) else none

/-! ### statements -/
def sSeq (a b : S) : S := fun g w => bnd (a g w) fun o w1 => match o with
  | .nx g1 => b g1 w1
  | .rt d => some (.rt d, w1)
  | .bk g1 => some (.bk g1, w1)
  | .ct g1 => some (.ct g1, w1)
def sPass : S := fun g w => some (.nx g, w)
def sSet (t : G) (e : E) : S := fun g w => bnd (e g w) fun d w1 => match t d g with
  | some g1 => some (.nx g1, w1)
  | none => none
/-- a, b, .. = x, y, .. -/
def sPar (ts : List G) (es : List E) : S := fun g w => bnd (cArgs es g w) fun ds w1 => match gList ts ds g with
  | some g1 => some (.nx g1, w1)
  | none => none
def sRet (e : E) : S := fun g w => bnd (e g w) fun d w1 => some (.rt d, w1)
def sIf (c : T) (a b : S) : S := fun g w => bnd (c g w) fun k w1 => if k = true then a g w1 else b g w1
def sBreak : S := fun g w => some (.bk g, w)
def sCont : S := fun g w => some (.ct g, w)
def sDrop (e : E) : S := fun g w => bnd (e g w) fun _ w1 => some (.nx g, w1)
/-- slots forgotten -/
def sForget (vs : List Nat) : S := fun g w => some (.nx (wipeE g vs), w)
def apD : D → D → Option D
  | .list xs, d => if xs.length < sizeLine then some (.list (xs ++ [d])) else none
  | _, _ => none
def exD : D → D → Option D
  | .list xs, .list ys => if xs.length + ys.length ≤ sizeLine then some (.list (xs ++ ys)) else none
  | _, _ => none
def setD : D → D → D → Option D
  | .list xs, .int k, d => (L2.ixN xs.length k).map fun j => .list (xs.set j d)
  | .dict kvs, k, d => if (keyD k && decide (kvs.length < sizeLine)) = true then some (.dict (putD kvs k d)) else none
  | _, _, _ => none
/-- the object in slot i is changed -/
def mutS (i : Nat) (f : D → Option D) (g : Env) (w : Wd) : Option (Out × Wd) := match (g[i]?).join with
  | some x => match f x with
    | some y => some (.nx (g.set i (some y)), w)
    | none => none
  | none => none
def sApp (i : Nat) (e : E) : S := fun g w => bnd (e g w) fun d w1 => mutS i (apD · d) g w1
def sExt (i : Nat) (e : E) : S := fun g w => bnd (e g w) fun d w1 => mutS i (exD · d) g w1
/-- x[k] = e: e first -/
def sPut (i : Nat) (k e : E) : S := fun g w => bnd (e g w) fun d w1 => bnd (k g w1) fun kd w2 => mutS i (setD · kd d) g w2
/-- x[k] += e -/
def sAug (i : Nat) (f : D → D → Option D) (k e : E) : S := fun g w => bnd (k g w) fun kd w1 => match (g[i]?).join with
  | some x => match ixD x kd with
    | some old => bnd (e g w1) fun d w2 => match f old d with
      | some new => mutS i (setD · kd new) g w2
      | none => none
    | none => none
  | none => none
def loopS (t : G) (b : S) (vs : List Nat) : List D → Env → Wd → Option (Out × Wd)
  | [], g, w => some (.nx (wipeE g vs), w)
  | x :: xs, g, w => match t x (wipeE g vs) with
    | none => none
    | some g1 => bnd (b g1 w) fun o w1 => match o with
      | .nx g2 => loopS t b vs xs g2 w1
      | .ct g2 => loopS t b vs xs g2 w1
      | .bk g2 => some (.nx (wipeE g2 vs), w1)
      | .rt d => some (.rt d, w1)
/-- vs: the slots forgotten at each turn's start and behind the loop -/
def sFor (it : Es) (t : G) (b : S) (vs : List Nat) : S := fun g w => bnd (it g w) fun xs w1 => loopS t b vs xs g w1
def whileS (c : T) (b : S) (vs : List Nat) : Nat → Env → Wd → Option (Out × Wd)
  | 0, _, _ => none
  | n + 1, g, w => bnd (c (wipeE g vs) w) fun k w1 => if k = true then bnd (b (wipeE g vs) w1) fun o w2 => match o with
      | .nx g2 => whileS c b vs n g2 w2
      | .ct g2 => whileS c b vs n g2 w2
      | .bk g2 => some (.nx (wipeE g2 vs), w2)
      | .rt d => some (.rt d, w2)
    else some (.nx (wipeE g vs), w1)
def sWhile (c : T) (b : S) (vs : List Nat) (n : Nat) : S := fun g w => whileS c b vs n g w

/-! ### defs -/
def bodyFn (n locals : Nat) (b : S) : Fn := fun ds w => if ds.length = n then bnd (b (ds.map some ++ List.replicate locals none) w) fun o w1 => match o with
    | .rt d => some (d, w1)
    | .nx _ => some (.none, w1)
    | _ => none
  else none
/-- the next draw below many -/
def fnNext : Fn := fun ds w => match ds, w with
  | [.dict [(.none, .none)], .int many], some l => match l with
    | [] => some (.int 0, some [])
    | x :: r => if many ≠ 0 then some (.int (x.fmod many), some r) else none
  | _, _ => none
end Q

set_option Elab.async false
set_option linter.all false
set_option autoImplicit false
set_option maxRecDepth 100000
/-! QS1: how slots and heaps bear data; the readings. -/
namespace Q
open PySem PySem.Spec PyProof.Rows L2

def keyOf : Key → D
  | .inl i => .int i
  | .inr x => .str x

/-- the dict of draws, and where the defs stand that are handed on -/
structure Tk (Kx : PySem.W.Frag) (mx : Str → Option Value) where
  pw : Option Addr
mutual
/-- v bears d in the frozen heap F; two odd dicts stand for the dict of draws and for defs -/
def Rep {Kx : PySem.W.Frag} {mx : Str → Option Value} (tk : Tk Kx mx) (F : Hp) : D → V → Prop
  | .none, v => v = .non
  | .bool b, v => v = .bl b
  | .int i, v => v = .int i
  | .str x, v => v = .str x
  | .list ds, v => ∃ a xs, v = .ref a ∧ Rd F a (.lst xs) ∧ RepL tk F ds xs
  | .tuple ds, v => ∃ a xs, v = .ref a ∧ F a = some (.tup xs) ∧ RepL tk F ds xs
  | .dict kvs, v => ∃ a, v = .ref a ∧ ((∃ es, F a = some (.dK es) ∧ RepK tk F kvs es) ∨ (∃ es, F a = some (.dT es) ∧ RepT tk F kvs es) ∨ (kvs = [(.none, .none)] ∧ tk.pw = some a) ∨ (∃ x : Str, kvs = [(.none, .str x)] ∧ mx x = some (.ref a)) ∨ ∃ ns : List Int, kvs = [(.none, .list (ns.map .int))] ∧ SqL Kx F a (ns.map V.int))
def RepL {Kx : PySem.W.Frag} {mx : Str → Option Value} (tk : Tk Kx mx) (F : Hp) : List D → List V → Prop
  | [], [] => True
  | d :: ds, v :: vs => Rep tk F d v ∧ RepL tk F ds vs
  | [], _ :: _ => False
  | _ :: _, [] => False
def RepK {Kx : PySem.W.Frag} {mx : Str → Option Value} (tk : Tk Kx mx) (F : Hp) : List (D × D) → List (Key × V) → Prop
  | [], [] => True
  | (k, d) :: r, (k', v) :: r' => k = keyOf k' ∧ Rep tk F d v ∧ RepK tk F r r'
  | [], _ :: _ => False
  | _ :: _, [] => False
def RepT {Kx : PySem.W.Frag} {mx : Str → Option Value} (tk : Tk Kx mx) (F : Hp) : List (D × D) → List (List Key × V) → Prop
  | [], [] => True
  | (k, d) :: r, (k', v) :: r' => k = .tuple (k'.map keyOf) ∧ Rep tk F d v ∧ RepT tk F r r'
  | [], _ :: _ => False
  | _ :: _, [] => False
end

theorem Rd.same {F F' : Hp} {a : Addr} {u : HO} (s : Same F F') (h : Rd F a u) : Rd F' a u := by
  rcases h with h | ⟨o, h⟩
  · exact .inl (s _ _ h)
  · exact .inr ⟨o, s _ _ h⟩

mutual
theorem Rep.same {Kx : PySem.W.Frag} {mx : Str → Option Value} {tk : Tk Kx mx} {F F' : Hp} (s : Same F F') : ∀ (d : D) (v : V), Rep tk F d v → Rep tk F' d v
  | .none, _, h => by simpa only [Rep] using h
  | .bool _, _, h => by simpa only [Rep] using h
  | .int _, _, h => by simpa only [Rep] using h
  | .str _, _, h => by simpa only [Rep] using h
  | .list ds, v, h => by
    simp only [Rep] at h ⊢
    obtain ⟨a, xs, e, r, l⟩ := h
    exact ⟨a, xs, e, Rd.same s r, RepL.same s ds xs l⟩
  | .tuple ds, v, h => by
    simp only [Rep] at h ⊢
    obtain ⟨a, xs, e, r, l⟩ := h
    exact ⟨a, xs, e, s _ _ r, RepL.same s ds xs l⟩
  | .dict kvs, v, h => by
    simp only [Rep] at h ⊢
    obtain ⟨a, e, h⟩ := h
    refine ⟨a, e, ?_⟩
    rcases h with ⟨es, r, l⟩ | ⟨es, r, l⟩ | h
    · exact .inl ⟨es, s _ _ r, RepK.same s kvs es l⟩
    · exact .inr (.inl ⟨es, s _ _ r, RepT.same s kvs es l⟩)
    · refine .inr (.inr ?_)
      rcases h with h | h | ⟨ns, e, h⟩
      · exact .inl h
      · exact .inr (.inl h)
      · exact .inr (.inr ⟨ns, e, s.seq h⟩)
theorem RepL.same {Kx : PySem.W.Frag} {mx : Str → Option Value} {tk : Tk Kx mx} {F F' : Hp} (s : Same F F') : ∀ (ds : List D) (vs : List V), RepL tk F ds vs → RepL tk F' ds vs
  | [], [], _ => by simp only [RepL]
  | [], _ :: _, h => by simp only [RepL] at h
  | _ :: _, [], h => by simp only [RepL] at h
  | d :: ds, v :: vs, h => by
    simp only [RepL] at h ⊢
    exact ⟨Rep.same s d v h.1, RepL.same s ds vs h.2⟩
theorem RepK.same {Kx : PySem.W.Frag} {mx : Str → Option Value} {tk : Tk Kx mx} {F F' : Hp} (s : Same F F') : ∀ (kvs : List (D × D)) (es : List (Key × V)), RepK tk F kvs es → RepK tk F' kvs es
  | [], [], _ => by simp only [RepK]
  | [], _ :: _, h => by simp only [RepK] at h
  | _ :: _, [], h => by simp only [RepK] at h
  | (k, d) :: r, (k', v) :: r', h => by
    simp only [RepK] at h ⊢
    exact ⟨h.1, Rep.same s d v h.2.1, RepK.same s r r' h.2.2⟩
theorem RepT.same {Kx : PySem.W.Frag} {mx : Str → Option Value} {tk : Tk Kx mx} {F F' : Hp} (s : Same F F') : ∀ (kvs : List (D × D)) (es : List (List Key × V)), RepT tk F kvs es → RepT tk F' kvs es
  | [], [], _ => by simp only [RepT]
  | [], _ :: _, h => by simp only [RepT] at h
  | _ :: _, [], h => by simp only [RepT] at h
  | (k, d) :: r, (k', v) :: r', h => by
    simp only [RepT] at h ⊢
    exact ⟨h.1, Rep.same s d v h.2.1, RepT.same s r r' h.2.2⟩
end
theorem RepL.length {Kx : PySem.W.Frag} {mx : Str → Option Value} {tk : Tk Kx mx} {F : Hp} : ∀ {ds : List D} {vs : List V}, RepL tk F ds vs → ds.length = vs.length
  | [], [], _ => rfl
  | [], _ :: _, h => by simp only [RepL] at h
  | _ :: _, [], h => by simp only [RepL] at h
  | d :: ds, v :: vs, h => by
    simp only [RepL] at h
    simp [RepL.length h.2]
theorem RepL.at {Kx : PySem.W.Frag} {mx : Str → Option Value} {tk : Tk Kx mx} {F : Hp} : ∀ {ds : List D} {vs : List V} {i : Nat} {d : D}, RepL tk F ds vs → ds[i]? = some d → ∃ v, vs[i]? = some v ∧ Rep tk F d v
  | [], [], _, _, _, h => by simp at h
  | [], _ :: _, _, _, h, _ => by simp only [RepL] at h
  | _ :: _, [], _, _, h, _ => by simp only [RepL] at h
  | d :: ds, v :: vs, 0, x, h, e => by
    simp only [RepL] at h
    simp at e
    subst e
    exact ⟨v, rfl, h.1⟩
  | d :: ds, v :: vs, i + 1, x, h, e => by
    simp only [RepL] at h
    exact RepL.at (i := i) h.2 (by simpa using e)
theorem RepL.append {Kx : PySem.W.Frag} {mx : Str → Option Value} {tk : Tk Kx mx} {F : Hp} : ∀ {ds : List D} {vs : List V} {es : List D} {ws : List V}, RepL tk F ds vs → RepL tk F es ws → RepL tk F (ds ++ es) (vs ++ ws)
  | [], [], _, _, _, h => h
  | [], _ :: _, _, _, h, _ => by simp only [RepL] at h
  | _ :: _, [], _, _, h, _ => by simp only [RepL] at h
  | d :: ds, v :: vs, es, ws, h, k => by
    simp only [RepL] at h
    simp only [List.cons_append, RepL]
    exact ⟨h.1, RepL.append h.2 k⟩
theorem RepL.take {Kx : PySem.W.Frag} {mx : Str → Option Value} {tk : Tk Kx mx} {F : Hp} : ∀ {ds : List D} {vs : List V} (n : Nat), RepL tk F ds vs → RepL tk F (ds.take n) (vs.take n)
  | _, _, 0, _ => by simp only [List.take_zero, RepL]
  | [], [], n + 1, h => by simp only [List.take_nil, RepL]
  | [], _ :: _, _, h => by simp only [RepL] at h
  | _ :: _, [], _, h => by simp only [RepL] at h
  | d :: ds, v :: vs, n + 1, h => by
    simp only [RepL] at h
    simp only [List.take_succ_cons, RepL]
    exact ⟨h.1, RepL.take n h.2⟩
theorem RepL.drop {Kx : PySem.W.Frag} {mx : Str → Option Value} {tk : Tk Kx mx} {F : Hp} : ∀ {ds : List D} {vs : List V} (n : Nat), RepL tk F ds vs → RepL tk F (ds.drop n) (vs.drop n)
  | _, _, 0, h => h
  | [], [], n + 1, h => by simp only [List.drop_nil, RepL]
  | [], _ :: _, _, h => by simp only [RepL] at h
  | _ :: _, [], _, h => by simp only [RepL] at h
  | d :: ds, v :: vs, n + 1, h => by
    simp only [RepL] at h
    simp only [List.drop_succ_cons]
    exact RepL.drop n h.2
theorem RepL.set {Kx : PySem.W.Frag} {mx : Str → Option Value} {tk : Tk Kx mx} {F : Hp} {d : D} {v : V} (hd : Rep tk F d v) : ∀ {ds : List D} {vs : List V} (n : Nat), RepL tk F ds vs → RepL tk F (ds.set n d) (vs.set n v)
  | [], [], _, _ => by simp only [List.set_nil, RepL]
  | [], _ :: _, _, h => by simp only [RepL] at h
  | _ :: _, [], _, h => by simp only [RepL] at h
  | e :: ds, u :: vs, 0, h => by
    simp only [RepL] at h
    simp only [List.set_cons_zero, RepL]
    exact ⟨hd, h.2⟩
  | e :: ds, u :: vs, n + 1, h => by
    simp only [RepL] at h
    simp only [List.set_cons_succ, RepL]
    exact ⟨h.1, RepL.set hd n h.2⟩
theorem RepL.snoc {Kx : PySem.W.Frag} {mx : Str → Option Value} {tk : Tk Kx mx} {F : Hp} {ds : List D} {vs : List V} {d : D} {v : V} (h : RepL tk F ds vs) (k : Rep tk F d v) : RepL tk F (ds ++ [d]) (vs ++ [v]) :=
  h.append (by simp only [RepL]; exact ⟨k, trivial⟩)

/-- what an own object holds -/
def RepO {Kx : PySem.W.Frag} {mx : Str → Option Value} (tk : Tk Kx mx) (F : Hp) : D → HO → Prop
  | .list ds, .lst xs => RepL tk F ds xs
  | .dict kvs, .dK es => RepK tk F kvs es
  | .dict kvs, .dT es => RepT tk F kvs es
  | _, _ => False
theorem RepO.same {Kx : PySem.W.Frag} {mx : Str → Option Value} {tk : Tk Kx mx} {F F' : Hp} (s : Same F F') {d : D} {o : HO} (h : RepO tk F d o) : RepO tk F' d o := by
  cases d <;> cases o <;> simp only [RepO] at h ⊢
  · exact RepL.same s _ _ h
  · exact RepK.same s _ _ h
  · exact RepT.same s _ _ h
/-- an own object frozen -/
theorem RepO.frz {Kx : PySem.W.Frag} {mx : Str → Option Value} {tk : Tk Kx mx} {F : Hp} {d : D} {o : HO} {a : Addr} (h : RepO tk F d o) (hn : F a = none) : Rep tk (upd F a o) d (.ref a) := by
  have s : Same F (upd F a o) := fun b u e => by rw [upd_ne (ne_of_none e hn)]; exact e
  cases d <;> cases o <;> simp only [RepO] at h <;> simp only [Rep]
  · exact ⟨a, _, rfl, .inl upd_same, RepL.same s _ _ h⟩
  · exact ⟨a, rfl, .inl ⟨_, upd_same, RepK.same s _ _ h⟩⟩
  · exact ⟨a, rfl, .inr (.inl ⟨_, upd_same, RepT.same s _ _ h⟩)⟩

def isDictO : HO → Bool
  | .dK _ => true
  | .dT _ => true
  | _ => false
/-- the frozen heap lies in the heap (a dict may be locked) -/
def Sub (F H : Hp) : Prop := ∀ a o, F a = some o → H a = some o ∨ (isDictO o = true ∧ ∃ ob, H a = some (.frz ob o))
theorem Sub.rdL {F H : Hp} {a : Addr} {xs : List V} (s : Sub F H) (h : Rd F a (.lst xs)) : Rd H a (.lst xs) := by
  rcases h with h | ⟨o, h⟩
  · rcases s _ _ h with k | ⟨k, _⟩
    · exact .inl k
    · cases k
  · rcases s _ _ h with k | ⟨k, _⟩
    · exact .inr ⟨o, k⟩
    · cases k
theorem Sub.tup {F H : Hp} {a : Addr} {xs : List V} (s : Sub F H) (h : F a = some (.tup xs)) : H a = some (.tup xs) := by
  rcases s _ _ h with k | ⟨k, _⟩
  · exact k
  · cases k
theorem Sub.dict {F H : Hp} {a : Addr} {o : HO} (s : Sub F H) (h : F a = some o) (hd : isDictO o = true) : Rd H a o := by
  rcases s _ _ h with k | ⟨_, ob, k⟩
  · exact .inl k
  · exact .inr ⟨ob, k⟩
theorem Sub.none {F H : Hp} {a : Addr} (s : Sub F H) (h : H a = none) : F a = none := by
  cases e : F a with
  | none => rfl
  | some o =>
    rcases s _ _ e with k | ⟨_, ob, k⟩ <;> rw [h] at k <;> cases k

/-- a value that is read where it stands: a list or a dict that is still being made too -/
def RepB {Kx : PySem.W.Frag} {mx : Str → Option Value} (tk : Tk Kx mx) (F H : Hp) : D → V → Prop
  | .list ds, v => ∃ a xs, v = .ref a ∧ tk.pw ≠ some a ∧ Rd H a (.lst xs) ∧ RepL tk F ds xs
  | .dict kvs, v => ∃ a, v = .ref a ∧ ((tk.pw ≠ some a ∧ ((∃ es, Rd H a (.dK es) ∧ RepK tk F kvs es) ∨ ∃ es, Rd H a (.dT es) ∧ RepT tk F kvs es)) ∨ (kvs = [(.none, .none)] ∧ tk.pw = some a) ∨ (∃ x : Str, kvs = [(.none, .str x)] ∧ mx x = some (.ref a)) ∨ ∃ ns : List Int, kvs = [(.none, .list (ns.map .int))] ∧ SqL Kx F a (ns.map V.int))
  | d, v => Rep tk F d v

/-- all but the dict of draws stands -/
def Grow {Kx : PySem.W.Frag} {mx : Str → Option Value} (tk : Tk Kx mx) (H H' : Hp) : Prop := ∀ a o, H a = some o → tk.pw ≠ some a → H' a = some o
/-- what was not frozen is not -/
def New {Kx : PySem.W.Frag} {mx : Str → Option Value} (tk : Tk Kx mx) (H F F' : Hp) : Prop := ∀ a, tk.pw ≠ some a → H a ≠ none → F a = none → F' a = none
structure Ex {Kx : PySem.W.Frag} {mx : Str → Option Value} (tk : Tk Kx mx) (F H F' H' : Hp) : Prop where
  sm : Same F F'
  gr : Grow tk H H'
  nw : New tk H F F'
theorem Ex.refl {Kx : PySem.W.Frag} {mx : Str → Option Value} (tk : Tk Kx mx) (F H : Hp) : Ex tk F H F H := ⟨Same.refl F, fun _ _ h _ => h, fun _ _ _ h => h⟩
theorem Ex.trans {Kx : PySem.W.Frag} {mx : Str → Option Value} {tk : Tk Kx mx} {F H F1 H1 F2 H2 : Hp} (a : Ex tk F H F1 H1) (b : Ex tk F1 H1 F2 H2) : Ex tk F H F2 H2 :=
  ⟨a.sm.trans b.sm, fun c o h n => b.gr c o (a.gr c o h n) n, fun c n h f => b.nw c n (by
    cases e : H c with
    | none => exact absurd e h
    | some o => rw [a.gr c o e n]; exact fun z => nomatch z) (a.nw c n h f)⟩
theorem Rd.grow {Kx : PySem.W.Frag} {mx : Str → Option Value} {tk : Tk Kx mx} {H H' : Hp} {a : Addr} {u : HO} (g : Grow tk H H') (n : tk.pw ≠ some a) (h : Rd H a u) : Rd H' a u := by
  rcases h with h | ⟨o, h⟩
  · exact .inl (g _ _ h n)
  · exact .inr ⟨o, g _ _ h n⟩
theorem RepB.ex {Kx : PySem.W.Frag} {mx : Str → Option Value} {tk : Tk Kx mx} {F H F' H' : Hp} (x : Ex tk F H F' H') {d : D} {v : V} (h : RepB tk F H d v) : RepB tk F' H' d v := by
  cases d <;> simp only [RepB] at h ⊢
  case list ds =>
    obtain ⟨a, xs, e, n, r, l⟩ := h
    exact ⟨a, xs, e, n, Rd.grow x.gr n r, RepL.same x.sm _ _ l⟩
  case dict kvs =>
    obtain ⟨a, e, h⟩ := h
    refine ⟨a, e, ?_⟩
    rcases h with ⟨n, ⟨es, r, l⟩ | ⟨es, r, l⟩⟩ | h
    · exact .inl ⟨n, .inl ⟨es, Rd.grow x.gr n r, RepK.same x.sm _ _ l⟩⟩
    · exact .inl ⟨n, .inr ⟨es, Rd.grow x.gr n r, RepT.same x.sm _ _ l⟩⟩
    · refine .inr ?_
      rcases h with h | h | ⟨ns, e, h⟩
      · exact .inl h
      · exact .inr (.inl h)
      · exact .inr (.inr ⟨ns, e, x.sm.seq h⟩)
  all_goals exact Rep.same x.sm _ _ h

/-- the dict of draws -/
def WAt {Kx : PySem.W.Frag} {mx : Str → Option Value} (tk : Tk Kx mx) (H F : Hp) (w : Wd) : Prop := match tk.pw, w with
  | none, none => True
  | some p, some l => F p = none ∧ ∃ (b : Addr) (n : Nat) (full : List Int), H p = some (.dK [(.inr "draws", .ref b), (.inr "at", .int n)]) ∧ Rd F b (.lst (full.map V.int)) ∧ l = full.drop n
  | _, _ => False
theorem WAt.free {Kx : PySem.W.Frag} {mx : Str → Option Value} {tk : Tk Kx mx} {H F : Hp} {w : Wd} (h : WAt tk H F w) : ∀ p, tk.pw = some p → F p = none ∧ H p ≠ none := by
  intro p e
  unfold WAt at h
  rw [e] at h
  cases w with
  | none => exact h.elim
  | some l =>
    obtain ⟨f, b, n, full, e, _⟩ := h
    exact ⟨f, by rw [e]; exact fun z => nomatch z⟩
theorem WAt.to {Kx : PySem.W.Frag} {mx : Str → Option Value} {tk : Tk Kx mx} {H F H' F' : Hp} {w : Wd} (h : WAt tk H F w) (hk : ∀ p, tk.pw = some p → H' p = H p) (s : Same F F') (hf : ∀ q, tk.pw = some q → F' q = none) : WAt tk H' F' w := by
  unfold WAt at h ⊢
  cases e : tk.pw with
  | none =>
    rw [e] at h
    cases w <;> exact h
  | some q =>
    rw [e] at h
    cases w with
    | none => exact h.elim
    | some l =>
      obtain ⟨f, b, n, full, e1, r, z⟩ := h
      exact ⟨hf q e, b, n, full, by rw [hk q e]; exact e1, Rd.same s r, z⟩
theorem WAt.upd {Kx : PySem.W.Frag} {mx : Str → Option Value} {tk : Tk Kx mx} {H F F' : Hp} {w : Wd} {p : Addr} {o : HO} (h : WAt tk H F w) (hn : H p = none) (s : Same F F') (hf : ∀ q, tk.pw = some q → F' q = none) : WAt tk (upd H p o) F' w :=
  h.to (fun q e => upd_ne fun z => (h.free q e).2 (by rw [z]; exact hn)) s hf

structure Rel {Kx : PySem.W.Frag} {mx : Str → Option Value} (tk : Tk Kx mx) (H0 F0 : Hp) (O : List Nat) (σ : L2.St) (H F : Hp) (g : Env) (w : Wd) : Prop where
  len : g.length = σ.length
  sub : Sub F H
  f0 : Same F0 F
  k0 : Grow tk H0 H
  n0 : New tk H0 F0 F
  val : ∀ i d, i ∉ O → g[i]? = some (some d) → ∃ v, σ[i]? = some (some v) ∧ Rep tk F d v
  own : ∀ i d, i ∈ O → g[i]? = some (some d) → ∃ a o, σ[i]? = some (some (.ref a)) ∧ H a = some o ∧ F a = none ∧ H0 a = none ∧ tk.pw ≠ some a ∧ RepO tk F d o
  sep : ∀ i j a d e, i ∈ O → j ∈ O → g[i]? = some (some d) → g[j]? = some (some e) → σ[i]? = some (some (.ref a)) → σ[j]? = some (some (.ref a)) → i = j
  wat : WAt tk H F w

theorem Rep.b {Kx : PySem.W.Frag} {mx : Str → Option Value} {tk : Tk Kx mx} {F H : Hp} {d : D} {v : V} (s : Sub F H) (f : ∀ p, tk.pw = some p → F p = none) (h : Rep tk F d v) : RepB tk F H d v := by
  have ne : ∀ {a o}, F a = some o → tk.pw ≠ some a := fun {a o} e z => by rw [f _ z] at e; cases e
  cases d <;> simp only [RepB] <;> try exact h
  case list ds =>
    simp only [Rep] at h
    obtain ⟨a, xs, e, r, l⟩ := h
    refine ⟨a, xs, e, ?_, s.rdL r, l⟩
    rcases r with r | ⟨o, r⟩ <;> exact ne r
  case dict kvs =>
    simp only [Rep] at h
    obtain ⟨a, e, h⟩ := h
    rcases h with ⟨es, r, l⟩ | ⟨es, r, l⟩ | h
    · exact ⟨a, e, .inl ⟨ne r, .inl ⟨es, s.dict r rfl, l⟩⟩⟩
    · exact ⟨a, e, .inl ⟨ne r, .inr ⟨es, s.dict r rfl, l⟩⟩⟩
    · exact ⟨a, e, .inr h⟩
section
variable {Kx : PySem.W.Frag} {mx : Str → Option Value} {tk : Tk Kx mx} {H0 F0 : Hp} {O : List Nat} {σ : L2.St} {H F : Hp} {g : Env} {w : Wd}
theorem Rel.fw (R : Rel tk H0 F0 O σ H F g w) : ∀ p, tk.pw = some p → F p = none := fun p e => (R.wat.free p e).1
theorem Rel.b (R : Rel tk H0 F0 O σ H F g w) {d : D} {v : V} (h : Rep tk F d v) : RepB tk F H d v := h.b R.sub R.fw
theorem same_new {F : Hp} {p : Addr} {o : HO} (h : F p = none) : Same F (upd F p o) := fun b u e => by rw [upd_ne (ne_of_none e h)]; exact e
/-- a new frozen object -/
theorem Rel.alloc (R : Rel tk H0 F0 O σ H F g w) {p : Addr} (hp : H p = none) (o : HO) : Rel tk H0 F0 O σ (upd H p o) (upd F p o) g w ∧ Ex tk F H (upd F p o) (upd H p o) := by
  have hf : F p = none := R.sub.none hp
  have s := same_new (o := o) hf
  have npw : tk.pw ≠ some p := fun e => (R.wat.free p e).2 hp
  refine ⟨⟨R.len, fun a u e => ?_, R.f0.trans s, fun a u e n => ?_, fun a n e f => ?_, fun i d hi e => ?_, fun i d hi e => ?_, R.sep, R.wat.upd hp s fun q e => ?_⟩, s, fun a u e n => ?_, fun a n e f => ?_⟩
  · by_cases h : a = p
    · subst h; rw [upd_same] at e; exact .inl (by rw [upd_same]; exact e)
    · rw [upd_ne h] at e
      rcases R.sub a u e with k | ⟨k, ob, q⟩
      · exact .inl (by rw [upd_ne h]; exact k)
      · exact .inr ⟨k, ob, by rw [upd_ne h]; exact q⟩
  · have := R.k0 a u e n
    rw [upd_ne (ne_of_none this hp)]; exact this
  · have h1 := R.n0 a n e f
    cases q : H0 a with
    | none => exact absurd q e
    | some u =>
      have := R.k0 a u q n
      rw [upd_ne (ne_of_none this hp)]; exact h1
  · obtain ⟨v, h1, h2⟩ := R.val i d hi e
    exact ⟨v, h1, Rep.same s _ _ h2⟩
  · obtain ⟨a, u, h1, h2, h3, h4, h5, h6⟩ := R.own i d hi e
    have ne := ne_of_none h2 hp
    exact ⟨a, u, h1, by rw [upd_ne ne]; exact h2, by rw [upd_ne ne]; exact h3, h4, h5, h6.same s⟩
  · rw [upd_ne (fun z => npw (by rw [e, z]))]; exact R.fw q e
  · rw [upd_ne (ne_of_none e hp)]; exact e
  · have ne : a ≠ p := fun z => e (by rw [z]; exact hp)
    rw [upd_ne ne]; exact f
/-- a new object that is not frozen -/
theorem Rel.allocO (R : Rel tk H0 F0 O σ H F g w) {p : Addr} (hp : H p = none) (o : HO) : Rel tk H0 F0 O σ (upd H p o) F g w ∧ Ex tk F H F (upd H p o) := by
  refine ⟨⟨R.len, fun a u e => ?_, R.f0, fun a u e n => ?_, R.n0, R.val, fun i d hi e => ?_, R.sep, R.wat.upd hp (Same.refl F) R.fw⟩, Same.refl F, fun a u e n => ?_, fun a n e f => f⟩
  · have ne : a ≠ p := fun z => by rw [z, R.sub.none hp] at e; cases e
    rcases R.sub a u e with k | ⟨k, ob, q⟩
    · exact .inl (by rw [upd_ne ne]; exact k)
    · exact .inr ⟨k, ob, by rw [upd_ne ne]; exact q⟩
  · have := R.k0 a u e n
    rw [upd_ne (ne_of_none this hp)]; exact this
  · obtain ⟨a, u, h1, h2, h3⟩ := R.own i d hi e
    exact ⟨a, u, h1, by rw [upd_ne (ne_of_none h2 hp)]; exact h2, h3⟩
  · rw [upd_ne (ne_of_none e hp)]; exact e
/-- a standing object frozen: it is no slot's own -/
theorem Rel.frz (R : Rel tk H0 F0 O σ H F g w) {p : Addr} {o : HO} (hp : H p = some o) (hf : F p = none) (h0 : H0 p = none) (npw : tk.pw ≠ some p) (no : ∀ i d, i ∈ O → g[i]? = some (some d) → σ[i]? ≠ some (some (.ref p))) :
    Rel tk H0 F0 O σ H (upd F p o) g w := by
  have s := same_new (o := o) hf
  refine ⟨R.len, fun a u e => ?_, R.f0.trans s, R.k0, fun a n e f => ?_, fun i d hi e => ?_, fun i d hi e => ?_, R.sep, ?_⟩
  · by_cases h : a = p
    · subst h; rw [upd_same] at e; cases e; exact .inl hp
    · rw [upd_ne h] at e; exact R.sub a u e
  · have ne : a ≠ p := fun z => e (by rw [z]; exact h0)
    rw [upd_ne ne]; exact R.n0 a n e f
  · obtain ⟨v, h1, h2⟩ := R.val i d hi e
    exact ⟨v, h1, Rep.same s _ _ h2⟩
  · obtain ⟨a, u, h1, h2, h3, h4, h5, h6⟩ := R.own i d hi e
    have ne : a ≠ p := fun z => no i d hi e (by rw [← z]; exact h1)
    exact ⟨a, u, h1, h2, by rw [upd_ne ne]; exact h3, h4, h5, h6.same s⟩
  · exact R.wat.to (fun _ _ => rfl) s fun q e => by rw [upd_ne (fun z => npw (by rw [e, z]))]; exact R.fw q e
end

/-! ### the readings -/
abbrev KE {Kx : PySem.W.Frag} {mx : Str → Option Value} (tk : Tk Kx mx) (H0 F0 : Hp) (O : List Nat) (σ : L2.St) (F H : Hp) (g : Env) (w' : Wd) (P : Hp → Hp → V → Prop) (Q : VK) : Prop :=
  ∀ v H' F', Rel tk H0 F0 O σ H' F' g w' → Ex tk F H F' H' → P F' H' v → Q v H'
def rd (Kx : PySem.W.Frag) (mx : Str → Option Value) (O : List Nat) (f : E) : TE := fun σ H Q => ∃ tk : Tk Kx mx, ∃ H0 F0 F g w d w', Rel tk H0 F0 O σ H F g w ∧ f g w = some (d, w') ∧ KE tk H0 F0 O σ F H g w' (fun F' _ v => Rep tk F' d v) Q
def rdB (Kx : PySem.W.Frag) (mx : Str → Option Value) (O : List Nat) (f : E) : TE := fun σ H Q => ∃ tk : Tk Kx mx, ∃ H0 F0 F g w d w', Rel tk H0 F0 O σ H F g w ∧ f g w = some (d, w') ∧ KE tk H0 F0 O σ F H g w' (fun F' H' v => RepB tk F' H' d v) Q
/-- a new object, not frozen yet -/
def IsOwn {Kx : PySem.W.Frag} {mx : Str → Option Value} (tk : Tk Kx mx) (H F' H' : Hp) (d : D) (v : V) : Prop := ∃ a o, v = .ref a ∧ H' a = some o ∧ F' a = none ∧ H a = none ∧ tk.pw ≠ some a ∧ RepO tk F' d o
def rdO (Kx : PySem.W.Frag) (mx : Str → Option Value) (O : List Nat) (f : E) : TE := fun σ H Q => ∃ tk : Tk Kx mx, ∃ H0 F0 F g w d w', Rel tk H0 F0 O σ H F g w ∧ f g w = some (d, w') ∧ KE tk H0 F0 O σ F H g w' (fun F' H' v => IsOwn tk H F' H' d v) Q
def rdT (Kx : PySem.W.Frag) (mx : Str → Option Value) (O : List Nat) (f : T) : TT := fun σ H Q => ∃ tk : Tk Kx mx, ∃ H0 F0 F g w k w', Rel tk H0 F0 O σ H F g w ∧ f g w = some (k, w') ∧ ∀ H' F', Rel tk H0 F0 O σ H' F' g w' → Ex tk F H F' H' → Q k H'
def rdA (Kx : PySem.W.Frag) (mx : Str → Option Value) (O : List Nat) (f : Es) : TA := fun σ H Q => ∃ tk : Tk Kx mx, ∃ H0 F0 F g w ds w', Rel tk H0 F0 O σ H F g w ∧ f g w = some (ds, w') ∧ ∀ vs H' F', Rel tk H0 F0 O σ H' F' g w' → Ex tk F H F' H' → RepL tk F' ds vs → Q vs H'
def RepBL {Kx : PySem.W.Frag} {mx : Str → Option Value} (tk : Tk Kx mx) (F H : Hp) : List D → List V → Prop
  | [], [] => True
  | d :: ds, v :: vs => RepB tk F H d v ∧ RepBL tk F H ds vs
  | _, _ => False
theorem RepBL.ex {Kx : PySem.W.Frag} {mx : Str → Option Value} {tk : Tk Kx mx} {F H F' H' : Hp} (x : Ex tk F H F' H') : ∀ {ds : List D} {vs : List V}, RepBL tk F H ds vs → RepBL tk F' H' ds vs
  | [], [], _ => by simp only [RepBL]
  | [], _ :: _, h => by simp only [RepBL] at h
  | _ :: _, [], h => by simp only [RepBL] at h
  | d :: ds, v :: vs, h => by
    simp only [RepBL] at h ⊢
    exact ⟨h.1.ex x, RepBL.ex x h.2⟩
def rdAB (Kx : PySem.W.Frag) (mx : Str → Option Value) (O : List Nat) (f : Es) : TA := fun σ H Q => ∃ tk : Tk Kx mx, ∃ H0 F0 F g w ds w', Rel tk H0 F0 O σ H F g w ∧ f g w = some (ds, w') ∧ ∀ vs H' F', Rel tk H0 F0 O σ H' F' g w' → Ex tk F H F' H' → RepBL tk F' H' ds vs → Q vs H'
/-- a statement: O' the own slots behind it, Ol those at a break or continue -/
def SOut {Kx : PySem.W.Frag} {mx : Str → Option Value} (tk : Tk Kx mx) (H0 F0 : Hp) (O' Ol : List Nat) (D : Ends) (w' : Wd) : Out → Prop
  | .nx g' => ∀ σ' H' F', Rel tk H0 F0 O' σ' H' F' g' w' → D.nx σ' H'
  | .rt d => ∀ v H' F', Sub F' H' → Same F0 F' → Grow tk H0 H' → New tk H0 F0 F' → WAt tk H' F' w' → Rep tk F' d v → D.rt v H'
  | .bk g' => ∀ σ' H' F', Rel tk H0 F0 Ol σ' H' F' g' w' → D.bk σ' H'
  | .ct g' => ∀ σ' H' F', Rel tk H0 F0 Ol σ' H' F' g' w' → D.ct σ' H'
def rdS (Kx : PySem.W.Frag) (mx : Str → Option Value) (O O' Ol : List Nat) (f : S) : TS := fun D σ H => ∃ tk : Tk Kx mx, ∃ H0 F0 F g w o w', Rel tk H0 F0 O σ H F g w ∧ f g w = some (o, w') ∧ SOut tk H0 F0 O' Ol D w' o

section
variable (X : Cx)
abbrev EV (O : List Nat) (e : Expr) (f : E) : Prop := PE X e (rd X.K X.mg O f)
abbrev EB (O : List Nat) (e : Expr) (f : E) : Prop := PE X e (rdB X.K X.mg O f)
abbrev EO (O : List Nat) (e : Expr) (f : E) : Prop := PE X e (rdO X.K X.mg O f)
abbrev ET (O : List Nat) (e : Expr) (f : T) : Prop := PT X e (rdT X.K X.mg O f)
abbrev EA (O : List Nat) (es : List Expr) (f : Es) : Prop := PA X es (rdA X.K X.mg O f)
abbrev EAB (O : List Nat) (es : List Expr) (f : Es) : Prop := PA X es (rdAB X.K X.mg O f)
abbrev ES (O O' Ol : List Nat) (st : Stmt) (f : S) : Prop := PS X st (rdS X.K X.mg O O' Ol f)
abbrev ESs (O O' Ol : List Nat) (st : List Stmt) (f : S) : Prop := PSs X st (rdS X.K X.mg O O' Ol f)
end
section
variable {X : Cx}
theorem PE.imp {e : Expr} {t t' : TE} (h : PE X e t) (k : ∀ σ H Q, t' σ H Q → t σ H Q) : PE X e t' := ⟨fun pins s σ H Q I hw => h.run pins s σ H Q I (k σ H Q hw)⟩
theorem PT.imp {e : Expr} {t t' : TT} (h : PT X e t) (k : ∀ σ H Q, t' σ H Q → t σ H Q) : PT X e t' := ⟨fun pins s σ H Q I hw => h.run pins s σ H Q I (k σ H Q hw)⟩
theorem PA.imp {e : List Expr} {t t' : TA} (h : PA X e t) (k : ∀ σ H Q, t' σ H Q → t σ H Q) : PA X e t' := ⟨fun pos pins s σ H Q I hw => h.run pos pins s σ H Q I (k σ H Q hw)⟩
theorem PS.imp {st : Stmt} {t t' : TS} (h : PS X st t) (k : ∀ D σ H, t' D σ H → t D σ H) : PS X st t' := ⟨fun pins s σ H D I hw => h.run pins s σ H D I (k D σ H hw)⟩
theorem PSs.imp {st : List Stmt} {t t' : TS} (h : PSs X st t) (k : ∀ D σ H, t' D σ H → t D σ H) : PSs X st t' := ⟨fun pins s σ H D I hw => h.run pins s σ H D I (k D σ H hw)⟩
/-- what the state tells is at hand in a reading -/
theorem PE.inv {e : Expr} {t : TE} {P : L2.St → Hp → Prop} (h : PE X e t) (hp : ∀ pins s σ H, Inv X pins σ H s → P σ H) : PE X e (fun σ H Q => P σ H → t σ H Q) :=
  ⟨fun pins s σ H Q I hw => h.run pins s σ H Q I (hw (hp pins s σ H I))⟩

theorem EV.b {O : List Nat} {e : Expr} {f : E} (h : EV X O e f) : EB X O e f := PE.imp h fun σ H Q ⟨tk, H0, F0, F, g, w, d, w', R, ef, k⟩ =>
  ⟨tk, H0, F0, F, g, w, d, w', R, ef, fun v H' F' R' x r => k v H' F' R' x (R'.b r)⟩
/-- an own object as a value: frozen at once -/
theorem EO.v {O : List Nat} {e : Expr} {f : E} (h : EO X O e f) : EV X O e f := PE.imp h fun σ H Q ⟨tk, H0, F0, F, g, w, d, w', R, ef, k⟩ => by
  refine ⟨tk, H0, F0, F, g, w, d, w', R, ef, fun v H' F' R' x r => ?_⟩
  obtain ⟨a, o, rfl, h1, h2, h3, h4, h5⟩ := r
  have h0 : H0 a = none := by
    cases q : H0 a with
    | none => rfl
    | some u => rw [R.k0 a u q h4] at h3; cases h3
  have no : ∀ i d, i ∈ O → g[i]? = some (some d) → σ[i]? ≠ some (some (.ref a)) := fun i d hi hg z => by
    obtain ⟨b, u, k1, k2, _⟩ := R.own i d hi hg
    rw [z] at k1
    cases k1
    rw [h3] at k2; cases k2
  refine k (.ref a) H' (upd F' a o) (R'.frz h1 h2 h0 h4 no) ⟨x.sm.trans (same_new h2), x.gr, fun b n hb f => ?_⟩ (h5.frz h2)
  have ne : b ≠ a := fun z => hb (by rw [z]; exact h3)
  rw [upd_ne ne]
  exact x.nw b n hb f
theorem EO.b {O : List Nat} {e : Expr} {f : E} (h : EO X O e f) : EB X O e f := EV.b (EO.v h)

/-! ### names, constants -/
theorem EV.var {O : List Nat} {x : Str} {pos : Pos} (i : Nat) (hO : i ∉ O := by decide) (hN : X.N[i]? = some x := by rfl) (hv : Vis X.env.scope x := by first | exact Or.inl rfl | exact Or.inr (Or.inl rfl) | exact Or.inr (Or.inr rfl)) (hd : (x == ("__debug__" : Str)) = false := by decide)
    (hcd : (x == ("__classdict__" : Str)) = false := by decide) : EV X O (.Name x pos) (cVar i) := PE.imp (pe_var (i := i) hN hv hd hcd) fun σ H Q ⟨tk, H0, F0, F, g, w, d, w', R, ef, k⟩ => by
  obtain ⟨e0, e2⟩ := lft_eq (show lft (g[i]?).join w = _ from ef)
  have e1 : g[i]? = some (some d) := Option.join_eq_some_iff.mp e0
  obtain ⟨v, h1, h2⟩ := R.val i d hO e1
  have e2 : w = w' := e2
  subst e2
  exact ⟨v, h1, k v H F R (Ex.refl ..) h2⟩
theorem EB.var {O : List Nat} {x : Str} {pos : Pos} (i : Nat) (hN : X.N[i]? = some x := by rfl) (hv : Vis X.env.scope x := by first | exact Or.inl rfl | exact Or.inr (Or.inl rfl) | exact Or.inr (Or.inr rfl)) (hd : (x == ("__debug__" : Str)) = false := by decide)
    (hcd : (x == ("__classdict__" : Str)) = false := by decide) : EB X O (.Name x pos) (cVar i) := PE.imp (pe_var (i := i) hN hv hd hcd) fun σ H Q ⟨tk, H0, F0, F, g, w, d, w', R, ef, k⟩ => by
  obtain ⟨e0, e2⟩ := lft_eq (show lft (g[i]?).join w = _ from ef)
  have e1 : g[i]? = some (some d) := Option.join_eq_some_iff.mp e0
  have e2 : w = w' := e2
  subst e2
  by_cases hO : i ∈ O
  · obtain ⟨a, o, h1, h2, h3, h4, h5, h6⟩ := R.own i d hO e1
    refine ⟨.ref a, h1, k _ H F R (Ex.refl ..) ?_⟩
    cases d <;> cases o <;> simp only [RepO] at h6 <;> simp only [RepB]
    · exact ⟨a, _, rfl, h5, .inl h2, h6⟩
    · exact ⟨a, rfl, .inl ⟨h5, .inl ⟨_, .inl h2, h6⟩⟩⟩
    · exact ⟨a, rfl, .inl ⟨h5, .inr ⟨_, .inl h2, h6⟩⟩⟩
  · obtain ⟨v, h1, h2⟩ := R.val i d hO e1
    exact ⟨v, h1, k v H F R (Ex.refl ..) (R.b h2)⟩
theorem ev_const {O : List Nat} {e : Expr} {v : V} {d : D} (h : PE X e (tC v)) (r : ∀ (tk : Tk X.K X.mg) F, Rep tk F d v) : EV X O e (cK d) := PE.imp h fun σ H Q ⟨tk, H0, F0, F, g, w, d', w', R, ef, k⟩ => by
  have ef : some (d, w) = some (d', w') := ef
  cases ef
  exact k v H F R (Ex.refl ..) (r tk F)
theorem EV.int {O : List Nat} {i j pos} : EV X O (.Constant (.int i) j pos) (cK (.int i)) := ev_const pe_int fun _ _ => by simp only [Rep]
theorem EV.bl {O : List Nat} {b j pos} : EV X O (.Constant (.bool b) j pos) (cK (.bool b)) := ev_const pe_bl fun _ _ => by simp only [Rep]
theorem EV.non {O : List Nat} {j pos} : EV X O (.Constant .none j pos) (cK .none) := ev_const pe_non fun _ _ => by simp only [Rep]
theorem EV.str {O : List Nat} {x j pos} : EV X O (.Constant (.str x) j pos) (cK (.str x)) := ev_const pe_str fun _ _ => by simp only [Rep]

/-! ### argument lists, displays -/
theorem EA.nil {O : List Nat} : EA X O [] (cArgs []) := PA.imp pa_nil fun σ H Q ⟨tk, H0, F0, F, g, w, ds, w', R, ef, k⟩ => by
  have ef : some (([] : List D), w) = some (ds, w') := ef
  cases ef
  exact k [] H F R (Ex.refl ..) (by simp only [RepL])
theorem EA.cons {O : List Nat} {e : Expr} {es : List Expr} {f : E} {fs : List E} (h : EV X O e f) (hs : EA X O es (cArgs fs)) (ho : starEach (e :: es) X.env = (false, eval e X.env) :: starEach es X.env := by rfl) : EA X O (e :: es) (cArgs (f :: fs)) :=
  PA.imp (pa_cons h hs ho) fun σ H Q ⟨tk, H0, F0, F, g, w, ds, w', R, ef, k⟩ => by
  obtain ⟨d, w1, e1, ef⟩ := bnd_eq (show bnd (f g w) _ = _ from ef)
  obtain ⟨ds', w2, e2, ef⟩ := bnd_eq ef
  cases ef
  refine ⟨tk, H0, F0, F, g, w, d, w1, R, e1, fun v H1 F1 R1 x1 r1 => ?_⟩
  refine ⟨tk, H0, F0, F1, g, w1, ds', w', R1, e2, fun vs H2 F2 R2 x2 r2 => ?_⟩
  exact k (v :: vs) H2 F2 R2 (x1.trans x2) (by simp only [RepL]; exact ⟨Rep.same x2.sm _ _ r1, r2⟩)
theorem EAB.nil {O : List Nat} : EAB X O [] (cArgs []) := PA.imp pa_nil fun σ H Q ⟨tk, H0, F0, F, g, w, ds, w', R, ef, k⟩ => by
  have ef : some (([] : List D), w) = some (ds, w') := ef
  cases ef
  exact k [] H F R (Ex.refl ..) (by simp only [RepBL])
theorem EAB.cons {O : List Nat} {e : Expr} {es : List Expr} {f : E} {fs : List E} (h : EB X O e f) (hs : EAB X O es (cArgs fs)) (ho : starEach (e :: es) X.env = (false, eval e X.env) :: starEach es X.env := by rfl) : EAB X O (e :: es) (cArgs (f :: fs)) :=
  PA.imp (pa_cons h hs ho) fun σ H Q ⟨tk, H0, F0, F, g, w, ds, w', R, ef, k⟩ => by
  obtain ⟨d, w1, e1, ef⟩ := bnd_eq (show bnd (f g w) _ = _ from ef)
  obtain ⟨ds', w2, e2, ef⟩ := bnd_eq ef
  cases ef
  refine ⟨tk, H0, F0, F, g, w, d, w1, R, e1, fun v H1 F1 R1 x1 r1 => ?_⟩
  refine ⟨tk, H0, F0, F1, g, w1, ds', w', R1, e2, fun vs H2 F2 R2 x2 r2 => ?_⟩
  exact k (v :: vs) H2 F2 R2 (x1.trans x2) (by simp only [RepBL]; exact ⟨r1.ex x2, r2⟩)
theorem cArgs_len : ∀ {fs : List E} {g : Env} {w : Wd} {ds : List D} {w' : Wd}, cArgs fs g w = some (ds, w') → ds.length = fs.length
  | [], g, w, ds, w', h => by
    have h : some (([] : List D), w) = some (ds, w') := h
    cases h; rfl
  | f :: fs, g, w, ds, w', h => by
    obtain ⟨d, w1, e1, ef⟩ := bnd_eq (show bnd (f g w) _ = _ from h)
    obtain ⟨ds', w2, e2, ef⟩ := bnd_eq ef
    cases ef
    simp [cArgs_len e2]
theorem EV.tup {O : List Nat} {es : List Expr} {x1 : Nat} {pos : Pos} {fs : List E} (h : EA X O es (cArgs fs)) (hl : fs.length ≤ sizeLine := by decide) : EV X O (.Tuple es x1 pos) (cTup fs) := PE.imp (pe_tup h) fun σ H Q ⟨tk, H0, F0, F, g, w, d, w', R, ef, k⟩ => by
  obtain ⟨ds, w1, e1, ef⟩ := bnd_eq (show bnd (cArgs fs g w) _ = _ from ef)
  cases ef
  refine ⟨tk, H0, F0, F, g, w, ds, w', R, e1, fun vs H1 F1 R1 x1 r1 => ⟨by rw [← r1.length, cArgs_len e1]; exact hl, fun p hp => ?_⟩⟩
  obtain ⟨R2, x2⟩ := R1.alloc hp (.tup vs)
  refine k (.ref p) _ _ R2 (x1.trans x2) ?_
  simp only [Rep]
  exact ⟨p, vs, rfl, upd_same, RepL.same x2.sm _ _ r1⟩
theorem EO.lst {O : List Nat} {es : List Expr} {pos : Pos} {fs : List E} (h : EA X O es (cArgs fs)) (hl : fs.length ≤ sizeLine := by decide) : EO X O (.List es pos) (cLst fs) := PE.imp (pe_lst h) fun σ H Q ⟨tk, H0, F0, F, g, w, d, w', R, ef, k⟩ => by
  obtain ⟨ds, w1, e1, ef⟩ := bnd_eq (show bnd (cArgs fs g w) _ = _ from ef)
  cases ef
  refine ⟨tk, H0, F0, F, g, w, ds, w', R, e1, fun vs H1 F1 R1 x1 r1 => ⟨by rw [← r1.length, cArgs_len e1]; exact hl, fun p hp => ?_⟩⟩
  obtain ⟨R2, x2⟩ := R1.allocO hp (.lst vs)
  have npw : tk.pw ≠ some p := fun e => (R1.wat.free p e).2 hp
  have hp0 : H p = none := by
    cases q : H p with
    | none => rfl
    | some u => rw [x1.gr p u q npw] at hp; cases hp
  refine k (.ref p) _ _ R2 (x1.trans x2) ⟨p, .lst vs, rfl, upd_same, R1.sub.none hp, hp0, npw, ?_⟩
  simp only [RepO]
  exact r1
end
end Q

set_option Elab.async false
set_option linter.all false
set_option autoImplicit false
set_option maxRecDepth 100000
/-! QS2: operators, tests, built-in functions. -/
namespace Q
open PySem PySem.Spec PyProof.Rows L2
section
variable {X : Cx} {Kx : PySem.W.Frag} {mx : Str → Option Value} {tk : Tk Kx mx} {pins : List (Addr × Obj)} {σ : L2.St} {H F : Hp} {s : Shared}
theorem lstAt (I : Inv X pins σ H s) {a : Addr} {xs : List V} (h : Rd H a (.lst xs)) :
    xs.length ≤ sizeLine ∧ ∃ (its : List Value) (n : Nat), Vals xs its ∧ xs.length = its.length ∧ s.heap.get? a = some { cls := .type "list", data := .seq its.toArray n } := by
  have k : ObjOk X.prog X.w H s.heap a (.lst xs) := by
    rcases h with h | ⟨o, h⟩
    · exact I.hok a _ h
    · exact (I.hok a _ h).2
  obtain ⟨z, its, n, r, e⟩ := k
  exact ⟨z, its, n, r, r.length, e⟩
mutual
/-- what stands in the heap reads as the data -/
theorem Rep.reads (I : Inv X pins σ H s) (sb : Sub F H) : ∀ (d : D) (v : V) (u : Value), d.plain = true → Rep tk F d v → RelV v u → ∃ as, Reads s.heap u d as
  | .none, v, u, _, h, r => by simp only [Rep] at h; subst h; cases r; exact ⟨_, .none⟩
  | .bool b, v, u, _, h, r => by simp only [Rep] at h; subst h; cases r; exact ⟨_, .bool b⟩
  | .int i, v, u, _, h, r => by simp only [Rep] at h; subst h; obtain ⟨t, rfl⟩ := r; exact ⟨_, .int i t⟩
  | .str x, v, u, _, h, r => by simp only [Rep] at h; subst h; obtain ⟨t, rfl⟩ := r; exact ⟨_, .str x t⟩
  | .list ds, v, u, hp, h, r => by
    simp only [Rep] at h
    obtain ⟨a, xs, e, hr, l⟩ := h
    subst e
    cases r
    obtain ⟨z, its, n, rv, hl, e⟩ := lstAt I (sb.rdL hr)
    obtain ⟨as, q⟩ := RepL.reads I sb ds xs its (by simpa only [PyData.plain] using hp) l rv
    exact ⟨_, .list e rfl rfl q⟩
  | .tuple ds, v, u, hp, h, r => by
    simp only [Rep] at h
    obtain ⟨a, xs, e, hr, l⟩ := h
    subst e
    cases r
    obtain ⟨z, its, rv, o, e, hc, n, hd⟩ := I.hok a _ (sb.tup hr)
    obtain ⟨as, q⟩ := RepL.reads I sb ds xs its (by simpa only [PyData.plain] using hp) l rv
    exact ⟨_, .tuple e hc hd q⟩
  | .dict kvs, v, u, hp, h, r => by simp only [PyData.plain] at hp; cases hp
theorem RepL.reads (I : Inv X pins σ H s) (sb : Sub F H) : ∀ (ds : List D) (vs : List V) (us : List Value), PyData.plainAll ds = true → RepL tk F ds vs → Vals vs us → ∃ as, ReadsAll s.heap us ds as
  | [], [], us, _, _, r => by cases r; exact ⟨_, .nil⟩
  | [], _ :: _, us, _, h, r => by simp only [RepL] at h
  | _ :: _, [], us, _, h, r => by simp only [RepL] at h
  | d :: ds, v :: vs, us, hp, h, r => by
    simp only [RepL] at h
    simp only [PyData.plainAll, Bool.and_eq_true] at hp
    cases r with
    | cons r1 r2 =>
      obtain ⟨as, q1⟩ := Rep.reads I sb d v _ hp.1 h.1 r1
      obtain ⟨bs, q2⟩ := RepL.reads I sb ds vs _ hp.2 h.2 r2
      exact ⟨_, .cons q1 q2⟩
end
theorem RepB.reads (I : Inv X pins σ H s) (sb : Sub F H) {d : D} {v : V} {u : Value} (hp : d.plain = true) (h : RepB tk F H d v) (r : RelV v u) : ∃ as, Reads s.heap u d as := by
  cases d with
  | list ds =>
    simp only [RepB] at h
    obtain ⟨a, xs, e, _, hr, l⟩ := h
    subst e
    cases r
    obtain ⟨z, its, n, rv, hl, e⟩ := lstAt I hr
    obtain ⟨as, q⟩ := RepL.reads I sb ds xs its (by simpa only [PyData.plain] using hp) l rv
    exact ⟨_, .list e rfl rfl q⟩
  | dict kvs => simp only [PyData.plain] at hp; cases hp
  | _ => simp only [RepB] at h; exact Rep.reads I sb _ v u hp h r
end

/-! ### two operands -/
section
variable {X : Cx}
/-- r lets f through: the result is data, where nothing that stood changes -/
def Ok2 (Kx : PySem.W.Frag) (mx : Str → Option Value) (f : D → D → Option D) (r : R2) : Prop := ∀ (tk : Tk Kx mx) H0 F0 O σ F H g w x y d vx vy Q, Rel tk H0 F0 O σ H F g w → RepB tk F H x vx → RepB tk F H y vy → f x y = some d → KE tk H0 F0 O σ F H g w (fun F' _ v => Rep tk F' d v) Q → r vx vy H Q
theorem EV.op2 {op : Operator} {r : R2} {f : D → D → Option D} {O : List Nat} {a b : Expr} {fa fb : E} {pos : Pos} (ho : OpR X (binaryOp op) r) (hk : Ok2 X.K X.mg f r) (ha : EB X O a fa) (hb : EB X O b fb) : EV X O (.BinOp a op b pos) (cOp2 f fa fb) :=
  PE.imp (pe_op ho ha hb) fun σ H Q ⟨tk, H0, F0, F, g, w, d, w', R, ef, k⟩ => by
  obtain ⟨x, w1, e1, ef⟩ := bnd_eq (show bnd (fa g w) _ = _ from ef)
  obtain ⟨y, w2, e2, ef⟩ := bnd_eq ef
  obtain ⟨e3, e4⟩ := lft_eq ef
  have e4 : w2 = w' := e4
  subst e4
  refine ⟨tk, H0, F0, F, g, w, x, w1, R, e1, fun vx H1 F1 R1 x1 r1 => ?_⟩
  refine ⟨tk, H0, F0, F1, g, w1, y, w2, R1, e2, fun vy H2 F2 R2 x2 r2 => ?_⟩
  exact hk tk H0 F0 O σ F2 H2 g w2 x y d vx vy Q R2 (r1.ex x2) r2 e3 fun v H' F' R' x' r' => k v H' F' R' ((x1.trans x2).trans x') r'
theorem Ok2.or {Kx : PySem.W.Frag} {mx : Str → Option Value} {f : D → D → Option D} {r r' : R2} (h : ∀ (tk : Tk Kx mx) H0 F0 O σ F H g w x y d vx vy Q, Rel tk H0 F0 O σ H F g w → RepB tk F H x vx → RepB tk F H y vy → f x y = some d → KE tk H0 F0 O σ F H g w (fun F' _ v => Rep tk F' d v) Q → r vx vy H Q ∨ r' vx vy H Q) :
    Ok2 Kx mx f (fun x y H Q => r x y H Q ∨ r' x y H Q) := h
theorem ok2_int {Kx : PySem.W.Frag} {mx : Str → Option Value} {f : D → D → Option D} {C : Int → Int → Prop} {gi : Int → Int → Int} (hf : ∀ x y d, f x y = some d → ∃ i j, x = .int i ∧ y = .int j ∧ C i j ∧ d = .int (gi i j)) : Ok2 Kx mx f (rI C fun i j => .int (gi i j)) :=
  fun tk H0 F0 O σ F H g w x y d vx vy Q R rx ry e k => by
  obtain ⟨i, j, rfl, rfl, c, rfl⟩ := hf x y d e
  simp only [RepB, Rep] at rx ry
  subst rx
  subst ry
  exact ⟨i, j, rfl, rfl, c, k _ H F R (Ex.refl ..) (by simp only [Rep])⟩
theorem op_sub' : OpR X (binaryOp .Sub) (rI (fun _ _ => True) fun i j => .int (i - j)) := opI fun _ _ _ _ _ _ _ _ q => sub_int q
theorem op_add' : OpR X (binaryOp .Add) (rI (fun _ _ => True) fun i j => .int (i + j)) := opI fun _ _ _ _ _ _ _ _ q => add_int q
theorem EV.sub {O : List Nat} {a b : Expr} {fa fb : E} {pos : Pos} (ha : EB X O a fa) (hb : EB X O b fb) : EV X O (.BinOp a .Sub b pos) (cOp2 subD fa fb) :=
  EV.op2 op_sub' (ok2_int (C := fun _ _ => True) fun x y d e => by
    cases x <;> cases y <;> simp only [subD] at e <;> first | cases e | skip
    exact ⟨_, _, rfl, rfl, trivial, rfl⟩) ha hb
theorem EV.div {O : List Nat} {a b : Expr} {fa fb : E} {pos : Pos} (ha : EB X O a fa) (hb : EB X O b fb) : EV X O (.BinOp a .FloorDiv b pos) (cOp2 divD fa fb) :=
  EV.op2 op_fdivN (ok2_int (C := CDivN) fun x y d e => by
    cases x <;> cases y <;> simp only [divD] at e <;> first | cases e | skip
    split at e <;> first | cases e | skip
    rename_i h
    exact ⟨_, _, rfl, rfl, h, rfl⟩) ha hb
theorem EV.mod {O : List Nat} {a b : Expr} {fa fb : E} {pos : Pos} (ha : EB X O a fa) (hb : EB X O b fb) : EV X O (.BinOp a .Mod b pos) (cOp2 modD fa fb) :=
  EV.op2 op_modN (ok2_int (C := fun _ j => j ≠ 0) fun x y d e => by
    cases x <;> cases y <;> simp only [modD] at e <;> first | cases e | skip
    split at e <;> first | cases e | skip
    rename_i h
    exact ⟨_, _, rfl, rfl, h, rfl⟩) ha hb
theorem EV.pow {O : List Nat} {a b : Expr} {fa fb : E} {pos : Pos} (ha : EB X O a fa) (hb : EB X O b fb) : EV X O (.BinOp a .Pow b pos) (cOp2 powD fa fb) :=
  EV.op2 op_pow (ok2_int (C := CPow) (gi := fun i j => i ^ j.toNat) fun x y d e => by
    cases x <;> cases y <;> simp only [powD] at e <;> first | cases e | skip
    split at e <;> first | cases e | skip
    rename_i h
    exact ⟨_, _, rfl, rfl, h, rfl⟩) ha hb

/-! + -/
def rCatR : R2 := fun x y H Q => ∃ l b xs zs, x = .ref l ∧ y = .ref b ∧ Rd H l (.lst xs) ∧ Rd H b (.lst zs) ∧ xs.length + zs.length ≤ sizeLine ∧ ∀ p, H p = none → Q (.ref p) (upd H p (.lst (xs ++ zs)))
theorem op_catR : OpR X (binaryOp .Add) rCatR := by
  intro pins s σ H x y v u Q I hx hy hq
  obtain ⟨l, b, xs, zs, rfl, rfl, h1, h2, hz, q⟩ := hq
  cases hx
  cases hy
  obtain ⟨za, its, n, ra, la, ea⟩ := lstAt I h1
  obtain ⟨zb, jts, m, rb, lb, eb⟩ := lstAt I h2
  have hn : its.toArray.size + jts.toArray.size ≤ sizeLine := by simp only [List.size_toArray]; omega
  refine PySem.P.add_list ea eb ?_ hn
  have eq : its.toArray ++ jts.toArray = (its ++ jts).toArray := by simp
  rw [eq]
  have hzz : (xs ++ zs).length ≤ sizeLine := by simpa using hz
  exact ⟨.ref _, _, I.lnew (t' := s.toks) (ra.append rb) hzz, rfl, q _ I.fresh⟩
def rAddA (K : PySem.W.Frag) : R2 := fun x y H Q => rI (fun _ _ => True) (fun i j => .int (i + j)) x y H Q ∨ ((∃ i j, x = .str i ∧ y = .str j ∧ i.length + j.length ≤ sizeLine ∧ Q (.str (i ++ j)) H) ∨ (rCatR x y H Q ∨ rCatA K x y H Q))
theorem op_addA : OpR X (binaryOp .Add) (rAddA X.K) := OpR.or op_add' (OpR.or op_add_str (OpR.or op_catR op_catA))
theorem ok_addA {Kx : PySem.W.Frag} {mx : Str → Option Value} : Ok2 Kx mx addD (rAddA Kx) := fun tk H0 F0 O σ F H g w x y d vx vy Q R rx ry e k => by
  cases x <;> cases y <;> simp only [addD] at e <;> first | cases e | skip
  · simp only [RepB, Rep] at rx ry
    subst rx; subst ry
    exact .inl ⟨_, _, rfl, rfl, trivial, k _ H F R (Ex.refl ..) (by simp only [Rep])⟩
  · simp only [RepB, Rep] at rx ry
    subst rx; subst ry
    split at e <;> first | cases e | skip
    rename_i h
    exact .inr (.inl ⟨_, _, rfl, rfl, h, k _ H F R (Ex.refl ..) (by simp only [Rep])⟩)
  · simp only [RepB] at rx ry
    obtain ⟨a, xs, rfl, na, ra, la⟩ := rx
    obtain ⟨b, ys, rfl, nb, rb, lb⟩ := ry
    split at e <;> first | cases e | skip
    rename_i h
    rw [la.length, lb.length] at h
    refine .inr (.inr (.inl ⟨a, b, xs, ys, rfl, rfl, ra, rb, h, fun p hp => ?_⟩))
    obtain ⟨R2, x2⟩ := R.alloc hp (.lst (xs ++ ys))
    refine k _ _ _ R2 x2 ?_
    simp only [Rep]
    exact ⟨p, _, rfl, .inl upd_same, RepL.same x2.sm _ _ (la.append lb)⟩
  · simp only [RepB, Rep] at rx ry
    obtain ⟨a, xs, rfl, ra, la⟩ := rx
    obtain ⟨b, ys, rfl, rb, lb⟩ := ry
    split at e <;> first | cases e | skip
    rename_i h
    rw [la.length, lb.length] at h
    refine .inr (.inr (.inr ⟨a, b, xs, ys, rfl, rfl, .of (R.sub.tup ra), .of (R.sub.tup rb), h, fun he => ?_, fun _ he => ?_, fun _ _ p hp => ?_⟩))
    · subst he
      have := la.length
      refine k _ H F R (Ex.refl ..) ?_
      rw [List.eq_nil_of_length_eq_zero this, List.nil_append]
      simp only [Rep]
      exact ⟨b, ys, rfl, rb, lb⟩
    · subst he
      have := lb.length
      refine k _ H F R (Ex.refl ..) ?_
      rw [List.eq_nil_of_length_eq_zero this, List.append_nil]
      simp only [Rep]
      exact ⟨a, xs, rfl, ra, la⟩
    · obtain ⟨R2, x2⟩ := R.alloc hp (.tup (xs ++ ys))
      refine k _ _ _ R2 x2 ?_
      simp only [Rep]
      exact ⟨p, _, rfl, upd_same, RepL.same x2.sm _ _ (la.append lb)⟩
theorem EV.add {O : List Nat} {a b : Expr} {fa fb : E} {pos : Pos} (ha : EB X O a fa) (hb : EB X O b fb) : EV X O (.BinOp a .Add b pos) (cOp2 addD fa fb) := EV.op2 op_addA ok_addA ha hb

/-! * -/
def rRepR : R2 := fun x y H Q => ∃ l k xs, x = .ref l ∧ y = .int k ∧ Rd H l (.lst xs) ∧ (-(2 ^ 63) ≤ k ∧ k < 2 ^ 63 ∧ xs.length * k.toNat ≤ sizeLine) ∧ ∀ p, H p = none → Q (.ref p) (upd H p (.lst (List.replicate k.toNat xs).flatten))
theorem RepL.rep {Kx : PySem.W.Frag} {mx : Str → Option Value} {tk : Tk Kx mx} {F : Hp} {ds : List D} {vs : List V} (h : RepL tk F ds vs) : ∀ n : Nat, RepL tk F (List.replicate n ds).flatten (List.replicate n vs).flatten
  | 0 => by simp only [List.replicate_zero, List.flatten_nil, RepL]
  | n + 1 => by
    simp only [List.replicate_succ, List.flatten_cons]
    exact h.append (RepL.rep h n)
theorem ok_mul {Kx : PySem.W.Frag} {mx : Str → Option Value} : Ok2 Kx mx mulD (fun x y H Q => rI CMul (fun i j => .int (i * j)) x y H Q ∨ rRepR x y H Q) := fun tk H0 F0 O σ F H g w x y d vx vy Q R rx ry e k => by
  cases x <;> cases y <;> simp only [mulD] at e <;> first | cases e | skip
  · simp only [RepB, Rep] at rx ry
    subst rx; subst ry
    split at e <;> first | cases e | skip
    rename_i h
    refine .inl ⟨_, _, rfl, rfl, ?_, k _ H F R (Ex.refl ..) (by simp only [Rep])⟩
    simpa [small64, CMul] using h
  · simp only [RepB] at rx ry
    simp only [Rep] at ry
    subst ry
    obtain ⟨a, xs, rfl, na, ra, la⟩ := rx
    split at e <;> first | cases e | skip
    rename_i h
    rw [la.length] at h
    refine .inr ⟨a, _, xs, rfl, rfl, ra, h, fun p hp => ?_⟩
    obtain ⟨R2, x2⟩ := R.alloc hp (.lst (List.replicate _ xs).flatten)
    refine k _ _ _ R2 x2 ?_
    simp only [Rep]
    exact ⟨p, _, rfl, .inl upd_same, RepL.same x2.sm _ _ (la.rep _)⟩
/-- of ints alone -/
def mulI : D → D → Option D
  | .int i, .int j => mulD (.int i) (.int j)
  | _, _ => none
theorem EV.mul {O : List Nat} {a b : Expr} {fa fb : E} {pos : Pos} (ha : EB X O a fa) (hb : EB X O b fb) : EV X O (.BinOp a .Mult b pos) (cOp2 mulI fa fb) :=
  EV.op2 op_mul (ok2_int (C := CMul) fun x y d e => by
    cases x <;> cases y <;> simp only [mulI] at e <;> first | cases e | skip
    simp only [mulD] at e
    split at e <;> first | cases e | skip
    rename_i h
    exact ⟨_, _, rfl, rfl, by simpa [small64, CMul] using h, rfl⟩) ha hb
theorem EV.neg {O : List Nat} {a : Expr} {fa : E} {pos : Pos} (ha : EB X O a fa) : EV X O (.UnaryOp .USub a pos) (cOp1 negD fa) := PE.imp (pe_un un_neg ha) fun σ H Q ⟨tk, H0, F0, F, g, w, d, w', R, ef, k⟩ => by
  obtain ⟨x, w1, e1, ef⟩ := bnd_eq (show bnd (fa g w) _ = _ from ef)
  obtain ⟨e3, e4⟩ := lft_eq ef
  have e4 : w1 = w' := e4
  subst e4
  refine ⟨tk, H0, F0, F, g, w, x, w1, R, e1, fun vx H1 F1 R1 x1 r1 => ?_⟩
  cases x <;> simp only [negD] at e3 <;> first | cases e3 | skip
  simp only [RepB, Rep] at r1
  subst r1
  exact ⟨_, rfl, k _ H1 F1 R1 x1 (by simp only [Rep])⟩

/-! ### comparisons: a Bool, nothing changes -/
def OkC (X : Cx) (op : CmpOp) (f : D → D → Option Bool) : Prop :=
  ∀ (pins : List (Addr × Obj)) (s : Shared) (σ : L2.St) (H F : Hp) (tk : Tk X.K X.mg) (x y : D) (vx vy : V) (v u : Value) (b : Bool) (Q : Value → Shared → Prop), Inv X pins σ H s → Sub F H → RepB tk F H x vx → RepB tk F H y vy → RelV vx v → RelV vy u → f x y = some b →
    (∀ s', Inv X pins σ H s' → Q (.bool b) s') → wpAny (model X.prog X.w) X.A (compareOp op v u) Q X.xe s
def rC (Kx : PySem.W.Frag) (mx : Str → Option Value) (f : D → D → Option Bool) : R2 := fun vx vy H Q => ∃ tk : Tk Kx mx, ∃ F x y b, Sub F H ∧ RepB tk F H x vx ∧ RepB tk F H y vy ∧ f x y = some b ∧ Q (.bl b) H
theorem OkC.op {op : CmpOp} {f : D → D → Option Bool} (h : OkC X op f) : OpR X (compareOp op) (rC X.K X.mg f) := by
  intro pins s σ H vx vy v u Q I rx ry ⟨tk, F, x, y, b, sb, hx, hy, e, q⟩
  exact h pins s σ H F tk x y vx vy v u b _ I sb hx hy rx ry e fun s' I' => ⟨.bl b, H, I', rfl, q⟩
theorem ET.cmp {op : CmpOp} {f : D → D → Option Bool} {O : List Nat} {a b : Expr} {fa fb : E} {pos : Pos} (h : OkC X op f) (ha : EB X O a fa) (hb : EB X O b fb) (hm : behindInMarks op b = false := by first | exact nomark _ | rfl) : ET X O (.Compare a [op] [b] pos) (tCmp f fa fb) :=
  PT.imp (pt_cmpR h.op ha hb hm) fun σ H Q ⟨tk, H0, F0, F, g, w, d, w', R, ef, k⟩ => by
  obtain ⟨x, w1, e1, ef⟩ := bnd_eq (show bnd (fa g w) _ = _ from ef)
  obtain ⟨y, w2, e2, ef⟩ := bnd_eq ef
  obtain ⟨e3, e4⟩ := lft_eq ef
  have e4 : w2 = w' := e4
  subst e4
  refine ⟨tk, H0, F0, F, g, w, x, w1, R, e1, fun vx H1 F1 R1 x1 r1 => ?_⟩
  refine ⟨tk, H0, F0, F1, g, w1, y, w2, R1, e2, fun vy H2 F2 R2 x2 r2 => ?_⟩
  exact ⟨tk, F2, x, y, d, R2.sub, r1.ex x2, r2, e3, d, rfl, k H2 F2 R2 (x1.trans x2)⟩
theorem EV.cmp {op : CmpOp} {f : D → D → Option Bool} {O : List Nat} {a b : Expr} {fa fb : E} {pos : Pos} (h : OkC X op f) (ha : EB X O a fa) (hb : EB X O b fb) (hm : behindInMarks op b = false := by first | exact nomark _ | rfl) : EV X O (.Compare a [op] [b] pos) (cT (tCmp f fa fb)) :=
  PE.imp (pe_cmpR h.op ha hb hm) fun σ H Q ⟨tk, H0, F0, F, g, w, d, w', R, ef, k⟩ => by
  obtain ⟨t, w0, e0, ef⟩ := bnd_eq (show bnd (tCmp f fa fb g w) _ = _ from ef)
  cases ef
  obtain ⟨x, w1, e1, ef⟩ := bnd_eq (show bnd (fa g w) _ = _ from e0)
  obtain ⟨y, w2, e2, ef⟩ := bnd_eq ef
  obtain ⟨e3, e4⟩ := lft_eq ef
  have e4 : w2 = w' := e4
  subst e4
  refine ⟨tk, H0, F0, F, g, w, x, w1, R, e1, fun vx H1 F1 R1 x1 r1 => ?_⟩
  refine ⟨tk, H0, F0, F1, g, w1, y, w2, R1, e2, fun vy H2 F2 R2 x2 r2 => ?_⟩
  exact ⟨tk, F2, x, y, t, R2.sub, r1.ex x2, r2, e3, k _ H2 F2 R2 (x1.trans x2) (by simp only [Rep])⟩

theorem low60 {x : D} (h : lowD x = true) : x.depth ≤ 60 := of_decide_eq_true h
theorem min60 {x y : D} (h : lowD x = true) : min x.depth y.depth ≤ 60 := Nat.le_trans (Nat.min_le_left _ _) (low60 h)
variable {k : Nat}
theorem ok_eq (hr : Room k X.A) : OkC X .Eq eqD := fun pins s σ H F tk x y vx vy v u b Q I sb hx hy rx ry e q => by
  simp only [eqD] at e
  split at e <;> first | cases e | skip
  rename_i h
  simp only [Bool.and_eq_true] at h
  obtain ⟨as, r1⟩ := RepB.reads I sb h.1.1.1 hx rx
  obtain ⟨bs, r2⟩ := RepB.reads I sb h.1.1.2 hy ry
  have := hr.units
  have := min60 (y := y) h.1.2
  exact SeqAt.eq_plain r1 r2 h.1.1.1 h.1.1.2 (by omega) (q s I)
theorem ok_ne (hr : Room k X.A) : OkC X .NotEq neD := fun pins s σ H F tk x y vx vy v u b Q I sb hx hy rx ry e q => by
  simp only [neD, eqD] at e
  split at e <;> simp only [Option.map_some, Option.map_none] at e <;> first | cases e | skip
  rename_i h
  simp only [Bool.and_eq_true] at h
  obtain ⟨as, r1⟩ := RepB.reads I sb h.1.1.1 hx rx
  obtain ⟨bs, r2⟩ := RepB.reads I sb h.1.1.2 hy ry
  have := hr.units
  have := min60 (y := y) h.1.2
  exact SeqAt.ne_plain r1 r2 h.1.1.1 h.1.1.2 (by omega) (q s I)
theorem okLt_of {x y : D} (h : okLt x y = true) : x.plain = true ∧ y.plain = true ∧ PySem.W.alike x y = true ∧ x ≠ .none ∧ min x.depth y.depth ≤ 60 := by
  simp only [okLt, Bool.and_eq_true] at h
  exact ⟨h.1.1.1.1, h.1.1.1.2, h.1.1.2, fun e => (by have := h.1.2; rw [e] at this; cases this), min60 h.2⟩
theorem ok_ord (hr : Room k X.A) {op : CmpOp} {f : D → D → Option Bool} {gb : D → D → Bool} (hf : ∀ x y b, f x y = some b → okLt x y = true ∧ b = gb x y)
    (rule : ∀ (s : Shared) (v u : Value) (x y : D) (as bs : List Addr) (Q E : Value → Shared → Prop), Reads s.heap v x as → Reads s.heap u y bs → PySem.W.alike x y = true → x ≠ .none → X.A.units + min x.depth y.depth < cLine → Q (.bool (gb x y)) s → wpAny (model X.prog X.w) X.A (compareOp op v u) Q E s) :
    OkC X op f := fun pins s σ H F tk x y vx vy v u b Q I sb hx hy rx ry e q => by
  obtain ⟨h, rfl⟩ := hf x y b e
  obtain ⟨p1, p2, p3, p4, p5⟩ := okLt_of h
  obtain ⟨as, r1⟩ := RepB.reads I sb p1 hx rx
  obtain ⟨bs, r2⟩ := RepB.reads I sb p2 hy ry
  have := hr.units
  exact rule s v u x y as bs Q _ r1 r2 p3 p4 (by omega) (q s I)
theorem ord_of {g : D → D → Bool} {f : D → D → Option Bool} (hf : ∀ x y, f x y = if okLt x y = true then some (g x y) else none) (x y : D) (b : Bool) (e : f x y = some b) : okLt x y = true ∧ b = g x y := by
  rw [hf] at e
  split at e
  · rename_i h
    exact ⟨h, (Option.some.inj e).symm⟩
  · cases e
theorem ok_lt (hr : Room k X.A) : OkC X .Lt ltD := ok_ord hr (ord_of (g := PySem.W.dataLt) fun _ _ => rfl) fun _ _ _ _ _ _ _ _ _ r1 r2 a b c d => PySem.W.lt_data r1 r2 a b c d
theorem ok_gt (hr : Room k X.A) : OkC X .Gt gtD := ok_ord hr (ord_of (g := fun x y => PySem.W.dataLt y x) fun _ _ => rfl) fun _ _ _ _ _ _ _ _ _ r1 r2 a b c d => PySem.W.gt_data r1 r2 a b c d
theorem ok_le (hr : Room k X.A) : OkC X .LtE leD := ok_ord hr (ord_of (g := fun x y => !PySem.W.dataLt y x) fun _ _ => rfl) fun _ _ _ _ _ _ _ _ _ r1 r2 a b c d => PySem.W.le_data r1 r2 a b c d
theorem ok_ge (hr : Room k X.A) : OkC X .GtE geD := ok_ord hr (ord_of (g := fun x y => !PySem.W.dataLt x y) fun _ _ => rfl) fun _ _ _ _ _ _ _ _ _ r1 r2 a b c d => PySem.W.ge_data r1 r2 a b c d
theorem rep_none {Kx : PySem.W.Frag} {mx : Str → Option Value} {tk : Tk Kx mx} {F H : Hp} {x : D} {v : V} (h : RepB tk F H x v) : isNoneD x = decide (v = .non) := by
  cases x <;> simp only [RepB, Rep] at h <;> simp only [isNoneD]
  case none => subst h; rfl
  case list => obtain ⟨a, xs, rfl, _⟩ := h; rfl
  case tuple => obtain ⟨a, xs, rfl, _⟩ := h; rfl
  case dict => obtain ⟨a, rfl, _⟩ := h; rfl
  all_goals subst h; rfl
theorem ok_is : OkC X .Is isND := fun pins s σ H F tk x y vx vy v u b Q I sb hx hy rx ry e q => by
  simp only [isND] at e
  split at e <;> first | cases e | skip
  rename_i h
  cases y <;> simp only [isNoneD] at h <;> first | cases h | skip
  simp only [RepB, Rep] at hy
  subst hy
  cases ry
  refine is_none_gen ?_
  rw [rx.none_iff, ← rep_none hx]
  exact q s I
theorem ok_isNot : OkC X .IsNot isNotND := fun pins s σ H F tk x y vx vy v u b Q I sb hx hy rx ry e q => by
  simp only [isNotND] at e
  split at e <;> first | cases e | skip
  rename_i h
  cases y <;> simp only [isNoneD] at h <;> first | cases h | skip
  simp only [RepB, Rep] at hy
  subst hy
  cases ry
  refine isnot_none_gen ?_
  rw [rx.none_iff, ← rep_none hx]
  exact q s I

/-! in, not in: of lists and tuples -/
theorem ok_in (hr : Room k X.A) : OkC X .In inD := fun pins s σ H F tk x y vx vy v u b Q I sb hx hy rx ry e q => by
  cases y <;> simp only [inD] at e <;> first | cases e | skip
  all_goals
    split at e <;> first | cases e | skip
    rename_i h
    simp only [Bool.and_eq_true] at h
    obtain ⟨as, r1⟩ := RepB.reads I sb h.1.1.2 hx rx
    obtain ⟨bs, r2⟩ := RepB.reads I sb (by simp only [PyData.plain]; exact h.1.1.1) hy ry
    have := hr.units
    have l1 := low60 h.1.2
    first
      | exact SeqAt.in_list_data r2 r1 h.1.1.1 h.1.1.2 (by omega) (q s I)
      | exact SeqAt.in_tuple_data r2 r1 h.1.1.1 h.1.1.2 (by omega) (q s I)
theorem ok_notIn (hr : Room k X.A) : OkC X .NotIn notInD := fun pins s σ H F tk x y vx vy v u b Q I sb hx hy rx ry e q => by
  cases y <;> simp only [notInD, inD, Option.map_none] at e <;> first | cases e | skip
  all_goals
    split at e <;> simp only [Option.map_some, Option.map_none] at e <;> first | cases e | skip
    rename_i h
    simp only [Bool.and_eq_true] at h
    obtain ⟨as, r1⟩ := RepB.reads I sb h.1.1.2 hx rx
    obtain ⟨bs, r2⟩ := RepB.reads I sb (by simp only [PyData.plain]; exact h.1.1.1) hy ry
    have := hr.units
    have l1 := low60 h.1.2
    first
      | exact SeqAt.notIn_list_data r2 r1 h.1.1.1 h.1.1.2 (by omega) (q s I)
      | exact SeqAt.notIn_tuple_data r2 r1 h.1.1.1 h.1.1.2 (by omega) (q s I)

/-! ### and, or, not, a if c else b -/
theorem ET.and1 {O : List Nat} {a : Expr} {fa : T} {pos : Pos} (h : ET X O a fa) : PW X (.BoolOp .And [a] pos) (rdT X.K X.mg O fa) := pw_and1 h
theorem PW.imp {e : Expr} {t t' : TT} (h : PW X e t) (k : ∀ σ H Q, t' σ H Q → t σ H Q) : PW X e t' := ⟨fun wh pins s σ H Q I hw => h.run wh pins s σ H Q I (k σ H Q hw)⟩
theorem andW {O : List Nat} {a b : Expr} {rest : List Expr} {fa fb : T} {pos : Pos} (ha : ET X O a fa) (hb : PW X (.BoolOp .And (b :: rest) pos) (rdT X.K X.mg O fb)) : PW X (.BoolOp .And (a :: b :: rest) pos) (rdT X.K X.mg O (tAnd fa fb)) :=
  PW.imp (pw_and ha hb) fun σ H Q ⟨tk, H0, F0, F, g, w, d, w', R, ef, kk⟩ => by
  obtain ⟨c, w1, e1, ef⟩ := bnd_eq (show bnd (fa g w) _ = _ from ef)
  refine ⟨tk, H0, F0, F, g, w, c, w1, R, e1, fun H1 F1 R1 x1 => ?_⟩
  cases c with
  | true =>
    rw [if_pos rfl] at ef ⊢
    exact ⟨tk, H0, F0, F1, g, w1, d, w', R1, ef, fun H2 F2 R2 x2 => kk H2 F2 R2 (x1.trans x2)⟩
  | false =>
    rw [if_neg Bool.false_ne_true] at ef ⊢
    cases ef
    exact kk H1 F1 R1 x1
theorem orW {O : List Nat} {a b : Expr} {rest : List Expr} {fa fb : T} {pos : Pos} (ha : ET X O a fa) (hb : PW X (.BoolOp .Or (b :: rest) pos) (rdT X.K X.mg O fb)) : PW X (.BoolOp .Or (a :: b :: rest) pos) (rdT X.K X.mg O (tOr fa fb)) :=
  PW.imp (pw_or ha hb) fun σ H Q ⟨tk, H0, F0, F, g, w, d, w', R, ef, kk⟩ => by
  obtain ⟨c, w1, e1, ef⟩ := bnd_eq (show bnd (fa g w) _ = _ from ef)
  refine ⟨tk, H0, F0, F, g, w, c, w1, R, e1, fun H1 F1 R1 x1 => ?_⟩
  cases c with
  | true =>
    rw [if_pos rfl] at ef ⊢
    cases ef
    exact kk H1 F1 R1 x1
  | false =>
    rw [if_neg Bool.false_ne_true] at ef ⊢
    exact ⟨tk, H0, F0, F1, g, w1, d, w', R1, ef, fun H2 F2 R2 x2 => kk H2 F2 R2 (x1.trans x2)⟩
theorem ET.not {O : List Nat} {a : Expr} {fa : T} {pos : Pos} (ha : ET X O a fa) : ET X O (.UnaryOp .Not a pos) (tNot fa) := PT.imp (pt_not ha) fun σ H Q ⟨tk, H0, F0, F, g, w, d, w', R, ef, kk⟩ => by
  obtain ⟨c, w1, e1, ef⟩ := bnd_eq (show bnd (fa g w) _ = _ from ef)
  cases ef
  exact ⟨tk, H0, F0, F, g, w, c, w', R, e1, fun H1 F1 R1 x1 => kk H1 F1 R1 x1⟩
/-- a value that is a bool, as a test -/
theorem ET.val {O : List Nat} {a : Expr} {fa : E} (ha : EB X O a fa) (he : ∀ whole, isTrue a X.env whole = (do let v ← whole; standAt a.pos; holding [v] (truthy v)) := by intro _; rfl) : ET X O a (tVal fa) := PT.imp (pt_val ha he) fun σ H Q ⟨tk, H0, F0, F, g, w, d, w', R, ef, kk⟩ => by
  obtain ⟨x, w1, e1, ef⟩ := bnd_eq (show bnd (fa g w) _ = _ from ef)
  obtain ⟨e3, e4⟩ := lft_eq ef
  have e4 : w1 = w' := e4
  subst e4
  refine ⟨tk, H0, F0, F, g, w, x, w1, R, e1, fun vx H1 F1 R1 x1 r1 => ?_⟩
  cases x <;> simp only [boolD] at e3 <;> first | cases e3 | skip
  simp only [RepB, Rep] at r1
  exact ⟨_, r1, kk H1 F1 R1 x1⟩
theorem EV.if {O : List Nat} {c a b : Expr} {fc : T} {fa fb : E} {pos : Pos} (hc : ET X O c fc) (ha : EV X O a fa) (hb : EV X O b fb) : EV X O (.IfExp c a b pos) (cIf fc fa fb) := PE.imp (pe_ifExp hc ha hb) fun σ H Q ⟨tk, H0, F0, F, g, w, d, w', R, ef, kk⟩ => by
  obtain ⟨c, w1, e1, ef⟩ := bnd_eq (show bnd (fc g w) _ = _ from ef)
  refine ⟨tk, H0, F0, F, g, w, c, w1, R, e1, fun H1 F1 R1 x1 => ?_⟩
  cases c with
  | true =>
    rw [if_pos rfl] at ef ⊢
    exact ⟨tk, H0, F0, F1, g, w1, d, w', R1, ef, fun v H2 F2 R2 x2 => kk v H2 F2 R2 (x1.trans x2)⟩
  | false =>
    rw [if_neg Bool.false_ne_true] at ef ⊢
    exact ⟨tk, H0, F0, F1, g, w1, d, w', R1, ef, fun v H2 F2 R2 x2 => kk v H2 F2 R2 (x1.trans x2)⟩
/-! the same as values -/
theorem EV.one {O : List Nat} {op : BoolOp} {a : Expr} {fa : E} {pos : Pos} (h : EV X O a fa) : EV X O (.BoolOp op [a] pos) fa := pe_one h
theorem EV.and {O : List Nat} {a b : Expr} {rest : List Expr} {fa fb : E} {pos : Pos} (ha : EB X O a fa) (hb : EV X O (.BoolOp .And (b :: rest) pos) fb) : EV X O (.BoolOp .And (a :: b :: rest) pos) (cAnd fa fb) :=
  PE.imp (pe_and ha hb) fun σ H Q ⟨tk, H0, F0, F, g, w, d, w', R, ef, kk⟩ => by
  obtain ⟨x, w1, e1, ef⟩ := bnd_eq (show bnd (fa g w) _ = _ from ef)
  obtain ⟨c, w2, e2, ef2⟩ := bnd_eq ef
  obtain ⟨e3, e4⟩ := lft_eq e2
  have e4 : w1 = w2 := e4
  subst e4
  refine ⟨tk, H0, F0, F, g, w, x, w1, R, e1, fun vx H1 F1 R1 x1 r1 => ?_⟩
  cases x <;> simp only [boolD] at e3 <;> first | cases e3 | skip
  simp only [RepB, Rep] at r1
  refine ⟨c, r1, ?_⟩
  cases c with
  | true =>
    rw [if_pos rfl] at ef2 ⊢
    exact ⟨tk, H0, F0, F1, g, w1, d, w', R1, ef2, fun v H2 F2 R2 x2 => kk v H2 F2 R2 (x1.trans x2)⟩
  | false =>
    rw [if_neg Bool.false_ne_true] at ef2 ⊢
    cases ef2
    exact kk _ H1 F1 R1 x1 (by simp only [Rep])
theorem EV.or {O : List Nat} {a b : Expr} {rest : List Expr} {fa fb : E} {pos : Pos} (ha : EB X O a fa) (hb : EV X O (.BoolOp .Or (b :: rest) pos) fb) : EV X O (.BoolOp .Or (a :: b :: rest) pos) (cOr fa fb) :=
  PE.imp (pe_or ha hb) fun σ H Q ⟨tk, H0, F0, F, g, w, d, w', R, ef, kk⟩ => by
  obtain ⟨x, w1, e1, ef⟩ := bnd_eq (show bnd (fa g w) _ = _ from ef)
  obtain ⟨c, w2, e2, ef2⟩ := bnd_eq ef
  obtain ⟨e3, e4⟩ := lft_eq e2
  have e4 : w1 = w2 := e4
  subst e4
  refine ⟨tk, H0, F0, F, g, w, x, w1, R, e1, fun vx H1 F1 R1 x1 r1 => ?_⟩
  cases x <;> simp only [boolD] at e3 <;> first | cases e3 | skip
  simp only [RepB, Rep] at r1
  refine ⟨c, r1, ?_⟩
  cases c with
  | true =>
    rw [if_pos rfl] at ef2 ⊢
    cases ef2
    exact kk _ H1 F1 R1 x1 (by simp only [Rep])
  | false =>
    rw [if_neg Bool.false_ne_true] at ef2 ⊢
    exact ⟨tk, H0, F0, F1, g, w1, d, w', R1, ef2, fun v H2 F2 R2 x2 => kk v H2 F2 R2 (x1.trans x2)⟩
theorem EV.not {O : List Nat} {a : Expr} {fa : E} {pos : Pos} (ha : EB X O a fa) : EV X O (.UnaryOp .Not a pos) (cNot fa) := PE.imp (pe_not ha) fun σ H Q ⟨tk, H0, F0, F, g, w, d, w', R, ef, kk⟩ => by
  obtain ⟨x, w1, e1, ef⟩ := bnd_eq (show bnd (fa g w) _ = _ from ef)
  obtain ⟨c, w2, e2, ef2⟩ := bnd_eq ef
  obtain ⟨e3, e4⟩ := lft_eq e2
  have e4 : w1 = w2 := e4
  subst e4
  cases ef2
  refine ⟨tk, H0, F0, F, g, w, x, _, R, e1, fun vx H1 F1 R1 x1 r1 => ?_⟩
  cases x <;> simp only [boolD] at e3 <;> first | cases e3 | skip
  simp only [RepB, Rep] at r1
  exact ⟨c, r1, kk _ H1 F1 R1 x1 (by simp only [Rep])⟩

/-! ### c[i] -/
theorem sqL_sub {K : PySem.W.Frag} {F H : Hp} {a : Addr} {xs : List V} (s : Sub F H) (h : SqL K F a xs) : SqL K H a xs := h.imp s.rdL id
theorem scrOf_eq {kvs : List (D × D)} {ds : List D} (h : scrOf kvs = some ds) : kvs = [(.none, .list ds)] := by
  unfold scrOf at h
  split at h
  · cases h; rfl
  · cases h
theorem RepB.script {Kx : PySem.W.Frag} {mx : Str → Option Value} {tk : Tk Kx mx} {F H : Hp} {ds : List D} {v : V} (h : RepB tk F H (.dict [(.none, .list ds)]) v) : ∃ (a : Addr) (ns : List Int), v = .ref a ∧ ds = ns.map .int ∧ SqL Kx F a (ns.map V.int) := by
  simp only [RepB] at h
  obtain ⟨a, e, h⟩ := h
  rcases h with ⟨_, ⟨es, _, l⟩ | ⟨es, _, l⟩⟩ | ⟨z, _⟩ | ⟨_, z, _⟩ | ⟨ns, z, r⟩
  · cases es with
    | nil => simp only [RepK] at l
    | cons p es =>
      obtain ⟨k', v'⟩ := p
      simp only [RepK] at l
      cases k' <;> cases l.1
  · cases es with
    | nil => simp only [RepT] at l
    | cons p es =>
      obtain ⟨k', v'⟩ := p
      simp only [RepT] at l
      cases l.1
  · cases z
  · cases z
  · cases z
    exact ⟨a, ns, e, rfl, r⟩
theorem okIx {Kx : PySem.W.Frag} {mx : Str → Option Value} : Ok2 Kx mx ixD (rIx Kx) := fun tk H0 F0 O σ F H g w x y d vx vy Q R rx ry e k => by
  cases x <;> cases y <;> simp only [ixD] at e <;> first | cases e | skip
  · simp only [RepB] at rx ry
    simp only [Rep] at rx ry
    subst rx; subst ry
    split at e <;> first | cases e | skip
    rename_i h
    obtain ⟨c, e1, e2⟩ := Option.map_eq_some_iff.mp e
    subst e2
    exact .inr (.inr ⟨_, _, c, rfl, rfl, h, e1, k _ H F R (Ex.refl ..) (by simp only [Rep])⟩)
  · simp only [RepB] at rx ry
    simp only [Rep] at ry
    subst ry
    obtain ⟨a, xs, rfl, na, ra, la⟩ := rx
    obtain ⟨j, h1, h2⟩ := Option.bind_eq_some_iff.mp (show (ixN _ _).bind _ = _ from e)
    obtain ⟨v, h3, h4⟩ := la.at h2
    exact .inl ⟨a, xs, _, v, rfl, rfl, .inl ra, by unfold atI; rw [← la.length, h1]; exact h3, k _ H F R (Ex.refl ..) h4⟩
  · simp only [RepB, Rep] at rx ry
    subst ry
    obtain ⟨a, xs, rfl, ra, la⟩ := rx
    obtain ⟨j, h1, h2⟩ := Option.bind_eq_some_iff.mp (show (ixN _ _).bind _ = _ from e)
    obtain ⟨v, h3, h4⟩ := la.at h2
    exact .inr (.inl ⟨a, xs, _, v, rfl, rfl, .of (R.sub.tup ra), by unfold atI; rw [← la.length, h1]; exact h3, k _ H F R (Ex.refl ..) h4⟩)
  · obtain ⟨ds, h0, e⟩ := Option.bind_eq_some_iff.mp e
    rw [scrOf_eq h0] at rx
    obtain ⟨a, ns, rfl, rfl, ra⟩ := RepB.script rx
    simp only [RepB, Rep] at ry
    subst ry
    obtain ⟨j, h1, h2⟩ := Option.bind_eq_some_iff.mp (show (ixN _ _).bind _ = _ from e)
    rw [List.getElem?_map] at h2
    obtain ⟨n, h3, rfl⟩ := Option.map_eq_some_iff.mp h2
    rw [List.length_map] at h1
    exact .inl ⟨a, _, _, .int n, rfl, rfl, sqL_sub R.sub ra, by unfold atI; rw [List.length_map, h1]; simp [h3], k _ H F R (Ex.refl ..) (by simp only [Rep])⟩
theorem EV.ix {O : List Nat} {a b : Expr} {fa fb : E} {pos : Pos} (ha : EB X O a fa) (hb : EB X O b fb) (hs : PlainIx b := by intro _ _; rfl) : EV X O (.Subscript a b pos) (cOp2 ixD fa fb) :=
  PE.imp (pe_ix ix_seq ha hb hs) fun σ H Q ⟨tk, H0, F0, F, g, w, d, w', R, ef, k⟩ => by
  obtain ⟨x, w1, e1, ef⟩ := bnd_eq (show bnd (fa g w) _ = _ from ef)
  obtain ⟨y, w2, e2, ef⟩ := bnd_eq ef
  obtain ⟨e3, e4⟩ := lft_eq ef
  have e4 : w2 = w' := e4
  subst e4
  refine ⟨tk, H0, F0, F, g, w, x, w1, R, e1, fun vx H1 F1 R1 x1 r1 => ?_⟩
  refine ⟨tk, H0, F0, F1, g, w1, y, w2, R1, e2, fun vy H2 F2 R2 x2 r2 => ?_⟩
  exact okIx tk H0 F0 O σ F2 H2 g w2 x y d vx vy Q R2 (r1.ex x2) r2 e3 fun v H' F' R' x' r' => k v H' F' R' ((x1.trans x2).trans x') r'
end
end Q

set_option Elab.async false
set_option linter.all false
set_option autoImplicit false
set_option maxRecDepth 100000
/-! QS3: slices, built-in functions of data. -/
namespace Q
open PySem PySem.Spec PyProof.Rows L2
section
variable {X : Cx} {k : Nat}
/-! ### slices -/
def rdP (Kx : PySem.W.Frag) (mx : Str → Option Value) (O : List Nat) (f : Env → Wd → Option (Option Int × Wd)) : TO := fun σ H Q => ∃ tk : Tk Kx mx, ∃ H0 F0 F g w d w', Rel tk H0 F0 O σ H F g w ∧ f g w = some (d, w') ∧ ∀ H' F', Rel tk H0 F0 O σ H' F' g w' → Ex tk F H F' H' → Q d H'
theorem PO.imp {e : Option Expr} {t t' : TO} (h : PO X e t) (kk : ∀ σ H Q, t' σ H Q → t σ H Q) : PO X e t' := ⟨fun pins s σ H Q I hw => h.run pins s σ H Q I (kk σ H Q hw)⟩
theorem EP.none {O : List Nat} : PO X Option.none (rdP X.K X.mg O (optE Option.none)) := PO.imp po_none fun σ H Q ⟨tk, H0, F0, F, g, w, d, w', R, ef, kk⟩ => by
  have ef : some (Option.none, w) = some (d, w') := ef
  cases ef
  exact kk H F R (Ex.refl ..)
theorem EP.some {O : List Nat} {e : Expr} {f : E} (h : EB X O e f) : PO X (Option.some e) (rdP X.K X.mg O (optE (Option.some f))) := PO.imp (po_some h) fun σ H Q ⟨tk, H0, F0, F, g, w, d, w', R, ef, kk⟩ => by
  obtain ⟨x, w1, e1, ef⟩ := bnd_eq (show bnd (f g w) _ = _ from ef)
  refine ⟨tk, H0, F0, F, g, w, x, w1, R, e1, fun vx H1 F1 R1 x1 r1 => ?_⟩
  cases x <;> simp only at ef <;> first | cases ef | skip
  simp only [RepB, Rep] at r1
  exact ⟨_, r1, kk H1 F1 R1 x1⟩
theorem RepL.cut {Kx : PySem.W.Frag} {mx : Str → Option Value} {tk : Tk Kx mx} {F : Hp} {ds : List D} {xs : List V} (h : RepL tk F ds xs) (lo hi : Option Int) : RepL tk F (cutL ds lo hi) (cutV xs lo hi) := by
  unfold cutL cutV
  rw [h.length]
  exact (h.drop _).take _
theorem cut_whole {α : Type} {xs : List α} {lo hi : Option Int} (h : HT.sIx xs.length 0 lo = 0 ∧ HT.sIx xs.length xs.length hi = xs.length) : cutL xs lo hi = xs := by
  unfold cutL
  rw [h.1, h.2]
  simp
theorem ok_sl {Kx : PySem.W.Frag} {mx : Str → Option Value} {tk : Tk Kx mx} {H0 F0 O σ F H g w x d lo hi vx Q} (R : Rel tk H0 F0 O σ H F g w) (rx : RepB tk F H x vx) (e : cutD x lo hi = some d) (kk : KE tk H0 F0 O σ F H g w (fun F' _ v => Rep tk F' d v) Q) : rSlL Kx vx lo hi H Q ∨ rSlA Kx vx lo hi H Q := by
  cases x <;> simp only [cutD] at e <;> first | cases e | skip
  · simp only [RepB] at rx
    obtain ⟨a, xs, rfl, na, ra, la⟩ := rx
    refine .inl ⟨a, xs, rfl, .inl ra, fun p hp => ?_⟩
    obtain ⟨R2, x2⟩ := R.alloc hp (.lst (cutV xs lo hi))
    refine kk _ _ _ R2 x2 ?_
    simp only [Rep]
    exact ⟨p, _, rfl, .inl upd_same, RepL.same x2.sm _ _ (la.cut lo hi)⟩
  · simp only [RepB, Rep] at rx
    obtain ⟨a, xs, rfl, ra, la⟩ := rx
    refine .inr ⟨a, xs, rfl, .of (R.sub.tup ra), fun hw => ?_, fun _ p hp => ?_⟩
    · refine kk _ H F R (Ex.refl ..) ?_
      rw [← la.length] at hw
      rw [cut_whole hw]
      simp only [Rep]
      exact ⟨a, xs, rfl, ra, la⟩
    · obtain ⟨R2, x2⟩ := R.alloc hp (.tup (cutV xs lo hi))
      refine kk _ _ _ R2 x2 ?_
      simp only [Rep]
      exact ⟨p, _, rfl, upd_same, RepL.same x2.sm _ _ (la.cut lo hi)⟩
theorem EV.cut {O : List Nat} {e : Expr} {lo hi : Option Expr} {f : E} {fl fh : Option E} {p2 pos : Pos} (h : EB X O e f) (hl : PO X lo (rdP X.K X.mg O (optE fl))) (hh : PO X hi (rdP X.K X.mg O (optE fh))) : EV X O (.Subscript e (.Slice lo hi Option.none p2) pos) (cCut f fl fh) :=
  PE.imp (pe_slice (SlR.or sl_list sl_tupA) h hl hh) fun σ H Q ⟨tk, H0, F0, F, g, w, d, w', R, ef, kk⟩ => by
  obtain ⟨x, w1, e1, ef⟩ := bnd_eq (show bnd (f g w) _ = _ from ef)
  obtain ⟨l, w2, e2, ef⟩ := bnd_eq ef
  obtain ⟨u, w3, e3, ef⟩ := bnd_eq ef
  obtain ⟨e4, e5⟩ := lft_eq ef
  have e5 : w3 = w' := e5
  subst e5
  refine ⟨tk, H0, F0, F, g, w, x, w1, R, e1, fun vx H1 F1 R1 x1 r1 => ?_⟩
  refine ⟨tk, H0, F0, F1, g, w1, l, w2, R1, e2, fun H2 F2 R2 x2 => ?_⟩
  refine ⟨tk, H0, F0, F2, g, w2, u, w3, R2, e3, fun H3 F3 R3 x3 => ?_⟩
  exact ok_sl R3 ((r1.ex x2).ex x3) e4 fun v H' F' R' x' r' => kk v H' F' R' (((x1.trans x2).trans x3).trans x') r'

/-! ### built-in functions of one or two values -/
def Ok1 (Kx : PySem.W.Frag) (mx : Str → Option Value) (f : D → Option D) (r : List V → Hp → VK → Prop) : Prop := ∀ (tk : Tk Kx mx) H0 F0 O σ F H g w x d vx Q, Rel tk H0 F0 O σ H F g w → RepB tk F H x vx → f x = some d → KE tk H0 F0 O σ F H g w (fun F' _ v => Rep tk F' d v) Q → r [vx] H Q
def Ok22 (Kx : PySem.W.Frag) (mx : Str → Option Value) (f : D → D → Option D) (r : List V → Hp → VK → Prop) : Prop := ∀ (tk : Tk Kx mx) H0 F0 O σ F H g w x y d vx vy Q, Rel tk H0 F0 O σ H F g w → RepB tk F H x vx → RepB tk F H y vy → f x y = some d → KE tk H0 F0 O σ F H g w (fun F' _ v => Rep tk F' d v) Q → r [vx, vy] H Q
theorem one_reading {Kx : PySem.W.Frag} {mx : Str → Option Value} {O : List Nat} {f : D → Option D} {fa : E} {r : List V → Hp → VK → Prop} (hk : Ok1 Kx mx f r) : ∀ σ H Q, rd Kx mx O (cOp1 f fa) σ H Q → tCB r (rdAB Kx mx O (cArgs [fa])) σ H Q := fun σ H Q ⟨tk, H0, F0, F, g, w, d, w', R, ef, kk⟩ => by
  obtain ⟨x, w1, e1, ef⟩ := bnd_eq (show bnd (fa g w) _ = _ from ef)
  obtain ⟨e4, e5⟩ := lft_eq ef
  have e5 : w1 = w' := e5
  subst e5
  refine ⟨tk, H0, F0, F, g, w, [x], w1, R, by simp [cArgs, e1], fun vs H1 F1 R1 x1 r1 => ?_⟩
  match vs, r1 with
  | [], r1 => simp only [RepBL] at r1
  | [v], r1 =>
    simp only [RepBL] at r1
    exact hk tk H0 F0 O σ F1 H1 g w1 x d v Q R1 r1.1 e4 fun v H' F' R' x' r' => kk v H' F' R' (x1.trans x') r'
  | _ :: _ :: _, r1 => simp only [RepBL] at r1; exact r1.2.elim
theorem two_reading {Kx : PySem.W.Frag} {mx : Str → Option Value} {O : List Nat} {f : D → D → Option D} {fa fb : E} {r : List V → Hp → VK → Prop} (hk : Ok22 Kx mx f r) : ∀ σ H Q, rd Kx mx O (cOp2 f fa fb) σ H Q → tCB r (rdAB Kx mx O (cArgs [fa, fb])) σ H Q := fun σ H Q ⟨tk, H0, F0, F, g, w, d, w', R, ef, kk⟩ => by
  obtain ⟨x, w1, e1, ef⟩ := bnd_eq (show bnd (fa g w) _ = _ from ef)
  obtain ⟨y, w2, e2, ef⟩ := bnd_eq ef
  obtain ⟨e4, e5⟩ := lft_eq ef
  have e5 : w2 = w' := e5
  subst e5
  refine ⟨tk, H0, F0, F, g, w, [x, y], w2, R, by simp [cArgs, e1, e2], fun vs H1 F1 R1 x1 r1 => ?_⟩
  match vs, r1 with
  | [], r1 => simp only [RepBL] at r1
  | [v], r1 => simp only [RepBL] at r1; exact r1.2.elim
  | [v, u], r1 =>
    simp only [RepBL] at r1
    exact hk tk H0 F0 O σ F1 H1 g w2 x y d v u Q R1 r1.1 r1.2.1 e4 fun v H' F' R' x' r' => kk v H' F' R' (x1.trans x') r'
  | _ :: _ :: _ :: _, r1 => simp only [RepBL] at r1; exact r1.2.2.elim
theorem EV.bi1 {O : List Nat} {id : String} {x : Str} {f : D → Option D} {fa : E} {r : List V → Hp → VK → Prop} {a : Expr} {p pos : Pos} (hc : CallR X (.builtin id) r) (hk : Ok1 X.K X.mg f r) (hg : Gl X x) (hm : X.mg x = Option.none) (hv : bootBuiltins x = Option.some (.builtin id)) (ha : EB X O a fa)
    (hn : x ≠ "__name__" := by decide) (hdb : (x == ("__debug__" : Str)) = false := by decide) (he : starEach [a] X.env = (false, eval a X.env) :: starEach [] X.env := by rfl) (hpl : (backTo pos (starEach [] X.env)).any (·.1) = false := by rfl) :
    EV X O (.Call (.Name x p) [a] [] pos) (cOp1 f fa) := PE.imp (pe_callB hc hg hm hv (EAB.cons ha EAB.nil he) hn hdb he hpl) (one_reading hk)
theorem EV.ty1 {O : List Nat} {id : String} {x : Str} {f : D → Option D} {fa : E} {r : List V → Hp → VK → Prop} {a : Expr} {p pos : Pos} (hc : CallR X (.type id) r) (hk : Ok1 X.K X.mg f r) (hg : Gl X x) (hm : X.mg x = Option.none) (hv : bootBuiltins x = Option.some (.type id)) (ha : EB X O a fa)
    (hn : x ≠ "__name__" := by decide) (hdb : (x == ("__debug__" : Str)) = false := by decide) (he : starEach [a] X.env = (false, eval a X.env) :: starEach [] X.env := by rfl) (hpl : (backTo pos (starEach [] X.env)).any (·.1) = false := by rfl) :
    EV X O (.Call (.Name x p) [a] [] pos) (cOp1 f fa) := PE.imp (pe_callTy hc hg hm hv (EAB.cons ha EAB.nil he) hn hdb he hpl) (one_reading hk)
theorem EV.bi2 {O : List Nat} {id : String} {x : Str} {f : D → D → Option D} {fa fb : E} {r : List V → Hp → VK → Prop} {a b : Expr} {p pos : Pos} (hc : CallR X (.builtin id) r) (hk : Ok22 X.K X.mg f r) (hg : Gl X x) (hm : X.mg x = Option.none) (hv : bootBuiltins x = Option.some (.builtin id)) (ha : EB X O a fa) (hb : EB X O b fb)
    (hn : x ≠ "__name__" := by decide) (hdb : (x == ("__debug__" : Str)) = false := by decide) (he : starEach [a, b] X.env = (false, eval a X.env) :: starEach [b] X.env := by rfl) (he2 : starEach [b] X.env = (false, eval b X.env) :: starEach [] X.env := by rfl)
    (hpl : (backTo pos (starEach [b] X.env)).any (·.1) = false := by rfl) :
    EV X O (.Call (.Name x p) [a, b] [] pos) (cOp2 f fa fb) := PE.imp (pe_callB hc hg hm hv (EAB.cons ha (EAB.cons hb EAB.nil he2) he) hn hdb he hpl) (two_reading hk)

/-! len -/
theorem ok_len : Ok1 X.K X.mg lenD (fun xs H Q => (∃ p ys, xs = [.ref p] ∧ (SqL X.K H p ys ∨ SqT X.K H p ys) ∧ Q (.int ys.length) H) ∨ ∃ z, xs = [.str z] ∧ z.length ≤ sizeLine ∧ Q (.int z.length) H) := fun tk H0 F0 O σ F H g w x d vx Q R rx e kk => by
  cases x <;> simp only [lenD] at e <;> first | cases e | skip
  · simp only [RepB, Rep] at rx
    subst rx
    split at e <;> first | cases e | skip
    rename_i h
    exact .inr ⟨_, rfl, h, kk _ H F R (Ex.refl ..) (by simp only [Rep])⟩
  · simp only [RepB] at rx
    obtain ⟨a, xs, rfl, na, ra, la⟩ := rx
    exact .inl ⟨a, xs, rfl, .inl (.inl ra), kk _ H F R (Ex.refl ..) (by simp only [Rep]; rw [la.length])⟩
  · simp only [RepB, Rep] at rx
    obtain ⟨a, xs, rfl, ra, la⟩ := rx
    exact .inl ⟨a, xs, rfl, .inr (.of (R.sub.tup ra)), kk _ H F R (Ex.refl ..) (by simp only [Rep]; rw [la.length])⟩
  · obtain ⟨ds, h0, rfl⟩ := Option.map_eq_some_iff.mp e
    rw [scrOf_eq h0] at rx
    obtain ⟨a, ns, rfl, rfl, ra⟩ := RepB.script rx
    exact .inl ⟨a, _, rfl, .inl (sqL_sub R.sub ra), kk _ H F R (Ex.refl ..) (by simp only [Rep, List.length_map])⟩
theorem EV.len {O : List Nat} {a : Expr} {fa : E} {p pos : Pos} (hm : X.mg "len" = Option.none) (ha : EB X O a fa) (hg : Gl X "len" := by rfl) (he : starEach [a] X.env = (false, eval a X.env) :: starEach [] X.env := by rfl) : EV X O (.Call (.Name "len" p) [a] [] pos) (cOp1 lenD fa) :=
  EV.bi1 (CallR.or call_len_seq call_len_str) ok_len hg hm PySem.boot_len ha (he := he)
/-! sum -/
theorem ints_rep {Kx : PySem.W.Frag} {mx : Str → Option Value} {tk : Tk Kx mx} {F : Hp} : ∀ {ds : List D} {xs : List V} {ns : List Int}, intsOf ds = some ns → RepL tk F ds xs → xs = ns.map V.int
  | [], [], ns, e, _ => by
    have e : some ([] : List Int) = some ns := e
    cases e; rfl
  | [], _ :: _, _, _, h => by simp only [RepL] at h
  | _ :: _, [], _, _, h => by simp only [RepL] at h
  | d :: ds, x :: xs, ns, e, h => by
    cases d <;> simp only [intsOf] at e <;> first | cases e | skip
    obtain ⟨ms, e1, e2⟩ := Option.map_eq_some_iff.mp e
    subst e2
    simp only [RepL, Rep] at h
    rw [h.1, ints_rep e1 h.2]
    rfl
theorem bools_rep {Kx : PySem.W.Frag} {mx : Str → Option Value} {tk : Tk Kx mx} {F : Hp} : ∀ {ds : List D} {xs : List V} {ns : List Bool}, boolsOf ds = some ns → RepL tk F ds xs → xs = ns.map V.bl
  | [], [], ns, e, _ => by
    have e : some ([] : List Bool) = some ns := e
    cases e; rfl
  | [], _ :: _, _, _, h => by simp only [RepL] at h
  | _ :: _, [], _, _, h => by simp only [RepL] at h
  | d :: ds, x :: xs, ns, e, h => by
    cases d <;> simp only [boolsOf] at e <;> first | cases e | skip
    obtain ⟨ms, e1, e2⟩ := Option.map_eq_some_iff.mp e
    subst e2
    simp only [RepL, Rep] at h
    rw [h.1, bools_rep e1 h.2]
    rfl
theorem ok_sum : Ok1 X.K X.mg sumD (rSum X.K) := fun tk H0 F0 O σ F H g w x d vx Q R rx e kk => by
  cases x <;> simp only [sumD] at e <;> first | cases e | skip
  obtain ⟨ns, e1, rfl⟩ := Option.map_eq_some_iff.mp e
  simp only [RepB] at rx
  obtain ⟨a, xs, rfl, na, ra, la⟩ := rx
  have := ints_rep e1 la
  subst this
  exact ⟨a, ns, rfl, .inl ra, kk _ H F R (Ex.refl ..) (by simp only [Rep])⟩
theorem EV.sum {O : List Nat} {a : Expr} {fa : E} {p pos : Pos} (hm : X.mg "sum" = Option.none) (hc : X.calm = true) (ha : EB X O a fa) (hg : Gl X "sum" := by rfl) (he : starEach [a] X.env = (false, eval a X.env) :: starEach [] X.env := by rfl) : EV X O (.Call (.Name "sum" p) [a] [] pos) (cOp1 sumD fa) :=
  EV.bi1 (cr_sum hc) ok_sum hg hm (by decide +kernel) ha (he := he)
theorem ok_all : Ok1 X.K X.mg allD (rAll X.K) := fun tk H0 F0 O σ F H g w x d vx Q R rx e kk => by
  cases x <;> simp only [allD] at e <;> first | cases e | skip
  obtain ⟨ns, e1, rfl⟩ := Option.map_eq_some_iff.mp e
  simp only [RepB] at rx
  obtain ⟨a, xs, rfl, na, ra, la⟩ := rx
  have := bools_rep e1 la
  subst this
  exact ⟨a, ns, rfl, .inl ra, kk _ H F R (Ex.refl ..) (by simp only [Rep])⟩
theorem ok_any : Ok1 X.K X.mg anyD (rAny X.K) := fun tk H0 F0 O σ F H g w x d vx Q R rx e kk => by
  cases x <;> simp only [anyD] at e <;> first | cases e | skip
  obtain ⟨ns, e1, rfl⟩ := Option.map_eq_some_iff.mp e
  simp only [RepB] at rx
  obtain ⟨a, xs, rfl, na, ra, la⟩ := rx
  have := bools_rep e1 la
  subst this
  exact ⟨a, ns, rfl, .inl ra, kk _ H F R (Ex.refl ..) (by simp only [Rep])⟩
theorem EV.all {O : List Nat} {a : Expr} {fa : E} {p pos : Pos} (hm : X.mg "all" = Option.none) (hc : X.calm = true) (ha : EB X O a fa) (hg : Gl X "all" := by rfl) (he : starEach [a] X.env = (false, eval a X.env) :: starEach [] X.env := by rfl) : EV X O (.Call (.Name "all" p) [a] [] pos) (cOp1 allD fa) :=
  EV.bi1 (cr_all hc) ok_all hg hm (by decide +kernel) ha (he := he)
theorem EV.any {O : List Nat} {a : Expr} {fa : E} {p pos : Pos} (hm : X.mg "any" = Option.none) (hc : X.calm = true) (ha : EB X O a fa) (hg : Gl X "any" := by rfl) (he : starEach [a] X.env = (false, eval a X.env) :: starEach [] X.env := by rfl) : EV X O (.Call (.Name "any" p) [a] [] pos) (cOp1 anyD fa) :=
  EV.bi1 (cr_any hc) ok_any hg hm (by decide +kernel) ha (he := he)
/-! int, abs -/
theorem EV.int1 {O : List Nat} {a : Expr} {fa : E} {p pos : Pos} (hm : X.mg "int" = Option.none) (ha : EB X O a fa) (hg : Gl X "int" := by rfl) (he : starEach [a] X.env = (false, eval a X.env) :: starEach [] X.env := by rfl) : EV X O (.Call (.Name "int" p) [a] [] pos) (cOp1 intD fa) :=
  EV.ty1 call_int1 (fun tk H0 F0 O σ F H g w x d vx Q R rx e kk => by
    cases x <;> simp only [intD] at e <;> first | cases e | skip
    · simp only [RepB, Rep] at rx
      subst rx
      exact .inr ⟨_, rfl, kk _ H F R (Ex.refl ..) (by simp only [Rep])⟩
    · simp only [RepB, Rep] at rx
      subst rx
      exact .inl ⟨_, rfl, kk _ H F R (Ex.refl ..) (by simp only [Rep])⟩) hg hm (by decide +kernel) ha (he := he)
theorem EV.abs {O : List Nat} {a : Expr} {fa : E} {p pos : Pos} (hm : X.mg "abs" = Option.none) (ha : EB X O a fa) (hg : Gl X "abs" := by rfl) (he : starEach [a] X.env = (false, eval a X.env) :: starEach [] X.env := by rfl) : EV X O (.Call (.Name "abs" p) [a] [] pos) (cOp1 absD fa) :=
  EV.bi1 call_abs (fun tk H0 F0 O σ F H g w x d vx Q R rx e kk => by
    cases x <;> simp only [absD] at e <;> first | cases e | skip
    simp only [RepB, Rep] at rx
    subst rx
    exact ⟨_, rfl, kk _ H F R (Ex.refl ..) (by simp only [Rep])⟩) hg hm (by decide +kernel) ha (he := he)
theorem EV.max2 {O : List Nat} {a b : Expr} {fa fb : E} {p pos : Pos} (hm : X.mg "max" = Option.none) (hc : X.calm = true) (ha : EB X O a fa) (hb : EB X O b fb) (hg : Gl X "max" := by rfl) (he : starEach [a, b] X.env = (false, eval a X.env) :: starEach [b] X.env := by rfl) (he2 : starEach [b] X.env = (false, eval b X.env) :: starEach [] X.env := by rfl)
    (hpl : (backTo pos (starEach [b] X.env)).any (·.1) = false := by rfl) : EV X O (.Call (.Name "max" p) [a, b] [] pos) (cOp2 max2D fa fb) :=
  EV.bi2 (call_max2 hc) (fun tk H0 F0 O σ F H g w x y d vx vy Q R rx ry e kk => by
    cases x <;> cases y <;> simp only [max2D] at e <;> first | cases e | skip
    simp only [RepB, Rep] at rx ry
    subst rx; subst ry
    exact ⟨_, _, rfl, kk _ H F R (Ex.refl ..) (by simp only [Rep])⟩) hg hm (by decide +kernel) ha hb (he := he) (he2 := he2) (hpl := hpl)
theorem EV.min2 {O : List Nat} {a b : Expr} {fa fb : E} {p pos : Pos} (hm : X.mg "min" = Option.none) (hc : X.calm = true) (ha : EB X O a fa) (hb : EB X O b fb) (hg : Gl X "min" := by rfl) (he : starEach [a, b] X.env = (false, eval a X.env) :: starEach [b] X.env := by rfl) (he2 : starEach [b] X.env = (false, eval b X.env) :: starEach [] X.env := by rfl)
    (hpl : (backTo pos (starEach [b] X.env)).any (·.1) = false := by rfl) : EV X O (.Call (.Name "min" p) [a, b] [] pos) (cOp2 min2D fa fb) :=
  EV.bi2 (call_min2 hc) (fun tk H0 F0 O σ F H g w x y d vx vy Q R rx ry e kk => by
    cases x <;> cases y <;> simp only [min2D] at e <;> first | cases e | skip
    simp only [RepB, Rep] at rx ry
    subst rx; subst ry
    exact ⟨_, _, rfl, kk _ H F R (Ex.refl ..) (by simp only [Rep])⟩) hg hm (by decide +kernel) ha hb (he := he) (he2 := he2) (hpl := hpl)
/-! tuple, list -/
theorem EV.tuple {O : List Nat} {a : Expr} {fa : E} {p pos : Pos} (hm : X.mg "tuple" = Option.none) (ha : EB X O a fa) (hg : Gl X "tuple" := by rfl) (he : starEach [a] X.env = (false, eval a X.env) :: starEach [] X.env := by rfl) : EV X O (.Call (.Name "tuple" p) [a] [] pos) (cOp1 tupD fa) :=
  EV.ty1 call_tuple_of (fun tk H0 F0 O σ F H g w x d vx Q R rx e kk => by
    cases x <;> simp only [tupD] at e <;> first | cases e | skip
    · simp only [RepB] at rx
      obtain ⟨a, xs, rfl, na, ra, la⟩ := rx
      refine ⟨a, xs, rfl, .inl ⟨.inl ra, fun l hl => ?_⟩⟩
      obtain ⟨R2, x2⟩ := R.alloc hl (.tup xs)
      refine kk _ _ _ R2 x2 ?_
      simp only [Rep]
      exact ⟨l, xs, rfl, upd_same, RepL.same x2.sm _ _ la⟩
    · simp only [RepB] at rx
      have rx' := rx
      simp only [Rep] at rx
      obtain ⟨a, xs, rfl, ra, la⟩ := rx
      exact ⟨a, xs, rfl, .inr ⟨.of (R.sub.tup ra), kk _ H F R (Ex.refl ..) rx'⟩⟩) hg hm (by decide +kernel) ha (he := he)
end
end Q

set_option Elab.async false
set_option linter.all false
set_option autoImplicit false
set_option maxRecDepth 100000
/-! QS4: targets, what is walked, comprehensions. -/
namespace Q
open PySem PySem.Spec PyProof.Rows L2
section
variable {Kx : PySem.W.Frag} {mx : Str → Option Value} {tk : Tk Kx mx} {H0 F0 : Hp} {O : List Nat} {σ : L2.St} {H F : Hp} {g : Env} {w : Wd}
theorem Rel.set (R : Rel tk H0 F0 O σ H F g w) {i : Nat} {d : D} {v : V} (hO : i ∉ O) (r : Rep tk F d v) (hi : i < g.length) : Rel tk H0 F0 O (σ.set i (some v)) H F (g.set i (some d)) w := by
  have hl := R.len
  refine ⟨by simpa using hl, R.sub, R.f0, R.k0, R.n0, fun j e hj h => ?_, fun j e hj h => ?_, fun j l a e e' hj hll h h' k k' => ?_, R.wat⟩
  · by_cases z : j = i
    · subst z
      rw [List.getElem?_set_self hi] at h
      cases h
      exact ⟨v, List.getElem?_set_self (by omega), r⟩
    · rw [List.getElem?_set_ne (Ne.symm z)] at h ⊢
      exact R.val j e hj h
  · have z : j ≠ i := fun z => hO (z ▸ hj)
    rw [List.getElem?_set_ne (Ne.symm z)] at h ⊢
    exact R.own j e hj h
  · have z : j ≠ i := fun z => hO (z ▸ hj)
    have z' : l ≠ i := fun z => hO (z ▸ hll)
    rw [List.getElem?_set_ne (Ne.symm z)] at h k
    rw [List.getElem?_set_ne (Ne.symm z')] at h' k'
    exact R.sep j l a e e' hj hll h h' k k'
/-- what stands between two states, the slots as they were -/
theorem Rel.back {O2 : List Nat} {σ2 : L2.St} {H' F' : Hp} {g2 : Env} {w' : Wd} (R : Rel tk H0 F0 O σ H F g w) (R2 : Rel tk H0 F0 O2 σ2 H' F' g2 w') (x : Ex tk F H F' H') : Rel tk H0 F0 O σ H' F' g w' := by
  refine ⟨R.len, R2.sub, R2.f0, R2.k0, R2.n0, fun i d hi h => ?_, fun i d hi h => ?_, R.sep, R2.wat⟩
  · obtain ⟨v, h1, h2⟩ := R.val i d hi h
    exact ⟨v, h1, Rep.same x.sm _ _ h2⟩
  · obtain ⟨a, o, h1, h2, h3, h4, h5, h6⟩ := R.own i d hi h
    exact ⟨a, o, h1, x.gr a o h2 h5, x.nw a h5 (by rw [h2]; exact fun z => nomatch z) h3, h4, h5, h6.same x.sm⟩
theorem wipeE_len (g : Env) : ∀ vs : List Nat, (wipeE g vs).length = g.length
  | [] => rfl
  | v :: vs => by simp only [wipeE, List.length_set, wipeE_len g vs]
theorem wipeE_some {g : Env} {i : Nat} {d : D} : ∀ {vs : List Nat}, (wipeE g vs)[i]? = some (some d) → g[i]? = some (some d) ∧ i ∉ vs
  | [], h => ⟨h, by simp⟩
  | v :: vs, h => by
    simp only [wipeE] at h
    by_cases hi : v = i
    · subst hi
      by_cases hv : v < (wipeE g vs).length
      · rw [List.getElem?_set_self hv] at h; cases h
      · rw [List.getElem?_eq_none (by simpa using hv)] at h; cases h
    · rw [List.getElem?_set_ne hi] at h
      obtain ⟨h1, h2⟩ := wipeE_some h
      exact ⟨h1, by simp only [List.mem_cons, not_or]; exact ⟨fun e => hi e.symm, h2⟩⟩
theorem wipe_keep {σ : L2.St} {i : Nat} : ∀ {vs : List Nat}, i ∉ vs → (wipe σ vs)[i]? = σ[i]?
  | [], _ => rfl
  | v :: vs, h => by
    simp only [List.mem_cons, not_or] at h
    unfold wipe
    rw [List.getElem?_set_ne (fun z => h.1 z.symm)]
    exact wipe_keep h.2
/-- slots forgotten on both sides -/
theorem Rel.wipe (R : Rel tk H0 F0 O σ H F g w) (vs : List Nat) : Rel tk H0 F0 O (L2.wipe σ vs) H F (wipeE g vs) w := by
  refine ⟨by rw [wipeE_len, wipe_length]; exact R.len, R.sub, R.f0, R.k0, R.n0, fun i d hi h => ?_, fun i d hi h => ?_, fun i j a d e hi hj h h' k k' => ?_, R.wat⟩
  · obtain ⟨h1, h2⟩ := wipeE_some h
    rw [wipe_keep h2]
    exact R.val i d hi h1
  · obtain ⟨h1, h2⟩ := wipeE_some h
    rw [wipe_keep h2]
    exact R.own i d hi h1
  · obtain ⟨h1, h2⟩ := wipeE_some h
    obtain ⟨h3, h4⟩ := wipeE_some h'
    rw [wipe_keep h2] at k
    rw [wipe_keep h4] at k'
    exact R.sep i j a d e hi hj h1 h3 k k'
/-- slots forgotten by the data alone -/
theorem Rel.wipeG (R : Rel tk H0 F0 O σ H F g w) (vs : List Nat) : Rel tk H0 F0 O σ H F (wipeE g vs) w := by
  refine ⟨by rw [wipeE_len]; exact R.len, R.sub, R.f0, R.k0, R.n0, fun i d hi h => R.val i d hi (wipeE_some h).1, fun i d hi h => R.own i d hi (wipeE_some h).1, fun i j a d e hi hj h h' k k' => R.sep i j a d e hi hj (wipeE_some h).1 (wipeE_some h').1 k k', R.wat⟩
/-- a free object changes -/
theorem Rel.free (R : Rel tk H0 F0 O σ H F g w) {p : Addr} {o : HO} (hf : F p = none) (h0 : H0 p = none) (npw : tk.pw ≠ some p) (no : ∀ i d, i ∈ O → g[i]? = some (some d) → σ[i]? ≠ some (some (.ref p))) : Rel tk H0 F0 O σ (upd H p o) F g w := by
  refine ⟨R.len, fun a u e => ?_, R.f0, fun a u e n => ?_, R.n0, R.val, fun i d hi h => ?_, R.sep, ?_⟩
  · have ne : a ≠ p := fun z => by rw [z, hf] at e; cases e
    rcases R.sub a u e with k | ⟨k, ob, q⟩
    · exact .inl (by rw [upd_ne ne]; exact k)
    · exact .inr ⟨k, ob, by rw [upd_ne ne]; exact q⟩
  · rw [upd_ne (ne_of_none e h0)]; exact R.k0 a u e n
  · obtain ⟨a, u, h1, h2, h3⟩ := R.own i d hi h
    have ne : a ≠ p := fun z => no i d hi h (by rw [← z]; exact h1)
    exact ⟨a, u, h1, by rw [upd_ne ne]; exact h2, h3⟩
  · exact R.wat.to (fun q e => upd_ne fun z => npw (by rw [e, z])) (Same.refl F) R.fw
end

/-! ### targets -/
/-- ts: the slots that the target stores -/
def rdG (Kx : PySem.W.Frag) (mx : Str → Option Value) (O ts : List Nat) (t : G) : TG := fun v σ H Q => ∃ tk : Tk Kx mx, ∃ H0 F0 F g w d g', Rel tk H0 F0 O σ H F g w ∧ Rep tk F d v ∧ t d g = some g' ∧
  ∀ σ' H' F', Rel tk H0 F0 O σ' H' F' g' w → Ex tk F H F' H' → (∀ vs, (∀ i ∈ ts, i ∈ vs) → wipe σ' vs = wipe σ vs) → Q σ' H'
def rdGs (Kx : PySem.W.Frag) (mx : Str → Option Value) (O ts : List Nat) (t : List G) : TGs := fun vs σ H Q => ∃ tk : Tk Kx mx, ∃ H0 F0 F g w ds g', Rel tk H0 F0 O σ H F g w ∧ RepL tk F ds vs ∧ gList t ds g = some g' ∧
  ∀ σ' H' F', Rel tk H0 F0 O σ' H' F' g' w → Ex tk F H F' H' → (∀ vs, (∀ i ∈ ts, i ∈ vs) → wipe σ' vs = wipe σ vs) → Q σ' H'
section
variable {X : Cx}
theorem PG.imp {tg : Expr} {t t' : TG} (h : PG X tg t) (k : ∀ v σ H Q, t' v σ H Q → t v σ H Q) : PG X tg t' := ⟨fun pins s σ H v u Q I r hw => h.run pins s σ H v u Q I r (k v σ H Q hw)⟩
theorem PGs.imp {tg : List Expr} {t t' : TGs} (h : PGs X tg t) (k : ∀ v σ H Q, t' v σ H Q → t v σ H Q) : PGs X tg t' := ⟨fun pins s σ H v u Q I r hw => h.run pins s σ H v u Q I r (k v σ H Q hw)⟩
theorem wipe_set {σ : L2.St} {i : Nat} {x : Option V} : ∀ {vs : List Nat}, i ∈ vs → wipe (σ.set i x) vs = wipe σ vs
  | v :: vs, h => by
    unfold wipe
    by_cases hi : i ∈ vs
    · rw [wipe_set hi]
    · have e : i = v := by simpa [hi] using h
      subst e
      have : ∀ us : List Nat, i ∉ us → wipe (σ.set i x) us = (wipe σ us).set i x := by
        intro us hu
        induction us with
        | nil => rfl
        | cons u us ih =>
          simp only [List.mem_cons, not_or] at hu
          unfold wipe
          rw [ih hu.2, List.set_comm _ _ hu.1]
      rw [this vs hi, List.set_set]
theorem GG.name {O : List Nat} {x : Str} {pos : Pos} (i : Nat) (hN : X.N.Nodup) (hO : i ∉ O := by decide) (hi : X.N[i]? = some x := by rfl) (hx : Loc X.env.scope x := by first | exact Or.inl rfl | exact Or.inr rfl) (hf : X.fn x = true ∨ X.env.scope.names.lookup x = some .local := by first | exact .inl rfl | exact .inr rfl) :
    PG X (.Name x pos) (rdG X.K X.mg O [i] (gName i)) := PG.imp (pg_name hN hi hx hf) fun v σ H Q ⟨tk, H0, F0, F, g, w, d, g', R, r, e, k⟩ => by
  simp only [gName] at e
  split at e <;> first | cases e | skip
  rename_i h
  exact k _ H F (R.set hO r h) (Ex.refl ..) fun vs hv => wipe_set (hv i (by simp))
theorem GG.nil {O : List Nat} : PGs X [] (rdGs X.K X.mg O [] []) := PGs.imp pgs_nil fun vs σ H Q ⟨tk, H0, F0, F, g, w, ds, g', R, r, e, k⟩ => by
  cases ds <;> simp only [gList] at e <;> first | cases e | skip
  cases vs <;> simp only [RepL] at r
  exact ⟨rfl, k σ H F R (Ex.refl ..) fun _ _ => rfl⟩
theorem GG.cons {O ts us : List Nat} {e : Expr} {es : List Expr} {t : G} {rs : List G} (h : PG X e (rdG X.K X.mg O ts t)) (hs : PGs X es (rdGs X.K X.mg O us rs)) (ha : (assignEach (e :: es) X.env).map (·.2) = assign e X.env :: (assignEach es X.env).map (·.2) := by rfl) :
    PGs X (e :: es) (rdGs X.K X.mg O (ts ++ us) (t :: rs)) := PGs.imp (pgs_cons h hs ha) fun vs σ H Q ⟨tk, H0, F0, F, g, w, ds, g', R, r, e, k⟩ => by
  cases ds with
  | nil => simp only [gList] at e; cases e
  | cons d ds =>
    cases vs with
    | nil => simp only [RepL] at r
    | cons v vs =>
      simp only [RepL] at r
      simp only [gList] at e
      split at e <;> first | cases e | skip
      rename_i g1 hg
      refine ⟨v, vs, rfl, tk, H0, F0, F, g, w, d, g1, R, r.1, hg, fun σ1 H1 F1 R1 x1 w1 => ?_⟩
      refine ⟨tk, H0, F0, F1, g1, w, ds, g', R1, RepL.same x1.sm _ _ r.2, e, fun σ2 H2 F2 R2 x2 w2 => ?_⟩
      exact k σ2 H2 F2 R2 (x1.trans x2) fun zs hz => (w2 zs fun i hi => hz i (List.mem_append_right _ hi)).trans (w1 zs fun i hi => hz i (List.mem_append_left _ hi))
theorem gList_len : ∀ {ts : List G} {ds : List D} {g g' : Env}, gList ts ds g = some g' → ts.length = ds.length
  | [], [], _, _, _ => rfl
  | [], _ :: _, _, _, h => by simp only [gList] at h; cases h
  | _ :: _, [], _, _, h => by simp only [gList] at h; cases h
  | t :: ts, d :: ds, g, g', h => by
    simp only [gList] at h
    split at h <;> first | cases h | skip
    simp [gList_len h]
theorem GG.tup {O ts : List Nat} {es : List Expr} {kk : Nat} {rs : List G} {pos : Pos} (hc : X.calm = true) (h : PGs X es (rdGs X.K X.mg O ts rs)) (hn : (assignEach es X.env).length = rs.length := by rfl) (hst : (assignEach es X.env).findIdx? (·.1) = none := by rfl) :
    PG X (.Tuple es kk pos) (rdG X.K X.mg O ts (gTup rs)) := PG.imp (pg_tup hc h hn hst) fun v σ H Q ⟨tk, H0, F0, F, g, w, d, g', R, r, e, k⟩ => by
  cases d <;> simp only [gTup] at e <;> first | cases e | skip
  simp only [Rep] at r
  obtain ⟨a, xs, rfl, ra, la⟩ := r
  exact ⟨a, xs, rfl, .of (R.sub.tup ra), by rw [← la.length, gList_len e], tk, H0, F0, F, g, w, _, g', R, la, e, k⟩

/-! ### what is walked -/
/-- a walk over the data ds, wherever the frozen heap stands -/
def ItOk {Kx : PySem.W.Frag} {mx : Str → Option Value} (tk : Tk Kx mx) (J : It) (ds : List D) (F : Hp) : Prop := ∀ F2 H2, Same F F2 → Sub F2 H2 → ∀ i,
  (∀ d, ds[i]? = some d → J.go i H2 ∧ ∀ x H3, J.yld i H2 x H3 → (H3 = H2 ∧ Rep tk F2 d x) ∨ ∃ p o, H2 p = none ∧ H3 = upd H2 p o ∧ Rep tk (upd F2 p o) d x) ∧ (ds.length ≤ i → J.stop i H2)
def rdI (Kx : PySem.W.Frag) (mx : Str → Option Value) (O : List Nat) (f : Es) : TI := fun σ H R => ∃ tk : Tk Kx mx, ∃ H0 F0 F g w ds w', Rel tk H0 F0 O σ H F g w ∧ f g w = some (ds, w') ∧ ∀ J H' F', Rel tk H0 F0 O σ H' F' g w' → Ex tk F H F' H' → ItOk tk J ds F' → R J H'
abbrev EI (X : Cx) (O : List Nat) (tg it : Expr) (f : Es) : Prop := PI X tg it (rdI X.K X.mg O f)
theorem PI.imp {tg it : Expr} {t t' : TI} (h : PI X tg it t) (k : ∀ σ H Q, t' σ H Q → t σ H Q) : PI X tg it t' := ⟨fun pins s σ H R I hw => h.run pins s σ H R I (k σ H R hw)⟩
theorem PI.or {tg it : Expr} {t t' : TI} (h : PI X tg it t) (h' : PI X tg it t') : PI X tg it (fun σ H R => t σ H R ∨ t' σ H R) := ⟨fun pins s σ H R I hw => hw.elim (h.run pins s σ H R I) (h'.run pins s σ H R I)⟩
theorem itOk_list {Kx : PySem.W.Frag} {mx : Str → Option Value} {tk : Tk Kx mx} {K : PySem.W.Frag} {F : Hp} {a : Addr} {xs : List V} {ds : List D} (ra : Rd F a (.lst xs)) (la : RepL tk F ds xs) : ItOk tk (Itl K a) ds F := fun F2 H2 s sb i => by
  have r2 : SqL K H2 a xs := .inl (sb.rdL (Rd.same s ra))
  refine ⟨fun d hd => ?_, fun h => ⟨xs, r2, by rw [← la.length]; exact h⟩⟩
  obtain ⟨v, h1, h2⟩ := la.at hd
  refine ⟨⟨xs, v, r2, h1⟩, fun x H3 y => .inl ⟨y.1, ?_⟩⟩
  have := y.2 xs r2
  rw [h1] at this
  cases this
  exact Rep.same s _ _ h2
theorem itOk_tup {Kx : PySem.W.Frag} {mx : Str → Option Value} {tk : Tk Kx mx} {K : PySem.W.Frag} {F : Hp} {a : Addr} {xs : List V} {ds : List D} (ra : F a = some (.tup xs)) (la : RepL tk F ds xs) : ItOk tk (Itt K a) ds F := fun F2 H2 s sb i => by
  have r2 : SqT K H2 a xs := .of (sb.tup (s _ _ ra))
  refine ⟨fun d hd => ?_, fun h => ⟨xs, r2, by rw [← la.length]; exact h⟩⟩
  obtain ⟨v, h1, h2⟩ := la.at hd
  refine ⟨⟨xs, v, r2, h1⟩, fun x H3 y => .inl ⟨y.1, ?_⟩⟩
  have := y.2 xs r2
  rw [h1] at this
  cases this
  exact Rep.same s _ _ h2
theorem EI.seq {O : List Nat} {tg e : Expr} {f : E} (h : EV X O e f) : EI X O tg e (itSeq f) := PI.imp (PI.or (pi_list h) (pi_tup h)) fun σ H Q ⟨tk, H0, F0, F, g, w, ds, w', R, ef, k⟩ => by
  obtain ⟨x, w1, e1, ef⟩ := bnd_eq (show bnd (f g w) _ = _ from ef)
  obtain ⟨e4, e5⟩ := lft_eq ef
  have e5 : w1 = w' := e5
  subst e5
  have e4 : itemsD x = some ds := e4
  cases x <;> simp only [itemsD] at e4 <;> first | cases e4 | skip
  · refine .inl ⟨tk, H0, F0, F, g, w, _, w1, R, e1, fun v H1 F1 R1 x1 r1 => ?_⟩
    simp only [Rep] at r1
    obtain ⟨a, xs, rfl, ra, la⟩ := r1
    exact ⟨a, rfl, ⟨xs, .inl (R1.sub.rdL ra)⟩, k _ H1 F1 R1 x1 (itOk_list ra la)⟩
  · refine .inr ⟨tk, H0, F0, F, g, w, _, w1, R, e1, fun v H1 F1 R1 x1 r1 => ?_⟩
    simp only [Rep] at r1
    obtain ⟨a, xs, rfl, ra, la⟩ := r1
    exact ⟨a, rfl, ⟨xs, .of (R1.sub.tup ra)⟩, k _ H1 F1 R1 x1 (itOk_tup ra la)⟩
theorem itOk_range {Kx : PySem.W.Frag} {mx : Str → Option Value} {tk : Tk Kx mx} {F : Hp} (lo : Int) (n : Nat) : ItOk tk (Itr lo n) (rangeL lo n) F := fun F2 H2 s sb i => by
  refine ⟨fun d hd => ?_, fun h => (by
    show n ≤ i
    simpa [rangeL] using h)⟩
  have hi : i < n := by
    have := (List.getElem?_eq_some_iff.mp hd).1
    simpa [rangeL] using this
  refine ⟨hi, fun x H3 y => .inl ⟨y.1, ?_⟩⟩
  have e : (rangeL lo n)[i]? = some (.int (lo + (i : Nat))) := by simp [rangeL, hi]
  rw [e] at hd
  cases hd
  rw [y.2]
  simp only [Rep]
theorem small62_iff {i : Int} (h : small62 i = true) : -(2 ^ 62) ≤ i ∧ i < 2 ^ 62 := by simpa [small62] using h
theorem EI.r1 {O : List Nat} {tg a : Expr} {fa : E} {p pos : Pos} (hm : X.mg "range" = none) (ha : EB X O a fa) (hg : Gl X "range" := by rfl) (hs : starEach [a] X.env = [(false, eval a X.env)] := by rfl) : EI X O tg (.Call (.Name "range" p) [a] [] pos) (itR1 fa) :=
  PI.imp (pi_range1 hg hm (EAB.cons ha EAB.nil hs) hs) fun σ H Q ⟨tk, H0, F0, F, g, w, ds, w', R, ef, k⟩ => by
  obtain ⟨x, w1, e1, ef⟩ := bnd_eq (show bnd (fa g w) _ = _ from ef)
  obtain ⟨e4, e5⟩ := lft_eq ef
  have e5 : w1 = w' := e5
  subst e5
  have e4 : range1 x = some ds := e4
  refine ⟨tk, H0, F0, F, g, w, [x], w1, R, by simp [cArgs, e1], fun vs H1 F1 R1 x1 r1 => ?_⟩
  have e6 : ∃ n, x = .int n ∧ small62 n = true ∧ ds = rangeL 0 n.toNat := by
    cases x <;> simp only [range1] at e4 <;> first | cases e4 | skip
    split at e4
    · rename_i h
      exact ⟨_, rfl, h, (Option.some.inj e4).symm⟩
    · cases e4
  obtain ⟨n, rfl, h, rfl⟩ := e6
  match vs, r1 with
  | [], r1 => simp only [RepBL] at r1
  | [v], r1 =>
    simp only [RepBL, RepB, Rep] at r1
    rw [r1.1]
    have h := small62_iff h
    exact ⟨_, rfl, h.1, h.2, k _ H1 F1 R1 x1 (itOk_range 0 _)⟩
  | _ :: _ :: _, r1 => simp only [RepBL] at r1; exact r1.2.elim
theorem EI.r2 {O : List Nat} {tg a b : Expr} {fa fb : E} {p pos : Pos} (hm : X.mg "range" = none) (ha : EB X O a fa) (hb : EB X O b fb) (hg : Gl X "range" := by rfl) (hs : starEach [a, b] X.env = [(false, eval a X.env), (false, eval b X.env)] := by rfl) (hs2 : starEach [b] X.env = [(false, eval b X.env)] := by rfl) :
    EI X O tg (.Call (.Name "range" p) [a, b] [] pos) (itR2 fa fb) :=
  PI.imp (pi_range2 hg hm (EAB.cons ha (EAB.cons hb EAB.nil hs2) (by rw [hs, hs2])) hs hs2) fun σ H Q ⟨tk, H0, F0, F, g, w, ds, w', R, ef, k⟩ => by
  obtain ⟨x, w1, e1, ef⟩ := bnd_eq (show bnd (fa g w) _ = _ from ef)
  obtain ⟨y, w2, e2, ef⟩ := bnd_eq ef
  obtain ⟨e4, e5⟩ := lft_eq ef
  have e5 : w2 = w' := e5
  subst e5
  have e4 : range2 x y = some ds := e4
  refine ⟨tk, H0, F0, F, g, w, [x, y], w2, R, by simp [cArgs, e1, e2], fun vs H1 F1 R1 x1 r1 => ?_⟩
  have e6 : ∃ n m, x = .int n ∧ y = .int m ∧ (small62 n && small62 m) = true ∧ ds = rangeL n (m - n).toNat := by
    cases x <;> cases y <;> simp only [range2] at e4 <;> first | cases e4 | skip
    split at e4
    · rename_i h
      exact ⟨_, _, rfl, rfl, h, (Option.some.inj e4).symm⟩
    · cases e4
  obtain ⟨n, m, rfl, rfl, h, rfl⟩ := e6
  match vs, r1 with
  | [], r1 => simp only [RepBL] at r1
  | [v], r1 => simp only [RepBL] at r1; exact r1.2.elim
  | [v, u], r1 =>
    simp only [RepBL, RepB, Rep] at r1
    rw [r1.1, r1.2.1]
    simp only [Bool.and_eq_true] at h
    have h1 := small62_iff h.1
    have h2 := small62_iff h.2
    exact ⟨_, _, rfl, ⟨h1.1, h1.2, h2.1, h2.2⟩, k _ H1 F1 R1 x1 (itOk_range _ _)⟩
  | _ :: _ :: _ :: _, r1 => simp only [RepBL] at r1; exact r1.2.2.elim
theorem EI.zip {O : List Nat} {a b : Expr} {fa fb : E} {p pos tpos : Pos} {elts : List Expr} {kk : Nat} (hm : X.mg "zip" = none) (ha : EV X O a fa) (hb : EV X O b fb) (hg : Gl X "zip" := by rfl) (hs : starEach [a, b] X.env = (false, eval a X.env) :: starEach [b] X.env := by rfl) (hs2 : starEach [b] X.env = (false, eval b X.env) :: starEach [] X.env := by rfl)
    (hpl : (backTo pos (starEach [b] X.env)).any (·.1) = false := by rfl) : EI X O (.Tuple elts kk tpos) (.Call (.Name "zip" p) [a, b] [] pos) (itZip fa fb) :=
  PI.imp (RZ.pi_zipA hg hm (EA.cons ha (EA.cons hb EA.nil hs2) hs) hs hpl) fun σ H Q ⟨tk, H0, F0, F, g, w, ds, w', R, ef, k⟩ => by
  obtain ⟨x, w1, e1, ef⟩ := bnd_eq (show bnd (fa g w) _ = _ from ef)
  obtain ⟨y, w2, e2, ef⟩ := bnd_eq ef
  obtain ⟨e4, e5⟩ := lft_eq ef
  have e5 : w2 = w' := e5
  subst e5
  have e4 : zipD x y = some ds := e4
  refine ⟨tk, H0, F0, F, g, w, [x, y], w2, R, by simp [cArgs, e1, e2], fun vs H1 F1 R1 x1 r1 => ?_⟩
  match vs, r1 with
  | [], r1 => simp only [RepL] at r1
  | [v], r1 => simp only [RepL] at r1; exact r1.2.elim
  | _ :: _ :: _ :: _, r1 => simp only [RepL] at r1; exact r1.2.2.elim
  | [v, u], r1 =>
    simp only [RepL] at r1
    obtain ⟨rv, ru, _⟩ := r1
    cases x <;> cases y <;> simp only [zipD] at e4 <;> first | cases e4 | skip
    · simp only [Rep] at rv ru
      obtain ⟨a, xs, rfl, ra, la⟩ := rv
      obtain ⟨b, ys, rfl, rb, lb⟩ := ru
      refine ⟨a, b, xs, ys, rfl, .inl ⟨.inl (R1.sub.rdL ra), .inl (R1.sub.rdL rb), k _ H1 F1 R1 x1 fun F2 H2 s sb i => ?_⟩⟩
      have ra2 : SqL X.K H2 a xs := .inl (sb.rdL (Rd.same s ra))
      have rb2 : SqL X.K H2 b ys := .inl (sb.rdL (Rd.same s rb))
      refine ⟨fun d hd => ?_, fun h => ⟨xs, ys, ra2, rb2, ?_⟩⟩
      · rw [List.getElem?_map] at hd
        obtain ⟨z, hz, rfl⟩ := Option.map_eq_some_iff.mp hd
        obtain ⟨hz1, hz2⟩ := List.getElem?_zip_eq_some.mp hz
        obtain ⟨v1, g1, g2⟩ := la.at hz1
        obtain ⟨v2, g3, g4⟩ := lb.at hz2
        refine ⟨⟨xs, ys, v1, v2, ra2, rb2, g1, g3⟩, fun t H3 yl => ?_⟩
        obtain ⟨T, q1, q2, rfl, hT, rfl, f1, f2⟩ := yl
        have k1 := f1 xs ra2
        have k2 := f2 ys rb2
        rw [g1] at k1
        rw [g3] at k2
        cases k1
        cases k2
        refine .inr ⟨T, _, hT, rfl, ?_⟩
        have s3 : Same F1 (upd F2 T (.tup [v1, v2])) := s.trans (same_new (sb.none hT))
        simp only [Rep, RepL]
        exact ⟨T, _, rfl, upd_same, Rep.same s3 _ _ g2, Rep.same s3 _ _ g4, trivial⟩
      · have := la.length
        have := lb.length
        simp only [List.length_map, List.length_zip] at h
        omega
    · simp only [Rep] at rv ru
      obtain ⟨a, xs, rfl, ra, la⟩ := rv
      obtain ⟨b, ys, rfl, rb, lb⟩ := ru
      refine ⟨a, b, xs, ys, rfl, .inr ⟨.of (R1.sub.tup ra), .of (R1.sub.tup rb), k _ H1 F1 R1 x1 fun F2 H2 s sb i => ?_⟩⟩
      have ra2 : SqT X.K H2 a xs := .of (sb.tup (s _ _ ra))
      have rb2 : SqT X.K H2 b ys := .of (sb.tup (s _ _ rb))
      refine ⟨fun d hd => ?_, fun h => ⟨xs, ys, ra2, rb2, ?_⟩⟩
      · rw [List.getElem?_map] at hd
        obtain ⟨z, hz, rfl⟩ := Option.map_eq_some_iff.mp hd
        obtain ⟨hz1, hz2⟩ := List.getElem?_zip_eq_some.mp hz
        obtain ⟨v1, g1, g2⟩ := la.at hz1
        obtain ⟨v2, g3, g4⟩ := lb.at hz2
        refine ⟨⟨xs, ys, v1, v2, ra2, rb2, g1, g3⟩, fun t H3 yl => ?_⟩
        obtain ⟨T, q1, q2, rfl, hT, rfl, f1, f2⟩ := yl
        have k1 := f1 xs ra2
        have k2 := f2 ys rb2
        rw [g1] at k1
        rw [g3] at k2
        cases k1
        cases k2
        refine .inr ⟨T, _, hT, rfl, ?_⟩
        have s3 : Same F1 (upd F2 T (.tup [v1, v2])) := s.trans (same_new (sb.none hT))
        simp only [Rep, RepL]
        exact ⟨T, _, rfl, upd_same, Rep.same s3 _ _ g2, Rep.same s3 _ _ g4, trivial⟩
      · have := la.length
        have := lb.length
        simp only [List.length_map, List.length_zip] at h
        omega
end
end Q

set_option Elab.async false
set_option linter.all false
set_option autoImplicit false
set_option maxRecDepth 100000
/-! QS5: comprehensions. -/
namespace Q
open PySem PySem.Spec PyProof.Rows L2
theorem wipe_wipe {σ : L2.St} {vs : List Nat} : wipe (wipe σ vs) vs = wipe σ vs := by
  apply List.ext_getElem?
  intro i
  by_cases h : i ∈ vs
  · have key : ∀ (τ : L2.St) (us : List Nat), i ∈ us → (wipe τ us)[i]? = if i < τ.length then some none else none := by
      intro τ us
      induction us with
      | nil => intro h; cases h
      | cons u us ih =>
        intro h
        unfold wipe
        by_cases e : u = i
        · subst e
          by_cases hl : u < τ.length
          · rw [if_pos hl, List.getElem?_set_self (by rw [wipe_length]; exact hl)]
          · rw [if_neg hl, List.getElem?_eq_none (by simpa [wipe_length] using hl)]
        · rw [List.getElem?_set_ne e]
          exact ih (by simpa [Ne.symm e] using h)
    rw [key _ vs h, key _ vs h, wipe_length]
  · rw [wipe_keep h]
theorem lc_read {Kx : PySem.W.Frag} {mx : Str → Option Value} {O ts vs : List Nat} {fi : Es} {t : G} {c : T} {f : E} (hts : ∀ i ∈ ts, i ∈ vs) : ∀ σ H Q, rdO Kx mx O (cLc fi t c f vs) σ H Q → tLc (rdI Kx mx O fi) (rdG Kx mx O ts t) (rdT Kx mx O c) (rd Kx mx O f) vs σ H Q := fun σ H Q ⟨tk, H0, F0, F, g, w, d, w', R, ef, k⟩ => by
  obtain ⟨xs, w1, e1, ef⟩ := bnd_eq (show bnd (fi g w) _ = _ from ef)
  obtain ⟨ds, w2, e2, ef⟩ := bnd_eq ef
  split at ef <;> first | cases ef | skip
  rename_i hlen
  refine ⟨tk, H0, F0, F, g, w, xs, w1, R, e1, fun J H1 F1 R1 x1 it => fun D hD => ?_⟩
  have npw : tk.pw ≠ some D := fun e => (R1.wat.free D e).2 hD
  have h0D : H0 D = none := by
    cases q : H0 D with
    | none => rfl
    | some u => rw [R1.k0 D u q npw] at hD; cases hD
  have Rw := R1.wipe vs
  have noD : ∀ i d, i ∈ O → (wipeE g vs)[i]? = some (some d) → (wipe σ vs)[i]? ≠ some (some (.ref D)) := fun i d hi hg z => by
    obtain ⟨a, o, k1, k2, _⟩ := Rw.own i d hi hg
    rw [z] at k1
    cases k1
    rw [hD] at k2
    cases k2
  refine ⟨fun i m H => m = xs.length - i ∧ i ≤ xs.length ∧ ∃ F w acc done rest, Rel tk H0 F0 O (wipe σ vs) H F (wipeE g vs) w ∧ Ex tk F1 H1 F H ∧ H D = some (.lst acc) ∧ F D = none ∧ RepL tk F done acc ∧ acc.length ≤ i ∧
      lcLoop t c f (wipeE g vs) (xs.drop i) w = some (rest, w') ∧ done ++ rest = ds, ⟨_, rfl, Nat.zero_le _, F1, w1, [], [], ds, ?_⟩, ?_⟩
  · obtain ⟨Ra, xa⟩ := Rw.allocO hD (.lst [])
    exact ⟨Ra, xa, upd_same, R1.sub.none hD, by simp only [RepL], Nat.zero_le _, e2, rfl⟩
  · rintro i m H2 ⟨rfl, hile, F2, w3, acc, done, rest, R2, x2, hHD, hFD, hacc, hal, hloop, hds⟩
    have io := it F2 H2 x2.sm R2.sub i
    by_cases hlt : i < xs.length
    · have hx : xs[i]? = some xs[i] := List.getElem?_eq_getElem hlt
      obtain ⟨go, yl⟩ := io.1 _ hx
      rw [List.drop_eq_getElem_cons hlt] at hloop
      simp only [lcLoop] at hloop
      split at hloop <;> first | cases hloop | skip
      rename_i g1 hg1
      refine .inr ⟨go, fun H => ∃ F w acc done rest, Rel tk H0 F0 O (wipe σ vs) H F (wipeE g vs) w ∧ Ex tk F1 H1 F H ∧ H D = some (.lst acc) ∧ F D = none ∧ RepL tk F done acc ∧ acc.length ≤ i + 1 ∧
        lcLoop t c f (wipeE g vs) (xs.drop (i + 1)) w = some (rest, w') ∧ done ++ rest = ds, fun H' hN => ⟨_, Nat.lt_of_lt_of_le (Nat.sub_lt_sub_left hlt (Nat.lt_succ_self i)) (Nat.le_refl _), rfl, hlt, hN⟩, fun x H3 y => ?_⟩
      have ⟨F3, R3, x3, r3⟩ : ∃ F3, Rel tk H0 F0 O (wipe σ vs) H3 F3 (wipeE g vs) w3 ∧ Ex tk F2 H2 F3 H3 ∧ Rep tk F3 xs[i] x := by
        rcases yl x H3 y with ⟨rfl, r⟩ | ⟨p, o, hp, rfl, r⟩
        · exact ⟨F2, R2, Ex.refl .., r⟩
        · obtain ⟨Ra, xa⟩ := R2.alloc hp o
          exact ⟨_, Ra, xa, r⟩
      refine ⟨tk, H0, F0, F3, _, w3, xs[i], g1, R3, r3, hg1, fun σ4 H4 F4 R4 x4 w4 => ⟨(w4 _ hts).trans wipe_wipe, ?_⟩⟩
      obtain ⟨b, w5, e5, hloop⟩ := bnd_eq hloop
      refine ⟨tk, H0, F0, F4, g1, w3, b, w5, R4, e5, fun H5 F5 R5 x5 => ?_⟩
      have x25 := (x3.trans x4).trans x5
      have ne0 : H2 D ≠ none := by rw [hHD]; exact fun z => nomatch z
      cases b with
      | false =>
        rw [if_neg Bool.false_ne_true] at hloop
        refine iteF ?_
        exact ⟨F5, w5, acc, done, rest, R2.back R5 x25, x2.trans x25, x25.gr D _ hHD npw, x25.nw D npw ne0 hFD, RepL.same x25.sm _ _ hacc, Nat.le_succ_of_le hal, hloop, hds⟩
      | true =>
        rw [if_pos rfl] at hloop
        refine iteT ?_
        obtain ⟨y6, w6, e6, hloop⟩ := bnd_eq hloop
        obtain ⟨r7, w7, e7, hloop⟩ := bnd_eq hloop
        cases hloop
        refine ⟨tk, H0, F0, F5, g1, w5, y6, w6, R5, e6, fun v H6 F6 R6 x6 r6 => ⟨acc, ?_⟩⟩
        have x26 := x25.trans x6
        have hD6 : H6 D = some (.lst acc) := x26.gr D _ hHD npw
        have hF6 : F6 D = none := x26.nw D npw ne0 hFD
        refine ⟨hD6, by omega, F6, w6, acc ++ [v], done ++ [y6], r7, (R2.back R6 x26).free hF6 h0D npw noD, ?_, upd_same, hF6, (RepL.same x26.sm _ _ hacc).snoc r6, by simp; omega, e7, by rw [← hds]; simp⟩
        have xx := x2.trans x26
        exact ⟨xx.sm, fun a u e n => by rw [upd_ne (ne_of_none e hD)]; exact xx.gr a u e n, xx.nw⟩
    · have e : i = xs.length := by omega
      subst e
      refine .inl ⟨io.2 (Nat.le_refl _), ?_⟩
      rw [List.drop_length] at hloop
      have hloop : some (([] : List PySem.PyData), w3) = some (rest, w') := hloop
      cases hloop
      rw [List.append_nil] at hds
      subst hds
      have hD0 : H D = none := by
        cases q : H D with
        | none => rfl
        | some u => rw [x1.gr D u q npw] at hD; cases hD
      exact k (.ref D) H2 F2 (R1.back R2 x2) (x1.trans x2) ⟨D, .lst acc, rfl, hHD, hFD, hD0, npw, by simpa only [RepO] using hacc⟩
section
variable {X : Cx}
theorem EO.lc {O ts : List Nat} {elt tg iter : Expr} {ifs : List Expr} {scope : Scope} {own : List (Str × Nat)} {pos : Pos} {fi : Es} {t : G} {c : T} {f : E} (hc : X.calm = true) (hN : X.N.Nodup) (hi : EI X O tg iter fi) (ok : BlkOk X.N X.env.scope scope own)
    (hg : ∀ (s : Shared) (H : Hp) (C : Addr) (cl : List (Str × Addr)) (fp : List Addr), PG (X.blk s H scope (compEnvC scope cl C X.env) fp) tg (rdG X.K X.mg O ts t)) (ht : ∀ (s : Shared) (H : Hp) (C : Addr) (cl : List (Str × Addr)) (fp : List Addr), PTs (X.blk s H scope (compEnvC scope cl C X.env) fp) ifs (rdT X.K X.mg O c))
    (he : ∀ (s : Shared) (H : Hp) (C : Addr) (cl : List (Str × Addr)) (fp : List Addr), EV (X.blk s H scope (compEnvC scope cl C X.env) fp) O elt f) (hs : ∀ x, foldedSetIterable iter X.env x = pure x := by intro _; rfl) (hts : ∀ i ∈ ts, i ∈ own.map (·.2) := by decide) :
    EO X O (.ListComp elt [⟨tg, iter, ifs, 0⟩] scope pos) (cLc fi t c f (own.map (·.2))) := PE.imp (pe_lc hc hN hi ok hg ht he hs) (lc_read hts)
theorem tests0 {O : List Nat} : PTs X [] (rdT X.K X.mg O tYes) := ⟨fun pins s σ H Q I ⟨tk, H0, F0, F, g, w, d, w', R, ef, k⟩ => by
  have ef : some (true, w) = some (d, w') := ef
  cases ef
  exact pts_nil.run pins s σ H Q I (k H F R (Ex.refl ..))⟩
theorem tests1 {O : List Nat} {c : Expr} {f : T} (h : ET X O c f) : PTs X [c] (rdT X.K X.mg O f) := pts_one h
end
end Q

set_option Elab.async false
set_option linter.all false
set_option autoImplicit false
set_option maxRecDepth 100000
/-! QS6: statements. -/
namespace Q
open PySem PySem.Spec PyProof.Rows L2
section
variable {Kx : PySem.W.Frag} {mx : Str → Option Value} {tk : Tk Kx mx} {H0 F0 : Hp} {O : List Nat} {σ : L2.St} {H F : Hp} {g : Env} {w : Wd}
/-- other words for the own slots -/
theorem Rel.own' {O' : List Nat} (R : Rel tk H0 F0 O σ H F g w) (h : ∀ j, j ∈ O ↔ j ∈ O') : Rel tk H0 F0 O' σ H F g w :=
  ⟨R.len, R.sub, R.f0, R.k0, R.n0, fun i d hi => R.val i d fun z => hi ((h i).mp z), fun i d hi => R.own i d ((h i).mpr hi), fun i j a d e hi hj => R.sep i j a d e ((h i).mpr hi) ((h j).mpr hj), R.wat⟩
/-- slots that are forgotten may be called own or not -/
theorem Rel.off {O' vs : List Nat} (R : Rel tk H0 F0 O σ H F (wipeE g vs) w) (h : ∀ j, j ∉ vs → (j ∈ O ↔ j ∈ O')) : Rel tk H0 F0 O' σ H F (wipeE g vs) w :=
  ⟨R.len, R.sub, R.f0, R.k0, R.n0, fun i d hi e => R.val i d (fun z => hi ((h i (wipeE_some e).2).mp z)) e, fun i d hi e => R.own i d ((h i (wipeE_some e).2).mpr hi) e,
    fun i j a d e hi hj h1 h2 => R.sep i j a d e ((h i (wipeE_some h1).2).mpr hi) ((h j (wipeE_some h2).2).mpr hj) h1 h2, R.wat⟩
def sameOff (vs O O' : List Nat) : Bool := O.all (fun j => vs.contains j || O'.contains j) && O'.all (fun j => vs.contains j || O.contains j)
theorem sameOff_iff {vs O O' : List Nat} (h : sameOff vs O O' = true) : ∀ j, j ∉ vs → (j ∈ O ↔ j ∈ O') := by
  simp only [sameOff, Bool.and_eq_true, List.all_eq_true, Bool.or_eq_true, List.contains_iff_mem] at h
  exact fun j hj => ⟨fun k => (h.1 j k).resolve_left hj, fun k => (h.2 j k).resolve_left hj⟩
/-- one slot frozen -/
theorem Rel.frz1 (R : Rel tk H0 F0 O σ H F g w) (i : Nat) : ∃ F', Rel tk H0 F0 (O.filter fun j => j ≠ i) σ H F' g w ∧ Same F F' ∧ New tk H0 F F' := by
  have sub : ∀ j, j ∈ O.filter (fun j => j ≠ i) ↔ j ∈ O ∧ j ≠ i := fun j => by simp
  by_cases hi : i ∈ O
  · cases hg : g[i]? with
    | none =>
      refine ⟨F, ⟨R.len, R.sub, R.f0, R.k0, R.n0, fun j d hj e => ?_, fun j d hj e => R.own j d ((sub j).mp hj).1 e, fun j l a d e hj hl => R.sep j l a d e ((sub j).mp hj).1 ((sub l).mp hl).1, R.wat⟩, Same.refl F, fun _ _ _ h => h⟩
      refine R.val j d (fun z => hj ((sub j).mpr ⟨z, fun k => ?_⟩)) e
      rw [k, hg] at e; cases e
    | some o =>
      cases o with
      | none =>
        refine ⟨F, ⟨R.len, R.sub, R.f0, R.k0, R.n0, fun j d hj e => ?_, fun j d hj e => R.own j d ((sub j).mp hj).1 e, fun j l a d e hj hl => R.sep j l a d e ((sub j).mp hj).1 ((sub l).mp hl).1, R.wat⟩, Same.refl F, fun _ _ _ h => h⟩
        refine R.val j d (fun z => hj ((sub j).mpr ⟨z, fun k => ?_⟩)) e
        rw [k, hg] at e; cases e
      | some d0 =>
        obtain ⟨a, o, h1, h2, h3, h4, h5, h6⟩ := R.own i d0 hi hg
        have hr := h6.frz h3
        have s := same_new (o := o) h3
        have R1 : Rel tk H0 F0 (O.filter fun j => j ≠ i) σ H F g w ∨ True := .inr trivial
        refine ⟨upd F a o, ⟨R.len, fun b u e => ?_, R.f0.trans s, R.k0, fun b n e f => ?_, fun j d hj e => ?_, fun j d hj e => ?_, fun j l a d e hj hl => R.sep j l a d e ((sub j).mp hj).1 ((sub l).mp hl).1, ?_⟩, s, fun b n e f => ?_⟩
        · by_cases h : b = a
          · subst h; rw [upd_same] at e; cases e; exact .inl h2
          · rw [upd_ne h] at e; exact R.sub b u e
        · have ne : b ≠ a := fun z => e (by rw [z]; exact h4)
          rw [upd_ne ne]; exact R.n0 b n e f
        · by_cases hji : j = i
          · subst hji
            rw [hg] at e
            cases e
            exact ⟨_, h1, hr⟩
          · obtain ⟨v, k1, k2⟩ := R.val j d (fun z => hj ((sub j).mpr ⟨z, hji⟩)) e
            exact ⟨v, k1, Rep.same s _ _ k2⟩
        · obtain ⟨hj1, hj2⟩ := (sub j).mp hj
          obtain ⟨b, u, k1, k2, k3, k4, k5, k6⟩ := R.own j d hj1 e
          have ne : b ≠ a := fun z => hj2 (R.sep j i a d d0 hj1 hi e hg (by rw [← z]; exact k1) h1)
          exact ⟨b, u, k1, k2, by rw [upd_ne ne]; exact k3, k4, k5, k6.same s⟩
        · exact R.wat.to (fun _ _ => rfl) s fun q e => by rw [upd_ne (fun z => h5 (by rw [e, z]))]; exact R.fw q e
        · have ne : b ≠ a := fun z => e (by rw [z]; exact h4)
          rw [upd_ne ne]; exact f
  · refine ⟨F, R.own' fun j => ?_, Same.refl F, fun _ _ _ h => h⟩
    rw [sub j]
    exact ⟨fun k => ⟨k, fun z => hi (z ▸ k)⟩, fun k => k.1⟩
theorem Rel.frzs (R : Rel tk H0 F0 O σ H F g w) : ∀ L : List Nat, ∃ F', Rel tk H0 F0 (O.filter fun j => !L.contains j) σ H F' g w
  | [] => ⟨F, R.own' fun j => by simp⟩
  | i :: L => by
    obtain ⟨F1, R1⟩ := R.frzs L
    obtain ⟨F2, R2, _⟩ := R1.frz1 i
    refine ⟨F2, R2.own' fun j => ?_⟩
    simp only [List.mem_filter, Bool.not_eq_true', List.contains_eq_mem, decide_eq_false_iff_not, List.mem_cons, not_or, ne_eq, decide_eq_true_eq]
    exact ⟨fun ⟨⟨a, b⟩, c⟩ => ⟨a, by simpa using c, b⟩, fun ⟨a, c, b⟩ => ⟨⟨a, b⟩, by simpa using c⟩⟩
/-- a slot gets a new own object -/
theorem Rel.setOwn {O' : List Nat} (R : Rel tk H0 F0 O σ H F g w) {i : Nat} {d : D} {a : Addr} {o : HO} (hO : ∀ j, j ∈ O' ↔ j = i ∨ j ∈ O) (hi : i < g.length) (h2 : H a = some o) (h3 : F a = none) (h4 : H0 a = none) (h5 : tk.pw ≠ some a) (h6 : RepO tk F d o)
    (no : ∀ j e, j ∈ O → g[j]? = some (some e) → σ[j]? ≠ some (some (.ref a))) : Rel tk H0 F0 O' (σ.set i (some (.ref a))) H F (g.set i (some d)) w := by
  have hl := R.len
  refine ⟨by simpa using hl, R.sub, R.f0, R.k0, R.n0, fun j e hj h => ?_, fun j e hj h => ?_, fun j l b e e' hj hll h h' k k' => ?_, R.wat⟩
  · have z : j ≠ i := fun z => hj ((hO j).mpr (.inl z))
    rw [List.getElem?_set_ne (Ne.symm z)] at h ⊢
    exact R.val j e (fun z => hj ((hO j).mpr (.inr z))) h
  · by_cases z : j = i
    · subst z
      rw [List.getElem?_set_self hi] at h
      cases h
      exact ⟨a, o, List.getElem?_set_self (by omega), h2, h3, h4, h5, h6⟩
    · rw [List.getElem?_set_ne (Ne.symm z)] at h ⊢
      exact R.own j e (((hO j).mp hj).resolve_left z) h
  · by_cases z : j = i
    · by_cases z' : l = i
      · rw [z, z']
      · exfalso
        subst z
        rw [List.getElem?_set_self (by omega)] at k
        rw [List.getElem?_set_ne (Ne.symm z')] at h' k'
        cases k
        exact no l e' (((hO l).mp hll).resolve_left z') h' k'
    · by_cases z' : l = i
      · exfalso
        subst z'
        rw [List.getElem?_set_self (by omega)] at k'
        rw [List.getElem?_set_ne (Ne.symm z)] at h k
        cases k'
        exact no j e (((hO j).mp hj).resolve_left z) h k
      · rw [List.getElem?_set_ne (Ne.symm z)] at h k
        rw [List.getElem?_set_ne (Ne.symm z')] at h' k'
        exact R.sep j l b e e' (((hO j).mp hj).resolve_left z) (((hO l).mp hll).resolve_left z') h h' k k'
/-- the own object of a slot changes -/
theorem Rel.mut (R : Rel tk H0 F0 O σ H F g w) {i : Nat} {d d' : D} {a : Addr} {o' : HO} (hO : i ∈ O) (hg : g[i]? = some (some d)) (hs : σ[i]? = some (some (.ref a))) (h6 : RepO tk F d' o') : Rel tk H0 F0 O σ (upd H a o') F (g.set i (some d')) w := by
  obtain ⟨b, o, h1, h2, h3, h4, h5, _⟩ := R.own i d hO hg
  rw [hs] at h1
  cases h1
  have hi : i < g.length := (List.getElem?_eq_some_iff.mp hg).1
  have hl := R.len
  refine ⟨by simpa using hl, fun b u e => ?_, R.f0, fun b u e n => ?_, R.n0, fun j e hj h => ?_, fun j e hj h => ?_, fun j l b e e' hj hll h h' k k' => ?_, ?_⟩
  · have ne : b ≠ a := fun z => by rw [z, h3] at e; cases e
    rcases R.sub b u e with k | ⟨k, ob, q⟩
    · exact .inl (by rw [upd_ne ne]; exact k)
    · exact .inr ⟨k, ob, by rw [upd_ne ne]; exact q⟩
  · rw [upd_ne (ne_of_none e h4)]; exact R.k0 b u e n
  · have z : j ≠ i := fun z => hj (z ▸ hO)
    rw [List.getElem?_set_ne (Ne.symm z)] at h
    exact R.val j e hj h
  · by_cases z : j = i
    · subst z
      rw [List.getElem?_set_self hi] at h
      cases h
      exact ⟨a, o', hs, upd_same, h3, h4, h5, h6⟩
    · rw [List.getElem?_set_ne (Ne.symm z)] at h
      obtain ⟨b, u, k1, k2, k3⟩ := R.own j e hj h
      have ne : b ≠ a := fun q => z (R.sep j i a e d hj hO h hg (by rw [← q]; exact k1) hs)
      exact ⟨b, u, k1, by rw [upd_ne ne]; exact k2, k3⟩
  · have key : ∀ j e, (g.set i (some d'))[j]? = some (some e) → ∃ e, g[j]? = some (some e) := fun j e h => by
      by_cases z : j = i
      · exact ⟨d, z ▸ hg⟩
      · rw [List.getElem?_set_ne (Ne.symm z)] at h
        exact ⟨e, h⟩
    obtain ⟨e1, h1⟩ := key j e h
    obtain ⟨e2, h2⟩ := key l e' h'
    exact R.sep j l b e1 e2 hj hll h1 h2 k k'
  · exact R.wat.to (fun q e => upd_ne fun z => h5 (by rw [e, z])) (Same.refl F) R.fw
end

section
variable {X : Cx} {O O' O1 Ol : List Nat}
/-! ### one after another -/
theorem SOut.weaken {Kx : PySem.W.Frag} {mx : Str → Option Value} {tk : Tk Kx mx} {H0 F0 : Hp} {D : Ends} {w' : Wd} {o : Out} (h : SOut tk H0 F0 O' Ol D w' o) {D2 : Ends} (hn : ∀ g' σ' H' F', o = .nx g' → Rel tk H0 F0 O1 σ' H' F' g' w' → D2.nx σ' H') (hr : D2.rt = D.rt) (hb : D2.bk = D.bk) (hc : D2.ct = D.ct) : SOut tk H0 F0 O1 Ol D2 w' o := by
  cases o with
  | nx g' => exact fun σ' H' F' R => hn g' σ' H' F' rfl R
  | rt d => simp only [SOut] at h ⊢; rw [hr]; exact h
  | bk g' => simp only [SOut] at h ⊢; rw [hb]; exact h
  | ct g' => simp only [SOut] at h ⊢; rw [hc]; exact h
theorem ESs.one {st : Stmt} {f : S} (h : ES X O O' Ol st f) : ESs X O O' Ol [st] f := pss_one h
theorem ESs.cons {st : Stmt} {rest : List Stmt} {f h : S} (h1 : ES X O O1 Ol st f) (h2 : ESs X O1 O' Ol rest h) : ESs X O O' Ol (st :: rest) (sSeq f h) := PSs.imp (pss_cons h1 h2) fun D σ H ⟨tk, H0, F0, F, g, w, o, w', R, ef, q⟩ => by
  obtain ⟨o1, w1, e1, ef⟩ := bnd_eq (show bnd (f g w) _ = _ from ef)
  refine ⟨tk, H0, F0, F, g, w, o1, w1, R, e1, ?_⟩
  cases o1 with
  | nx g1 =>
    simp only at ef
    exact fun σ' H' F' R' => ⟨tk, H0, F0, F', g1, w1, o, w', R', ef, q⟩
  | rt d => simp only at ef; cases ef; exact q
  | bk g1 => simp only at ef; cases ef; exact q
  | ct g1 => simp only at ef; cases ef; exact q
/-- own slots frozen ahead of a statement -/
theorem ES.frz {st : Stmt} {f : S} (L : List Nat) (h : ES X O1 O' Ol st f) (hO : (O.filter fun j => !L.contains j) = O1 := by rfl) : ES X O O' Ol st f := PS.imp h fun D σ H ⟨tk, H0, F0, F, g, w, o, w', R, ef, q⟩ => by
  obtain ⟨F', R'⟩ := R.frzs L
  rw [hO] at R'
  exact ⟨tk, H0, F0, F', g, w, o, w', R', ef, q⟩
theorem ESs.frz {st : List Stmt} {f : S} (L : List Nat) (h : ESs X O1 O' Ol st f) (hO : (O.filter fun j => !L.contains j) = O1 := by rfl) : ESs X O O' Ol st f := PSs.imp h fun D σ H ⟨tk, H0, F0, F, g, w, o, w', R, ef, q⟩ => by
  obtain ⟨F', R'⟩ := R.frzs L
  rw [hO] at R'
  exact ⟨tk, H0, F0, F', g, w, o, w', R', ef, q⟩
/-- .. behind one -/
theorem ESs.post {st : List Stmt} {f : S} (L : List Nat) (h : ESs X O O1 Ol st f) (hO : (O1.filter fun j => !L.contains j) = O' := by rfl) : ESs X O O' Ol st f := PSs.imp h fun D σ H ⟨tk, H0, F0, F, g, w, o, w', R, ef, q⟩ => by
  refine ⟨tk, H0, F0, F, g, w, o, w', R, ef, q.weaken (fun g' σ' H' F' e R' => ?_) rfl rfl rfl⟩
  obtain ⟨F2, R2⟩ := R'.frzs L
  rw [hO] at R2
  subst e
  exact q σ' H' F2 R2
/-- slots forgotten behind a block -/
theorem ESs.forget {st : List Stmt} {f : S} (vs : List Nat) (h : ESs X O O1 Ol st f) (hO : sameOff vs O1 O' = true := by rfl) : ESs X O O' Ol st (sSeq f (sForget vs)) := PSs.imp h fun D σ H ⟨tk, H0, F0, F, g, w, o, w', R, ef, q⟩ => by
  obtain ⟨o1, w1, e1, ef⟩ := bnd_eq (show bnd (f g w) _ = _ from ef)
  refine ⟨tk, H0, F0, F, g, w, o1, w1, R, e1, ?_⟩
  cases o1 with
  | nx g1 =>
    simp only [sForget] at ef
    cases ef
    exact fun σ' H' F' R' => q σ' H' F' ((R'.wipeG vs).off (sameOff_iff hO))
  | rt d => simp only at ef; cases ef; exact q
  | bk g1 => simp only at ef; cases ef; exact q
  | ct g1 => simp only at ef; cases ef; exact q
theorem ESs.nil : ESs X O O Ol [] sPass := PSs.imp pss_nil fun D σ H ⟨tk, H0, F0, F, g, w, o, w', R, ef, q⟩ => by
  have ef : some (Out.nx g, w) = some (o, w') := ef
  cases ef
  exact q σ H F R
theorem ES.pass {pos : Pos} : ES X O O Ol (.Pass pos) sPass := PS.imp ps_pass fun D σ H ⟨tk, H0, F0, F, g, w, o, w', R, ef, q⟩ => by
  have ef : some (Out.nx g, w) = some (o, w') := ef
  cases ef
  exact q σ H F R
theorem ES.break {pos : Pos} : ES X O O' O (.Break pos) sBreak := PS.imp ps_break fun D σ H ⟨tk, H0, F0, F, g, w, o, w', R, ef, q⟩ => by
  have ef : some (Out.bk g, w) = some (o, w') := ef
  cases ef
  exact q σ H F R
theorem ES.cont {pos : Pos} : ES X O O' O (.Continue pos) sCont := PS.imp ps_continue fun D σ H ⟨tk, H0, F0, F, g, w, o, w', R, ef, q⟩ => by
  have ef : some (Out.ct g, w) = some (o, w') := ef
  cases ef
  exact q σ H F R
theorem ES.ret {e : Expr} {f : E} {pos : Pos} (h : EV X O e f) : ES X O O' Ol (.Return (some e) pos) (sRet f) := PS.imp (ps_ret h) fun D σ H ⟨tk, H0, F0, F, g, w, o, w', R, ef, q⟩ => by
  obtain ⟨d, w1, e1, ef⟩ := bnd_eq (show bnd (f g w) _ = _ from ef)
  cases ef
  exact ⟨tk, H0, F0, F, g, w, d, _, R, e1, fun v H' F' R' x r => q v H' F' R'.sub R'.f0 R'.k0 R'.n0 R'.wat r⟩
theorem ES.if {c : Expr} {a b : List Stmt} {fc : T} {fa fb : S} {pos : Pos} (hc : ET X O c fc) (ha : ESs X O O' Ol a fa) (hb : ESs X O O' Ol b fb) : ES X O O' Ol (.If c a b pos) (sIf fc fa fb) := PS.imp (ps_if hc ha hb) fun D σ H ⟨tk, H0, F0, F, g, w, o, w', R, ef, q⟩ => by
  obtain ⟨c, w1, e1, ef⟩ := bnd_eq (show bnd (fc g w) _ = _ from ef)
  refine ⟨tk, H0, F0, F, g, w, c, w1, R, e1, fun H1 F1 R1 x1 => ?_⟩
  cases c with
  | true =>
    rw [if_pos rfl] at ef
    exact iteT ⟨tk, H0, F0, F1, g, w1, o, w', R1, ef, q⟩
  | false =>
    rw [if_neg Bool.false_ne_true] at ef
    exact iteF ⟨tk, H0, F0, F1, g, w1, o, w', R1, ef, q⟩
/-! ### stores -/
theorem ES.set {tg e : Expr} {f : E} {ts : List Nat} {t : G} {pos : Pos} (h : EV X O e f) (hg : PG X tg (rdG X.K X.mg O ts t)) (hs : swapsWithSole [tg] e pos.line X.env = pure false := by rfl) (hw : swappedStores [tg] e X.env = pure none := by rfl) (h1 : (assignEach [tg] X.env).map (·.2) = [assign tg X.env] := by rfl) :
    ES X O O Ol (.Assign [tg] e pos) (sSet t f) := PS.imp (ps_asg h hg hs hw h1) fun D σ H ⟨tk, H0, F0, F, g, w, o, w', R, ef, q⟩ => by
  obtain ⟨d, w1, e1, ef⟩ := bnd_eq (show bnd (f g w) _ = _ from ef)
  refine ⟨tk, H0, F0, F, g, w, d, w1, R, e1, fun v H1 F1 R1 x1 r1 => ?_⟩
  split at ef <;> first | cases ef | skip
  rename_i g1 hg1
  exact ⟨tk, H0, F0, F1, g, _, d, _, R1, r1, hg1, fun σ2 H2 F2 R2 x2 _ => q σ2 H2 F2 R2⟩
/-- a comprehension to a local name, on one line -/
theorem tAsg_own {Kx : PySem.W.Frag} {mx : Str → Option Value} {i : Nat} {f : E} (hO : ∀ j, j ∈ O' ↔ j = i ∨ j ∈ O) : ∀ D σ H, rdS Kx mx O O' Ol (sSet (gName i) f) D σ H → tAsg (rdO Kx mx O f) (L2.gName i) D σ H := fun D σ H ⟨tk, H0, F0, F, g, w, o, w', R, ef, q⟩ => by
  obtain ⟨d, w1, e1, ef⟩ := bnd_eq (show bnd (f g w) _ = _ from ef)
  simp only [gName] at ef
  refine ⟨tk, H0, F0, F, g, w, d, w1, R, e1, fun v H1 F1 R1 x1 r1 => ?_⟩
  obtain ⟨a, u, rfl, h2, h3, hH, h5, h6⟩ := r1
  have h0 : H0 a = none := by
    cases z : H0 a with
    | none => rfl
    | some y => rw [R.k0 a y z h5] at hH; cases hH
  have no : ∀ j e, j ∈ O → g[j]? = some (some e) → σ[j]? ≠ some (some (.ref a)) := fun j e hj hg z => by
    obtain ⟨b, y, k1, k2, _⟩ := R.own j e hj hg
    rw [z] at k1
    cases k1
    rw [hH] at k2; cases k2
  split at ef
  · rename_i g1 hg1
    split at hg1 <;> first | cases hg1 | skip
    rename_i hi
    cases ef
    exact q _ H1 F1 (R1.setOwn hO hi h2 h3 h0 h5 h6 no)
  · cases ef
def addO (i : Nat) (O O' : List Nat) : Bool := O'.contains i && O.all (fun j => O'.contains j) && O'.all (fun j => j == i || O.contains j)
theorem addO_iff {i : Nat} {O O' : List Nat} (h : addO i O O' = true) : ∀ j, j ∈ O' ↔ j = i ∨ j ∈ O := by
  simp only [addO, Bool.and_eq_true, List.all_eq_true, Bool.or_eq_true, List.contains_iff_mem, beq_iff_eq] at h
  exact fun j => ⟨fun k => h.2 j k, fun k => k.elim (fun z => z ▸ h.1.1) (h.1.2 j)⟩
/-- a new object to a name: the slot's own -/
theorem ES.setO {x : Str} {px pos : Pos} {e : Expr} {f : E} (i : Nat) (hN : X.N.Nodup) (h : EO X O e f) (hi : X.N[i]? = some x := by rfl) (hx : Loc X.env.scope x := by first | exact Or.inl rfl | exact Or.inr rfl) (hf : X.fn x = true ∨ X.env.scope.names.lookup x = some .local := by first | exact .inl rfl | exact .inr rfl)
    (hs : swapsWith e (some (.Name x px)) pos.line X.env = pure false := by rfl) (hO : addO i O O' = true := by rfl) : ES X O O' Ol (.Assign [.Name x px] e pos) (sSet (gName i) f) := PS.imp (ps_set hN hi hx h hs hf) (tAsg_own (addO_iff hO))
theorem ES.setLc {ts : List Nat} {y : Str} {py : Pos} {elt tg iter : Expr} {ifs : List Expr} {scope : Scope} {own : List (Str × Nat)} {pos spos : Pos} {fi : Es} {t : G} {c : T} {f : E} (i : Nat) (hc : X.calm = true) (hN : X.N.Nodup) (hi : EI X O tg iter fi) (ok : BlkOk X.N X.env.scope scope own)
    (hg : ∀ (s : Shared) (H : Hp) (C : Addr) (cl : List (Str × Addr)) (fp : List Addr), PG (X.blk s H scope (compEnvC scope cl C X.env) fp) tg (rdG X.K X.mg O ts t)) (ht : ∀ (s : Shared) (H : Hp) (C : Addr) (cl : List (Str × Addr)) (fp : List Addr), PTs (X.blk s H scope (compEnvC scope cl C X.env) fp) ifs (rdT X.K X.mg O c))
    (he : ∀ (s : Shared) (H : Hp) (C : Addr) (cl : List (Str × Addr)) (fp : List Addr), EV (X.blk s H scope (compEnvC scope cl C X.env) fp) O elt f) (hsw : swapsWith (.ListComp elt [⟨tg, iter, ifs, 0⟩] scope pos) (some (.Name y py)) spos.line X.env = pure true)
    (hy : X.N[i]? = some y := by rfl) (hyl : X.env.scope.names.lookup y = some .local := by rfl) (hs : ∀ x, foldedSetIterable iter X.env x = pure x := by intro _; rfl) (hts : ∀ i ∈ ts, i ∈ own.map (·.2) := by decide) (hO : addO i O O' = true := by rfl) :
    ES X O O' Ol (.Assign [.Name y py] (.ListComp elt [⟨tg, iter, ifs, 0⟩] scope pos) spos) (sSet (gName i) (cLc fi t c f (own.map (·.2)))) :=
  PS.imp (ps_setLc hc hN hy hyl hsw hi ok hg ht he hs) fun D σ H h => lc_read hts _ _ _ (tAsg_own (addO_iff hO) D σ H h)
/-! the same, the slot not its own: frozen at once -/
theorem tAsg_val {Kx : PySem.W.Frag} {mx : Str → Option Value} {i : Nat} {f : E} (hO : i ∉ O) : ∀ D σ H, rdS Kx mx O O Ol (sSet (gName i) f) D σ H → tAsg (rd Kx mx O f) (L2.gName i) D σ H := fun D σ H ⟨tk, H0, F0, F, g, w, o, w', R, ef, q⟩ => by
  obtain ⟨d, w1, e1, ef⟩ := bnd_eq (show bnd (f g w) _ = _ from ef)
  simp only [gName] at ef
  refine ⟨tk, H0, F0, F, g, w, d, w1, R, e1, fun v H1 F1 R1 x1 r1 => ?_⟩
  split at ef
  · rename_i g1 hg1
    split at hg1 <;> first | cases hg1 | skip
    rename_i hi
    cases ef
    exact q _ H1 F1 (R1.set hO r1 hi)
  · cases ef
/-! ### calls that change an own object -/
theorem mutS_eq {i : Nat} {f : D → Option D} {g : Env} {w : Wd} {o : Out} {w' : Wd} (h : mutS i f g w = some (o, w')) : ∃ x y, g[i]? = some (some x) ∧ f x = some y ∧ o = .nx (g.set i (some y)) ∧ w' = w := by
  simp only [mutS] at h
  split at h <;> first | cases h | skip
  rename_i x hx
  split at h <;> first | cases h | skip
  rename_i y hy
  exact ⟨x, y, Option.join_eq_some_iff.mp hx, hy, rfl, rfl⟩
theorem apD_eq {x d y : D} (h : apD x d = some y) : ∃ ds, x = .list ds ∧ ds.length < sizeLine ∧ y = .list (ds ++ [d]) := by
  cases x <;> simp only [apD] at h <;> first | cases h | skip
  split at h
  · rename_i hlt
    exact ⟨_, rfl, hlt, (Option.some.inj h).symm⟩
  · cases h
theorem exD_eq {x d y : D} (h : exD x d = some y) : ∃ ds es, x = .list ds ∧ d = .list es ∧ ds.length + es.length ≤ sizeLine ∧ y = .list (ds ++ es) := by
  cases x <;> cases d <;> simp only [exD] at h <;> first | cases h | skip
  split at h
  · rename_i hlt
    exact ⟨_, _, rfl, rfl, hlt, (Option.some.inj h).symm⟩
  · cases h
theorem RepO.lst {Kx : PySem.W.Frag} {mx : Str → Option Value} {tk : Tk Kx mx} {F : Hp} {ds : List D} {u : HO} (h : RepO tk F (.list ds) u) : ∃ xs, u = .lst xs ∧ RepL tk F ds xs := by
  cases u <;> simp only [RepO] at h
  exact ⟨_, rfl, h⟩
/-- the name of an own list, as a receiver -/
theorem ES.app {x : Str} {px apos cpos spos : Pos} {e : Expr} {f : E} (i : Nat) (h : EV X O e f) (hO : i ∈ O := by decide) (hN : X.N[i]? = some x := by rfl) (hv : Vis X.env.scope x := by first | exact Or.inl rfl | exact Or.inr (Or.inl rfl) | exact Or.inr (Or.inr rfl)) (hd : (x == ("__debug__" : Str)) = false := by decide)
    (hcd : (x == ("__classdict__" : Str)) = false := by decide) (hs : starEach [e] X.env = (false, eval e X.env) :: starEach [] X.env := by rfl)
    (hbase : attributeBase (.Name x px) "append" X.env (eval (.Name x px) X.env) = eval (.Name x px) X.env := by rfl)
    (hfew : ((backTo cpos (starEach [e] X.env)).all (fun x => !x.1) && (backToKw cpos (keywordEach [] X.env)).all (fun x => x.1.isSome)
      && decide (([e] : List Expr).length + ([] : List Keyword).length + (if ([] : List Keyword).isEmpty then 0 else 1) < 30)) = true := by rfl)
    (hline : (apos.endLine == cpos.line) = true := by rfl) (hplain : (backTo cpos (starEach [] X.env)).any (·.1) = false := by rfl)
    (hsw : swapsWith (.Call (.Attribute (.Name x px) "append" apos) [e] [] cpos) none spos.line X.env = pure false := by rfl) :
    ES X O O Ol (.Expr (.Call (.Attribute (.Name x px) "append" apos) [e] [] cpos) spos) (sApp i f) :=
  PS.imp (ps_expr (pe_bm PySem.F.plainAttrs_list PySem.F.slot_list_append PySem.F.type_list_append mt_append (pe_var (i := i) hN hv hd hcd) (EA.cons h EA.nil hs) hbase hfew hline hs hplain) hsw) fun D σ H ⟨tk, H0, F0, F, g, w, o, w', R, ef, q⟩ => by
  obtain ⟨d, w1, e1, ef⟩ := bnd_eq (show bnd (f g w) _ = _ from ef)
  obtain ⟨x0, y0, hg, hf, rfl, rfl⟩ := mutS_eq ef
  obtain ⟨ds, rfl, hlt, rfl⟩ := apD_eq hf
  obtain ⟨a, u, h1, h2, h3, h4, h5, h6⟩ := R.own i _ hO hg
  obtain ⟨xs, rfl, h6⟩ := RepO.lst h6
  refine ⟨.ref a, h1, .inl ⟨rfl, _, .inl (.inl h2)⟩, tk, H0, F0, F, g, w, [d], w', R, by simp [cArgs, e1], fun vs H1 F1 R1 x1 r1 => ?_⟩
  match vs, r1 with
  | [], r1 => simp only [RepL] at r1
  | _ :: _ :: _, r1 => simp only [RepL] at r1; exact r1.2.elim
  | [v], r1 =>
    simp only [RepL] at r1
    have k2 := x1.gr a _ h2 h5
    refine ⟨a, xs, v, rfl, rfl, k2, by rw [← h6.length]; exact hlt, ?_⟩
    exact q σ _ F1 (R1.mut hO hg h1 (by simp only [RepO]; exact (RepL.same x1.sm _ _ h6).snoc r1.1))
end
end Q

set_option Elab.async false
set_option linter.all false
set_option autoImplicit false
set_option maxRecDepth 100000
/-! QS7: loops, several stores at once, names changed in place. -/
namespace Q
open PySem PySem.Spec PyProof.Rows L2
section
variable {Kx : PySem.W.Frag} {mx : Str → Option Value} {tk : Tk Kx mx} {H0 F0 F1 : Hp} {O : List Nat} {σ : L2.St} {H F : Hp} {g : Env} {w : Wd}
/-- from now on F1 is what was frozen first -/
theorem Rel.now (R : Rel tk H0 F0 O σ H F g w) : Rel tk H0 F O σ H F g w := ⟨R.len, R.sub, Same.refl F, R.k0, fun _ _ _ h => h, R.val, R.own, R.sep, R.wat⟩
theorem Rel.ago (R : Rel tk H0 F1 O σ H F g w) (s : Same F0 F1) (n : New tk H0 F0 F1) : Rel tk H0 F0 O σ H F g w :=
  ⟨R.len, R.sub, s.trans R.f0, R.k0, fun a na ha fa => R.n0 a na ha (n a na ha fa), R.val, R.own, R.sep, R.wat⟩
end
section
variable {X : Cx} {O O' Oh Ob Ol : List Nat}
theorem ES.for {tg iter : Expr} {body : List Stmt} {fi : Es} {t : G} {ts : List Nat} {fb : S} {pos : Pos} (vs : List Nat) (hp : PassesOwn (model X.prog X.w) X.A X.env X.xe) (hc : X.calm = true) (hi : EI X O tg iter fi) (hg : PG X tg (rdG X.K X.mg Oh ts t)) (hb : ESs X Oh Ob Oh body fb)
    (h1 : sameOff vs O Oh = true := by rfl) (h2 : sameOff vs Ob Oh = true := by rfl) (h3 : sameOff vs Oh O' = true := by rfl) (hs : ∀ x, foldedSetIterable iter X.env x = pure x := by intro _; rfl) : ES X O O' Ol (.For tg iter body [] pos) (sFor fi t fb vs) :=
  PS.imp (ps_for hp hc hi hg hb hs) fun D σ H ⟨tk, H0, F0, F, g, w, o, w', R, ef, q⟩ => by
  obtain ⟨xs, w1, e1, ef⟩ := bnd_eq (show bnd (fi g w) _ = _ from ef)
  refine ⟨tk, H0, F0, F, g, w, xs, w1, R, e1, fun J H1 F1 R1 x1 it => ?_⟩
  have s01 : Same F0 F1 := R1.f0
  have n01 : New tk H0 F0 F1 := R1.n0
  refine ⟨fun i m σ H => m = xs.length - i ∧ i ≤ xs.length ∧ ∃ F g w, Rel tk H0 F1 Oh σ H F (wipeE g vs) w ∧ loopS t fb vs (xs.drop i) g w = some (o, w'), ⟨_, rfl, Nat.zero_le _, F1, g, w1, (R1.now.wipeG vs).off (sameOff_iff h1), ef⟩, ?_⟩
  rintro i m σ2 H2 ⟨rfl, hile, F2, g2, w2, R2, hloop⟩
  have io := it F2 H2 R2.f0 R2.sub i
  by_cases hlt : i < xs.length
  · have hx : xs[i]? = some xs[i] := List.getElem?_eq_getElem hlt
    obtain ⟨go, yl⟩ := io.1 _ hx
    rw [List.drop_eq_getElem_cons hlt] at hloop
    simp only [loopS] at hloop
    split at hloop <;> first | cases hloop | skip
    rename_i g3 hg3
    refine .inr ⟨go, fun σ H => ∃ F g w, Rel tk H0 F1 Oh σ H F (wipeE g vs) w ∧ loopS t fb vs (xs.drop (i + 1)) g w = some (o, w'), fun σ' H' hN => ⟨_, Nat.sub_lt_sub_left hlt (Nat.lt_succ_self i), rfl, hlt, hN⟩, fun x H3 y => ?_⟩
    have ⟨F3, R3, r3⟩ : ∃ F3, Rel tk H0 F1 Oh σ2 H3 F3 (wipeE g2 vs) w2 ∧ Rep tk F3 xs[i] x := by
      rcases yl x H3 y with ⟨rfl, r⟩ | ⟨p, u, hp, rfl, r⟩
      · exact ⟨F2, R2, r⟩
      · exact ⟨_, (R2.alloc hp u).1, r⟩
    refine ⟨tk, H0, F1, F3, _, w2, xs[i], g3, R3, r3, hg3, fun σ4 H4 F4 R4 x4 _ => ?_⟩
    obtain ⟨o5, w5, e5, hloop⟩ := bnd_eq hloop
    refine ⟨tk, H0, F1, F4, g3, w2, o5, w5, R4, e5, ?_⟩
    cases o5 with
    | nx g6 =>
      simp only at hloop
      exact fun σ' H' F' R' => ⟨F', g6, w5, (R'.wipeG vs).off (sameOff_iff h2), hloop⟩
    | ct g6 =>
      simp only at hloop
      exact fun σ' H' F' R' => ⟨F', g6, w5, R'.wipeG vs, hloop⟩
    | bk g6 =>
      simp only at hloop
      cases hloop
      exact fun σ' H' F' R' => q σ' H' F' (((R'.wipeG vs).off (sameOff_iff h3)).ago s01 n01)
    | rt d =>
      simp only at hloop
      cases hloop
      exact fun v H' F' a1 a2 a3 a4 a5 a6 => q v H' F' a1 (s01.trans a2) a3 (fun a na ha fa => a4 a na ha (n01 a na ha fa)) a5 a6
  · have e : i = xs.length := by omega
    subst e
    rw [List.drop_length] at hloop
    have hloop : some (Out.nx (wipeE g2 vs), w2) = some (o, w') := hloop
    cases hloop
    exact .inl ⟨io.2 (Nat.le_refl _), q σ2 H2 F2 ((R2.off (sameOff_iff h3)).ago s01 n01)⟩
theorem ES.while {c : Expr} {body : List Stmt} {fc : T} {fb : S} {pos : Pos} (vs : List Nat) (n : Nat) (hp : PassesOwn (model X.prog X.w) X.A X.env X.xe) (hc : ET X Oh c fc) (hb : ESs X Oh Ob Oh body fb)
    (h1 : sameOff vs O Oh = true := by rfl) (h2 : sameOff vs Ob Oh = true := by rfl) (h3 : sameOff vs Oh O' = true := by rfl) : ES X O O' Ol (.While c body [] pos) (sWhile fc fb vs n) :=
  PS.imp (ps_while hp hc hb) fun D σ H ⟨tk, H0, F0, F, g, w, o, w', R, ef, q⟩ => by
  refine ⟨fun m σ H => ∃ F g w, Rel tk H0 F0 Oh σ H F (wipeE g vs) w ∧ whileS fc fb vs m g w = some (o, w'), ⟨n, F, g, w, (R.wipeG vs).off (sameOff_iff h1), ef⟩, ?_⟩
  rintro m σ2 H2 ⟨F2, g2, w2, R2, hl⟩
  cases m with
  | zero => simp only [whileS] at hl; cases hl
  | succ m =>
    simp only [whileS] at hl
    obtain ⟨k, w3, e3, hl⟩ := bnd_eq hl
    refine ⟨tk, H0, F0, F2, _, w2, k, w3, R2, e3, fun H3 F3 R3 x3 => ?_⟩
    cases k with
    | false =>
      rw [if_neg Bool.false_ne_true] at hl
      cases hl
      exact iteF (q σ2 H3 F3 (R3.off (sameOff_iff h3)))
    | true =>
      rw [if_pos rfl] at hl
      refine iteT ⟨fun σ H => ∃ F g w, Rel tk H0 F0 Oh σ H F (wipeE g vs) w ∧ whileS fc fb vs m g w = some (o, w'), fun σ' H' hN => ⟨m, Nat.lt_succ_self m, hN⟩, ?_⟩
      obtain ⟨o5, w5, e5, hl⟩ := bnd_eq hl
      refine ⟨tk, H0, F0, F3, _, w3, o5, w5, R3, e5, ?_⟩
      cases o5 with
      | nx g6 =>
        simp only at hl
        exact fun σ' H' F' R' => ⟨F', g6, w5, (R'.wipeG vs).off (sameOff_iff h2), hl⟩
      | ct g6 =>
        simp only at hl
        exact fun σ' H' F' R' => ⟨F', g6, w5, R'.wipeG vs, hl⟩
      | bk g6 =>
        simp only at hl
        cases hl
        exact fun σ' H' F' R' => q σ' H' F' ((R'.wipeG vs).off (sameOff_iff h3))
      | rt d =>
        simp only at hl
        cases hl
        exact q
/-! ### x += e of ints -/
def sAugN (i : Nat) (f : D → D → Option D) (e : E) : S := fun g w => match (g[i]?).join with
  | some x => bnd (e g w) fun d w1 => match f x d with
    | some y => some (.nx (g.set i (some y)), w1)
    | none => none
  | none => none
def addI : D → D → Option D
  | .int i, .int j => some (.int (i + j))
  | _, _ => none
theorem augN_read {Kx : PySem.W.Frag} {mx : Str → Option Value} {i : Nat} {f : D → D → Option D} {gi : Int → Int → Int} {e : E} (hO : i ∉ O) (hf : ∀ x y d, f x y = some d → ∃ a b, x = .int a ∧ y = .int b ∧ d = .int (gi a b)) : ∀ D σ H, rdS Kx mx O O Ol (sAugN i f e) D σ H → tAug i (rdB Kx mx O e) (ipI gi) D σ H := fun D σ H ⟨tk, H0, F0, F, g, w, o, w', R, ef, q⟩ => by
  simp only [sAugN] at ef
  split at ef
  · rename_i x hx
    obtain ⟨d, w1, e1, ef⟩ := bnd_eq ef
    split at ef
    · rename_i y hy
      cases ef
      obtain ⟨a, b, rfl, rfl, rfl⟩ := hf x d y hy
      have hg := Option.join_eq_some_iff.mp hx
      obtain ⟨v, h1, h2⟩ := R.val i _ hO hg
      simp only [Rep] at h2
      subst h2
      refine ⟨_, h1, tk, H0, F0, F, g, w, _, w', R, e1, fun v H1 F1 R1 x1 r1 => ?_⟩
      simp only [RepB, Rep] at r1
      refine ⟨a, b, rfl, r1, q _ H1 F1 (R1.set hO (by simp only [Rep]) (List.getElem?_eq_some_iff.mp hg).1)⟩
    · cases ef
  · cases ef
theorem ES.augAdd {x : Str} {px pos : Pos} {e : Expr} {f : E} (i : Nat) (hN : X.N.Nodup) (h : EB X O e f) (hO : i ∉ O := by decide) (hi : X.N[i]? = some x := by rfl) (hx : Loc X.env.scope x := by first | exact Or.inl rfl | exact Or.inr rfl) (hf : X.fn x = true ∨ X.env.scope.names.lookup x = some .local := by first | exact .inl rfl | exact .inr rfl) :
    ES X O O Ol (.AugAssign (.Name x px) .Add e pos) (sAugN i addI f) := PS.imp (ps_aug hN hi hx h ip_add hf) (augN_read hO fun x y d e => by
    cases x <;> cases y <;> simp only [addI] at e <;> first | cases e | skip
    exact ⟨_, _, rfl, rfl, rfl⟩)
theorem ES.augSub {x : Str} {px pos : Pos} {e : Expr} {f : E} (i : Nat) (hN : X.N.Nodup) (h : EB X O e f) (hO : i ∉ O := by decide) (hi : X.N[i]? = some x := by rfl) (hx : Loc X.env.scope x := by first | exact Or.inl rfl | exact Or.inr rfl) (hf : X.fn x = true ∨ X.env.scope.names.lookup x = some .local := by first | exact .inl rfl | exact .inr rfl) :
    ES X O O Ol (.AugAssign (.Name x px) .Sub e pos) (sAugN i subD f) := PS.imp (ps_aug hN hi hx h ip_sub hf) (augN_read hO fun x y d e => by
    cases x <;> cases y <;> simp only [subD] at e <;> first | cases e | skip
    exact ⟨_, _, rfl, rfl, rfl⟩)
/-! ### x.extend(e) -/
def rExtR : V → List V → Hp → VK → Prop := fun x vs H Q => ∃ l b xs zs, x = .ref l ∧ vs = [.ref b] ∧ H l = some (.lst xs) ∧ Rd H b (.lst zs) ∧ xs.length + zs.length ≤ sizeLine ∧ Q .non (upd H l (.lst (xs ++ zs)))
theorem mt_extR : MtM X "list.extend" rExtR := by
  intro pins s σ H x vs v us Q I rx rv h
  obtain ⟨l, b, xs, zs, rfl, rfl, hl, hb, hz, q⟩ := h
  cases rx
  obtain ⟨u, rfl, ru⟩ := rv.one
  cases ru
  obtain ⟨za, its, n, ra, la, ea⟩ := I.lstM hl
  obtain ⟨zb, jts, m, rb, lb, eb⟩ := lstAt I hb
  have hn : its.toArray.size + jts.toArray.size ≤ sizeLine := by simp only [List.size_toArray]; omega
  have h63 := line63
  have hq : ¬ (!its.toArray.isEmpty && Builtin.List.listTooLong (its.toArray.size + jts.toArray.size)) = true := fun z => by
    simp only [notLongL hn, Bool.and_false] at z
    cases z
  have hm := AutoSeq1.list_extend_list_list_0 l its.toArray n b jts.toArray m hq (by rw [List.size_toArray]; omega) (by omega)
  refine call_meets F.slot_list_extend ⟨_, ea, rfl⟩
    F.entry_list_extend (F.args_list_extend_2 _ _) hm ⟨ea, eb, ?_⟩
  exact ⟨.non, _, I.lset (its' := its ++ jts) hl ea (by simp) (ra.append rb) (by rw [List.length_append]; omega), rfl, q⟩
theorem ES.ext {x : Str} {px apos cpos spos : Pos} {e : Expr} {f : E} (i : Nat) (h : EV X O e f) (hO : i ∈ O := by decide) (hN : X.N[i]? = some x := by rfl) (hv : Vis X.env.scope x := by first | exact Or.inl rfl | exact Or.inr (Or.inl rfl) | exact Or.inr (Or.inr rfl)) (hd : (x == ("__debug__" : Str)) = false := by decide)
    (hcd : (x == ("__classdict__" : Str)) = false := by decide) (hs : starEach [e] X.env = (false, eval e X.env) :: starEach [] X.env := by rfl)
    (hbase : attributeBase (.Name x px) "extend" X.env (eval (.Name x px) X.env) = eval (.Name x px) X.env := by rfl)
    (hfew : ((backTo cpos (starEach [e] X.env)).all (fun x => !x.1) && (backToKw cpos (keywordEach [] X.env)).all (fun x => x.1.isSome)
      && decide (([e] : List Expr).length + ([] : List Keyword).length + (if ([] : List Keyword).isEmpty then 0 else 1) < 30)) = true := by rfl)
    (hline : (apos.endLine == cpos.line) = true := by rfl) (hplain : (backTo cpos (starEach [] X.env)).any (·.1) = false := by rfl)
    (hsw : swapsWith (.Call (.Attribute (.Name x px) "extend" apos) [e] [] cpos) none spos.line X.env = pure false := by rfl) :
    ES X O O Ol (.Expr (.Call (.Attribute (.Name x px) "extend" apos) [e] [] cpos) spos) (sExt i f) :=
  PS.imp (ps_expr (pe_bm PySem.F.plainAttrs_list PySem.F.slot_list_extend PySem.F.type_list_extend mt_extR (pe_var (i := i) hN hv hd hcd) (EA.cons h EA.nil hs) hbase hfew hline hs hplain) hsw) fun D σ H ⟨tk, H0, F0, F, g, w, o, w', R, ef, q⟩ => by
  obtain ⟨d, w1, e1, ef⟩ := bnd_eq (show bnd (f g w) _ = _ from ef)
  obtain ⟨x0, y0, hg, hf, rfl, rfl⟩ := mutS_eq ef
  obtain ⟨ds, es, rfl, rfl, hlt, rfl⟩ := exD_eq hf
  obtain ⟨a, u, h1, h2, h3, h4, h5, h6⟩ := R.own i _ hO hg
  obtain ⟨xs, rfl, h6⟩ := RepO.lst h6
  refine ⟨.ref a, h1, .inl ⟨rfl, _, .inl (.inl h2)⟩, tk, H0, F0, F, g, w, [.list es], w', R, by simp [cArgs, e1], fun vs H1 F1 R1 x1 r1 => ?_⟩
  match vs, r1 with
  | [], r1 => simp only [RepL] at r1
  | _ :: _ :: _, r1 => simp only [RepL] at r1; exact r1.2.elim
  | [v], r1 =>
    simp only [RepL, Rep] at r1
    obtain ⟨⟨b, zs, rfl, rb, lb⟩, _⟩ := r1
    have k2 := x1.gr a _ h2 h5
    refine ⟨a, b, xs, zs, rfl, rfl, k2, R1.sub.rdL rb, by rw [← h6.length, ← lb.length]; exact hlt, ?_⟩
    exact q σ _ F1 (R1.mut hO hg h1 (by simp only [RepO]; exact (RepL.same x1.sm _ _ h6).append lb))
/-! ### x[k] = e of an own list -/
def setL : D → D → D → Option D
  | .list xs, .int k, d => (ixN xs.length k).map fun j => .list (xs.set j d)
  | _, _, _ => none
def sPutL (i : Nat) (k e : E) : S := fun g w => bnd (e g w) fun d w1 => bnd (k g w1) fun kd w2 => mutS i (setL · kd d) g w2
theorem putL_read {Kx : PySem.W.Frag} {mx : Str → Option Value} {i : Nat} {k e : E} (hO : i ∈ O) : ∀ D σ H, rdS Kx mx O O Ol (sPutL i k e) D σ H → tAsg (rd Kx mx O e) (gSub (tVar i) (rdB Kx mx O k) rSetL) D σ H := fun D σ H ⟨tk, H0, F0, F, g, w, o, w', R, ef, q⟩ => by
  obtain ⟨d, w1, e1, ef⟩ := bnd_eq (show bnd (e g w) _ = _ from ef)
  obtain ⟨kd, w2, e2, ef⟩ := bnd_eq ef
  obtain ⟨x0, y0, hg, hf, rfl, rfl⟩ := mutS_eq ef
  have e6 : ∃ ds n j, x0 = .list ds ∧ kd = .int n ∧ ixN ds.length n = some j ∧ y0 = .list (ds.set j d) := by
    cases x0 <;> cases kd <;> simp only [setL] at hf <;> first | cases hf | skip
    obtain ⟨j, hj, rfl⟩ := Option.map_eq_some_iff.mp hf
    exact ⟨_, _, j, rfl, rfl, hj, rfl⟩
  obtain ⟨ds, n, j, rfl, rfl, hj, rfl⟩ := e6
  obtain ⟨a, u, h1, h2, h3, h4, h5, h6⟩ := R.own i _ hO hg
  obtain ⟨xs, rfl, h6⟩ := RepO.lst h6
  refine ⟨tk, H0, F0, F, g, w, d, w1, R, e1, fun v H1 F1 R1 x1 r1 => ⟨.ref a, h1, tk, H0, F0, F1, g, w1, _, w', R1, e2, fun vk H2 F2 R2 x2 r2 => ?_⟩⟩
  simp only [RepB, Rep] at r2
  subst r2
  have x12 := x1.trans x2
  refine ⟨a, xs, n, j, rfl, rfl, x12.gr a _ h2 h5, by rw [← h6.length]; exact hj, ?_⟩
  exact q σ _ F2 (R2.mut hO hg h1 (by simp only [RepO]; exact RepL.set (Rep.same x2.sm _ _ r1) j (RepL.same x12.sm _ _ h6)))
theorem ES.putL {x : Str} {px spos pos : Pos} {ke e : Expr} {fk f : E} (i : Nat) (h : EV X O e f) (hk : EB X O ke fk) (hO : i ∈ O := by decide) (hN : X.N[i]? = some x := by rfl) (hv : Vis X.env.scope x := by first | exact Or.inl rfl | exact Or.inr (Or.inl rfl) | exact Or.inr (Or.inr rfl)) (hd : (x == ("__debug__" : Str)) = false := by decide)
    (hcd : (x == ("__classdict__" : Str)) = false := by decide) (ha : ∀ v, assign (.Subscript (.Name x px) ke spos) X.env v = (do
      let ov ← holding [v] (eval (.Name x px) X.env)
      let iv ← holding [v, ov] (eval ke X.env)
      standAt spos
      holding [v, ov, iv] (setItem ov iv v)
      release [v, ov, iv] []) := by intro _; rfl) (hs : swapsWithSole [.Subscript (.Name x px) ke spos] e pos.line X.env = pure false := by rfl) (hw : swappedStores [.Subscript (.Name x px) ke spos] e X.env = pure none := by rfl)
    (h1 : (assignEach [.Subscript (.Name x px) ke spos] X.env).map (·.2) = [assign (.Subscript (.Name x px) ke spos) X.env] := by rfl) :
    ES X O O Ol (.Assign [.Subscript (.Name x px) ke spos] e pos) (sPutL i fk f) := PS.imp (ps_asg h (pg_sub (pe_var (i := i) hN hv hd hcd) hk set_list ha) hs hw h1) (putL_read hO)
end
end Q

set_option Elab.async false
set_option linter.all false
set_option autoImplicit false
set_option maxRecDepth 100000
/-! QS8: a, b = x, y; defs and their calls. -/
namespace Q
open PySem PySem.Spec PyProof.Rows L2
/-! ### several stores at once -/
def setAll (σ : L2.St) : List Nat → List V → L2.St
  | i :: is, v :: vs => setAll (σ.set i (some v)) is vs
  | _, _ => σ
/-- values, some of them new objects of their own -/
def RepM {Kx : PySem.W.Frag} {mx : Str → Option Value} (tk : Tk Kx mx) (H F' H' : Hp) : List Bool → List D → List V → Prop
  | [], [], [] => True
  | false :: ks, d :: ds, v :: vs => Rep tk F' d v ∧ RepM tk H F' H' ks ds vs
  | true :: ks, d :: ds, v :: vs => (∃ a o, v = .ref a ∧ H' a = some o ∧ F' a = none ∧ H a = none ∧ tk.pw ≠ some a ∧ RepO tk F' d o ∧ ∀ b, (true, V.ref b) ∈ ks.zip vs → b ≠ a) ∧ RepM tk H F' H' ks ds vs
  | _, _, _ => False
def rdM (Kx : PySem.W.Frag) (mx : Str → Option Value) (O : List Nat) (ks : List Bool) (f : Es) : TA := fun σ H Q => ∃ tk : Tk Kx mx, ∃ H0 F0 F g w ds w', Rel tk H0 F0 O σ H F g w ∧ f g w = some (ds, w') ∧ ∀ vs H' F', Rel tk H0 F0 O σ H' F' g w' → Ex tk F H F' H' → RepM tk H F' H' ks ds vs → Q vs H'
abbrev EM (X : Cx) (O : List Nat) (ks : List Bool) (es : List Expr) (f : Es) : Prop := PA X es (rdM X.K X.mg O ks f)
theorem RepM.len {Kx : PySem.W.Frag} {mx : Str → Option Value} {tk : Tk Kx mx} {H F' H' : Hp} : ∀ {ks : List Bool} {ds : List D} {vs : List V}, RepM tk H F' H' ks ds vs → ds.length = ks.length ∧ vs.length = ks.length
  | [], [], [], _ => ⟨rfl, rfl⟩
  | true :: ks, d :: ds, v :: vs, h => by
    simp only [RepM] at h
    obtain ⟨a, b⟩ := RepM.len h.2
    exact ⟨by simp [a], by simp [b]⟩
  | false :: ks, d :: ds, v :: vs, h => by
    simp only [RepM] at h
    obtain ⟨a, b⟩ := RepM.len h.2
    exact ⟨by simp [a], by simp [b]⟩
  | [], _ :: _, _, h => by simp only [RepM] at h
  | [], [], _ :: _, h => by simp only [RepM] at h
  | true :: _, [], _, h => by simp only [RepM] at h
  | false :: _, [], _, h => by simp only [RepM] at h
  | true :: _, _ :: _, [], h => by simp only [RepM] at h
  | false :: _, _ :: _, [], h => by simp only [RepM] at h
/-- from an earlier state on -/
theorem RepM.from {Kx : PySem.W.Frag} {mx : Str → Option Value} {tk : Tk Kx mx} {Hs H1 F' H' : Hp} (g : Grow tk Hs H1) : ∀ {ks : List Bool} {ds : List D} {vs : List V}, RepM tk H1 F' H' ks ds vs → RepM tk Hs F' H' ks ds vs
  | [], [], [], _ => by simp only [RepM]
  | true :: ks, d :: ds, v :: vs, h => by
    simp only [RepM] at h ⊢
    obtain ⟨⟨a, o, e, h1, h2, h3, h4, h5⟩, r⟩ := h
    refine ⟨⟨a, o, e, h1, h2, ?_, h4, h5⟩, RepM.from g r⟩
    cases q : Hs a with
    | none => rfl
    | some u => rw [g a u q h4] at h3; cases h3
  | false :: ks, d :: ds, v :: vs, h => by
    simp only [RepM] at h ⊢
    exact ⟨h.1, RepM.from g h.2⟩
  | [], _ :: _, _, h => by simp only [RepM] at h
  | [], [], _ :: _, h => by simp only [RepM] at h
  | true :: _, [], _, h => by simp only [RepM] at h
  | false :: _, [], _, h => by simp only [RepM] at h
  | true :: _, _ :: _, [], h => by simp only [RepM] at h
  | false :: _, _ :: _, [], h => by simp only [RepM] at h
/-- every own object among the values is new -/
theorem RepM.new {Kx : PySem.W.Frag} {mx : Str → Option Value} {tk : Tk Kx mx} {Hs F' H' : Hp} : ∀ {ks : List Bool} {ds : List D} {vs : List V}, RepM tk Hs F' H' ks ds vs → ∀ b, (true, V.ref b) ∈ ks.zip vs → Hs b = none
  | [], [], [], _, _, h => by cases h
  | true :: ks, d :: ds, v :: vs, h, b, hb => by
    simp only [RepM] at h
    obtain ⟨⟨a, o, e, h1, h2, h3, h4, h5⟩, r⟩ := h
    rw [List.zip_cons_cons] at hb
    rcases List.mem_cons.mp hb with z | z
    · rw [e] at z; cases z; exact h3
    · exact RepM.new r b z
  | false :: ks, d :: ds, v :: vs, h, b, hb => by
    simp only [RepM] at h
    rw [List.zip_cons_cons] at hb
    rcases List.mem_cons.mp hb with z | z
    · cases z
    · exact RepM.new h.2 b z
  | [], _ :: _, _, h, _, _ => by simp only [RepM] at h
  | [], [], _ :: _, h, _, _ => by simp only [RepM] at h
  | true :: _, [], _, h, _, _ => by simp only [RepM] at h
  | false :: _, [], _, h, _, _ => by simp only [RepM] at h
  | true :: _, _ :: _, [], h, _, _ => by simp only [RepM] at h
  | false :: _, _ :: _, [], h, _, _ => by simp only [RepM] at h
/-- more stands since -/
theorem RepM.ex {Kx : PySem.W.Frag} {mx : Str → Option Value} {tk : Tk Kx mx} {Hs F' H' F2 H2 : Hp} (x : Ex tk F' H' F2 H2) : ∀ {ks : List Bool} {ds : List D} {vs : List V}, RepM tk Hs F' H' ks ds vs → RepM tk Hs F2 H2 ks ds vs
  | [], [], [], _ => by simp only [RepM]
  | true :: ks, d :: ds, v :: vs, h => by
    simp only [RepM] at h ⊢
    obtain ⟨⟨a, o, e, h1, h2, h3, h4, h5, h6⟩, r⟩ := h
    exact ⟨⟨a, o, e, x.gr a o h1 h4, x.nw a h4 (by rw [h1]; exact fun z => nomatch z) h2, h3, h4, h5.same x.sm, h6⟩, RepM.ex x r⟩
  | false :: ks, d :: ds, v :: vs, h => by
    simp only [RepM] at h ⊢
    exact ⟨Rep.same x.sm _ _ h.1, RepM.ex x h.2⟩
  | [], _ :: _, _, h => by simp only [RepM] at h
  | [], [], _ :: _, h => by simp only [RepM] at h
  | true :: _, [], _, h => by simp only [RepM] at h
  | false :: _, [], _, h => by simp only [RepM] at h
  | true :: _, _ :: _, [], h => by simp only [RepM] at h
  | false :: _, _ :: _, [], h => by simp only [RepM] at h
section
variable {X : Cx} {O : List Nat}
theorem EM.nil : EM X O [] [] (cArgs []) := PA.imp pa_nil fun σ H Q ⟨tk, H0, F0, F, g, w, ds, w', R, ef, k⟩ => by
  have ef : some (([] : List D), w) = some (ds, w') := ef
  cases ef
  exact k [] H F R (Ex.refl ..) (by simp only [RepM])
theorem EM.consV {ks : List Bool} {e : Expr} {es : List Expr} {f : E} {fs : List E} (h : EV X O e f) (hs : EM X O ks es (cArgs fs)) (ho : starEach (e :: es) X.env = (false, eval e X.env) :: starEach es X.env := by rfl) : EM X O (false :: ks) (e :: es) (cArgs (f :: fs)) :=
  PA.imp (pa_cons h hs ho) fun σ H Q ⟨tk, H0, F0, F, g, w, ds, w', R, ef, k⟩ => by
  obtain ⟨d, w1, e1, ef⟩ := bnd_eq (show bnd (f g w) _ = _ from ef)
  obtain ⟨ds', w2, e2, ef⟩ := bnd_eq ef
  cases ef
  refine ⟨tk, H0, F0, F, g, w, d, w1, R, e1, fun v H1 F1 R1 x1 r1 => ?_⟩
  refine ⟨tk, H0, F0, F1, g, w1, ds', w', R1, e2, fun vs H2 F2 R2 x2 r2 => ?_⟩
  exact k (v :: vs) H2 F2 R2 (x1.trans x2) (by simp only [RepM]; exact ⟨Rep.same x2.sm _ _ r1, r2.from x1.gr⟩)
theorem EM.consO {ks : List Bool} {e : Expr} {es : List Expr} {f : E} {fs : List E} (h : EO X O e f) (hs : EM X O ks es (cArgs fs)) (ho : starEach (e :: es) X.env = (false, eval e X.env) :: starEach es X.env := by rfl) : EM X O (true :: ks) (e :: es) (cArgs (f :: fs)) :=
  PA.imp (pa_cons h hs ho) fun σ H Q ⟨tk, H0, F0, F, g, w, ds, w', R, ef, k⟩ => by
  obtain ⟨d, w1, e1, ef⟩ := bnd_eq (show bnd (f g w) _ = _ from ef)
  obtain ⟨ds', w2, e2, ef⟩ := bnd_eq ef
  cases ef
  refine ⟨tk, H0, F0, F, g, w, d, w1, R, e1, fun v H1 F1 R1 x1 r1 => ?_⟩
  refine ⟨tk, H0, F0, F1, g, w1, ds', w', R1, e2, fun vs H2 F2 R2 x2 r2 => ?_⟩
  refine k (v :: vs) H2 F2 R2 (x1.trans x2) ?_
  obtain ⟨a, o, rfl, h1, h2, h3, h4, h5⟩ := r1
  simp only [RepM]
  refine ⟨⟨a, o, rfl, x2.gr a o h1 h4, x2.nw a h4 (by rw [h1]; exact fun z => nomatch z) h2, h3, h4, h5.same x2.sm, fun b hb z => ?_⟩, r2.from x1.gr⟩
  have := r2.new b hb
  rw [z, h1] at this
  cases this
/-- the slots that are own behind it -/
def ownAfter : List Nat → List Nat → List Bool → List Nat
  | O, i :: is, true :: ks => ownAfter (i :: O) is ks
  | O, _ :: is, false :: ks => ownAfter O is ks
  | O, _, _ => O
/-- no slot that gets a plain value is own -/
def parOk : List Nat → List Nat → List Bool → Bool
  | O, i :: is, true :: ks => parOk (i :: O) is ks
  | O, i :: is, false :: ks => !O.contains i && parOk O is ks
  | _, [], [] => true
  | _, _, _ => false
theorem setAll_rel {Kx : PySem.W.Frag} {mx : Str → Option Value} {tk : Tk Kx mx} {H0 F0 Hs H F : Hp} {w : Wd} (h0 : ∀ a, Hs a = none → tk.pw ≠ some a → H0 a = none) : ∀ {is : List Nat} {ks : List Bool} {ds : List D} {vs : List V} {O : List Nat} {σ : L2.St} {g g' : Env}, Rel tk H0 F0 O σ H F g w → RepM tk Hs F H ks ds vs → parOk O is ks = true →
    (∀ a, (true, V.ref a) ∈ ks.zip vs → ∀ j e, j ∈ O → g[j]? = some (some e) → σ[j]? ≠ some (some (.ref a))) → gList (is.map gName) ds g = some g' → Rel tk H0 F0 (ownAfter O is ks) (setAll σ is vs) H F g' w
  | [], [], [], [], O, σ, g, g', R, _, _, _, e => by
    simp only [List.map_nil, gList] at e
    cases e
    exact R
  | i :: is, true :: ks, d :: ds, v :: vs, O, σ, g, g', R, r, p, no, e => by
    simp only [RepM] at r
    obtain ⟨⟨a, o, rfl, h1, h2, h3, h4, h5, h6⟩, r⟩ := r
    simp only [List.map_cons, gList, gName] at e
    split at e
    · rename_i g1 hg1
      split at hg1 <;> first | cases hg1 | skip
      rename_i hi
      simp only [setAll, ownAfter]
      have R2 := R.setOwn (O' := i :: O) (fun j => List.mem_cons) hi h1 h2 (h0 a h3 h4) h4 h5 (no a (by simp))
      refine setAll_rel h0 R2 r (by simpa only [parOk] using p) (fun b hb j e' hj hg => ?_) e
      by_cases hji : j = i
      · subst hji
        rw [List.getElem?_set_self (by have := R.len; omega)]
        exact fun z => h6 b hb (by cases z; rfl)
      · rw [List.getElem?_set_ne (Ne.symm hji)] at hg ⊢
        exact no b (by rw [List.zip_cons_cons]; exact List.mem_cons_of_mem _ hb) j e' ((List.mem_cons.mp hj).resolve_left hji) hg
    · cases e
  | i :: is, false :: ks, d :: ds, v :: vs, O, σ, g, g', R, r, p, no, e => by
    simp only [RepM] at r
    simp only [parOk, Bool.and_eq_true, Bool.not_eq_true', List.contains_eq_mem, decide_eq_false_iff_not] at p
    simp only [List.map_cons, gList, gName] at e
    split at e
    · rename_i g1 hg1
      split at hg1 <;> first | cases hg1 | skip
      rename_i hi
      simp only [setAll, ownAfter]
      refine setAll_rel h0 (R.set p.1 r.1 hi) r.2 p.2 (fun b hb j e' hj hg => ?_) e
      have hji : j ≠ i := fun z => p.1 (z ▸ hj)
      rw [List.getElem?_set_ne (Ne.symm hji)] at hg ⊢
      exact no b (by rw [List.zip_cons_cons]; exact List.mem_cons_of_mem _ hb) j e' hj hg
    · cases e
  | [], [], _ :: _, _, _, _, _, _, _, r, _, _, _ => by simp only [RepM] at r
  | [], [], [], _ :: _, _, _, _, _, _, r, _, _, _ => by simp only [RepM] at r
  | [], _ :: _, _, _, _, _, _, _, _, _, p, _, _ => by simp only [parOk] at p; cases p
  | _ :: _, [], _, _, _, _, _, _, _, _, p, _, _ => by simp only [parOk] at p; cases p
  | _ :: _, true :: _, [], _, _, _, _, _, _, r, _, _, _ => by simp only [RepM] at r
  | _ :: _, false :: _, [], _, _, _, _, _, _, r, _, _, _ => by simp only [RepM] at r
  | _ :: _, true :: _, _ :: _, [], _, _, _, _, _, r, _, _, _ => by simp only [RepM] at r
  | _ :: _, false :: _, _ :: _, [], _, _, _, _, _, r, _, _, _ => by simp only [RepM] at r
variable {O' Ol : List Nat}
theorem par_read {Kx : PySem.W.Frag} {mx : Str → Option Value} {is : List Nat} {ks : List Bool} {fs : List E} (hp : parOk O is ks = true) (hO : sameOff [] (ownAfter O is ks) O' = true) : ∀ D σ H, rdS Kx mx O O' Ol (sPar (is.map gName) fs) D σ H →
    rdM Kx mx O ks (cArgs fs) σ H fun vs H1 => vs.length = is.length ∧ D.nx (setAll σ is vs) H1 ∧ ∀ p, H1 p = none → D.nx (setAll σ is vs) (upd H1 p (.tup vs)) := fun D σ H ⟨tk, H0, F0, F, g, w, o, w', R, ef, q⟩ => by
  obtain ⟨ds, w1, e1, ef⟩ := bnd_eq (show bnd (cArgs fs g w) _ = _ from ef)
  split at ef
  · rename_i g1 hg1
    cases ef
    refine ⟨tk, H0, F0, F, g, w, ds, w', R, e1, fun vs H1 F1 R1 x1 r1 => ?_⟩
    have hl : vs.length = is.length := by
      have a := r1.len
      have b := gList_len hg1
      simp at b
      omega
    have h0 : ∀ a, H a = none → tk.pw ≠ some a → H0 a = none := fun a h n => by
      cases z : H0 a with
      | none => rfl
      | some u => rw [R.k0 a u z n] at h; cases h
    have no : ∀ a, (true, V.ref a) ∈ ks.zip vs → ∀ j e, j ∈ O → g[j]? = some (some e) → σ[j]? ≠ some (some (.ref a)) := fun a ha j e hj hg z => by
      obtain ⟨b, u, k1, k2, _⟩ := R.own j e hj hg
      rw [z] at k1
      cases k1
      rw [r1.new a ha] at k2
      cases k2
    refine ⟨hl, q _ H1 F1 ((setAll_rel h0 R1 r1 hp no hg1).own' fun j => sameOff_iff hO j (by simp)), fun p hn => ?_⟩
    obtain ⟨R2, x2⟩ := R1.allocO hn (.tup vs)
    exact q _ _ F1 ((setAll_rel h0 R2 (r1.ex x2) hp no hg1).own' fun j => sameOff_iff hO j (by simp))
  · cases ef
theorem rdM_mono {Kx : PySem.W.Frag} {mx : Str → Option Value} {ks : List Bool} {f : Es} {σ : L2.St} {H : Hp} {Q Q' : List V → Hp → Prop} (h : rdM Kx mx O ks f σ H Q) (k : ∀ vs H, Q vs H → Q' vs H) : rdM Kx mx O ks f σ H Q' := by
  obtain ⟨tk, H0, F0, F, g, w, ds, w', R, ef, q⟩ := h
  exact ⟨tk, H0, F0, F, g, w, ds, w', R, ef, fun vs H' F' R' x r => k vs H' (q vs H' F' R' x r)⟩
theorem ES.par2 {ks : List Bool} {x y : Str} {a b : Expr} {fs : List E} {px py pt pos : Pos} {kt k2 : Nat} {pt2 : Pos} (i j : Nat) (hc : X.calm = true) (hN : X.N.Nodup) (ha : EM X O ks [a, b] (cArgs fs))
    (hw : swappedStores [.Tuple [.Name x px, .Name y py] kt pt] (.Tuple [a, b] k2 pt2) X.env = pure (some [x, y]) := by rfl) (hi : X.N[i]? = some x := by rfl) (hj : X.N[j]? = some y := by rfl) (hij : i ≠ j := by decide)
    (hx : X.env.scope.names.lookup x = some .local := by rfl) (hy : X.env.scope.names.lookup y = some .local := by rfl) (hs : swapsWithSole [.Tuple [.Name x px, .Name y py] kt pt] (.Tuple [a, b] k2 pt2) pos.line X.env = pure false := by rfl)
    (hp : parOk O [i, j] ks = true := by rfl) (hO : sameOff [] (ownAfter O [i, j] ks) O' = true := by rfl) :
    ES X O O' Ol (.Assign [.Tuple [.Name x px, .Name y py] kt pt] (.Tuple [a, b] k2 pt2) pos) (sPar [gName i, gName j] fs) := PS.imp (ps_par hc hN hi hj hij hx hy ha hw hs) fun D σ H h => by
  refine rdM_mono (par_read (is := [i, j]) hp hO D σ H h) fun vs H1 ⟨hl, q, _⟩ => ?_
  match vs, hl with
  | [v, u], _ => exact ⟨v, u, rfl, q⟩
theorem ES.par3 {ks : List Bool} {x y z : Str} {a b c : Expr} {fs : List E} {px py pz pt pos : Pos} {kt k2 : Nat} {pt2 : Pos} (i j l : Nat) (hc : X.calm = true) (hN : X.N.Nodup) (ha : EM X O ks [a, b, c] (cArgs fs))
    (hw : swappedStores [.Tuple [.Name x px, .Name y py, .Name z pz] kt pt] (.Tuple [a, b, c] k2 pt2) X.env = pure (some [x, y, z]) := by rfl) (hi : X.N[i]? = some x := by rfl) (hj : X.N[j]? = some y := by rfl) (hl : X.N[l]? = some z := by rfl) (hij : i ≠ j := by decide) (hil : i ≠ l := by decide) (hjl : j ≠ l := by decide)
    (hx : X.env.scope.names.lookup x = some .local := by rfl) (hy : X.env.scope.names.lookup y = some .local := by rfl) (hz : X.env.scope.names.lookup z = some .local := by rfl) (hs : swapsWithSole [.Tuple [.Name x px, .Name y py, .Name z pz] kt pt] (.Tuple [a, b, c] k2 pt2) pos.line X.env = pure false := by rfl)
    (hp : parOk O [i, j, l] ks = true := by rfl) (hO : sameOff [] (ownAfter O [i, j, l] ks) O' = true := by rfl) :
    ES X O O' Ol (.Assign [.Tuple [.Name x px, .Name y py, .Name z pz] kt pt] (.Tuple [a, b, c] k2 pt2) pos) (sPar [gName i, gName j, gName l] fs) := PS.imp (ps_par3 hc hN hi hj hl hij hil hjl hx hy hz ha hw hs) fun D σ H h => by
  refine rdM_mono (par_read (is := [i, j, l]) hp hO D σ H h) fun vs H1 ⟨hl, q, _⟩ => ?_
  match vs, hl with
  | [v, u, t], _ => exact ⟨v, u, t, rfl, q⟩
/-! any number of names, of any kind: by a tuple that is made and opened -/
def gSets (is : List Nat) : TGs := fun vs σ H Q => vs.length = is.length ∧ Q (setAll σ is vs) H
theorem GS.nil : PGs X [] (gSets []) := PGs.imp pgs_nil fun vs σ H Q ⟨hl, q⟩ => by
  match vs, hl with
  | [], _ => exact ⟨rfl, q⟩
theorem GS.cons {is : List Nat} {x : Str} {pos : Pos} {es : List Expr} (i : Nat) (hN : X.N.Nodup) (h : PGs X es (gSets is)) (hi : X.N[i]? = some x := by rfl) (hx : Loc X.env.scope x := by first | exact Or.inl rfl | exact Or.inr rfl) (hf : X.fn x = true ∨ X.env.scope.names.lookup x = some .local := by first | exact .inl rfl | exact .inr rfl)
    (ha : (assignEach (.Name x pos :: es) X.env).map (·.2) = assign (.Name x pos) X.env :: (assignEach es X.env).map (·.2) := by rfl) : PGs X (.Name x pos :: es) (gSets (i :: is)) := PGs.imp (pgs_cons (pg_name hN hi hx hf) h ha) fun vs σ H Q ⟨hl, q⟩ => by
  match vs, hl with
  | v :: vs, hl => exact ⟨v, vs, rfl, by simpa using hl, q⟩
theorem ES.parN {ks : List Bool} {ts es : List Expr} {fs : List E} {pt pos : Pos} {kt k2 : Nat} {pt2 : Pos} (is : List Nat) (hc : X.calm = true) (ha : EM X O ks es (cArgs fs)) (hg : PGs X ts (gSets is)) (hn : (assignEach ts X.env).length = is.length := by rfl) (hst : (assignEach ts X.env).findIdx? (·.1) = none := by rfl)
    (hs : swapsWithSole [.Tuple ts kt pt] (.Tuple es k2 pt2) pos.line X.env = pure false := by rfl) (hw : swappedStores [.Tuple ts kt pt] (.Tuple es k2 pt2) X.env = pure none := by rfl) (h1 : (assignEach [.Tuple ts kt pt] X.env).map (·.2) = [assign (.Tuple ts kt pt) X.env] := by rfl)
    (hp : parOk O is ks = true := by rfl) (hO : sameOff [] (ownAfter O is ks) O' = true := by rfl) (hz : is.length ≤ sizeLine := by decide) :
    ES X O O' Ol (.Assign [.Tuple ts kt pt] (.Tuple es k2 pt2) pos) (sPar (is.map gName) fs) := PS.imp (ps_asg (pe_tup ha) (pg_tup hc hg hn hst) hs hw h1) fun D σ H h => by
  refine rdM_mono (par_read hp hO D σ H h) fun vs H1 ⟨hl, _, q⟩ => ⟨by rw [hl]; exact hz, fun p hp => ?_⟩
  exact ⟨p, vs, rfl, .of upd_same, hl, hl, q p hp⟩
end
end Q

set_option Elab.async false
set_option linter.all false
set_option autoImplicit false
set_option maxRecDepth 100000
/-! QS9: defs, their calls, the dict of draws. -/
namespace Q
open PySem PySem.Spec PyProof.Rows L2
/-- a def's promise by its function of data -/
def spD (Kx : PySem.W.Frag) (mx : Str → Option Value) (n : Nat) (f : Fn) : Sp := fun vs H Q _ => ∃ tk : Tk Kx mx, ∃ F ds w r w', vs.length = n ∧ Sub F H ∧ WAt tk H F w ∧ RepL tk F ds vs ∧ f ds w = some (r, w') ∧
  ∀ v H' F', Same F F' → Sub F' H' → Grow tk H H' → New tk H F F' → WAt tk H' F' w' → Rep tk F' r v → Q v H'
section
variable {Kx : PySem.W.Frag} {mx : Str → Option Value} {tk : Tk Kx mx} {H0 F0 : Hp} {O : List Nat} {σ : L2.St} {H F H' F' : Hp} {g : Env} {w w' : Wd}
theorem Rel.after (R : Rel tk H0 F0 O σ H F g w) (x : Ex tk F H F' H') (sb : Sub F' H') (wa : WAt tk H' F' w') : Rel tk H0 F0 O σ H' F' g w' := by
  have fr := R.fw
  refine ⟨R.len, sb, R.f0.trans x.sm, fun a u e n => x.gr a u (R.k0 a u e n) n, fun a n e f => ?_, fun i d hi h => ?_, fun i d hi h => ?_, R.sep, wa⟩
  · refine x.nw a n ?_ (R.n0 a n e f)
    cases q : H0 a with
    | none => exact absurd q e
    | some u => rw [R.k0 a u q n]; exact fun z => nomatch z
  · obtain ⟨v, h1, h2⟩ := R.val i d hi h
    exact ⟨v, h1, Rep.same x.sm _ _ h2⟩
  · obtain ⟨a, o, h1, h2, h3, h4, h5, h6⟩ := R.own i d hi h
    exact ⟨a, o, h1, x.gr a o h2 h5, x.nw a h5 (by rw [h2]; exact fun z => nomatch z) h3, h4, h5, h6.same x.sm⟩
end
section
variable {X : Cx} {O : List Nat}
theorem call_read {n : Nat} {fn : Fn} {fs : List E} (hn : fs.length = n) : ∀ σ H Q, rd X.K X.mg O (cCall fn fs) σ H Q → tCall (spD X.K X.mg n fn) [] E0 (rdA X.K X.mg O (cArgs fs)) σ H Q := fun σ H Q ⟨tk, H0, F0, F, g, w, d, w', R, ef, k⟩ => by
  obtain ⟨ds, w1, e1, ef⟩ := bnd_eq (show bnd (cArgs fs g w) _ = _ from ef)
  refine ⟨tk, H0, F0, F, g, w, ds, w1, R, e1, fun vs H1 F1 R1 x1 r1 => ?_⟩
  refine ⟨tk, F1, ds, w1, d, w', by rw [List.append_nil, ← r1.length, cArgs_len e1, hn], R1.sub, R1.wat, by rw [List.append_nil]; exact r1, ef, fun v H2 F2 s sb gr nw wa rp => ?_⟩
  have x2 : Ex tk F1 H1 F2 H2 := ⟨s, gr, nw⟩
  exact k v H2 F2 (R1.after x2 sb wa) (x1.trans x2) rp
theorem EV.call {f : Addr} {fd : FuncData} {ps : List Str} {x : Str} {p pos : Pos} {e : Expr} {es : List Expr} {k n : Nat} {fn : Fn} {fs : List E} (F : FnOk X.prog X.w X.K X.mg X.base CX0 k f fd ps (spD X.K X.mg n fn)) (hr : Room k X.A) (hm : X.mg x = some (.ref f)) (hk : PySem.W.keepIn X.K (.ref f) = true) (hb : Binds X.K fd ps [])
    (ha : EA X O (e :: es) (cArgs fs)) (hg : Gl X x := by rfl) (hn : fs.length = n := by rfl) (hdb : (x == ("__debug__" : Str)) = false := by decide) (he : starEach (e :: es) X.env = (false, eval e X.env) :: starEach es X.env := by rfl) (hpl : (backTo pos (starEach es X.env)).any (·.1) = false := by rfl) :
    EV X O (.Call (.Name x p) (e :: es) [] pos) (cCall fn fs) := PE.imp (pe_call F hr hg hm hk hb .nil pass0 ha hdb he hpl) (call_read hn)
end
section
variable {P : Program} {w : World} {K : PySem.W.Frag} {mg : Str → Option Value} {base : Heap}
theorem start_rel {mx : Str → Option Value} {tk : Tk K mx} {N : List Str} {vs : List V} {ds : List D} {H F : Hp} {wd : Wd} {nl : Nat} (sb : Sub F H) (wa : WAt tk H F wd) (rl : RepL tk F ds vs) (hn : N.length = vs.length + nl) :
    Rel tk H F [] (L2.start N vs) H F (ds.map some ++ List.replicate nl none) wd := by
  have e : N.length - vs.length = nl := by omega
  unfold L2.start
  rw [e]
  refine ⟨by simp [rl.length], sb, Same.refl F, fun _ _ h _ => h, fun _ _ _ h => h, fun i d _ h => ?_, fun i d hi _ => absurd hi (by simp), fun i j a d e hi _ _ _ _ _ => absurd hi (by simp), wa⟩
  by_cases hi : i < ds.length
  · rw [List.getElem?_append_left (by simpa using hi), List.getElem?_map] at h
    obtain ⟨d', h1, h2⟩ := Option.map_eq_some_iff.mp h
    cases h2
    obtain ⟨v, h3, h4⟩ := rl.at h1
    refine ⟨v, ?_, h4⟩
    rw [List.getElem?_append_left (by rw [List.length_map, ← rl.length]; exact hi), List.getElem?_map, h3]
    rfl
  · rw [List.getElem?_append_right (by simpa using hi), List.getElem?_replicate] at h
    split at h <;> cases h
/-- THE RULE: a def of the text keeps the promise of its body's function -/
theorem fn_ok {x qual : Str} {st : Stmt} {f : Addr} {fd : FuncData} {N ps : List Str} {k nl : Nat} {fb : S} {O' : List Nat} (F : Fun K x qual st f fd) (S : FnScope N ps (defScope st))
    (hb : ∀ (cdv : Value) (A : Around) (outer : List PySem.Env) (s : Shared) (H : Hp) (E : XK), Room k (A.deeper (envOfC qual (defScope st) s.heap.objs.size f cdv)) → ESs (cxOf CX0 P w K mg base N qual (defScope st) f cdv A outer s H E).nox [] O' [] (defBody st) fb)
    (hN : N.length = ps.length + nl := by rfl) : FnOk P w K mg base CX0 (k + 1) f fd ps (spD K mg ps.length (bodyFn ps.length nl fb)) :=
  F.ok S (fun vs H Q E ⟨tk, F, ds, w, r, w', h, _⟩ => h) fun cdv A outer s H vs Q E hr ⟨tk, F, ds, wd, r, w', hl, sb, wa, rl, ef, k⟩ => by
  unfold bodyFn at ef
  split at ef
  · obtain ⟨o, w1, e1, ef⟩ := bnd_eq ef
    refine ⟨_, hb cdv A outer s H E hr, tk, H, F, F, _, wd, o, w1, start_rel sb wa rl (by rw [hl]; exact hN), e1, ?_⟩
    cases o with
    | rt d =>
      cases ef
      exact fun v H' F' a1 a2 a3 a4 a5 a6 => k v H' F' a2 a1 a3 a4 a5 a6
    | nx g =>
      cases ef
      exact fun σ' H' F' R => k .non H' F' R.f0 R.sub R.k0 R.n0 R.wat (by simp only [Rep])
    | bk g => cases ef
    | ct g => cases ef
  · cases ef
/-! ### the next draw -/
theorem fnNext_eq {ds : List D} {wd : Wd} {r : D} {w' : Wd} (h : fnNext ds wd = some (r, w')) : ∃ m l, ds = [tokW, .int m] ∧ wd = some l ∧ ((l = [] ∧ r = .int 0 ∧ w' = some []) ∨ ∃ x l', l = x :: l' ∧ m ≠ 0 ∧ r = .int (x.fmod m) ∧ w' = some l') := by
  unfold fnNext at h
  split at h
  · rename_i m l
    split at h
    · cases h
      exact ⟨m, [], rfl, rfl, .inl ⟨rfl, rfl, rfl⟩⟩
    · rename_i x l'
      split at h
      · rename_i hm
        cases h
        exact ⟨m, _, rfl, rfl, .inr ⟨x, l', rfl, hm, rfl, rfl⟩⟩
      · cases h
  · cases h
theorem rep_tokW {mx : Str → Option Value} {tk : Tk K mx} {F : Hp} {v : V} (h : Rep tk F tokW v) : ∃ a, v = .ref a ∧ tk.pw = some a := by
  simp only [tokW, Rep] at h
  obtain ⟨a, e, h⟩ := h
  refine ⟨a, e, ?_⟩
  rcases h with ⟨es, _, l⟩ | ⟨es, _, l⟩ | ⟨_, z⟩ | ⟨_, z, _⟩ | ⟨ns, z, r⟩
  · cases es with
    | nil => simp only [RepK] at l
    | cons p es =>
      obtain ⟨k', v'⟩ := p
      simp only [RepK] at l
      cases k' <;> cases l.1
  · cases es with
    | nil => simp only [RepT] at l
    | cons p es =>
      obtain ⟨k', v'⟩ := p
      simp only [RepT] at l
      cases l.1
  · exact z
  · cases z
  · cases z
/-- the dict of draws: what lies in it -/
def wKvs (b : Addr) (n : Nat) : List (Key × V) := [(.inr "draws", .ref b), (.inr "at", .int n)]
theorem kne : ¬ (Sum.inr (Str.ofString "draws") : Key) = Sum.inr (Str.ofString "at") := by decide +kernel
theorem wd_draws (b : Addr) (n : Nat) : valV (wKvs b n) (.inr "draws" : Key) = some (.ref b) := by
  unfold wKvs; rw [valV_pos rfl]
theorem wd_at (b : Addr) (n : Nat) : valV (wKvs b n) (.inr "at" : Key) = some (.int n) := by
  unfold wKvs; rw [valV_neg (p := ((Sum.inr (Str.ofString "draws") : Key), V.ref b)) kne, valV_pos rfl]
theorem wd_put (b : Addr) (n : Nat) : putK (wKvs b n) (.inr "at" : Key) (.int (n + 1 : Nat)) = wKvs b (n + 1) := by
  unfold putK
  rw [if_pos (by rw [valV_any, wd_at]; rfl)]
  unfold wKvs
  rw [List.map_cons, List.map_cons, List.map_nil]
  dsimp only
  rw [if_neg kne, if_pos rfl]
theorem len_next {ds : List D} {wd : Wd} {r : D} {w' : Wd} (h : fnNext ds wd = some (r, w')) : ds.length = 2 := by
  obtain ⟨m, l, rfl, _⟩ := fnNext_eq h
  rfl
/-- what _law_next finds and leaves -/
theorem next_facts {mx : Str → Option Value} {vs : List V} {H : Hp} {Q : VK} {E : XK} (h : spD K mx 2 fnNext vs H Q E) : ∃ (p b : Addr) (m : Int) (n : Nat) (full : List Int), vs = [.ref p, .int m] ∧ H p = some (.dK (wKvs b n)) ∧ Rd H b (.lst (full.map V.int)) ∧ b ≠ p ∧
    ((full.length ≤ n ∧ Q (.int 0) (upd H p (.dK (wKvs b (n + 1))))) ∨ ∃ x, full[n]? = some x ∧ m ≠ 0 ∧ Q (.int (x.fmod m)) (upd H p (.dK (wKvs b (n + 1))))) := by
  obtain ⟨tk, F, ds, wd, r, w', hl, sb, wa, rl, ef, k⟩ := h
  obtain ⟨m, l, rfl, rfl, hh⟩ := fnNext_eq ef
  match vs, rl with
  | [], rl => simp only [RepL] at rl
  | [_], rl => simp only [RepL] at rl; exact rl.2.elim
  | _ :: _ :: _ :: _, rl => simp only [RepL] at rl; exact rl.2.2.elim
  | [v, u], rl =>
    simp only [RepL, Rep] at rl
    obtain ⟨rv, ru, _⟩ := rl
    obtain ⟨p, rfl, hp⟩ := rep_tokW rv
    subst ru
    unfold WAt at wa
    rw [hp] at wa
    obtain ⟨fp, b, n, full, hH, hr, rfl⟩ := wa
    have rb := sb.rdL hr
    have nb : b ≠ p := fun z => by
      rcases hr with hr | ⟨_, hr⟩ <;> rw [z, fp] at hr <;> cases hr
    have key : ∀ (r : Int), Rep tk F (.int r) (.int r) → (∀ l', w' = some l' → l' = full.drop (n + 1)) → (w' ≠ none) → (∀ v H' F', Same F F' → Sub F' H' → Grow tk H H' → New tk H F F' → WAt tk H' F' w' → Rep tk F' (.int r) v → Q v H') → Q (.int r) (upd H p (.dK (wKvs b (n + 1)))) := fun r rr hw hn k => by
      refine k _ _ F (Same.refl F) (fun a o e => ?_) (fun a o e ne => ?_) (fun _ _ _ h => h) ?_ rr
      · have ne : a ≠ p := fun z => by rw [z, fp] at e; cases e
        rw [upd_ne ne]; exact sb a o e
      · have ne : a ≠ p := fun z => ne (by rw [hp, z])
        rw [upd_ne ne]; exact e
      · cases hw' : w' with
        | none => exact absurd hw' hn
        | some l' =>
          unfold WAt
          rw [hp]
          exact ⟨fp, b, n + 1, full, upd_same, hr, hw l' hw'⟩
    refine ⟨p, b, m, n, full, rfl, hH, rb, nb, ?_⟩
    rcases hh with ⟨h0, rfl, rfl⟩ | ⟨x, l', h0, hm, rfl, rfl⟩
    · have hle : full.length ≤ n := List.drop_eq_nil_iff.mp h0
      exact .inl ⟨hle, key 0 (by simp only [Rep]) (fun l' e => by cases e; exact (List.drop_eq_nil_iff.mpr (by omega)).symm) (fun z => nomatch z) k⟩
    · have hlt : n < full.length := by
        by_cases hlt : n < full.length
        · exact hlt
        · rw [List.drop_eq_nil_iff.mpr (by omega)] at h0; cases h0
      rw [List.drop_eq_getElem_cons hlt] at h0
      cases h0
      exact .inr ⟨_, List.getElem?_eq_getElem hlt, hm, key _ (by simp only [Rep]) (fun l' e => by cases e; rfl) (fun z => nomatch z) k⟩
end
end Q

set_option Elab.async false
set_option linter.all false
set_option autoImplicit false
set_option maxRecDepth 100000
/-! QS10: dead ways, min and max of data, sorted, isinstance, list. -/
namespace Q
open PySem PySem.Spec PyProof.Rows L2
/-! ### what is never reached -/
def eDead : E := fun _ _ => none
def tDead : T := fun _ _ => none
section
variable {X : Cx}
theorem EV.dead {O : List Nat} {e : Expr} : EV X O e eDead := ⟨fun pins s σ H Q I ⟨tk, H0, F0, F, g, w, d, w', R, ef, k⟩ => by cases ef⟩
theorem EB.dead {O : List Nat} {e : Expr} : EB X O e eDead := ⟨fun pins s σ H Q I ⟨tk, H0, F0, F, g, w, d, w', R, ef, k⟩ => by cases ef⟩
theorem EO.dead {O : List Nat} {e : Expr} : EO X O e eDead := ⟨fun pins s σ H Q I ⟨tk, H0, F0, F, g, w, d, w', R, ef, k⟩ => by cases ef⟩
theorem ET.dead {O : List Nat} {e : Expr} : ET X O e tDead := ⟨fun pins s σ H Q I ⟨tk, H0, F0, F, g, w, d, w', R, ef, k⟩ => by cases ef⟩
end
/-! ### items -/
section
variable {X : Cx} {Kx : PySem.W.Frag} {mx : Str → Option Value} {tk : Tk Kx mx} {pins : List (Addr × Obj)} {σ : L2.St} {H F : Hp} {s : Shared}
/-- a list or a tuple that stands: its items -/
theorem items_at (I : Inv X pins σ H s) (sb : Sub F H) {d : D} {ds : List D} {v : V} {u : Value} (hd : itemsD d = some ds) (rb : RepB tk F H d v) (ru : RelV v u) :
    ∃ a xs its, u = .ref a ∧ RepL tk F ds xs ∧ Vals xs its ∧ xs.length ≤ sizeLine ∧ (s.heap.IsList a its.toArray ∨ s.heap.IsTuple a its.toArray) := by
  cases d <;> simp only [itemsD] at hd <;> first | cases hd | skip
  · simp only [RepB] at rb
    obtain ⟨a, xs, rfl, _, hr, l⟩ := rb
    cases ru
    obtain ⟨its, rv, pl, z⟩ := I.list (.inl hr)
    exact ⟨a, xs, its, rfl, l, rv, z, .inl pl.isList⟩
  · simp only [RepB, Rep] at rb
    obtain ⟨a, xs, rfl, hr, l⟩ := rb
    cases ru
    obtain ⟨its, rv, pl, z⟩ := I.tuple (.inl (.inl (sb.tup hr)))
    exact ⟨a, xs, its, rfl, l, rv, z, .inr pl⟩
theorem plain_items {d : D} {ds : List D} (hd : itemsD d = some ds) (hp : d.plain = true) : PyData.plainAll ds = true := by
  cases d <;> simp only [itemsD] at hd <;> first | cases hd | skip
  all_goals simpa only [PyData.plain] using hp
theorem depth_items {d : D} {ds : List D} (hd : itemsD d = some ds) {n : Nat} (h : d.depth ≤ n) : PyData.depthAll ds ≤ n := by
  cases d <;> simp only [itemsD] at hd <;> first | cases hd | skip
  all_goals (simp only [PyData.depth] at h; omega)
theorem Vals.at {xs : List V} {us : List Value} (r : Vals xs us) {i : Nat} {u : Value} (h : us[i]? = some u) : ∃ x, xs[i]? = some x ∧ RelV x u := by
  induction r generalizing i with
  | nil => simp at h
  | cons r _ ih =>
    cases i with
    | zero => simp at h; subst h; exact ⟨_, rfl, r⟩
    | succ i => exact ih (by simpa using h)
theorem RepL.val {ds : List D} {vs : List V} (h : RepL tk F ds vs) {i : Nat} {v : V} (e : vs[i]? = some v) : ∃ d, ds[i]? = some d ∧ Rep tk F d v := by
  have hl := h.length
  have hi : i < vs.length := (List.getElem?_eq_some_iff.mp e).1
  obtain ⟨v', e', r⟩ := h.at (i := i) (d := ds[i]) (List.getElem?_eq_getElem (by omega))
  rw [e] at e'
  cases e'
  exact ⟨_, List.getElem?_eq_getElem (by omega), r⟩
theorem readsAll_val {h : Heap} {us : List Value} {ds : List D} {as : List Addr} (r : ReadsAll h us ds as) : ∀ {i : Nat} {u : Value}, us[i]? = some u → ∃ d bs, ds[i]? = some d ∧ Reads h u d bs := by
  induction us generalizing ds as with
  | nil => intro i u h; simp at h
  | cons u us ih =>
    intro i v e
    cases r with
    | cons r1 r2 =>
      cases i with
      | zero => simp at e; subst e; exact ⟨_, _, rfl, r1⟩
      | succ i => exact ih r2 (by simpa using e)
theorem plain_at {ds : List D} (h : PyData.plainAll ds = true) : ∀ {i : Nat} {d : D}, ds[i]? = some d → d.plain = true := by
  induction ds with
  | nil => intro i d e; simp at e
  | cons x xs ih =>
    intro i d e
    simp only [PyData.plainAll, Bool.and_eq_true] at h
    cases i with
    | zero => simp at e; subst e; exact h.1
    | succ i => exact ih h.2 (by simpa using e)
end
theorem alikeB_all {xs : List D} (h : alikeB xs = true) (n : noNoneB xs = true) : PySem.W.AlikeAll xs := by
  refine ⟨fun x hx y hy => ?_, fun x hx e => ?_⟩
  · exact List.all_eq_true.mp (List.all_eq_true.mp h x hx) y hy
  · have := List.all_eq_true.mp n x hx
    subst e
    simp [isNoneD] at this
/-! ### min(xs), max(xs) -/
def rMM (Kx : PySem.W.Frag) (mx : Str → Option Value) (pick : D → List D → D) : List V → Hp → VK → Prop := fun vs H Q => ∃ (tk : Tk Kx mx) (F : Hp) (d : D) (v : V) (x : D) (xs : List D), vs = [v] ∧ Sub F H ∧ RepB tk F H d v ∧ d.plain = true ∧ d.depth ≤ 60 ∧ itemsD d = some (x :: xs) ∧ PySem.W.AlikeAll (x :: xs) ∧ ∀ u, Rep tk F (pick x xs) u → Q u H
theorem fold_mem {α : Type} {c : α → α → Bool} : ∀ (xs : List α) (x : α), xs.foldl (fun a y => if c a y = true then y else a) x ∈ x :: xs
  | [], x => by simp
  | y :: xs, x => by
    have h := fold_mem (c := c) xs (if c x y = true then y else x)
    rw [List.foldl_cons]
    rcases List.mem_cons.mp h with h | h
    · rw [h]
      split
      · simp
      · simp
    · exact List.mem_cons_of_mem _ (List.mem_cons_of_mem _ h)
theorem minD_mem (x : D) (xs : List D) : PySem.W.minD x xs ∈ x :: xs := fold_mem (c := fun a y => PySem.W.dataLt y a) xs x
theorem maxD_mem (x : D) (xs : List D) : PySem.W.maxD x xs ∈ x :: xs := fold_mem (c := fun a y => PySem.W.dataLt a y) xs x
theorem plain_mem {ds : List D} (h : PyData.plainAll ds = true) {d : D} (m : d ∈ ds) : d.plain = true := by
  obtain ⟨i, hi⟩ := List.mem_iff_getElem?.mp m
  exact plain_at h hi
section
variable {X : Cx} {k : Nat}
theorem mm_run {pick : D → List D → D} (pm : ∀ x xs, pick x xs ∈ x :: xs) {pins s σ H vs us Q} (I : Inv X pins σ H s) (r : Vals vs us) (h : rMM X.K X.mg pick vs H Q) (hr : Room k X.A) :
    ∃ (a : Addr) (its : Array Value) (x : D) (xs : List D) (as : List Addr), us = [.ref a] ∧ (s.heap.IsList a its ∨ s.heap.IsTuple a its) ∧ ReadsAll s.heap its.toList (x :: xs) as ∧ PySem.W.AlikeAll (x :: xs) ∧ X.A.units + 1 + PyData.depthAll (x :: xs) < cLine ∧
      ∀ (i : Nat) v h' tk' bs, its[i]? = some v → Reads h' v (pick x xs) bs → (∀ b o, s.heap.get? b = some o → h'.get? b = some o) → EP X pins σ Q v { s with heap := h', toks := tk' } := by
  obtain ⟨tk, F, d, v, x, xs, rfl, sb, rb, pl, dp, hi, ha, q⟩ := h
  obtain ⟨u, rfl, ru⟩ := vals1 r
  obtain ⟨a, ys, its, rfl, rl, rv, z, ht⟩ := items_at I sb hi rb ru
  obtain ⟨as, ra⟩ := RepL.reads I sb _ _ _ (plain_items hi pl) rl rv
  refine ⟨a, its.toArray, x, xs, as, rfl, ht, by simpa using ra, ha, by have := hr.un; have := depth_items hi dp; omega, fun i v h' tk' bs hv rd hk => ?_⟩
  have hv : its[i]? = some v := by simpa using hv
  obtain ⟨y, hy, rvy⟩ := Vals.at rv hv
  obtain ⟨dy, hdy, rdy⟩ := rl.val hy
  obtain ⟨dz, bs2, hdz, rdz⟩ := readsAll_val ra hv
  rw [hdy] at hdz
  cases hdz
  have e1 := PySem.SeqAt.readOf_plain (plain_at (plain_items hi pl) hdy) (PyProof.Rows.Reads.keeps hk rdz)
  have e2 := PySem.SeqAt.readOf_plain (plain_mem (plain_items hi pl) (pm x xs)) rd
  exact ⟨y, H, I.kept hk, rvy, q y (by rw [← e2, e1]; exact rdy)⟩
theorem cr_min1 (hr : Room k X.A) : CallR X (.builtin "min") (rMM X.K X.mg PySem.W.minD) := by
  intro pins s σ H vs us Q I r h
  obtain ⟨a, its, x, xs, as, rfl, ht, ra, ha, hu, fin⟩ := mm_run minD_mem I r h hr
  rcases ht with ht | ht
  · exact PySem.W.min_list_data hr.hd ht ra ha hu fin
  · exact PySem.W.min_tuple_data hr.hd ht ra ha hu fin
theorem cr_max1 (hr : Room k X.A) : CallR X (.builtin "max") (rMM X.K X.mg PySem.W.maxD) := by
  intro pins s σ H vs us Q I r h
  obtain ⟨a, its, x, xs, as, rfl, ht, ra, ha, hu, fin⟩ := mm_run maxD_mem I r h hr
  rcases ht with ht | ht
  · exact PySem.W.max_list_data hr.hd ht ra ha hu fin
  · exact PySem.W.max_tuple_data hr.hd ht ra ha hu fin
theorem ok_min1 : Ok1 X.K X.mg minD1 (rMM X.K X.mg PySem.W.minD) := fun tk H0 F0 O σ F H g w x d vx Q R rx e kk => by
  unfold minD1 at e
  split at e
  · rename_i y ys hi
    split at e
    · rename_i hc
      simp only [Bool.and_eq_true] at hc
      cases e
      exact ⟨tk, F, x, vx, y, ys, rfl, R.sub, rx, hc.1.1.1, by simpa [lowD] using hc.2, hi, alikeB_all hc.1.1.2 hc.1.2, fun u ru => kk u H F R (Ex.refl ..) ru⟩
    · cases e
  · cases e
theorem ok_max1 : Ok1 X.K X.mg maxD1 (rMM X.K X.mg PySem.W.maxD) := fun tk H0 F0 O σ F H g w x d vx Q R rx e kk => by
  unfold maxD1 at e
  split at e
  · rename_i y ys hi
    split at e
    · rename_i hc
      simp only [Bool.and_eq_true] at hc
      cases e
      exact ⟨tk, F, x, vx, y, ys, rfl, R.sub, rx, hc.1.1.1, by simpa [lowD] using hc.2, hi, alikeB_all hc.1.1.2 hc.1.2, fun u ru => kk u H F R (Ex.refl ..) ru⟩
    · cases e
  · cases e
theorem EV.min1 {O : List Nat} {a : Expr} {fa : E} {p pos : Pos} (hm : X.mg "min" = Option.none) (hr : Room k X.A) (ha : EB X O a fa) (hg : Gl X "min" := by rfl) (he : starEach [a] X.env = (false, eval a X.env) :: starEach [] X.env := by rfl) : EV X O (.Call (.Name "min" p) [a] [] pos) (cOp1 minD1 fa) :=
  EV.bi1 (cr_min1 hr) ok_min1 hg hm (by decide +kernel) ha (he := he)
theorem EV.max1 {O : List Nat} {a : Expr} {fa : E} {p pos : Pos} (hm : X.mg "max" = Option.none) (hr : Room k X.A) (ha : EB X O a fa) (hg : Gl X "max" := by rfl) (he : starEach [a] X.env = (false, eval a X.env) :: starEach [] X.env := by rfl) : EV X O (.Call (.Name "max" p) [a] [] pos) (cOp1 maxD1 fa) :=
  EV.bi1 (cr_max1 hr) ok_max1 hg hm (by decide +kernel) ha (he := he)
end
/-! ### isinstance -/
def tyNm : D → String
  | .none => "NoneType"
  | .bool _ => "bool"
  | .int _ => "int"
  | .str _ => "str"
  | .list _ => "list"
  | .tuple _ => "tuple"
  | .dict _ => "dict"
def isTok : D → Bool
  | .dict ((.none, _) :: _) => true
  | _ => false
/-- a built-in type that isinstance is asked for -/
inductive Ty where
  | bool | int | str | list | tuple | dict
def Ty.nm : Ty → String
  | .bool => "bool"
  | .int => "int"
  | .str => "str"
  | .list => "list"
  | .tuple => "tuple"
  | .dict => "dict"
def isTy : Ty → D → Bool
  | .bool, .bool _ => true
  | .int, .bool _ => true
  | .int, .int _ => true
  | .str, .str _ => true
  | .list, .list _ => true
  | .tuple, .tuple _ => true
  | .dict, .dict _ => true
  | _, _ => false
def isaD (T : Ty) (d : D) : Option D := if isTok d = true then none else some (.bool (isTy T d))
theorem kitB_ty (T : Ty) (d : D) : kitB (tyNm d) T.nm = some (isTy T d) := by
  cases T <;> cases d <;> simp only [tyNm, Ty.nm, isTy] <;> decide +kernel
section
variable {X : Cx} {k : Nat} {Kx : PySem.W.Frag} {mx : Str → Option Value} {tk : Tk Kx mx} {pins : List (Addr × Obj)} {σ : L2.St} {H F : Hp} {s : Shared}
theorem dict_at (I : Inv X pins σ H s) {a : Addr} (h : (∃ es, Rd H a (.dK es)) ∨ ∃ es, Rd H a (.dT es)) : ∃ o, s.heap.get? a = some o ∧ o.cls = .type "dict" := by
  have h : (∃ es, ObjOk X.prog X.w H s.heap a (.dK es)) ∨ ∃ es, ObjOk X.prog X.w H s.heap a (.dT es) := by
    rcases h with ⟨es, h⟩ | ⟨es, h⟩
    · rcases h with h | ⟨o, h⟩
      · exact .inl ⟨es, I.hok a _ h⟩
      · exact .inl ⟨es, (I.hok a _ h).2⟩
    · rcases h with h | ⟨o, h⟩
      · exact .inr ⟨es, I.hok a _ h⟩
      · exact .inr ⟨es, (I.hok a _ h).2⟩
  rcases h with ⟨es, h⟩ | ⟨es, h⟩
  · obtain ⟨_, _, vs, _, o, es, ep, h1, h2, _⟩ := h
    exact ⟨o, h1, h2.1⟩
  · obtain ⟨_, _, xs, _, o, es, ep, h1, h2, _⟩ := h
    exact ⟨o, h1, h2.1⟩
theorem kit_rep (I : Inv X pins σ H s) (sb : Sub F H) {d : D} {v : V} {u : Value} (rb : RepB tk F H d v) (r : RelV v u) (nt : isTok d = false) : ∃ P : Heap → Prop, PySem.W.KitX X.K u (.type (tyNm d)) P ∧ P s.heap ∧ u ≠ .builtin "__main__.__loader__#opaque" := by
  cases d with
  | none => simp only [RepB, Rep] at rb; subst rb; cases r; exact ⟨_, PySem.W.kitx_none, True.intro, fun z => nomatch z⟩
  | bool b => simp only [RepB, Rep] at rb; subst rb; cases r; exact ⟨_, PySem.W.kitx_bool, True.intro, fun z => nomatch z⟩
  | int i => simp only [RepB, Rep] at rb; subst rb; obtain ⟨t, rfl⟩ := r; exact ⟨_, PySem.W.kitx_int, True.intro, fun z => nomatch z⟩
  | str x => simp only [RepB, Rep] at rb; subst rb; obtain ⟨t, rfl⟩ := r; exact ⟨_, PySem.W.kitx_str, True.intro, fun z => nomatch z⟩
  | list ds =>
    simp only [RepB] at rb
    obtain ⟨a, xs, rfl, _, hr, l⟩ := rb
    cases r
    obtain ⟨_, its, n, _, _, h1⟩ := lstAt I hr
    exact ⟨_, PySem.W.kitx_list, ⟨_, h1, rfl⟩, fun z => nomatch z⟩
  | tuple ds =>
    simp only [RepB, Rep] at rb
    obtain ⟨a, xs, rfl, hr, l⟩ := rb
    cases r
    obtain ⟨_, _, _, o, h1, h2, _⟩ := (show ObjOk X.prog X.w H s.heap a (.tup xs) from I.hok a _ (sb.tup hr))
    exact ⟨_, PySem.W.kitx_tuple, ⟨o, h1, h2⟩, fun z => nomatch z⟩
  | dict kvs =>
    simp only [RepB] at rb
    obtain ⟨a, rfl, rb⟩ := rb
    cases r
    refine ⟨_, PySem.W.kitx_dict, ?_, fun z => nomatch z⟩
    rcases rb with ⟨_, ⟨es, h, _⟩ | ⟨es, h, _⟩⟩ | ⟨z, _⟩ | ⟨_, z, _⟩ | ⟨ns, z, _⟩
    · exact dict_at I (.inl ⟨es, h⟩)
    · exact dict_at I (.inr ⟨es, h⟩)
    · subst z; cases nt
    · subst z; cases nt
    · subst z; cases nt
def rIsD (Kx : PySem.W.Frag) (mx : Str → Option Value) (T : Ty) : List V → Hp → VK → Prop := fun vs H Q => ∃ (tk : Tk Kx mx) (F : Hp) (d : D) (v : V), vs = [v, .ty T.nm] ∧ Sub F H ∧ RepB tk F H d v ∧ isTok d = false ∧ Q (.bl (isTy T d)) H
theorem cr_isD (T : Ty) : CallR X (.builtin "isinstance") (rIsD X.K X.mg T) := by
  intro pins s σ H vs us Q I r h
  obtain ⟨tk, F, d, v, rfl, sb, rb, nt, q⟩ := h
  obtain ⟨u1, u2, rfl, r1, r2⟩ := vals2 r
  obtain rfl : u2 = Value.type T.nm := r2
  obtain ⟨P, Z, p, hx⟩ := kit_rep I sb rb r1 nt
  exact PySem.W.kia_one Z I.kIn p (kit_ty (kitB_ty T d)) hx fun tk => ⟨.bl (isTy T d), H, I.tok tk, rfl, q⟩
/-- isinstance(a, T) -/
theorem EV.isa {O : List Nat} (T : Ty) {x : Str} {a : Expr} {fa : E} {p p2 pos : Pos} (hm : X.mg "isinstance" = Option.none) (hmT : X.mg x = Option.none) (hv : bootBuiltins x = some (.type T.nm)) (ha : EB X O a fa) (hn : x ≠ "__name__" := by decide) (hd : (x == ("__debug__" : Str)) = false := by decide)
    (hg : Gl X "isinstance" := by rfl) (hgT : Gl X x := by rfl) (he : starEach [a, .Name x p2] X.env = (false, eval a X.env) :: starEach [.Name x p2] X.env := by rfl) (he2 : starEach [.Name x p2] X.env = (false, eval (.Name x p2) X.env) :: starEach [] X.env := by rfl)
    (hpl : (backTo pos (starEach [.Name x p2] X.env)).any (·.1) = false := by rfl) : EV X O (.Call (.Name "isinstance" p) [a, .Name x p2] [] pos) (cOp1 (isaD T) fa) :=
  PE.imp (pe_callB (cr_isD T) hg hm (by decide +kernel) (pa_cons ha (pa_cons (pe_bltn (v := .ty T.nm) hgT hmT hv rfl hn hd) pa_nil he2) he) (he := he) (hpl := hpl)) fun σ H Q ⟨tk, H0, F0, F, g, w, d, w', R, ef, kk⟩ => by
  obtain ⟨x, w1, e1, ef⟩ := bnd_eq (show bnd (fa g w) _ = _ from ef)
  obtain ⟨e4, e5⟩ := lft_eq ef
  have e5 : w1 = w' := e5
  subst e5
  have nt : isTok x = false := by
    cases hx : isTok x with
    | false => rfl
    | true => unfold isaD at e4; rw [if_pos hx] at e4; cases e4
  have ed : d = .bool (isTy T x) := by
    unfold isaD at e4
    rw [if_neg (by rw [nt]; exact fun z => nomatch z)] at e4
    exact (Option.some.inj e4).symm
  subst ed
  refine ⟨tk, H0, F0, F, g, w, x, w1, R, e1, fun v H1 F1 R1 x1 r1 => ?_⟩
  exact ⟨tk, F1, x, v, rfl, R1.sub, r1, nt, kk _ H1 F1 R1 x1 (by simp only [Rep])⟩
end
end Q

set_option Elab.async false
set_option linter.all false
set_option autoImplicit false
set_option maxRecDepth 100000
/-! QS11: the def of draws; the law's head. -/
namespace Q
open PySem PySem.Spec PyProof.Rows L2
section
variable {P : Program} {w : World} {K : PySem.W.Frag} {mg : Str → Option Value} {base : Heap}
theorem at_nat {α : Type} {xs : List α} {n : Nat} {x : α} (h : xs[n]? = some x) : L2.atI xs (((n + 1 : Nat) : Int) - 1) = some x := by
  have e : (((n + 1 : Nat) : Int) - 1) = (n : Int) := by omega
  rw [e]
  have hl := (List.getElem?_eq_some_iff.mp h).1
  unfold L2.atI L2.ixN
  rw [if_pos (Int.natCast_nonneg n), if_pos (by omega)]
  simpa using h
/-- w["at"] += 1; return int(w["draws"][w["at"] - 1]) % many if w["at"] <= len(w["draws"]) else 0 -/
theorem next_ok {st : Stmt} {f : Addr} {fd : FuncData} {k : Nat} {p0 p1 p2 p3 p4 q0 q1 q2 q3 q4 q5 q6 q7 q8 q9 r0 r1 r2 r3 r4 r5 r6 r7 r8 r9 s0 s1 s2 s3 s4 : Pos} {i0 i1 i2 i3 i4 i5 i6 i7 : Nat}
    (F : Fun K "_law_next" "_law_next" st f fd) (S : FnScope ["w", "many"] ["w", "many"] (defScope st)) (mi : mg "int" = none) (ml : mg "len" = none)
    (gi : (defScope st).names.lookup ("int" : Str) = some .globalImplicit) (gl : (defScope st).names.lookup ("len" : Str) = some .globalImplicit) (gw : (defScope st).names.lookup ("w" : Str) = some .local) (gm : (defScope st).names.lookup ("many" : Str) = some .local)
    (hb : defBody st = [.AugAssign (.Subscript (.Name "w" p0) (.Constant (.str "at") i0 p1) p2) .Add (.Constant (.int 1) i1 p3) p4,
      .Return (some (.IfExp (.Compare (.Subscript (.Name "w" q0) (.Constant (.str "at") i2 q1) q2) [.LtE] [.Call (.Name "len" q3) [.Subscript (.Name "w" q4) (.Constant (.str "draws") i3 q5) q6] [] q7] q8)
        (.BinOp (.Call (.Name "int" r0) [.Subscript (.Subscript (.Name "w" r1) (.Constant (.str "draws") i4 r2) r3) (.BinOp (.Subscript (.Name "w" r4) (.Constant (.str "at") i5 r5) r6) .Sub (.Constant (.int 1) i6 r7) r8) r9] [] s0) .Mod (.Name "many" s1) s2)
        (.Constant (.int 0) i7 s3) q9)) s4]) : FnOk P w K mg base CX0 (k + 1) f fd ["w", "many"] (spD K mg 2 fnNext) := by
  refine F.ok S (fun vs H Q E h => ?_) fun cdv A outer s H vs Q E hr h => ?_
  · obtain ⟨p, b, m, n, full, rfl, _⟩ := next_facts h
    rfl
  · obtain ⟨p, b, m, n, full, rfl, hp, rb, nb, hh⟩ := next_facts h
    rw [hb]
    have hu := hu_of hr
    refine ⟨_, pss_cons (ps_daug hu (pv 0 (hv := .inl gw)) pe_str pe_int in_add (fun _ _ _ => rfl))
      (pss_one (ps_ret (pe_ifExp (pt_cmpR op_le (pe_dget hu (pv 0 (hv := .inl gw)) pe_str (fun _ _ => rfl)) (pe_callB call_len_seq gl ml PySem.boot_len (pa_cons (pe_dget hu (pv 0 (hv := .inl gw)) pe_str (fun _ _ => rfl)) pa_nil)) (nomark _))
        (pe_op op_modN (pe_callTy call_int1 gi mi (by decide +kernel) (pa_cons (pe_ix ix_list (pe_dget hu (pv 0 (hv := .inl gw)) pe_str (fun _ _ => rfl)) (pe_op op_sub (pe_dget hu (pv 0 (hv := .inl gw)) pe_str (fun _ _ => rfl)) pe_int) (fun _ _ => rfl)) pa_nil)) (pv 1 (hv := .inl gm))) pe_int))), ?_⟩
    have dat : ∀ {H : Hp} {n' : Nat}, H p = some (.dK (wKvs b n')) → DGet H p (.str "at") (some (.int n')) := fun {H n'} h => .inl ⟨_, .inr "at", .inl h, rfl, (wd_at b n').symm⟩
    have ddr : ∀ {H : Hp} {n' : Nat}, H p = some (.dK (wKvs b n')) → DGet H p (.str "draws") (some (.ref b)) := fun {H n'} h => .inl ⟨_, .inr "draws", .inl h, rfl, (wd_draws b n').symm⟩
    have hz : (wKvs b n).length < sizeLine := by show 2 < sizeLine; decide
    refine ⟨.ref p, rfl, p, _, rfl, dat hp, (n : Int), 1, rfl, rfl, upd H p (.dK (wKvs b (n + 1))), .inl ⟨_, .inr "at", hp, rfl, hz, ?_⟩, ?_⟩
    · rw [show ((n : Int) + 1) = ((n + 1 : Nat) : Int) from rfl, ← wd_put] <;> rfl
    generalize hH : upd H p (.dK (wKvs b (n + 1))) = H1 at hh ⊢
    have h1p : H1 p = some (.dK (wKvs b (n + 1))) := by rw [← hH, upd_same]
    have rb' : Rd H1 b (.lst (full.map V.int)) := by
      rcases rb with rb | ⟨o, rb⟩
      · exact .inl (by rw [← hH, upd_ne nb]; exact rb)
      · exact .inr ⟨o, by rw [← hH, upd_ne nb]; exact rb⟩
    refine ⟨.ref p, rfl, p, _, rfl, dat h1p, .ref p, rfl, p, _, rfl, ddr h1p, ⟨b, _, rfl, .inl (.inl rb'), (n + 1 : Nat), (full.map V.int).length, rfl, rfl, _, rfl, ?_⟩⟩
    rw [List.length_map]
    rcases hh with ⟨hl, q⟩ | ⟨x, hx, hm, q⟩
    · rw [decide_eq_false (by omega)]
      exact q
    · have hl := (List.getElem?_eq_some_iff.mp hx).1
      rw [decide_eq_true (by omega)]
      refine ⟨.ref p, rfl, p, _, rfl, ddr h1p, .ref p, rfl, p, _, rfl, dat h1p, _, _, rfl, rfl, ?_⟩
      refine ⟨b, _, _, .int x, rfl, rfl, .inl rb', at_nat (by rw [List.getElem?_map, hx]; rfl), .inl ⟨x, rfl, .int m, rfl, x, m, rfl, rfl, hm, q⟩⟩
end
/-! ### the law's head: w = {"draws": e, "at": 0} -/
mutual
theorem Rep.up {Kx : PySem.W.Frag} {mx : Str → Option Value} {tk tk' : Tk Kx mx} {F : Hp} (h0 : tk.pw = none) : ∀ (d : D) (v : V), Rep tk F d v → Rep tk' F d v
  | .none, _, h => by simpa only [Rep] using h
  | .bool _, _, h => by simpa only [Rep] using h
  | .int _, _, h => by simpa only [Rep] using h
  | .str _, _, h => by simpa only [Rep] using h
  | .list ds, v, h => by
    simp only [Rep] at h ⊢
    obtain ⟨a, xs, e, r, l⟩ := h
    exact ⟨a, xs, e, r, RepL.up h0 ds xs l⟩
  | .tuple ds, v, h => by
    simp only [Rep] at h ⊢
    obtain ⟨a, xs, e, r, l⟩ := h
    exact ⟨a, xs, e, r, RepL.up h0 ds xs l⟩
  | .dict kvs, v, h => by
    simp only [Rep] at h ⊢
    obtain ⟨a, e, h⟩ := h
    refine ⟨a, e, ?_⟩
    rcases h with ⟨es, r, l⟩ | ⟨es, r, l⟩ | ⟨_, z⟩ | h | h
    · exact .inl ⟨es, r, RepK.up h0 kvs es l⟩
    · exact .inr (.inl ⟨es, r, RepT.up h0 kvs es l⟩)
    · rw [h0] at z; cases z
    · exact .inr (.inr (.inr (.inl h)))
    · exact .inr (.inr (.inr (.inr h)))
theorem RepL.up {Kx : PySem.W.Frag} {mx : Str → Option Value} {tk tk' : Tk Kx mx} {F : Hp} (h0 : tk.pw = none) : ∀ (ds : List D) (vs : List V), RepL tk F ds vs → RepL tk' F ds vs
  | [], [], _ => by simp only [RepL]
  | [], _ :: _, h => by simp only [RepL] at h
  | _ :: _, [], h => by simp only [RepL] at h
  | d :: ds, v :: vs, h => by
    simp only [RepL] at h ⊢
    exact ⟨Rep.up h0 d v h.1, RepL.up h0 ds vs h.2⟩
theorem RepK.up {Kx : PySem.W.Frag} {mx : Str → Option Value} {tk tk' : Tk Kx mx} {F : Hp} (h0 : tk.pw = none) : ∀ (kvs : List (D × D)) (es : List (Key × V)), RepK tk F kvs es → RepK tk' F kvs es
  | [], [], _ => by simp only [RepK]
  | [], _ :: _, h => by simp only [RepK] at h
  | _ :: _, [], h => by simp only [RepK] at h
  | (k, d) :: r, (k', v) :: r', h => by
    simp only [RepK] at h ⊢
    exact ⟨h.1, Rep.up h0 d v h.2.1, RepK.up h0 r r' h.2.2⟩
theorem RepT.up {Kx : PySem.W.Frag} {mx : Str → Option Value} {tk tk' : Tk Kx mx} {F : Hp} (h0 : tk.pw = none) : ∀ (kvs : List (D × D)) (es : List (List Key × V)), RepT tk F kvs es → RepT tk' F kvs es
  | [], [], _ => by simp only [RepT]
  | [], _ :: _, h => by simp only [RepT] at h
  | _ :: _, [], h => by simp only [RepT] at h
  | (k, d) :: r, (k', v) :: r', h => by
    simp only [RepT] at h ⊢
    exact ⟨h.1, Rep.up h0 d v h.2.1, RepT.up h0 r r' h.2.2⟩
end
theorem ints_repL {Kx : PySem.W.Frag} {mx : Str → Option Value} {tk : Tk Kx mx} {F : Hp} : ∀ (l : List Int) {xs : List V}, RepL tk F (l.map PyData.int) xs → xs = l.map V.int
  | [], [], _ => rfl
  | [], _ :: _, h => by simp only [List.map_nil, RepL] at h
  | _ :: _, [], h => by simp only [List.map_cons, RepL] at h
  | i :: l, x :: xs, h => by
    simp only [List.map_cons, RepL, Rep] at h
    rw [h.1, ints_repL l h.2]
    rfl
/-- the law's promise: True -/
def spLaw (K : PySem.W.Frag) (most : Nat) : Sp := fun vs H Q _ => ∃ (a : Addr) (ns : List Int), vs = [.ref a] ∧ SqL K H a (ns.map V.int) ∧ ns.length ≤ most ∧ ∀ H', Q (.bl true) H'
section
variable {P : Program} {w : World} {K : PySem.W.Frag} {mg : Str → Option Value} {base : Heap}
theorem merge_w (b : Addr) : mergeK [] [((.inr "draws" : Key), V.ref b), (.inr "at", .int 0)] = wKvs b 0 := by
  unfold mergeK
  rw [List.foldl_cons, List.foldl_cons, List.foldl_nil]
  dsimp only
  have e1 : putK ([] : List (Key × V)) (.inr "draws") (V.ref b) = [(.inr "draws", .ref b)] := rfl
  rw [e1]
  unfold putK
  rw [if_neg]
  · rfl
  · rw [valV_any, valV_neg (p := ((Sum.inr (Str.ofString "draws") : Key), V.ref b)) kne]
    exact fun z => nomatch z
theorem law_ok {x : Str} {st : Stmt} {f : Addr} {fd : FuncData} {N : List Str} {k nl most : Nat} {fb : S} {fe : E} {O' : List Nat} {p0 p1 p2 p3 p4 p5 : Pos} {i0 i1 i2 : Nat} {e : Expr} {rest : List Stmt} {xs : Str}
    (F : Fun K x x st f fd) (S : FnScope N [xs] (defScope st)) (hb : defBody st = .Assign [.Name "w" p0] (.Dict [some (.Constant (.str "draws") i0 p1), some (.Constant (.str "at") i1 p2)] [e, .Constant (.int 0) i2 p3] p4) p5 :: rest)
    (h1 : N[1]? = some ("w" : Str)) (hw : Loc (defScope st) "w")
    (he : ∀ (cdv : Value) (A : Around) (outer : List PySem.Env) (s : Shared) (H : Hp) (E : XK), Room k (A.deeper (envOfC x (defScope st) s.heap.objs.size f cdv)) → EV (cxOf CX0 P w K mg base N x (defScope st) f cdv A outer s H E).nox [] e fe)
    (hr : ∀ (cdv : Value) (A : Around) (outer : List PySem.Env) (s : Shared) (H : Hp) (E : XK), Room k (A.deeper (envOfC x (defScope st) s.heap.objs.size f cdv)) → ESs (cxOf CX0 P w K mg base N x (defScope st) f cdv A outer s H E).nox [] O' [] rest fb)
    (hN : N.length = 1 + nl)
    (math : ∀ ns : List Int, ns.length ≤ most → ∃ l w', fe (some (tokS ns) :: List.replicate nl none) none = some (.list (l.map .int), none) ∧ fb ((some (tokS ns) :: List.replicate nl none).set 1 (some tokW)) (some l) = some (.rt (.bool true), w')) : FnOk P w K mg base CX0 (k + 1) f fd [xs] (spLaw K most) := by
  refine F.ok S (fun vs H Q E h => ?_) fun cdv A outer s H vs Q E hrm h => ?_
  · obtain ⟨a, ns, rfl, _⟩ := h
    rfl
  · obtain ⟨a, ns, rfl, hS, hl, q⟩ := h
    obtain ⟨l, w', m1, m2⟩ := math ns hl
    rw [hb]
    refine ⟨_, pss_cons (ps_set (i := 1) S.nd h1 hw (pe_disp (pps_cons pe_str (he cdv A outer s H E hrm) (pps_cons pe_str pe_int pps_nil)) rfl rfl (by simp) (by show 2 ≤ 15; decide)) (by rfl) (.inl rfl)) (hr cdv A outer s H E hrm), ?_⟩
    intro p hp
    -- the frozen part: the script
    obtain ⟨F0, sb0, hF, hp0⟩ : ∃ F0 : Hp, Sub F0 H ∧ SqL K F0 a (ns.map V.int) ∧ F0 p = none := by
      refine ⟨fun b => if b = a then H b else none, fun b o e => ?_, ?_, ?_⟩
      · dsimp only at e
        split at e
        · exact .inl e
        · cases e
      · rcases hS with (h | ⟨o, h⟩) | h
        · exact .inl (.inl (by dsimp only; rw [if_pos rfl]; exact h))
        · exact .inl (.inr ⟨o, by dsimp only; rw [if_pos rfl]; exact h⟩)
        · exact .inr h
      · dsimp only
        split
        · exact hp
        · rfl
    have rs : RepL (⟨none⟩ : Tk K mg) F0 [tokS ns] [V.ref a] := by
      simp only [RepL, tokS, Rep]
      exact ⟨⟨a, rfl, .inr (.inr (.inr (.inr ⟨ns, rfl, hF⟩)))⟩, trivial⟩
    have R0 := start_rel (tk := (⟨none⟩ : Tk K mg)) (N := N) (vs := [V.ref a]) (wd := none) (nl := nl) sb0 (by unfold WAt; trivial) rs hN
    obtain ⟨R1, x1⟩ := R0.allocO hp (.dK [])
    refine ⟨(⟨none⟩ : Tk K mg), H, F0, F0, _, none, _, none, R1, m1, fun v H2 F2 R2 x2 r2 => ?_⟩
    have hH2 : H2 p = some (.dK []) := x2.gr p _ upd_same (fun z => nomatch z)
    have hF2 : F2 p = none := x2.nw p (fun z => nomatch z) (by rw [upd_same]; exact fun z => nomatch z) hp0
    simp only [Rep] at r2
    obtain ⟨b, xs', rfl, rb, rl⟩ := r2
    have ex := ints_repL l rl
    subst ex
    refine ⟨hH2, [(.inr "draws", .ref b), (.inr "at", .int 0)], rfl, by show 2 ≤ 15; decide, ?_⟩
    rw [merge_w]
    have fr2 : ∀ c o, F2 c = some o → c ≠ p := fun c o e z => by rw [z, hF2] at e; cases e
    have sub2 : Sub F2 (upd H2 p (.dK (wKvs b 0))) := fun c o e => by rw [upd_ne (fr2 c o e)]; exact R2.sub c o e
    have hg1 : 1 < ((some (tokS ns) :: List.replicate nl none : Env)).length := by
      have := (List.getElem?_eq_some_iff.mp h1).1
      simp only [List.length_cons, List.length_replicate]; omega
    refine ⟨(⟨some p⟩ : Tk K mg), H, F0, F2, _, some l, _, w', ⟨?_, sub2, R2.f0, fun c u e n => ?_, fun c n e f => ?_, fun i d hi h => ?_, fun i d hi h => by simp at hi, fun i j a d e hi _ _ _ _ _ => by simp at hi, ?_⟩, m2, ?_⟩
    · have := R2.len
      simp only [L2.gName, List.length_set]
      simp only [List.map_cons, List.map_nil, List.singleton_append] at this
      simpa using this
    · have ne : c ≠ p := fun z => n (by rw [z])
      rw [upd_ne ne]
      exact R2.k0 c u e (fun z => nomatch z)
    · have ne : c ≠ p := fun z => by rw [z] at e; exact e hp
      exact R2.n0 c (fun z => nomatch z) e f
    · by_cases h1i : i = 1
      · subst h1i
        rw [List.getElem?_set_self hg1] at h
        cases h
        refine ⟨.ref p, ?_, ?_⟩
        · have hl1 : 1 < (L2.start N [V.ref a]).length := by rw [← R2.len]; simpa using hg1
          exact List.getElem?_set_self hl1
        · simp only [tokW, Rep]
          exact ⟨p, rfl, .inr (.inr (.inl (by simp)))⟩
      · rw [List.getElem?_set_ne (by omega)] at h
        obtain ⟨v', h3, h4⟩ := R2.val i d (by simp) (by simpa using h)
        exact ⟨v', by show (List.set _ 1 _)[i]? = _; rw [List.getElem?_set_ne (by omega)]; exact h3, Rep.up rfl _ _ h4⟩
    · unfold WAt
      exact ⟨hF2, b, 0, l, upd_same, rb, rfl⟩
    · exact fun v H' F' _ _ _ _ _ r => by
        simp only [Rep] at r
        subst r
        exact q H'
end
end Q

set_option Elab.async false
set_option linter.all false
set_option autoImplicit false
set_option maxRecDepth 100000
/-! QS12: defs in a bundle; dead statements; new lists by +; len(set(..)). -/
namespace Q
open PySem PySem.Spec PyProof.Rows L2
/-- a def of the text, as the head tells it -/
structure Df (K : PySem.W.Frag) (mg : Str → Option Value) (x : Str) (st : Stmt) (ps : List Str) : Prop where
  ex : ∃ f fd, mg x = some (.ref f) ∧ Fun K x x st f fd ∧ Binds K fd ps []
/-- a def that keeps the promise of a function of data -/
structure Ok (K : PySem.W.Frag) (mg : Str → Option Value) (P : Program) (w : World) (base : Heap) (k : Nat) (x : Str) (ps : List Str) (n : Nat) (fn : Fn) : Prop where
  ex : ∃ f fd, mg x = some (.ref f) ∧ PySem.W.keepIn K (.ref f) = true ∧ Binds K fd ps [] ∧ FnOk P w K mg base CX0 k f fd ps (spD K mg n fn)
section
variable {P : Program} {w : World} {K : PySem.W.Frag} {mg : Str → Option Value} {base : Heap}
theorem df_mk {h : Heap} {x : Str} {st : Stmt} {ps : List Str} {f : Addr} {od an : Option Addr} {sl : Array (Option Value)} {oc kV dc pm cd ct : Value} (X : K.In h) (G : h.Ns mainGlobals mg)
    (a : PySem.W.nsIn K mainGlobals x = some (some (.ref f))) (l : K.lookup f = some ⟨oc, od, .func (PySem.W.fnOf x x (defArgs st) (defBody st) (defScope st) .none kV dc pm an cd ct), sl⟩) (c : PySem.W.codeIn K cd x = true) (k : PySem.W.keepIn K (.ref f) = true)
    (b : ∀ (kV doc pm : Value) (an : Option Addr) (cdv ct : Value) (us : List Value), us.length = ps.length → bindArgs (PySem.W.fnOf x x (defArgs st) (defBody st) (defScope st) .none kV doc pm an cdv ct) ⟨us, []⟩ = pure (ps.zip us)) : Df K mg x st ps := by
  have F := fun_mk (st := st) l c k
  exact ⟨_, _, PySem.W.mg_of X G a, F, F.binds b⟩
theorem ok_of {x : Str} {st : Stmt} {N ps : List Str} {k nl : Nat} {fb : S} {O' : List Nat} (D : Df K mg x st ps) (S : FnScope N ps (defScope st))
    (hb : ∀ (f : Addr) (cdv : Value) (A : Around) (outer : List PySem.Env) (s : Shared) (H : Hp) (E : XK), Room k (A.deeper (envOfC x (defScope st) s.heap.objs.size f cdv)) → ESs (cxOf CX0 P w K mg base N x (defScope st) f cdv A outer s H E).nox [] O' [] (defBody st) fb)
    (hN : N.length = ps.length + nl := by rfl) : Ok K mg P w base (k + 1) x ps ps.length (bodyFn ps.length nl fb) := by
  obtain ⟨f, fd, h1, F, h2⟩ := D.ex
  exact ⟨f, fd, h1, F.kp, h2, fn_ok F S (hb f) hN⟩
end
section
variable {P : Program} {w : World} {K : PySem.W.Frag} {mg : Str → Option Value} {base : Heap}
theorem next_ok' {st : Stmt} {p0 p1 p2 p3 p4 q0 q1 q2 q3 q4 q5 q6 q7 q8 q9 r0 r1 r2 r3 r4 r5 r6 r7 r8 r9 s0 s1 s2 s3 s4 : Pos} {i0 i1 i2 i3 i4 i5 i6 i7 : Nat}
    (D : Df K mg "_law_next" st ["w", "many"]) (S : FnScope ["w", "many"] ["w", "many"] (defScope st)) (mi : mg "int" = none) (ml : mg "len" = none)
    (gi : (defScope st).names.lookup ("int" : Str) = some .globalImplicit) (gl : (defScope st).names.lookup ("len" : Str) = some .globalImplicit) (gw : (defScope st).names.lookup ("w" : Str) = some .local) (gm : (defScope st).names.lookup ("many" : Str) = some .local)
    (hb : defBody st = [.AugAssign (.Subscript (.Name "w" p0) (.Constant (.str "at") i0 p1) p2) .Add (.Constant (.int 1) i1 p3) p4,
      .Return (some (.IfExp (.Compare (.Subscript (.Name "w" q0) (.Constant (.str "at") i2 q1) q2) [.LtE] [.Call (.Name "len" q3) [.Subscript (.Name "w" q4) (.Constant (.str "draws") i3 q5) q6] [] q7] q8)
        (.BinOp (.Call (.Name "int" r0) [.Subscript (.Subscript (.Name "w" r1) (.Constant (.str "draws") i4 r2) r3) (.BinOp (.Subscript (.Name "w" r4) (.Constant (.str "at") i5 r5) r6) .Sub (.Constant (.int 1) i6 r7) r8) r9] [] s0) .Mod (.Name "many" s1) s2)
        (.Constant (.int 0) i7 s3) q9)) s4]) : Ok K mg P w base 1 "_law_next" ["w", "many"] 2 fnNext := by
  obtain ⟨f, fd, h1, F, h2⟩ := D.ex
  exact ⟨f, fd, h1, F.kp, h2, next_ok F S mi ml gi gl gw gm hb⟩
end
section
variable {X : Cx} {O : List Nat}
theorem EV.callO {x : Str} {ps : List Str} {p pos : Pos} {e : Expr} {es : List Expr} {k n : Nat} {fn : Fn} {fs : List E} (F : Ok X.K X.mg X.prog X.w X.base k x ps n fn) (hr : Room k X.A)
    (ha : EA X O (e :: es) (cArgs fs)) (hg : Gl X x := by rfl) (hn : fs.length = n := by rfl) (hdb : (x == ("__debug__" : Str)) = false := by decide) (he : starEach (e :: es) X.env = (false, eval e X.env) :: starEach es X.env := by rfl) (hpl : (backTo pos (starEach es X.env)).any (·.1) = false := by rfl) :
    EV X O (.Call (.Name x p) (e :: es) [] pos) (cCall fn fs) := by
  obtain ⟨f, fd, h1, h2, h3, h4⟩ := F.ex
  exact EV.call h4 hr h1 h2 h3 ha hg hn hdb he hpl
def sDead : S := fun _ _ => none
variable {O' Ol : List Nat}
theorem ES.dead {st : Stmt} : ES X O O' Ol st sDead := ⟨fun pins s σ H D I ⟨tk, H0, F0, F, g, w, o, w', R, ef, q⟩ => by cases ef⟩
theorem ESs.dead {st : List Stmt} : ESs X O O' Ol st sDead := ⟨fun pins s σ H D I ⟨tk, H0, F0, F, g, w, o, w', R, ef, q⟩ => by cases ef⟩
/-- xs + ys of lists: a new object -/
def catD : D → D → Option D
  | .list xs, .list ys => if xs.length + ys.length ≤ sizeLine then some (.list (xs ++ ys)) else none
  | _, _ => none
theorem EO.cat {a b : Expr} {fa fb : E} {pos : Pos} (ha : EB X O a fa) (hb : EB X O b fb) : EO X O (.BinOp a .Add b pos) (cOp2 catD fa fb) :=
  PE.imp (pe_op op_catR ha hb) fun σ H Q ⟨tk, H0, F0, F, g, w, d, w', R, ef, k⟩ => by
  obtain ⟨x, w1, e1, ef⟩ := bnd_eq (show bnd (fa g w) _ = _ from ef)
  obtain ⟨y, w2, e2, ef⟩ := bnd_eq ef
  obtain ⟨e3, e4⟩ := lft_eq ef
  have e4 : w2 = w' := e4
  subst e4
  refine ⟨tk, H0, F0, F, g, w, x, w1, R, e1, fun vx H1 F1 R1 x1 r1 => ?_⟩
  refine ⟨tk, H0, F0, F1, g, w1, y, w2, R1, e2, fun vy H2 F2 R2 x2 r2 => ?_⟩
  replace r1 := r1.ex x2
  obtain ⟨us, vs, rfl, rfl⟩ : ∃ us vs, x = .list us ∧ y = .list vs := by
    cases x <;> cases y <;> simp only [catD] at e3 <;> first | cases e3 | exact ⟨_, _, rfl, rfl⟩
  simp only [catD] at e3
  simp only [RepB] at r1 r2
  obtain ⟨l1, xs, rfl, na, ra, la⟩ := r1
  obtain ⟨l2, ys, rfl, nb, rb, lb⟩ := r2
  by_cases h : us.length + vs.length ≤ sizeLine
  case neg => rw [if_neg h] at e3; cases e3
  rw [if_pos h] at e3
  cases e3
  rw [la.length, lb.length] at h
  refine ⟨l1, l2, xs, ys, rfl, rfl, ra, rb, h, fun p hp => ?_⟩
  obtain ⟨R3, x3⟩ := R2.allocO hp (.lst (xs ++ ys))
  have x13 := (x1.trans x2).trans x3
  refine k _ _ _ R3 x13 ⟨p, _, rfl, upd_same, R2.sub.none hp, ?_, fun z => ?_, ?_⟩
  · cases hz : H p with
    | none => rfl
    | some o =>
      have npw : tk.pw ≠ some p := fun z => (R2.wat.free p z).2 hp
      have := (x1.trans x2).gr p o hz npw
      rw [hp] at this
      cases this
  · exact (R2.wat.free p z).2 hp
  · simp only [RepO]
    exact la.append lb
/-- how many different ints -/
def dedupI (ns : List Int) : List Int := ns.foldl step_dedup []
def lenSetD : D → Option D
  | .list ds => (intsOf ds).bind fun ns => if ns.length + 1 < scanBound then some (.int (dedupI ns).length) else none
  | _ => none
theorem firstMet_all (ns : List Int) : firstMet (fun i => ns.getD i 0) ns.length = dedupI ns := by
  unfold firstMet dedupI
  congr 1
  refine List.ext_getElem (by simp) fun i h1 h2 => ?_
  simp [List.getD_eq_getElem?_getD, List.getElem?_eq_getElem h2]
theorem dedup_le (ns : List Int) : (dedupI ns).length ≤ ns.length := by
  rw [← firstMet_all]
  exact firstMet_length_le _ _
theorem EV.lenSet {a : Expr} {fa : E} {p p2 q pos : Pos} (hr : ∃ k, Room k X.A) (hm : X.mg "len" = none) (hm2 : X.mg "set" = none) (ha : EB X O a fa) (hg : Gl X "len" := by rfl) (hg2 : Gl X "set" := by rfl)
    (na : starEach [a] X.env = (false, eval a X.env) :: starEach [] X.env := by rfl) : EV X O (.Call (.Name "len" p) [.Call (.Name "set" p2) [a] [] q] [] pos) (cOp1 lenSetD fa) := by
  obtain ⟨k, hr⟩ := hr
  refine ⟨fun pins s σ H Q I ⟨tk, H0, F0, F, g, w, d, w', R, ef, kk⟩ => ?_⟩
  obtain ⟨x, w1, e1, ef⟩ := bnd_eq (show bnd (fa g w) _ = _ from ef)
  obtain ⟨e4, e5⟩ := lft_eq ef
  have e5 : w1 = w' := e5
  subst e5
  refine Call_ (ld_blt I hg hm PySem.boot_len ?_)
  refine PyProof.Rows.callWith_builtin1 (PyProof.Rows.args_cons ?_ rfl) rfl rfl
  refine Call_ (ld_blt I hg2 hm2 PyProof.Rows.boot_set ?_)
  refine PyProof.Rows.callWith_type1 (PyProof.Rows.args_cons (thn (ha.run pins s σ H (fun v H1 => ∃ (l : Addr) (ns : List Int), v = V.ref l ∧ Rd H1 l (.lst (ns.map V.int)) ∧ ns.length + 1 < scanBound ∧ Q (.int (dedupI ns).length) H1) I ⟨tk, H0, F0, F, g, w, x, w1, R, e1, fun v H1 F1 R1 x1 r1 => ?_⟩) fun v s1 ⟨x, H1, I1, r1, q1⟩ => PyProof.Rows.args_nil ?_) na) na rfl
  · cases x <;> simp only [lenSetD] at e4 <;> first | cases e4 | skip
    rename_i ds
    obtain ⟨ns, h1, h2⟩ := Option.bind_eq_some_iff.mp e4
    by_cases hz : ns.length + 1 < scanBound
    case neg => rw [if_neg hz] at h2; cases h2
    rw [if_pos hz] at h2
    cases h2
    simp only [RepB] at r1
    obtain ⟨l, xs, rfl, _, hr1, rl⟩ := r1
    have := ints_rep h1 rl
    subst this
    exact ⟨l, ns, rfl, hr1, hz, kk _ H1 F1 R1 x1 (by simp only [Rep])⟩
  · obtain ⟨l, ns, rfl, hq, h1, q1⟩ := q1
    cases r1
    obtain ⟨its, r, pl, hz⟩ := I1.list (.inl hq)
    have hl : its.toArray.size = ns.length := by rw [List.size_toArray, ← r.length, List.length_map]
    refine call_set_list hr.hd pl.isList (ns := ns) (by simpa using r.ints) (by rw [hl]; exact h1) fun h' tk hS hk => ?_
    rw [hl, firstMet_all] at hS
    refine PyProof.Rows.args_nil ?_
    obtain ⟨o, es, ep, t, ho, hex, hd, _, _, _, hf, hn⟩ := hS
    have I2 : Inv X pins σ H1 { s1 with heap := h', toks := tk } := I1.kept fun b o e => hk b o (Heap.lt_size e) e
    refine call_len_set ho hex hd hf (by rw [hn]; have := dedup_le ns; unfold scanBound at h1; omega) ⟨.int (dedupI ns).length, H1, I2.tok _, ⟨_, by rw [hn]⟩, q1⟩
end
end Q

set_option Elab.async false
set_option linter.all false
set_option autoImplicit false
set_option maxRecDepth 100000
/-! QSL: the last of the framework. -/
namespace Q
open PySem PySem.Spec PyProof.Rows L2
section
variable {X : Cx} {k : Nat}
theorem ET.or1 {O : List Nat} {a : Expr} {fa : T} {pos : Pos} (h : ET X O a fa) : PW X (.BoolOp .Or [a] pos) (rdT X.K X.mg O fa) := pw_or1 h
end
end Q

set_option Elab.async false
set_option linter.all false
set_option autoImplicit false
set_option maxRecDepth 100000
/-! QM: plain laws of the combinators: what a body computes. -/
namespace Q
open PySem PySem.W
/-- x ends well, with P -/
structure wp {α : Type} (x : Option (α × Wd)) (P : α → Wd → Prop) : Prop where
  ex : ∃ a w, x = some (a, w) ∧ P a w
theorem wp_eq {α : Type} {x : Option (α × Wd)} {P : α → Wd → Prop} (h : wp x P) : ∃ a w, x = some (a, w) ∧ P a w := h.ex
@[simp] theorem wp_some {α : Type} (a : α) (w : Wd) (P : α → Wd → Prop) : wp (some (a, w)) P = P a w := propext ⟨fun ⟨a', w', e, h⟩ => by cases e; exact h, fun h => ⟨a, w, rfl, h⟩⟩
@[simp] theorem wp_none {α : Type} (P : α → Wd → Prop) : wp none P = False := propext ⟨fun ⟨a', w', e, h⟩ => by (cases e), fun h => h.elim⟩
@[simp] theorem wp_bnd {α β : Type} (x : Option (α × Wd)) (f : α → Wd → Option (β × Wd)) (P : β → Wd → Prop) : wp (bnd x f) P = wp x (fun a w => wp (f a w) P) := by
  cases x with
  | none => simp
  | some p => obtain ⟨a, w⟩ := p; simp
theorem wp_mono {α : Type} {x : Option (α × Wd)} {P P' : α → Wd → Prop} (h : wp x P) (k : ∀ a w, P a w → P' a w) : wp x P' := by
  obtain ⟨a, w, e, p⟩ := h
  exact ⟨a, w, e, k _ _ p⟩
theorem wp_of {α : Type} {x : Option (α × Wd)} {P : α → Wd → Prop} {a : α} {w : Wd} (h : x = some (a, w)) (p : P a w) : wp x P := ⟨a, w, h, p⟩
theorem wp_ite {α : Type} {c : Prop} [Decidable c] {x y : Option (α × Wd)} {P : α → Wd → Prop} (h : c → wp x P) (k : ¬ c → wp y P) : wp (if c then x else y) P := by
  by_cases hc : c
  · rw [if_pos hc]; exact h hc
  · rw [if_neg hc]; exact k hc
section
variable (g : Env) (w : Wd)
@[simp] theorem s_cVar (i : Nat) : cVar i g w = lft (g[i]?).join w := Eq.trans rfl rfl
@[simp] theorem s_cK (d : D) : cK d g w = some (d, w) := Eq.trans rfl rfl
@[simp] theorem s_cArgs0 : cArgs [] g w = some ([], w) := Eq.trans rfl rfl
@[simp] theorem s_cArgs1 (e : E) (es : List E) : cArgs (e :: es) g w = bnd (e g w) fun d w1 => bnd (cArgs es g w1) fun ds w2 => some (d :: ds, w2) := Eq.trans rfl rfl
@[simp] theorem s_cTup (es : List E) : cTup es g w = bnd (cArgs es g w) fun ds w1 => some (.tuple ds, w1) := Eq.trans rfl rfl
@[simp] theorem s_cLst (es : List E) : cLst es g w = bnd (cArgs es g w) fun ds w1 => some (.list ds, w1) := Eq.trans rfl rfl
@[simp] theorem s_cOp1 (f : D → Option D) (a : E) : cOp1 f a g w = bnd (a g w) fun x w1 => lft (f x) w1 := Eq.trans rfl rfl
@[simp] theorem s_cOp2 (f : D → D → Option D) (a b : E) : cOp2 f a b g w = bnd (a g w) fun x w1 => bnd (b g w1) fun y w2 => lft (f x y) w2 := Eq.trans rfl rfl
@[simp] theorem s_cIf (c : T) (a b : E) : cIf c a b g w = bnd (c g w) fun k w1 => if k = true then a g w1 else b g w1 := Eq.trans rfl rfl
@[simp] theorem s_cCall (f : Fn) (es : List E) : cCall f es g w = bnd (cArgs es g w) fun ds w1 => f ds w1 := Eq.trans rfl rfl
@[simp] theorem s_tVal (a : E) : tVal a g w = bnd (a g w) fun x w1 => lft (boolD x) w1 := Eq.trans rfl rfl
@[simp] theorem s_tCmp (f : D → D → Option Bool) (a b : E) : tCmp f a b g w = bnd (a g w) fun x w1 => bnd (b g w1) fun y w2 => lft (f x y) w2 := Eq.trans rfl rfl
@[simp] theorem s_tNot (a : T) : tNot a g w = bnd (a g w) fun k w1 => some (!k, w1) := Eq.trans rfl rfl
@[simp] theorem s_tAnd (a b : T) : tAnd a b g w = bnd (a g w) fun k w1 => if k = true then b g w1 else some (false, w1) := Eq.trans rfl rfl
@[simp] theorem s_tOr (a b : T) : tOr a b g w = bnd (a g w) fun k w1 => if k = true then some (true, w1) else b g w1 := Eq.trans rfl rfl
@[simp] theorem s_tYes : tYes g w = some (true, w) := Eq.trans rfl rfl
@[simp] theorem s_cT (t : T) : cT t g w = bnd (t g w) fun k w1 => some (.bool k, w1) := Eq.trans rfl rfl
@[simp] theorem s_cAnd (a b : E) : cAnd a b g w = bnd (a g w) fun x w1 => bnd (lft (boolD x) w1) fun k w2 => if k = true then b g w2 else some (.bool false, w2) := Eq.trans rfl rfl
@[simp] theorem s_cOr (a b : E) : cOr a b g w = bnd (a g w) fun x w1 => bnd (lft (boolD x) w1) fun k w2 => if k = true then some (.bool true, w2) else b g w2 := Eq.trans rfl rfl
@[simp] theorem s_cNot (a : E) : cNot a g w = bnd (a g w) fun x w1 => bnd (lft (boolD x) w1) fun k w2 => some (.bool (!k), w2) := Eq.trans rfl rfl
@[simp] theorem s_cCut (a : E) (lo hi : Option E) : cCut a lo hi g w = bnd (a g w) fun x w1 => bnd (optE lo g w1) fun l w2 => bnd (optE hi g w2) fun h w3 => lft (cutD x l h) w3 := Eq.trans rfl rfl
@[simp] theorem s_optE0 : optE none g w = some (none, w) := Eq.trans rfl rfl
@[simp] theorem s_optE1 (e : E) : optE (some e) g w = bnd (e g w) fun d w1 => match d with
  | .int i => some (some i, w1)
  | _ => none := Eq.trans rfl rfl
@[simp] theorem s_itSeq (a : E) : itSeq a g w = bnd (a g w) fun x w1 => lft (itemsD x) w1 := Eq.trans rfl rfl
@[simp] theorem s_itR1 (a : E) : itR1 a g w = bnd (a g w) fun x w1 => lft (range1 x) w1 := Eq.trans rfl rfl
@[simp] theorem s_itR2 (a b : E) : itR2 a b g w = bnd (a g w) fun x w1 => bnd (b g w1) fun y w2 => lft (range2 x y) w2 := Eq.trans rfl rfl
@[simp] theorem s_itZip (a b : E) : itZip a b g w = bnd (a g w) fun x w1 => bnd (b g w1) fun y w2 => lft (zipD x y) w2 := Eq.trans rfl rfl
@[simp] theorem s_cLc (it : Es) (t : G) (c : T) (e : E) (vs : List Nat) : cLc it t c e vs g w = bnd (it g w) fun xs w1 => bnd (lcLoop t c e (wipeE g vs) xs w1) fun ds w2 => if xs.length ≤ sizeLine then some (.list ds, w2) else none := Eq.trans rfl rfl
@[simp] theorem s_sPass : sPass g w = some (.nx g, w) := Eq.trans rfl rfl
@[simp] theorem s_sSet (t : G) (e : E) : sSet t e g w = bnd (e g w) fun d w1 => match t d g with
  | some g1 => some (.nx g1, w1)
  | none => none := Eq.trans rfl rfl
@[simp] theorem s_sPar (ts : List G) (es : List E) : sPar ts es g w = bnd (cArgs es g w) fun ds w1 => match gList ts ds g with
  | some g1 => some (.nx g1, w1)
  | none => none := Eq.trans rfl rfl
@[simp] theorem s_sRet (e : E) : sRet e g w = bnd (e g w) fun d w1 => some (.rt d, w1) := Eq.trans rfl rfl
@[simp] theorem s_sIf (c : T) (a b : S) : sIf c a b g w = bnd (c g w) fun k w1 => if k = true then a g w1 else b g w1 := Eq.trans rfl rfl
@[simp] theorem s_sBreak : sBreak g w = some (.bk g, w) := Eq.trans rfl rfl
@[simp] theorem s_sCont : sCont g w = some (.ct g, w) := Eq.trans rfl rfl
@[simp] theorem s_sApp (i : Nat) (e : E) : sApp i e g w = bnd (e g w) fun d w1 => mutS i (apD · d) g w1 := Eq.trans rfl rfl
@[simp] theorem s_sExt (i : Nat) (e : E) : sExt i e g w = bnd (e g w) fun d w1 => mutS i (exD · d) g w1 := Eq.trans rfl rfl
@[simp] theorem s_mutS (i : Nat) (f : D → Option D) : mutS i f g w = match (g[i]?).join with
  | some x => match f x with
    | some y => some (.nx (g.set i (some y)), w)
    | none => none
  | none => none := Eq.trans rfl rfl
@[simp] theorem s_sAugN (i : Nat) (f : D → D → Option D) (e : E) : sAugN i f e g w = match (g[i]?).join with
  | some x => bnd (e g w) fun d w1 => match f x d with
    | some y => some (.nx (g.set i (some y)), w1)
    | none => none
  | none => none := Eq.trans rfl rfl
@[simp] theorem s_sFor (it : Es) (t : G) (b : S) (vs : List Nat) : sFor it t b vs g w = bnd (it g w) fun xs w1 => loopS t b vs xs g w1 := Eq.trans rfl rfl
@[simp] theorem s_sWhile (c : T) (b : S) (vs : List Nat) (n : Nat) : sWhile c b vs n g w = whileS c b vs n g w := Eq.trans rfl rfl
end
theorem s_sSeq (a b : S) (g : Env) (w : Wd) : sSeq a b g w = bnd (a g w) fun o w1 => match o with
  | .nx g1 => b g1 w1
  | .rt d => some (.rt d, w1)
  | .bk g1 => some (.bk g1, w1)
  | .ct g1 => some (.ct g1, w1) := rfl
@[simp] theorem s_gName (i : Nat) (d : D) (g : Env) : gName i d g = if i < g.length then some (g.set i (some d)) else none := Eq.trans rfl rfl
@[simp] theorem s_gList0 (g : Env) : gList [] [] g = some g := Eq.trans rfl rfl
@[simp] theorem s_gList1 (t : G) (ts : List G) (d : D) (ds : List D) (g : Env) : gList (t :: ts) (d :: ds) g = match t d g with
  | some g1 => gList ts ds g1
  | none => none := Eq.trans rfl rfl
@[simp] theorem s_gTup (ts : List G) (ds : List D) (g : Env) : gTup ts (.tuple ds) g = gList ts ds g := Eq.trans rfl rfl
@[simp] theorem s_wipe0 (g : Env) : wipeE g [] = g := Eq.trans rfl rfl
@[simp] theorem s_wipe1 (x : Option D) (g : Env) (v : Nat) (vs : List Nat) : wipeE (x :: g) (v :: vs) = (wipeE (x :: g) vs).set v none := Eq.trans rfl rfl
/-- the statements' wp -/
def thenS (P : Out → Wd → Prop) (b : S) : Out → Wd → Prop
  | .nx g, w => wp (b g w) P
  | o, w => P o w
@[simp] theorem thenS_nx (P : Out → Wd → Prop) (b : S) (g : Env) (w : Wd) : thenS P b (.nx g) w = wp (b g w) P := Eq.trans rfl rfl
@[simp] theorem thenS_rt (P : Out → Wd → Prop) (b : S) (d : D) (w : Wd) : thenS P b (.rt d) w = P (.rt d) w := Eq.trans rfl rfl
@[simp] theorem thenS_bk (P : Out → Wd → Prop) (b : S) (g : Env) (w : Wd) : thenS P b (.bk g) w = P (.bk g) w := Eq.trans rfl rfl
@[simp] theorem thenS_ct (P : Out → Wd → Prop) (b : S) (g : Env) (w : Wd) : thenS P b (.ct g) w = P (.ct g) w := Eq.trans rfl rfl
@[simp] theorem wp_seq {a b : S} {g : Env} {w : Wd} {P : Out → Wd → Prop} : wp (sSeq a b g w) P = wp (a g w) (thenS P b) := by
  rw [s_sSeq, wp_bnd]
  congr 1
  funext o w1
  cases o
  · rfl
  all_goals exact wp_some _ _ _
/-- a turn of a loop -/
def turn (t : G) (b : S) (vs : List Nat) (x : D) (g : Env) (w : Wd) : Option (Out × Wd) := match t x (wipeE g vs) with
  | some g1 => b g1 w
  | none => none
theorem turn_wipe {t : G} {b : S} {vs : List Nat} {x : D} {g g' : Env} {w : Wd} (h : wipeE g vs = wipeE g' vs) : turn t b vs x g w = turn t b vs x g' w := by unfold turn; rw [h]
def aftS (P : Nat → Env → Wd → Prop) (Q : Out → Wd → Prop) (vs : List Nat) (i : Nat) : Out → Wd → Prop
  | .nx g, w => P (i + 1) g w
  | .ct g, w => P (i + 1) g w
  | .bk g, w => Q (.nx (wipeE g vs)) w
  | .rt d, w => Q (.rt d) w
theorem loop_at {t : G} {b : S} {vs : List Nat} {P : Nat → Env → Wd → Prop} {Q : Out → Wd → Prop} {all : List D} (hb : ∀ i x g w, all[i]? = some x → P i g w → wp (turn t b vs x g w) (aftS P Q vs i)) (he : ∀ g w, P all.length g w → Q (.nx (wipeE g vs)) w) :
    ∀ (xs : List D) (i : Nat), all.drop i = xs → i ≤ all.length → ∀ g w, P i g w → wp (loopS t b vs xs g w) Q
  | [], i, e, hi, g, w, p => by
    have : i = all.length := by have := List.drop_eq_nil_iff.mp e; omega
    subst this
    exact wp_of (show loopS t b vs [] g w = some (.nx (wipeE g vs), w) from rfl) (he g w p)
  | x :: xs, i, e, hi, g, w, p => by
    have hx : all[i]? = some x := by rw [← List.head?_drop, e]; rfl
    have hlt : i < all.length := (List.getElem?_eq_some_iff.mp hx).1
    have hn : all.drop (i + 1) = xs := by rw [← List.tail_drop, e]; rfl
    have h := hb i x g w hx p
    unfold turn at h
    unfold loopS
    cases ht : t x (wipeE g vs) with
    | none => rw [ht] at h; simp at h
    | some g1 =>
      rw [ht] at h
      dsimp only at h ⊢
      rw [wp_bnd]
      refine wp_mono h fun o w1 ho => ?_
      cases o with
      | nx g2 => exact loop_at hb he xs (i + 1) hn hlt g2 w1 ho
      | ct g2 => exact loop_at hb he xs (i + 1) hn hlt g2 w1 ho
      | bk g2 => exact wp_of rfl ho
      | rt d => exact wp_of rfl ho
theorem wp_loop {t : G} {b : S} {vs : List Nat} {xs : List D} {g : Env} {w : Wd} {Q : Out → Wd → Prop} (P : Nat → Env → Wd → Prop) (h0 : P 0 g w) (hb : ∀ i x g w, xs[i]? = some x → P i g w → wp (turn t b vs x g w) (aftS P Q vs i)) (he : ∀ g w, P xs.length g w → Q (.nx (wipeE g vs)) w) :
    wp (loopS t b vs xs g w) Q := loop_at hb he xs 0 rfl (Nat.zero_le _) g w h0
theorem rangeL_get (lo : Int) (n i : Nat) (x : D) (h : (rangeL lo n)[i]? = some x) : i < n ∧ x = .int (lo + i) := by
  unfold rangeL at h
  rw [List.getElem?_map] at h
  by_cases hi : i < n
  · rw [List.getElem?_range hi] at h
    exact ⟨hi, (Option.some.inj h).symm⟩
  · rw [List.getElem?_eq_none (by simpa using hi)] at h
    cases h
@[simp] theorem rangeL_len (lo : Int) (n : Nat) : (rangeL lo n).length = n := by simp [rangeL]
theorem wp_range {t : G} {b : S} {vs : List Nat} {lo : Int} {n : Nat} {g : Env} {w : Wd} {Q : Out → Wd → Prop} (P : Nat → Env → Wd → Prop) (h0 : P 0 g w) (hb : ∀ i g w, i < n → P i g w → wp (turn t b vs (.int (lo + i)) g w) (aftS P Q vs i)) (he : ∀ g w, P n g w → Q (.nx (wipeE g vs)) w) :
    wp (loopS t b vs (rangeL lo n) g w) Q := wp_loop P h0 (fun i x g w hx p => by
      obtain ⟨hi, rfl⟩ := rangeL_get _ _ _ _ hx
      exact hb i g w hi p) (by rw [rangeL_len]; exact he)
/-- a loop that only computes: env by env -/
theorem loop_eq {t : G} {b : S} {vs : List Nat} {lo : Int} {n : Nat} {w : Wd} (Gs : Nat → Env) (hb : ∀ i, i < n → ∃ g', turn t b vs (.int (lo + i)) (Gs i) w = some (.nx g', w) ∧ wipeE g' vs = wipeE (Gs (i + 1)) vs) :
    loopS t b vs (rangeL lo n) (Gs 0) w = some (.nx (wipeE (Gs n) vs), w) := by
  have h := wp_range (t := t) (b := b) (vs := vs) (lo := lo) (n := n) (g := Gs 0) (w := w) (Q := fun o w' => o = .nx (wipeE (Gs n) vs) ∧ w' = w) (fun i g w' => wipeE g vs = wipeE (Gs i) vs ∧ w' = w) ⟨rfl, rfl⟩
    (fun i g w' hi ⟨e, e2⟩ => by
      subst e2
      obtain ⟨g', h1, h2⟩ := hb i hi
      have e3 : turn t b vs (.int (lo + i)) g w' = turn t b vs (.int (lo + i)) (Gs i) w' := by unfold turn; rw [e]
      rw [e3, h1, wp_some]
      exact ⟨h2, rfl⟩) (fun g w' ⟨e, e2⟩ => ⟨by rw [e], e2⟩)
  obtain ⟨a, w', e, rfl, rfl⟩ := wp_eq h
  exact e
/-! ### comprehensions -/
def turnE (t : G) (c : T) (e : E) (x : D) (g : Env) (w : Wd) : Option (Option D × Wd) := match t x g with
  | some g1 => bnd (c g1 w) fun k w1 => if k = true then bnd (e g1 w1) fun d w2 => some (some d, w2) else some (none, w1)
  | none => none
theorem lc_cons (t : G) (c : T) (e : E) (g : Env) (x : D) (xs : List D) (w : Wd) : lcLoop t c e g (x :: xs) w = bnd (turnE t c e x g w) fun r w1 => bnd (lcLoop t c e g xs w1) fun ds w2 => some ((match r with
  | some d => d :: ds
  | none => ds), w2) := by
  unfold turnE
  rw [lcLoop]
  cases t x g with
  | none => rfl
  | some g1 =>
    dsimp only
    cases c g1 w with
    | none => rfl
    | some p =>
      simp only [bnd]
      split
      · cases e g1 p.2 with
        | none => rfl
        | some q => rfl
      · cases h : lcLoop t c e g xs p.2 <;> simp only [h]
theorem lc_eq {t : G} {c : T} {e : E} {g : Env} {w : Wd} (f : D → Option D) : ∀ (xs : List D), (∀ x ∈ xs, turnE t c e x g w = some (f x, w)) → lcLoop t c e g xs w = some (xs.filterMap f, w)
  | [], _ => rfl
  | x :: xs, h => by
    rw [lc_cons, h x List.mem_cons_self, bnd_some, lc_eq f xs fun y hy => h y (List.mem_cons_of_mem _ hy), bnd_some, List.filterMap_cons]
    cases f x <;> rfl
theorem lc_range {t : G} {c : T} {e : E} {g : Env} {w : Wd} {lo : Int} {n : Nat} (f : Nat → Option D) (h : ∀ i, i < n → turnE t c e (.int (lo + i)) g w = some (f i, w)) : lcLoop t c e g (rangeL lo n) w = some ((List.range n).filterMap f, w) := by
  have : ∀ (l : List Nat), (∀ i ∈ l, i < n) → lcLoop t c e g (l.map fun i => (.int (lo + (i : Nat)) : D)) w = some (l.filterMap f, w) := by
    intro l
    induction l with
    | nil => intro _; rfl
    | cons i l ih =>
      intro hl
      rw [List.map_cons, lc_cons, h i (hl i List.mem_cons_self), bnd_some, ih fun j hj => hl j (List.mem_cons_of_mem _ hj), bnd_some, List.filterMap_cons]
      cases f i <;> rfl
  exact this _ fun i hi => List.mem_range.mp hi
/-- two lists, item by item -/
inductive All2 {α β : Type} (R : α → β → Prop) : List α → List β → Prop
  | nil : All2 R [] []
  | cons {a b as bs} (h : R a b) (t : All2 R as bs) : All2 R (a :: as) (b :: bs)
/-- with draws: each turn gives an item -/
theorem lc_wp {t : G} {c : T} {e : E} {g : Env} {R : D → D → Prop} {I : Wd → Prop} : ∀ (xs : List D) (w : Wd), I w → (∀ x ∈ xs, ∀ w, I w → wp (turnE t c e x g w) fun r w' => I w' ∧ ∃ d, r = some d ∧ R x d) → wp (lcLoop t c e g xs w) fun ds w' => I w' ∧ All2 R xs ds
  | [], w, hw, _ => wp_of (show lcLoop t c e g [] w = some ([], w) from rfl) ⟨hw, .nil⟩
  | x :: xs, w, hw, h => by
    rw [lc_cons, wp_bnd]
    refine wp_mono (h x List.mem_cons_self w hw) fun r w1 ⟨i1, d, e, rd⟩ => ?_
    subst e
    rw [wp_bnd]
    refine wp_mono (lc_wp xs w1 i1 fun y hy => h y (List.mem_cons_of_mem _ hy)) fun ds w2 ⟨i2, f⟩ => ?_
    rw [wp_some]
    exact ⟨i2, .cons rd f⟩
/-! ### the draws -/
theorem next_wp {m : Int} (hm : 0 < m) (l : List Int) : ∃ v l', fnNext [tokW, .int m] (some l) = some (.int v, some l') ∧ 0 ≤ v ∧ v < m := by
  cases l with
  | nil => exact ⟨0, [], rfl, Int.le_refl _, hm⟩
  | cons x r =>
    refine ⟨x.fmod m, r, ?_, Int.fmod_nonneg_of_pos _ hm, Int.fmod_lt_of_pos _ hm⟩
    show (if m ≠ 0 then some (.int (x.fmod m), some r) else none : Option (D × Wd)) = _
    rw [if_pos (by omega)]
/-- a draw, anywhere -/
theorem wp_next {m : Int} (hm : 0 < m) {l : List Int} {P : D → Wd → Prop} (h : ∀ v l', 0 ≤ v → v < m → P (.int v) (some l')) : wp (fnNext [tokW, .int m] (some l)) P := by
  obtain ⟨v, l', e, h1, h2⟩ := next_wp hm l
  exact wp_of e (h v l' h1 h2)
theorem wp_fn {n k : Nat} {b : S} {ds : List D} {w : Wd} {P : D → Wd → Prop} (hn : ds.length = n) (h : wp (b (ds.map some ++ List.replicate k none) w) fun o w' => ∃ d, o = .rt d ∧ P d w') : wp (bodyFn n k b ds w) P := by
  unfold bodyFn
  rw [if_pos hn, wp_bnd]
  refine wp_mono h fun o w' ⟨d, e, p⟩ => ?_
  subst e
  exact wp_of rfl p
/-- a def that only computes -/
theorem fn_eq {n k : Nat} {b : S} {ds : List D} {w : Wd} {r : D} (hn : ds.length = n) (h : b (ds.map some ++ List.replicate k none) w = some (.rt r, w)) : bodyFn n k b ds w = some (r, w) := by
  unfold bodyFn
  rw [if_pos hn, h]
  rfl
end Q

set_option Elab.async false
set_option linter.all false
set_option autoImplicit false
set_option maxRecDepth 100000
/-! QMO: the operators at known kinds. -/
namespace Q
open PySem PySem.W
theorem size_eq : sizeLine = 16777216 := sizeLine_eq
section
variable (i j : Int) (xs ys : List D) (d : D)
@[simp] theorem addD_i : addD (.int i) (.int j) = some (.int (i + j)) := Eq.trans rfl rfl
@[simp] theorem addI_i : addI (.int i) (.int j) = some (.int (i + j)) := Eq.trans rfl rfl
@[simp] theorem subD_i : subD (.int i) (.int j) = some (.int (i - j)) := Eq.trans rfl rfl
@[simp] theorem negD_i : negD (.int i) = some (.int (-i)) := Eq.trans rfl rfl
@[simp] theorem intD_i : intD (.int i) = some (.int i) := Eq.trans rfl rfl
@[simp] theorem intD_b (b : Bool) : intD (.bool b) = some (.int (if b then 1 else 0)) := Eq.trans rfl rfl
@[simp] theorem absD_i : absD (.int i) = some (.int (if i < 0 then -i else i)) := Eq.trans rfl rfl
theorem mulI_i : mulI (.int i) (.int j) = if (small64 i || small64 j) = true then some (.int (i * j)) else none := rfl
theorem pow1018 : powD (.int 10) (.int 18) = some (.int 1000000000000000000) := rfl
theorem small_of {i : Int} (h : -1000000 ≤ i) (h2 : i ≤ 1000000) : small64 i = true := by unfold small64; simp; omega
theorem mulI_l {i j : Int} (h : small64 i = true) : mulI (.int i) (.int j) = some (.int (i * j)) := by rw [mulI_i, h]; rfl
theorem mulI_r {i j : Int} (h : small64 j = true) : mulI (.int i) (.int j) = some (.int (i * j)) := by rw [mulI_i, h, Bool.or_true]; rfl
theorem divD_i {i j : Int} (h : j ≠ 0) (h2 : j.natAbs < 1073741824) : divD (.int i) (.int j) = some (.int (i.fdiv j)) := by
  exact if_pos ⟨h, h2⟩
theorem modD_i {i j : Int} (h : j ≠ 0) : modD (.int i) (.int j) = some (.int (i.fmod j)) := by
  exact if_pos h
@[simp] theorem max2D_i : max2D (.int i) (.int j) = some (.int (if j > i then j else i)) := Eq.trans rfl rfl
@[simp] theorem min2D_i : min2D (.int i) (.int j) = some (.int (if j < i then j else i)) := Eq.trans rfl rfl
@[simp] theorem lenD_l : lenD (.list xs) = some (.int xs.length) := Eq.trans rfl rfl
@[simp] theorem lenD_t : lenD (.tuple xs) = some (.int xs.length) := Eq.trans rfl rfl
@[simp] theorem lenD_s (ns : List Int) : lenD (tokS ns) = some (.int ns.length) := by simp [lenD, tokS, scrOf]
@[simp] theorem tupD_l : tupD (.list xs) = some (.tuple xs) := Eq.trans rfl rfl
@[simp] theorem tupD_t : tupD (.tuple xs) = some (.tuple xs) := Eq.trans rfl rfl
@[simp] theorem itemsD_l : itemsD (.list xs) = some xs := Eq.trans rfl rfl
@[simp] theorem itemsD_t : itemsD (.tuple xs) = some xs := Eq.trans rfl rfl
@[simp] theorem ixD_l : ixD (.list xs) (.int i) = L2.atI xs i := Eq.trans rfl rfl
@[simp] theorem ixD_t : ixD (.tuple xs) (.int i) = L2.atI xs i := Eq.trans rfl rfl
@[simp] theorem ixD_s (ns : List Int) : ixD (tokS ns) (.int i) = L2.atI (ns.map .int) i := Eq.trans rfl rfl
@[simp] theorem zipD_l : zipD (.list xs) (.list ys) = some ((xs.zip ys).map fun p => .tuple [p.1, p.2]) := Eq.trans rfl rfl
@[simp] theorem zipD_t : zipD (.tuple xs) (.tuple ys) = some ((xs.zip ys).map fun p => .tuple [p.1, p.2]) := Eq.trans rfl rfl
@[simp] theorem cutD_l (lo hi : Option Int) : cutD (.list xs) lo hi = some (.list (cutL xs lo hi)) := Eq.trans rfl rfl
@[simp] theorem cutD_t (lo hi : Option Int) : cutD (.tuple xs) lo hi = some (.tuple (cutL xs lo hi)) := Eq.trans rfl rfl
@[simp] theorem isND_n : isND d .none = some (isNoneD d) := Eq.trans rfl rfl
@[simp] theorem isNotND_n : isNotND d .none = some (!isNoneD d) := Eq.trans rfl rfl
@[simp] theorem isNone_n : isNoneD .none = true := Eq.trans rfl rfl
@[simp] theorem isNone_i : isNoneD (.int i) = false := Eq.trans rfl rfl
@[simp] theorem isNone_b (b : Bool) : isNoneD (.bool b) = false := Eq.trans rfl rfl
@[simp] theorem isNone_s (s : Str) : isNoneD (.str s) = false := Eq.trans rfl rfl
@[simp] theorem isNone_l : isNoneD (.list xs) = false := Eq.trans rfl rfl
@[simp] theorem isNone_t : isNoneD (.tuple xs) = false := Eq.trans rfl rfl
@[simp] theorem boolD_b (b : Bool) : boolD (.bool b) = some b := Eq.trans rfl rfl
theorem apD_l {xs : List D} {d : D} (h : xs.length < sizeLine) : apD (.list xs) d = some (.list (xs ++ [d])) := if_pos h
theorem exD_l {xs ys : List D} (h : xs.length + ys.length ≤ sizeLine) : exD (.list xs) (.list ys) = some (.list (xs ++ ys)) := if_pos h
theorem catD_l {xs ys : List D} (h : xs.length + ys.length ≤ sizeLine) : catD (.list xs) (.list ys) = some (.list (xs ++ ys)) := if_pos h
end
theorem range1_i (n : Int) : range1 (.int n) = if small62 n = true then some (rangeL 0 n.toNat) else none := rfl
theorem range2_i (m n : Int) : range2 (.int m) (.int n) = if (small62 m && small62 n) = true then some (rangeL m (n - m).toNat) else none := rfl
theorem small62_of {n : Int} (h : -100000000 ≤ n) (h2 : n ≤ 100000000) : small62 n = true := by unfold small62; simp; omega
theorem r1_nat {n : Nat} (h : n ≤ sizeLine) : range1 (.int (n : Int)) = some (rangeL 0 n) := by
  rw [size_eq] at h
  rw [range1_i, if_pos (small62_of (by omega) (by omega)), Int.toNat_natCast]
theorem r1_int {n : Int} (h0 : 0 ≤ n) (h : n ≤ 1000000) : range1 (.int n) = some (rangeL 0 n.toNat) := by
  rw [range1_i, if_pos (small62_of (by omega) (by omega))]
theorem r2_nat {m n : Nat} (h : n ≤ sizeLine) (h2 : m ≤ sizeLine) : range2 (.int (m : Int)) (.int (n : Int)) = some (rangeL m (n - m)) := by
  rw [size_eq] at h h2
  have e : ((n : Int) - (m : Int)).toNat = n - m := by omega
  rw [range2_i, small62_of (by omega) (by omega), small62_of (by omega) (by omega), if_pos (by rfl), e]
theorem atI_get {α : Type} {xs : List α} {k : Nat} {x : α} (h : xs[k]? = some x) : L2.atI xs (k : Int) = some x := by
  have hl := (List.getElem?_eq_some_iff.mp h).1
  unfold L2.atI L2.ixN
  rw [if_pos (Int.natCast_nonneg k), if_pos (by omega)]
  simpa using h
theorem atI_lt {α : Type} (xs : List α) {k : Nat} (h : k < xs.length) : L2.atI xs (k : Int) = some xs[k] := atI_get (List.getElem?_eq_getElem h)
theorem atI_neg1 {α : Type} {xs : List α} {x : α} (h : xs.getLast? = some x) : L2.atI xs (-1) = some x := by
  have hne : xs ≠ [] := fun z => by subst z; simp at h
  have hl : 0 < xs.length := List.length_pos_iff.mpr hne
  unfold L2.atI L2.ixN
  rw [if_neg (by omega), if_pos (by omega)]
  have e : (-1 + (xs.length : Int)).toNat = xs.length - 1 := by omega
  rw [e]
  rw [List.getLast?_eq_getElem?] at h
  exact h
/-! comparisons -/
@[simp] theorem eqD_i (i j : Int) : eqD (.int i) (.int j) = some (decide (i = j)) := by
  unfold eqD
  rw [if_pos (by rfl)]
  simp only [PyData.eqv]
  rw [beq_decide]
@[simp] theorem neD_i (i j : Int) : neD (.int i) (.int j) = some (!decide (i = j)) := by unfold neD; rw [eqD_i]; rfl
@[simp] theorem ltD_i (i j : Int) : ltD (.int i) (.int j) = some (decide (i < j)) := by
  unfold ltD; rw [if_pos (by rfl), dataLt_int]
@[simp] theorem gtD_i (i j : Int) : gtD (.int i) (.int j) = some (decide (j < i)) := by
  unfold gtD; rw [if_pos (by rfl), dataLt_int]
@[simp] theorem leD_i (i j : Int) : leD (.int i) (.int j) = some (decide (i ≤ j)) := by
  unfold leD; rw [if_pos (by rfl), dataLt_int]
  congr 1
  by_cases h : j < i
  · rw [decide_eq_true h, decide_eq_false (by omega)]; rfl
  · rw [decide_eq_false h, decide_eq_true (by omega)]; rfl
@[simp] theorem geD_i (i j : Int) : geD (.int i) (.int j) = some (decide (j ≤ i)) := by
  unfold geD; rw [if_pos (by rfl), dataLt_int]
  congr 1
  by_cases h : i < j
  · rw [decide_eq_true h, decide_eq_false (by omega)]; rfl
  · rw [decide_eq_false h, decide_eq_true (by omega)]; rfl
theorem eqD_of {α : Type} [DecidableEq α] [Datum α] (x y : α) (h : Datum.depth α ≤ 60) : eqD (Datum.toD x) (Datum.toD y) = some (decide (x = y)) := by
  unfold eqD lowD
  have h1 := Datum.depth_le x
  have h2 := Datum.depth_le y
  rw [if_pos (by simp [Datum.plain]; omega), Datum.eqv]
theorem neD_of {α : Type} [DecidableEq α] [Datum α] (x y : α) (h : Datum.depth α ≤ 60) : neD (Datum.toD x) (Datum.toD y) = some (!decide (x = y)) := by
  unfold neD; rw [eqD_of x y h]; rfl
/-- a plain thing beside an empty list or tuple -/
theorem depth_mem {xs : List D} {n : Nat} (h : ∀ x ∈ xs, x.depth ≤ n) : PyData.depthAll xs ≤ n := by
  induction xs with
  | nil => simp [PyData.depthAll]
  | cons x xs ih =>
    simp only [PyData.depthAll]
    have := h x List.mem_cons_self
    have := ih fun y hy => h y (List.mem_cons_of_mem _ hy)
    omega
theorem plain_all {xs : List D} (h : ∀ x ∈ xs, x.plain = true) : PyData.plainAll xs = true := by
  induction xs with
  | nil => rfl
  | cons x xs ih =>
    simp only [PyData.plainAll, Bool.and_eq_true]
    exact ⟨h x List.mem_cons_self, ih fun y hy => h y (List.mem_cons_of_mem _ hy)⟩
/-- data that compares at once: plain and low -/
def Low (n : Nat) (d : D) : Prop := d.plain = true ∧ d.depth ≤ n
theorem Low.i (n : Nat) (i : Int) : Low n (.int i) := ⟨rfl, Nat.zero_le _⟩
theorem Low.t {n : Nat} {xs : List D} (h : ∀ x ∈ xs, Low n x) : Low (n + 1) (.tuple xs) := by
  refine ⟨?_, ?_⟩
  · simp only [PyData.plain]; exact plain_all fun x hx => (h x hx).1
  · simp only [PyData.depth]; have := depth_mem fun x hx => (h x hx).2; omega
theorem Low.l {n : Nat} {xs : List D} (h : ∀ x ∈ xs, Low n x) : Low (n + 1) (.list xs) := by
  refine ⟨?_, ?_⟩
  · simp only [PyData.plain]; exact plain_all fun x hx => (h x hx).1
  · simp only [PyData.depth]; have := depth_mem fun x hx => (h x hx).2; omega
theorem Low.mono {m n : Nat} {d : D} (h : Low m d) (k : m ≤ n) : Low n d := ⟨h.1, Nat.le_trans h.2 k⟩
theorem eqD_low {x y : D} (hx : Low 60 x) (hy : Low 60 y) : eqD x y = some (PyData.eqv x y) := by
  unfold eqD lowD
  rw [if_pos (by simp [hx.1, hy.1, hx.2, hy.2])]
theorem neD_low {x y : D} (hx : Low 60 x) (hy : Low 60 y) : neD x y = some (!PyData.eqv x y) := by
  unfold neD; rw [eqD_low hx hy]; rfl
theorem eqv_l0 (xs : List D) : PyData.eqv (.list xs) (.list []) = xs.isEmpty := by cases xs <;> simp [PyData.eqv, PyData.eqvAll]
theorem eqv_t0 (xs : List D) : PyData.eqv (.tuple xs) (.tuple []) = xs.isEmpty := by cases xs <;> simp [PyData.eqv, PyData.eqvAll]
/-- if at the leaves -/
@[simp] theorem ite_some {α : Type} {c : Prop} [Decidable c] (a b : α) : (if c then some a else some b) = some (if c then a else b) := by split <;> rfl
@[simp] theorem ite_pairW {α : Type} {c : Prop} [Decidable c] (a b : α) (w : Wd) : (if c then (a, w) else (b, w)) = (if c then a else b, w) := by split <;> rfl
@[simp] theorem ite_int {c : Prop} [Decidable c] (a b : Int) : (if c then (.int a : D) else .int b) = .int (if c then a else b) := by split <;> rfl
@[simp] theorem ite_nx {c : Prop} [Decidable c] (a b : Env) : (if c then Out.nx a else .nx b) = .nx (if c then a else b) := by split <;> rfl
@[simp] theorem ite_consE {c : Prop} [Decidable c] (a b : Option D) (xs ys : Env) : (if c then a :: xs else b :: ys) = (if c then a else b) :: (if c then xs else ys) := by split <;> rfl
/-! comprehensions over mapped lists -/
theorem lc_map {α : Type} {t : G} {c : T} {e : E} {g : Env} {w : Wd} (enc : α → D) (f : α → D) : ∀ (l : List α), (∀ a ∈ l, turnE t c e (enc a) g w = some (some (f a), w)) → lcLoop t c e g (l.map enc) w = some (l.map f, w)
  | [], _ => rfl
  | a :: l, h => by
    rw [List.map_cons, lc_cons, h a List.mem_cons_self, bnd_some, lc_map enc f l fun y hy => h y (List.mem_cons_of_mem _ hy), bnd_some, List.map_cons]
theorem lc_rmap {t : G} {c : T} {e : E} {g : Env} {w : Wd} {lo : Int} {n : Nat} (f : Nat → D) (h : ∀ i, i < n → turnE t c e (.int (lo + i)) g w = some (some (f i), w)) : lcLoop t c e g (rangeL lo n) w = some ((List.range n).map f, w) := by
  rw [lc_range (fun i => some (f i)) h]
  congr 2
  exact congrFun List.filterMap_eq_map _
theorem lc_rfilter {t : G} {c : T} {e : E} {g : Env} {w : Wd} {lo : Int} {n : Nat} (p : Nat → Bool) (f : Nat → D) (h : ∀ i, i < n → turnE t c e (.int (lo + i)) g w = some (if p i = true then some (f i) else none, w)) : lcLoop t c e g (rangeL lo n) w = some (((List.range n).filter p).map f, w) := by
  rw [lc_range (fun i => if p i = true then some (f i) else none) h]
  congr 2
  induction List.range n with
  | nil => rfl
  | cons x xs ih =>
    rw [List.filterMap_cons, List.filter_cons]
    cases p x with
    | true => simp [ih]
    | false => simp [ih]
@[simp] theorem cutL_1 {α : Type} (xs : List α) : cutL xs (some 1) none = xs.drop 1 := by
  unfold cutL
  rw [show HT.sIx xs.length 0 (some 1) = min 1 xs.length from HT.sIx_nat xs.length 0 1, HT.sIx_none]
  cases xs with
  | nil => rfl
  | cons x r =>
    rw [show min 1 (x :: r).length = 1 by
      rw [List.length_cons]
      omega]
    show (List.take ((x :: r).length - 1) r) = r
    rw [List.length_cons, Nat.add_sub_cancel]
    exact List.take_length
/-! min and max -/
theorem mm_plain {d : D} {x : D} {xs : List D} (hi : itemsD d = some (x :: xs)) (hl : Low 60 d) (ha : alikeB (x :: xs) = true) (hn : noNoneB (x :: xs) = true) : minD1 d = some (minD x xs) ∧ maxD1 d = some (maxD x xs) := by
  unfold minD1 maxD1
  rw [hi]
  dsimp only
  rw [if_pos (by simp [hl.1, ha, hn, lowD, hl.2]), if_pos (by simp [hl.1, ha, hn, lowD, hl.2])]
  exact ⟨rfl, rfl⟩
theorem alike_intsB (l : List Int) : alikeB (l.map PyData.int) = true ∧ noNoneB (l.map PyData.int) = true := by
  constructor
  · unfold alikeB
    simp [alike]
  · unfold noNoneB
    simp
theorem mm_ints {l : List Int} (h : l ≠ []) : ∃ a b : Int, minD1 (.tuple (l.map .int)) = some (.int a) ∧ maxD1 (.tuple (l.map .int)) = some (.int b) := by
  cases l with
  | nil => exact absurd rfl h
  | cons x xs =>
    obtain ⟨h1, h2⟩ := alike_intsB (x :: xs)
    have hl : Low 60 (.tuple ((x :: xs).map PyData.int)) := (Low.t (n := 1) fun y hy => by
      obtain ⟨i, _, rfl⟩ := List.mem_map.mp hy
      exact Low.i 1 i).mono (by omega)
    obtain ⟨h3, h4⟩ := mm_plain (x := .int x) (xs := xs.map .int) rfl hl h1 h2
    have m1 := minD_mem (.int x) (xs.map .int)
    have m2 := maxD_mem (.int x) (xs.map .int)
    obtain ⟨a, _, ha⟩ := List.mem_map.mp (show minD (.int x) (xs.map .int) ∈ (x :: xs).map PyData.int from m1)
    obtain ⟨b, _, hb⟩ := List.mem_map.mp (show maxD (.int x) (xs.map .int) ∈ (x :: xs).map PyData.int from m2)
    exact ⟨a, b, by rw [h3, ha], by rw [h4, hb]⟩
theorem seq_det {a b : S} {g g' : Env} {w w' : Wd} {P : Out → Wd → Prop} (h : a g w = some (.nx g', w')) (k : wp (b g' w') P) : wp (sSeq a b g w) P := by
  rw [wp_seq, h, wp_some]; exact k
theorem seq_wp {a b : S} {g : Env} {w : Wd} {P : Out → Wd → Prop} {R : Out → Wd → Prop} (h : wp (a g w) R) (k : ∀ o w', R o w' → thenS P b o w') : wp (sSeq a b g w) P := by
  rw [wp_seq]; exact wp_mono h k
/-- a list of draws -/
theorem lc_draw {i : Nat} {e : E} {g : Env} {P : Int → Prop} (hi : i < g.length) (he : ∀ x l, wp (e (g.set i (some x)) (some l)) fun d w' => ∃ v l', d = .int v ∧ w' = some l' ∧ P v) :
    ∀ (xs : List D) (l : List Int), wp (lcLoop (gName i) tYes e g xs (some l)) fun ds w' => ∃ vs : List Int, ∃ l', ds = vs.map .int ∧ w' = some l' ∧ vs.length = xs.length ∧ ∀ v ∈ vs, P v
  | [], l => wp_of (show lcLoop (gName i) tYes e g [] (some l) = some ([], some l) from rfl) ⟨[], l, rfl, rfl, rfl, fun v hv => by simp at hv⟩
  | x :: xs, l => by
    rw [lc_cons, wp_bnd]
    have h1 : turnE (gName i) tYes e x g (some l) = bnd (e (g.set i (some x)) (some l)) fun d w2 => some (some d, w2) := by
      unfold turnE
      rw [s_gName, if_pos hi]
      rfl
    rw [h1, wp_bnd]
    refine wp_mono (he x l) fun d w' ⟨v, l', hd, hw, hv⟩ => ?_
    subst hd hw
    rw [wp_some, wp_bnd]
    refine wp_mono (lc_draw hi he xs l') fun ds w2 ⟨vs, l2, h1, h2, h3, h4⟩ => ?_
    subst h1 h2
    rw [wp_some]
    exact ⟨v :: vs, l2, rfl, rfl, by simp [h3], fun u hu => by
      rcases List.mem_cons.mp hu with rfl | hu
      · exact hv
      · exact h4 u hu⟩
end Q

set_option Elab.async false
set_option linter.all false
set_option autoImplicit false
set_option maxRecDepth 100000
/-! QMD: the two defs that the laws share: the draws, alike. -/
namespace Q
open PySem PySem.W
def bDraws_0 : S :=
    sIf (tCmp gtD (cVar 6) (cK (.int 0))) (sSeq (sApp 2 (cOp2 modD (cOp1 intD (cVar 6)) (cK (.int 997))))
    (sSet (gName 6) (cOp2 divD (cVar 6) (cK (.int 997))))) (sPass)
def bDraws_1 : S :=
    sSeq (sSet (gName 5) (cOp1 absD (cOp1 intD (cOp2 ixD (cVar 0) (cVar 4)))))
    (sSeq (sSet (gName 3) (cOp2 modD (cOp1 intD (cOp2 addD (cOp2 addD (cOp2 mulI (cVar 3) (cK (.int 48271))) (cOp2 modD (cVar 5) (cK (.int 1000003)))) (cVar 4))) (cK (.int 65537))))
    (sSeq (sSet (gName 6) (cIf (tCmp geD (cVar 5) (cOp2 powD (cK (.int 10)) (cK (.int 18)))) (cVar 5) (cK (.int 0))))
    (sSeq (sSet (gName 2) (cOp2 catD (cVar 2) (cIf (tCmp eqD (cVar 6) (cK (.int 0))) (cLst [cOp2 modD (cOp1 intD (cVar 5)) (cK (.int 997)), cOp2 modD (cOp2 modD (cOp1 intD (cOp2 addD (cOp2 mulI (cVar 3) (cK (.int 69621))) (cK (.int 5)))) (cK (.int 65521))) (cK (.int 997))]) (cLst []))))
    (sFor (itR1 (cK (.int 60))) (gName 7) (bDraws_0) [7]))))
def bDraws_2 : S :=
    sSeq (sSet (gName 3) (cOp2 modD (cOp1 intD (cOp2 addD (cOp2 addD (cOp2 mulI (cVar 3) (cK (.int 16807))) (cVar 4)) (cK (.int 1)))) (cK (.int 65537))))
    (sApp 2 (cOp2 modD (cOp1 intD (cVar 3)) (cK (.int 997))))
def bDraws : S :=
    sSeq (sPar [gName 2, gName 3] [cLst [], cK (.int 7)])
    (sSeq (sFor (itR1 (cOp1 lenD (cVar 0))) (gName 4) (bDraws_1) [4, 5, 6, 7])
    (sSeq (sFor (itR1 (cVar 1)) (gName 4) (bDraws_2) [4])
    (sRet (cCut (cVar 2) none (some (cVar 1))))))
def bAlike (self : Fn) : S :=
    sSeq (sIf (tVal (cOp1 (isaD .dict) (cVar 1))) (sDead) (sPass))
    (sSeq (sIf (tOr (tVal (cOp1 (isaD .tuple) (cVar 1))) (tVal (cOp1 (isaD .list) (cVar 1)))) (sSeq (sSet (gName 2) (cIf (tVal (cOp1 (isaD .tuple) (cVar 1))) (cOp1 (isaD .tuple) (cVar 0)) (cOp1 (isaD .list) (cVar 0))))
    (sRet (cAnd (cVar 2) (cAnd (cT (tCmp eqD (cOp1 lenD (cVar 0)) (cOp1 lenD (cVar 1)))) (cT (tCmp eqD (cLc (itR1 (cOp1 lenD (cVar 1))) (gName 4) (tNot (tVal (cCall self [cOp2 ixD (cVar 0) (cVar 4), cOp2 ixD (cVar 1) (cVar 4)]))) (cVar 4) [4]) (cLst []))))))) (sPass))
    (sSeq (sIf (tOr (tCmp isND (cVar 1) (cK .none)) (tVal (cOp1 (isaD .str) (cVar 1)))) (sRet (cIf (tCmp isND (cVar 1) (cK .none)) (cT (tCmp isND (cVar 0) (cK .none))) (cAnd (cOp1 (isaD .str) (cVar 0)) (cT (tCmp eqD (cVar 0) (cVar 1)))))) (sPass))
    (sRet (cAnd (cOp1 (isaD .int) (cVar 0)) (cAnd (cT (tCmp eqD (cOp1 (isaD .bool) (cVar 0)) (cOp1 (isaD .bool) (cVar 1)))) (cT (tCmp eqD (cVar 0) (cVar 1))))))))
def eDr (sc : D) (M : Int) (l : List Int) (m : Int) : Env := [some sc, some (.int M), some (.list (l.map .int)), some (.int m), none, none, none, none]
theorem eDr_w (sc : D) (M : Int) (l : List Int) (m : Int) : wipeE (eDr sc M l m) [4, 5, 6, 7] = eDr sc M l m := rfl
theorem eDr_w4 (sc : D) (M : Int) (l : List Int) (m : Int) : wipeE (eDr sc M l m) [4] = eDr sc M l m := rfl
theorem app_int {l : List Int} {v : Int} (h : l.length < sizeLine) : apD (.list (l.map .int)) (.int v) = some (.list ((l ++ [v]).map .int)) := by
  rw [apD_l (by simpa using h), List.map_append]; rfl
theorem cat_int {l m : List Int} (h : l.length + m.length ≤ sizeLine) : catD (.list (l.map .int)) (.list (m.map .int)) = some (.list ((l ++ m).map .int)) := by
  rw [catD_l (by simpa using h), List.map_append]
@[simp] theorem isI_some (i : Int) : ∃ j, (PyData.int i) = .int j := ⟨i, rfl⟩

theorem digits_loop (ns : List Int) (M : Int) (l : List Int) (m k c r : Int) (hz : l.length ≤ 100000) (w : Wd) (Q : Out → Wd → Prop) (h : ∀ (l' : List Int) (r' : Int), l'.length ≤ l.length + 60 → Q (.nx [some (tokS ns), some (.int M), some (.list (l'.map .int)), some (.int m), some (.int k), some (.int c), some (.int r'), none]) w) :
    wp (loopS (gName 7) bDraws_0 [7] (rangeL 0 60) [some (tokS ns), some (.int M), some (.list (l.map .int)), some (.int m), some (.int k), some (.int c), some (.int r), none] w) Q := by
  refine wp_range (fun i g w' => w' = w ∧ ∃ (l' : List Int) (r' : Int), wipeE g [7] = [some (tokS ns), some (.int M), some (.list (l'.map .int)), some (.int m), some (.int k), some (.int c), some (.int r'), none] ∧ l'.length ≤ l.length + i) ⟨rfl, l, r, rfl, by omega⟩ (fun i g w' hi ⟨e, l', r', hg, hl⟩ => ?_) fun g w' ⟨e, l', r', hg, hl⟩ => ?_
  · subst e
    generalize hR : aftS _ Q [7] i = R
    unfold turn bDraws_0
    rw [hg]
    by_cases hr : 0 < r'
    · simp -implicitDefEqProofs [hr, modD_i, divD_i]
      rw [app_int (by rw [size_eq]; omega)]
      simp -implicitDefEqProofs [modD_i, divD_i]
      subst hR
      exact ⟨rfl, l' ++ [r'.fmod 997], r'.fdiv 997, by simp, by simp; omega⟩
    · simp -implicitDefEqProofs [hr]
      subst hR
      exact ⟨rfl, _, _, rfl, by omega⟩
  · subst e
    rw [hg]
    exact h l' r' hl
theorem draws_turn (ns : List Int) (M : Int) (l : List Int) (m : Int) (k : Nat) (hk : k < ns.length) (hk2 : k ≤ 1000) (hz : l.length ≤ 10000) (w : Wd) : wp (turn (gName 4) bDraws_1 [4, 5, 6, 7] (.int (k : Int)) (eDr (tokS ns) M l m) w) fun o w' => w' = w ∧ ∃ (g : Env) (l' : List Int) (m' : Int), o = .nx g ∧ wipeE g [4, 5, 6, 7] = eDr (tokS ns) M l' m' ∧ l'.length ≤ l.length + 62 := by
  have hs : ∀ i : Int, i = 48271 ∨ i = 69621 ∨ i = 16807 → small64 i = true := by
    rintro i (rfl | rfl | rfl) <;> decide
  have hx : L2.atI (ns.map PyData.int) (k : Int) = some (.int ns[k]) := by rw [atI_lt _ (by simpa using hk)]; simp
  have h60 : range1 (.int 60) = some (rangeL 0 60) := r1_int (by omega) (by omega)
  generalize hR : (fun (o : Out) (w' : Wd) => w' = w ∧ ∃ (g : Env) (l' : List Int) (m' : Int), o = .nx g ∧ wipeE g [4, 5, 6, 7] = eDr (tokS ns) M l' m' ∧ l'.length ≤ l.length + 62) = R
  unfold turn bDraws_1 eDr
  simp -implicitDefEqProofs [hx, mulI_r (hs 48271 (.inl rfl)), mulI_r (hs 69621 (.inr (.inl rfl))), modD_i, pow1018, h60]
  generalize (if ns[k] < 0 then -ns[k] else ns[k]) = c
  generalize (m * 48271 + c.fmod 1000003 + (k : Int)).fmod 65537 = m'
  have fin : ∀ (l1 : List Int) (r : Int), l1.length ≤ l.length + 2 → wp (loopS (gName 7) bDraws_0 [7] (rangeL 0 60) [some (tokS ns), some (.int M), some (.list (l1.map .int)), some (.int m'), some (.int k), some (.int c), some (.int r), none] w) R := fun l1 r h1 => by
    refine digits_loop ns M l1 m' k c r (by omega) w R fun l' r' hl => ?_
    subst hR
    exact ⟨rfl, _, l', m', rfl, by simp -implicitDefEqProofs [eDr], by omega⟩
  have e1 : PyData.list ((l ++ [c.fmod 997, ((m' * 69621 + 5).fmod 65521).fmod 997]).map .int) = PyData.list (l.map .int ++ [.int (c.fmod 997), .int (((m' * 69621 + 5).fmod 65521).fmod 997)]) := by simp
  by_cases h1 : 1000000000000000000 ≤ c
  · have h2 : ¬ c = 0 := by omega
    have h3 : ¬ c < 1000000000000000000 := by omega
    simp -implicitDefEqProofs [h1, h2, h3]
    rw [catD_l (by rw [size_eq]; simp; omega)]
    simp -implicitDefEqProofs
    exact fin l c (by omega)
  · have h3 : c < 1000000000000000000 := by omega
    simp -implicitDefEqProofs [h1, h3]
    rw [catD_l (by rw [size_eq]; simp; omega), ← e1]
    simp only [lft_some, wp_some]
    exact fin _ 0 (by simp)
theorem tail_turn (sc : D) (M : Int) (l : List Int) (m : Int) (k : Nat) (hk2 : k ≤ 100000) (hz : l.length ≤ 1000000) (w : Wd) : wp (turn (gName 4) bDraws_2 [4] (.int (k : Int)) (eDr sc M l m) w) fun o w' => w' = w ∧ ∃ (g : Env) (l' : List Int) (m' : Int), o = .nx g ∧ wipeE g [4] = eDr sc M l' m' ∧ l'.length ≤ l.length + 1 := by
  have hs : small64 16807 = true := by decide
  generalize hR : (fun (o : Out) (w' : Wd) => w' = w ∧ ∃ (g : Env) (l' : List Int) (m' : Int), o = .nx g ∧ wipeE g [4] = eDr sc M l' m' ∧ l'.length ≤ l.length + 1) = R
  unfold turn bDraws_2 eDr
  simp -implicitDefEqProofs [mulI_r hs, modD_i]
  rw [app_int (by rw [size_eq]; omega)]
  simp -implicitDefEqProofs
  subst hR
  exact ⟨rfl, _, l ++ [((m * 16807 + k + 1).fmod 65537).fmod 997], (m * 16807 + k + 1).fmod 65537, rfl, by simp -implicitDefEqProofs [eDr], by simp⟩
theorem draws_ok (ns : List Int) (M : Int) (hM : 0 ≤ M) (hM2 : M ≤ 100000) (hn : ns.length ≤ 63) (w : Wd) : ∃ l : List Int, bodyFn 2 6 bDraws [tokS ns, .int M] w = some (.list (l.map .int), w) := by
  suffices h : wp (bodyFn 2 6 bDraws [tokS ns, .int M] w) fun d w' => ∃ l : List Int, d = .list (l.map .int) ∧ w' = w by
    obtain ⟨d, w', e, l, rfl, rfl⟩ := wp_eq h
    exact ⟨l, e⟩
  have hz : ns.length ≤ sizeLine := by rw [size_eq]; omega
  refine wp_fn rfl ?_
  generalize hR : (fun (o : Out) (w' : Wd) => ∃ d, o = .rt d ∧ ∃ l : List Int, d = .list (l.map .int) ∧ w' = w) = R
  unfold bDraws
  simp -implicitDefEqProofs [r1_nat hz]
  refine wp_range (fun i g w' => w' = w ∧ ∃ (l : List Int) (m : Int), wipeE g [4, 5, 6, 7] = eDr (tokS ns) M l m ∧ l.length ≤ i * 62) ⟨rfl, [], 7, rfl, by simp⟩ (fun i g w' hi ⟨e, l, m, hg, hl⟩ => ?_) fun g w' ⟨e, l, m, hg, hl⟩ => ?_
  · subst e
    have h := draws_turn ns M l m i hi (by omega) (by omega) w'
    rw [Int.zero_add, turn_wipe (g' := eDr (tokS ns) M l m) (hg.trans (eDr_w ..).symm)]
    refine wp_mono h fun o w2 ⟨e, g', l', m', ho, hg', hl'⟩ => ?_
    subst ho
    exact ⟨e, l', m', hg', by omega⟩
  · subst e
    rw [hg]
    unfold eDr
    simp -implicitDefEqProofs [r1_int hM (by omega : M ≤ 1000000)]
    refine wp_range (fun i g w2 => w2 = w' ∧ ∃ (l : List Int) (m : Int), wipeE g [4] = eDr (tokS ns) M l m ∧ l.length ≤ 63 * 62 + i) ⟨rfl, l, m, rfl, by omega⟩ (fun i g w2 hi ⟨e, l, m, hg, hl⟩ => ?_) fun g w2 ⟨e, l, m, hg, hl⟩ => ?_
    · subst e
      have h := tail_turn (tokS ns) M l m i (by omega) (by omega) w2
      rw [Int.zero_add, turn_wipe (g' := eDr (tokS ns) M l m) (hg.trans (eDr_w4 ..).symm)]
      refine wp_mono h fun o w3 ⟨e, g', l', m', ho, hg', hl'⟩ => ?_
      subst ho
      exact ⟨e, l', m', hg', by omega⟩
    · subst e
      rw [hg]
      unfold eDr
      simp -implicitDefEqProofs
      subst hR
      refine ⟨_, rfl, cutL l none (some M), ?_, rfl⟩
      unfold cutL
      simp -implicitDefEqProofs
end Q

set_option Elab.async false
set_option linter.all false
set_option autoImplicit false
set_option maxRecDepth 100000
/-! QMA: alike says True of a thing and itself. -/
namespace Q
open PySem PySem.W
def fAl : Nat → Fn
  | 0 => bodyFn 2 3 sDead
  | n + 1 => bodyFn 2 3 (bAlike (fAl n))
/-- data that alike walks: no dict, n deep -/
def Alk : Nat → D → Prop
  | 0, _ => False
  | n + 1, .list xs => xs.length ≤ 1000000 ∧ ∀ x ∈ xs, Alk n x
  | n + 1, .tuple xs => xs.length ≤ 1000000 ∧ ∀ x ∈ xs, Alk n x
  | _ + 1, .dict _ => False
  | _ + 1, _ => True
theorem Alk.i {n : Nat} {i : Int} : Alk (n + 1) (.int i) := by unfold Alk; trivial
theorem Alk.b {n : Nat} {i : Bool} : Alk (n + 1) (.bool i) := by unfold Alk; trivial
theorem Alk.s {n : Nat} {i : Str} : Alk (n + 1) (.str i) := by unfold Alk; trivial
theorem Alk.n {n : Nat} : Alk (n + 1) .none := by unfold Alk; trivial
theorem Alk.t {n : Nat} {xs : List D} (h : xs.length ≤ 1000000) (k : ∀ x ∈ xs, Alk n x) : Alk (n + 1) (.tuple xs) := by unfold Alk; exact ⟨h, k⟩
theorem Alk.l {n : Nat} {xs : List D} (h : xs.length ≤ 1000000) (k : ∀ x ∈ xs, Alk n x) : Alk (n + 1) (.list xs) := by unfold Alk; exact ⟨h, k⟩
theorem isaD_l (T : Ty) (xs : List D) : isaD T (.list xs) = some (.bool (isTy T (.list xs))) := rfl
theorem isaD_t (T : Ty) (xs : List D) : isaD T (.tuple xs) = some (.bool (isTy T (.tuple xs))) := rfl
theorem isaD_i (T : Ty) (i : Int) : isaD T (.int i) = some (.bool (isTy T (.int i))) := rfl
theorem isaD_b (T : Ty) (i : Bool) : isaD T (.bool i) = some (.bool (isTy T (.bool i))) := rfl
theorem isaD_s (T : Ty) (i : Str) : isaD T (.str i) = some (.bool (isTy T (.str i))) := rfl
theorem isaD_n (T : Ty) : isaD T .none = some (.bool (isTy T .none)) := rfl
theorem eqD_b (i j : Bool) : eqD (.bool i) (.bool j) = some (i == j) := by
  unfold eqD
  rw [if_pos (by rfl)]
  simp only [PyData.eqv]
theorem eqD_s (i : Str) : eqD (.str i) (.str i) = some true := by
  unfold eqD
  rw [if_pos (by rfl)]
  simp only [PyData.eqv, beq_self_eq_true]
theorem eqD_00 : eqD (.list []) (.list []) = some true := rfl
theorem lc_none {t : G} {c : T} {e : E} {g : Env} {w : Wd} {lo : Int} {n : Nat} (h : ∀ i, i < n → turnE t c e (.int (lo + i)) g w = some (none, w)) : lcLoop t c e g (rangeL lo n) w = some ([], w) := by
  rw [lc_range (fun _ => none) h]
  congr 2
  exact List.filterMap_eq_nil_iff.mpr fun _ _ => rfl
theorem alike_seq {n : Nat} {xs : List D} (hz : xs.length ≤ 1000000) (ih : ∀ x ∈ xs, ∀ w, fAl n [x, x] w = some (.bool true, w)) (c : List D → D) (hc : c = .list ∨ c = .tuple) (w : Wd) : fAl (n + 1) [c xs, c xs] w = some (.bool true, w) := by
  have hr : range1 (.int (xs.length : Int)) = some (rangeL 0 xs.length) := r1_nat (by rw [size_eq]; omega)
  have hz2 : xs.length ≤ sizeLine := by rw [size_eq]; omega
  have key : ∀ (k : D), (c = .list ∨ c = .tuple) → lcLoop (gName 4) (tNot (tVal (cCall (fAl n) [cOp2 ixD (cVar 0) (cVar 4), cOp2 ixD (cVar 1) (cVar 4)]))) (cVar 4) [some (c xs), some (c xs), some k, none, none] (rangeL 0 xs.length) w = some ([], w) := fun k hc => by
    refine lc_none fun i hi => ?_
    have hx : L2.atI xs (i : Int) = some xs[i] := atI_lt xs hi
    have hi2 := ih xs[i] (List.getElem_mem hi) w
    unfold turnE
    rcases hc with rfl | rfl
    · simp -implicitDefEqProofs [hx, hi2]
    · simp -implicitDefEqProofs [hx, hi2]
  refine fn_eq rfl ?_
  unfold bAlike
  rcases hc with rfl | rfl
  · simp -implicitDefEqProofs [s_sSeq, isaD_l, isTy, hr, key _ (.inl rfl), hz2, eqD_00]
  · simp -implicitDefEqProofs [s_sSeq, isaD_t, isTy, hr, key _ (.inr rfl), hz2, eqD_00]
theorem alike_refl : ∀ (n : Nat) (d : D), Alk n d → ∀ w, fAl n [d, d] w = some (.bool true, w)
  | 0, _, h, _ => by unfold Alk at h; exact h.elim
  | n + 1, .list xs, h, w => by
    unfold Alk at h
    exact alike_seq h.1 (fun x hx w => alike_refl n x (h.2 x hx) w) .list (.inl rfl) w
  | n + 1, .tuple xs, h, w => by
    unfold Alk at h
    exact alike_seq h.1 (fun x hx w => alike_refl n x (h.2 x hx) w) .tuple (.inr rfl) w
  | n + 1, .dict _, h, _ => by unfold Alk at h; exact h.elim
  | n + 1, .none, _, w => by
    refine fn_eq rfl ?_
    unfold bAlike
    simp -implicitDefEqProofs [s_sSeq, isaD_n, isTy]
  | n + 1, .int i, _, w => by
    refine fn_eq rfl ?_
    unfold bAlike
    simp -implicitDefEqProofs [s_sSeq, isaD_i, isTy, eqD_b]
  | n + 1, .bool i, _, w => by
    refine fn_eq rfl ?_
    unfold bAlike
    simp -implicitDefEqProofs [s_sSeq, isaD_b, isTy, eqD_b]
  | n + 1, .str i, _, w => by
    refine fn_eq rfl ?_
    unfold bAlike
    simp -implicitDefEqProofs [s_sSeq, isaD_s, isTy, eqD_s]
theorem Alk.up : ∀ {n : Nat} {d : D}, Alk n d → Alk (n + 1) d
  | 0, d, h => by unfold Alk at h; exact h.elim
  | n + 1, .list xs, h => by
    unfold Alk at h ⊢
    exact ⟨h.1, fun x hx => (h.2 x hx).up⟩
  | n + 1, .tuple xs, h => by
    unfold Alk at h ⊢
    exact ⟨h.1, fun x hx => (h.2 x hx).up⟩
  | n + 1, .dict _, h => by unfold Alk at h; exact h.elim
  | n + 1, .none, h => Alk.n
  | n + 1, .int _, h => Alk.i
  | n + 1, .bool _, h => Alk.b
  | n + 1, .str _, h => Alk.s
theorem Alk.ge {m n : Nat} {d : D} (h : Alk m d) (k : m ≤ n) : Alk n d := by
  induction k with
  | refl => exact h
  | step _ ih => exact ih.up
end Q

set_option Elab.async false
set_option linter.all false
set_option autoImplicit false
set_option maxRecDepth 100000
namespace W
open PySem PySem.Spec PyProof.Rows L2 Q
def topS (i : Nat) : Stmt := PySem.Challenge.pw_nightbus_k19_buses_that_bunch.main.body.getD i (.Pass ⟨0, 0, 0, 0⟩)
/-- the built-in names that the text uses and does not bind -/
structure Bi (mg : Str → Option Value) : Prop where
  b_abs : mg "abs" = none
  b_bool : mg "bool" = none
  b_dict : mg "dict" = none
  b_int : mg "int" = none
  b_isinstance : mg "isinstance" = none
  len : mg "len" = none
  b_list : mg "list" = none
  b_max : mg "max" = none
  b_min : mg "min" = none
  b_range : mg "range" = none
  b_set : mg "set" = none
  b_str : mg "str" = none
  b_sum : mg "sum" = none
  b_tuple : mg "tuple" = none
  b_zip : mg "zip" = none
section
variable {P : Program} {w : World} {K : PySem.W.Frag} {mg : Str → Option Value} {base : Heap}
/-! _law_draws -/
abbrev st__law_draws : Stmt := topS 13
abbrev N__law_draws : List Str := ["script", "many", "draws", "mixed", "k", "cell", "rest", "turn"]
theorem sc__law_draws : FnScope N__law_draws ["script", "many"] (defScope st__law_draws) := ⟨rfl, rfl, rfl, by decide +kernel, rfl, by decide +kernel, by decide +kernel⟩
def b_law_draws_0 : S :=
    sIf (tCmp gtD (cVar 6) (cK (.int 0))) (sSeq (sApp 2 (cOp2 modD (cOp1 intD (cVar 6)) (cK (.int 997))))
    (sSet (gName 6) (cOp2 divD (cVar 6) (cK (.int 997))))) (sPass)
def b_law_draws_1 : S :=
    sSeq (sSet (gName 5) (cOp1 absD (cOp1 intD (cOp2 ixD (cVar 0) (cVar 4)))))
    (sSeq (sSet (gName 3) (cOp2 modD (cOp1 intD (cOp2 addD (cOp2 addD (cOp2 mulI (cVar 3) (cK (.int 48271))) (cOp2 modD (cVar 5) (cK (.int 1000003)))) (cVar 4))) (cK (.int 65537))))
    (sSeq (sSet (gName 6) (cIf (tCmp geD (cVar 5) (cOp2 powD (cK (.int 10)) (cK (.int 18)))) (cVar 5) (cK (.int 0))))
    (sSeq (sSet (gName 2) (cOp2 catD (cVar 2) (cIf (tCmp eqD (cVar 6) (cK (.int 0))) (cLst [cOp2 modD (cOp1 intD (cVar 5)) (cK (.int 997)), cOp2 modD (cOp2 modD (cOp1 intD (cOp2 addD (cOp2 mulI (cVar 3) (cK (.int 69621))) (cK (.int 5)))) (cK (.int 65521))) (cK (.int 997))]) (cLst []))))
    (sFor (itR1 (cK (.int 60))) (gName 7) (b_law_draws_0) [7]))))
def b_law_draws_2 : S :=
    sSeq (sSet (gName 3) (cOp2 modD (cOp1 intD (cOp2 addD (cOp2 addD (cOp2 mulI (cVar 3) (cK (.int 16807))) (cVar 4)) (cK (.int 1)))) (cK (.int 65537))))
    (sApp 2 (cOp2 modD (cOp1 intD (cVar 3)) (cK (.int 997))))
def b_law_draws : S :=
    sSeq (sPar [gName 2, gName 3] [cLst [], cK (.int 7)])
    (sSeq (sFor (itR1 (cOp1 lenD (cVar 0))) (gName 4) (b_law_draws_1) [4, 5, 6, 7])
    (sSeq (sFor (itR1 (cVar 1)) (gName 4) (b_law_draws_2) [4])
    (sRet (cCut (cVar 2) none (some (cVar 1))))))
def f_law_draws : Fn := bodyFn 2 6 b_law_draws
theorem d__law_draws (B : Bi mg) (Dd : Df K mg "_law_draws" st__law_draws ["script", "many"])  : Ok K mg P w base 1 "_law_draws" ["script", "many"] 2 f_law_draws :=
  ok_of (O' := []) Dd sc__law_draws fun f cdv A outer s H E hr => ESs.cons (O1 := [2]) (ES.par2 (ks := [true, false]) 2 3 rfl sc__law_draws.nd (EM.consO (EO.lst (EA.nil)) (EM.consV (EV.int) (EM.nil))))
    (ESs.cons (O1 := [2]) (ES.for (Oh := [2]) (Ob := [2]) (O' := [2]) [4, 5, 6, 7] PassesOwn.never rfl (EI.r1 B.b_range (EV.b (EV.len B.len (EB.var 0)))) (GG.name 4 sc__law_draws.nd) (ESs.cons (O1 := [2]) (ES.set (EV.abs B.b_abs (EV.b (EV.int1 B.b_int (EV.b (EV.ix (EB.var 0) (EB.var 4)))))) (GG.name 5 sc__law_draws.nd))
    (ESs.cons (O1 := [2]) (ES.set (EV.mod (EV.b (EV.int1 B.b_int (EV.b (EV.add (EV.b (EV.add (EV.b (EV.mul (EB.var 3) (EV.b (EV.int)))) (EV.b (EV.mod (EB.var 5) (EV.b (EV.int)))))) (EB.var 4))))) (EV.b (EV.int))) (GG.name 3 sc__law_draws.nd))
    (ESs.cons (O1 := [2]) (ES.set (EV.if (ET.cmp (ok_ge hr) (EB.var 5) (EV.b (EV.pow (EV.b (EV.int)) (EV.b (EV.int))))) (EV.var 5) (EV.int)) (GG.name 6 sc__law_draws.nd))
    (ESs.cons (O1 := [2]) (ES.setO 2 sc__law_draws.nd (EO.cat (EB.var 2) (EV.b (EV.if (ET.cmp (ok_eq hr) (EB.var 6) (EV.b (EV.int))) (EO.v (EO.lst (EA.cons (EV.mod (EV.b (EV.int1 B.b_int (EB.var 5))) (EV.b (EV.int))) (EA.cons (EV.mod (EV.b (EV.mod (EV.b (EV.int1 B.b_int (EV.b (EV.add (EV.b (EV.mul (EB.var 3) (EV.b (EV.int)))) (EV.b (EV.int)))))) (EV.b (EV.int)))) (EV.b (EV.int))) (EA.nil))))) (EO.v (EO.lst (EA.nil)))))))
    (ESs.one (ES.for (Oh := [2]) (Ob := [2]) (O' := [2]) [7] PassesOwn.never rfl (EI.r1 B.b_range (EV.b (EV.int))) (GG.name 7 sc__law_draws.nd) (ESs.one (ES.if (ET.cmp (ok_gt hr) (EB.var 6) (EV.b (EV.int))) (ESs.cons (O1 := [2]) (ES.app 2 (EV.mod (EV.b (EV.int1 B.b_int (EB.var 6))) (EV.b (EV.int))))
    (ESs.one (ES.set (EV.div (EB.var 6) (EV.b (EV.int))) (GG.name 6 sc__law_draws.nd)))) (ESs.nil))))))))))
    (ESs.cons (O1 := [2]) (ES.for (Oh := [2]) (Ob := [2]) (O' := [2]) [4] PassesOwn.never rfl (EI.r1 B.b_range (EB.var 1)) (GG.name 4 sc__law_draws.nd) (ESs.cons (O1 := [2]) (ES.set (EV.mod (EV.b (EV.int1 B.b_int (EV.b (EV.add (EV.b (EV.add (EV.b (EV.mul (EB.var 3) (EV.b (EV.int)))) (EB.var 4))) (EV.b (EV.int)))))) (EV.b (EV.int))) (GG.name 3 sc__law_draws.nd))
    (ESs.one (ES.app 2 (EV.mod (EV.b (EV.int1 B.b_int (EB.var 3))) (EV.b (EV.int)))))))
    (ESs.one (ES.ret (EV.cut (EB.var 2) EP.none (EP.some (EB.var 1)))))))
/-! _law_next -/
abbrev st__law_next : Stmt := topS 14
abbrev N__law_next : List Str := ["w", "many"]
theorem sc__law_next : FnScope N__law_next ["w", "many"] (defScope st__law_next) := ⟨rfl, rfl, rfl, by decide +kernel, rfl, by decide +kernel, by decide +kernel⟩
theorem d__law_next (B : Bi mg) (Dd : Df K mg "_law_next" st__law_next ["w", "many"]) : Ok K mg P w base 1 "_law_next" ["w", "many"] 2 fnNext := next_ok' Dd sc__law_next B.b_int B.len rfl rfl rfl rfl rfl
/-! _law_run -/
abbrev st__law_run : Stmt := topS 16
abbrev N__law_run : List Str := ["begins", "runs", "people", "step", "gap", "hold", "least", "table", "k", "row", "now", "stop", "ahead", "come"]
theorem sc__law_run : FnScope N__law_run ["begins", "runs", "people", "step", "gap", "hold", "least"] (defScope st__law_run) := ⟨rfl, rfl, rfl, by decide +kernel, rfl, by decide +kernel, by decide +kernel⟩
def b_law_run_0 : S :=
    sSeq (sSet (gName 10) (cOp2 addD (cVar 10) (cIf (tCmp gtD (cVar 11) (cK (.int 0))) (cOp2 ixD (cVar 1) (cOp2 subD (cVar 11) (cK (.int 1)))) (cK (.int 0)))))
    (sSeq (sSet (gName 12) (cIf (tCmp gtD (cVar 8) (cK (.int 0))) (cOp2 ixD (cOp2 ixD (cVar 7) (cOp2 subD (cVar 8) (cK (.int 1)))) (cVar 11)) (cK .none)))
    (sSeq (sSet (gName 10) (cIf (tAnd (tCmp isNotND (cVar 12) (cK .none)) (tCmp ltD (cVar 10) (cVar 12))) (cVar 12) (cVar 10)))
    (sSeq (sSet (gName 13) (cOp2 mulI (cOp2 ixD (cVar 2) (cVar 11)) (cIf (tCmp isND (cVar 12) (cK .none)) (cVar 4) (cOp2 subD (cVar 10) (cVar 12)))))
    (sSeq (sSet (gName 10) (cOp2 addD (cVar 10) (cOp2 divD (cOp1 intD (cOp2 mulI (cVar 13) (cVar 3))) (cK (.int 100)))))
    (sSeq (sSet (gName 10) (cIf (tAnd (tCmp eqD (cVar 11) (cVar 5)) (tAnd (tCmp isNotND (cVar 12) (cK .none)) (tCmp ltD (cVar 10) (cOp2 addD (cVar 12) (cVar 6))))) (cOp2 addD (cVar 12) (cVar 6)) (cVar 10)))
    (sApp 9 (cVar 10)))))))
def b_law_run_1 : S :=
    sSeq (sPar [gName 9, gName 10] [cLst [], cOp2 ixD (cVar 0) (cVar 8)])
    (sSeq (sFor (itR1 (cOp1 lenD (cVar 2))) (gName 11) (b_law_run_0) [11, 12, 13])
    (sApp 7 (cOp1 tupD (cVar 9))))
def b_law_run : S :=
    sSeq (sSet (gName 7) (cLst []))
    (sSeq (sFor (itR1 (cOp1 lenD (cVar 0))) (gName 8) (b_law_run_1) [8, 9, 10, 11, 12, 13])
    (sRet (cOp1 tupD (cVar 7))))
def f_law_run : Fn := bodyFn 7 7 b_law_run
theorem d__law_run (B : Bi mg) (Dd : Df K mg "_law_run" st__law_run ["begins", "runs", "people", "step", "gap", "hold", "least"])  : Ok K mg P w base 1 "_law_run" ["begins", "runs", "people", "step", "gap", "hold", "least"] 7 f_law_run :=
  ok_of (O' := []) Dd sc__law_run fun f cdv A outer s H E hr => ESs.cons (O1 := [7]) (ES.setO 7 sc__law_run.nd (EO.lst (EA.nil)))
    (ESs.cons (O1 := [7]) (ES.for (Oh := [7]) (Ob := [7, 9]) (O' := [7]) [8, 9, 10, 11, 12, 13] PassesOwn.never rfl (EI.r1 B.b_range (EV.b (EV.len B.len (EB.var 0)))) (GG.name 8 sc__law_run.nd) (ESs.cons (O1 := [7, 9]) (ES.par2 (ks := [true, false]) 9 10 rfl sc__law_run.nd (EM.consO (EO.lst (EA.nil)) (EM.consV (EV.ix (EB.var 0) (EB.var 8)) (EM.nil))))
    (ESs.cons (O1 := [7, 9]) (ES.for (Oh := [7, 9]) (Ob := [7, 9]) (O' := [7, 9]) [11, 12, 13] PassesOwn.never rfl (EI.r1 B.b_range (EV.b (EV.len B.len (EB.var 2)))) (GG.name 11 sc__law_run.nd) (ESs.cons (O1 := [7, 9]) (ES.set (EV.add (EB.var 10) (EV.b (EV.if (ET.cmp (ok_gt hr) (EB.var 11) (EV.b (EV.int))) (EV.ix (EB.var 1) (EV.b (EV.sub (EB.var 11) (EV.b (EV.int))))) (EV.int)))) (GG.name 10 sc__law_run.nd))
    (ESs.cons (O1 := [7, 9]) (ES.set (EV.if (ET.cmp (ok_gt hr) (EB.var 8) (EV.b (EV.int))) (EV.ix (EV.b (EV.ix (EB.var 7) (EV.b (EV.sub (EB.var 8) (EV.b (EV.int)))))) (EB.var 11)) (EV.non)) (GG.name 12 sc__law_run.nd))
    (ESs.cons (O1 := [7, 9]) (ES.set (EV.if ((andW (ET.cmp ok_isNot (EB.var 12) (EV.b (EV.non))) (ET.and1 (ET.cmp (ok_lt hr) (EB.var 10) (EB.var 12)))).pt) (EV.var 12) (EV.var 10)) (GG.name 10 sc__law_run.nd))
    (ESs.cons (O1 := [7, 9]) (ES.set (EV.mul (EV.b (EV.ix (EB.var 2) (EB.var 11))) (EV.b (EV.if (ET.cmp ok_is (EB.var 12) (EV.b (EV.non))) (EV.var 4) (EV.sub (EB.var 10) (EB.var 12))))) (GG.name 13 sc__law_run.nd))
    (ESs.cons (O1 := [7, 9]) (ES.set (EV.add (EB.var 10) (EV.b (EV.div (EV.b (EV.int1 B.b_int (EV.b (EV.mul (EB.var 13) (EB.var 3))))) (EV.b (EV.int))))) (GG.name 10 sc__law_run.nd))
    (ESs.cons (O1 := [7, 9]) (ES.set (EV.if ((andW (ET.cmp (ok_eq hr) (EB.var 11) (EB.var 5)) (andW (ET.cmp ok_isNot (EB.var 12) (EV.b (EV.non))) (ET.and1 (ET.cmp (ok_lt hr) (EB.var 10) (EV.b (EV.add (EB.var 12) (EB.var 6))))))).pt) (EV.add (EB.var 12) (EB.var 6)) (EV.var 10)) (GG.name 10 sc__law_run.nd))
    (ESs.one (ES.app 9 (EV.var 10))))))))))
    (ESs.one (ES.app 7 (EV.tuple B.b_tuple (EB.var 9)))))))
    (ESs.one (ES.ret (EV.tuple B.b_tuple (EB.var 7)))))
/-! stand -/
abbrev st_stand : Stmt := topS 1
abbrev N_stand : List Str := ["people", "step", "gap"]
theorem sc_stand : FnScope N_stand ["people", "step", "gap"] (defScope st_stand) := ⟨rfl, rfl, rfl, by decide +kernel, rfl, by decide +kernel, by decide +kernel⟩
def b_stand : S :=
    sRet (cOp2 divD (cOp2 mulI (cOp2 mulI (cVar 0) (cVar 2)) (cVar 1)) (cK (.int 100)))
def f_stand : Fn := bodyFn 3 0 b_stand
theorem d_stand (B : Bi mg) (Dd : Df K mg "stand" st_stand ["people", "step", "gap"])  : Ok K mg P w base 1 "stand" ["people", "step", "gap"] 3 f_stand :=
  ok_of (O' := []) Dd sc_stand fun f cdv A outer s H E hr => ESs.one (ES.ret (EV.div (EV.b (EV.mul (EV.b (EV.mul (EB.var 0) (EB.var 2))) (EB.var 1))) (EV.b (EV.int))))
/-! table_with -/
abbrev st_table_with : Stmt := topS 2
abbrev N_table_with : List Str := ["begins", "runs", "people", "step", "gap", "hold", "least", "found", "k", "ahead", "row", "now", "stop", "since"]
theorem sc_table_with : FnScope N_table_with ["begins", "runs", "people", "step", "gap", "hold", "least"] (defScope st_table_with) := ⟨rfl, rfl, rfl, by decide +kernel, rfl, by decide +kernel, by decide +kernel⟩
def b_table_with_0 : S :=
    sSeq (sIf (tCmp gtD (cVar 12) (cK (.int 0))) (sAugN 11 addI (cOp2 ixD (cVar 1) (cOp2 subD (cVar 12) (cK (.int 1))))) (sPass))
    (sSeq (sIf (tCmp isNotND (cVar 9) (cK .none)) (sSet (gName 11) (cOp2 max2D (cVar 11) (cOp2 ixD (cVar 9) (cVar 12)))) (sPass))
    (sSeq (sSet (gName 13) (cIf (tCmp isNotND (cVar 9) (cK .none)) (cOp2 subD (cVar 11) (cOp2 ixD (cVar 9) (cVar 12))) (cVar 4)))
    (sSeq (sAugN 11 addI (cCall f_stand [cOp2 ixD (cVar 2) (cVar 12), cVar 3, cVar 13]))
    (sSeq (sIf (tAnd (tCmp eqD (cVar 5) (cVar 12)) (tCmp isNotND (cVar 9) (cK .none))) (sSet (gName 11) (cOp2 max2D (cVar 11) (cOp2 addD (cOp2 ixD (cVar 9) (cVar 12)) (cVar 6)))) (sPass))
    (sApp 10 (cVar 11))))))
def b_table_with_1 : S :=
    sSeq (sPar [gName 9, gName 10, gName 11] [cIf (tCmp neD (cVar 7) (cLst [])) (cOp2 ixD (cVar 7) (cOp1 negD (cK (.int 1)))) (cK .none), cLst [], cOp2 ixD (cVar 0) (cVar 8)])
    (sSeq (sFor (itR1 (cOp2 addD (cOp1 lenD (cVar 1)) (cK (.int 1)))) (gName 12) (b_table_with_0) [12, 13])
    (sApp 7 (cOp1 tupD (cVar 10))))
def b_table_with : S :=
    sSeq (sSet (gName 7) (cLst []))
    (sSeq (sFor (itR1 (cOp1 lenD (cVar 0))) (gName 8) (b_table_with_1) [8, 9, 10, 11, 12, 13])
    (sRet (cOp1 tupD (cVar 7))))
def f_table_with : Fn := bodyFn 7 7 b_table_with
theorem d_table_with (B : Bi mg) (Dd : Df K mg "table_with" st_table_with ["begins", "runs", "people", "step", "gap", "hold", "least"]) (o_stand : Ok K mg P w base 1 "stand" ["people", "step", "gap"] 3 f_stand) : Ok K mg P w base 2 "table_with" ["begins", "runs", "people", "step", "gap", "hold", "least"] 7 f_table_with :=
  ok_of (O' := []) Dd sc_table_with fun f cdv A outer s H E hr => ESs.cons (O1 := [7]) (ES.setO 7 sc_table_with.nd (EO.lst (EA.nil)))
    (ESs.cons (O1 := [7]) (ES.for (Oh := [7]) (Ob := [7, 10]) (O' := [7]) [8, 9, 10, 11, 12, 13] PassesOwn.never rfl (EI.r1 B.b_range (EV.b (EV.len B.len (EB.var 0)))) (GG.name 8 sc_table_with.nd) (ESs.cons (O1 := [7, 10]) (ES.par3 (ks := [false, true, false]) 9 10 11 rfl sc_table_with.nd (EM.consV (EV.if (ET.cmp (ok_ne hr) (EB.var 7) (EO.b (EO.lst (EA.nil)))) (EV.ix (EB.var 7) (EV.b (EV.neg (EV.b (EV.int))))) (EV.non)) (EM.consO (EO.lst (EA.nil)) (EM.consV (EV.ix (EB.var 0) (EB.var 8)) (EM.nil)))))
    (ESs.cons (O1 := [7, 10]) (ES.for (Oh := [7, 10]) (Ob := [7, 10]) (O' := [7, 10]) [12, 13] PassesOwn.never rfl (EI.r1 B.b_range (EV.b (EV.add (EV.b (EV.len B.len (EB.var 1))) (EV.b (EV.int))))) (GG.name 12 sc_table_with.nd) (ESs.cons (O1 := [7, 10]) (ES.if (ET.cmp (ok_gt hr) (EB.var 12) (EV.b (EV.int))) (ESs.one (ES.augAdd 11 sc_table_with.nd (EV.b (EV.ix (EB.var 1) (EV.b (EV.sub (EB.var 12) (EV.b (EV.int)))))))) (ESs.nil))
    (ESs.cons (O1 := [7, 10]) (ES.if (ET.cmp ok_isNot (EB.var 9) (EV.b (EV.non))) (ESs.one (ES.set (EV.max2 B.b_max rfl (EB.var 11) (EV.b (EV.ix (EB.var 9) (EB.var 12)))) (GG.name 11 sc_table_with.nd))) (ESs.nil))
    (ESs.cons (O1 := [7, 10]) (ES.set (EV.if (ET.cmp ok_isNot (EB.var 9) (EV.b (EV.non))) (EV.sub (EB.var 11) (EV.b (EV.ix (EB.var 9) (EB.var 12)))) (EV.var 4)) (GG.name 13 sc_table_with.nd))
    (ESs.cons (O1 := [7, 10]) (ES.augAdd 11 sc_table_with.nd (EV.b (EV.callO o_stand (hr.mono (by decide)) (EA.cons (EV.ix (EB.var 2) (EB.var 12)) (EA.cons (EV.var 3) (EA.cons (EV.var 13) (EA.nil)))))))
    (ESs.cons (O1 := [7, 10]) (ES.if ((andW (ET.cmp (ok_eq hr) (EB.var 5) (EB.var 12)) (ET.and1 (ET.cmp ok_isNot (EB.var 9) (EV.b (EV.non))))).pt) (ESs.one (ES.set (EV.max2 B.b_max rfl (EB.var 11) (EV.b (EV.add (EV.b (EV.ix (EB.var 9) (EB.var 12))) (EB.var 6)))) (GG.name 11 sc_table_with.nd))) (ESs.nil))
    (ESs.one (ES.app 10 (EV.var 11)))))))))
    (ESs.one (ES.app 7 (EV.tuple B.b_tuple (EB.var 10)))))))
    (ESs.one (ES.ret (EV.tuple B.b_tuple (EB.var 7)))))
/-! run_buses -/
abbrev st_run_buses : Stmt := topS 3
abbrev N_run_buses : List Str := ["begins", "runs", "people", "step", "gap"]
theorem sc_run_buses : FnScope N_run_buses ["begins", "runs", "people", "step", "gap"] (defScope st_run_buses) := ⟨rfl, rfl, rfl, by decide +kernel, rfl, by decide +kernel, by decide +kernel⟩
def b_run_buses : S :=
    sRet (cCall f_table_with [cVar 0, cVar 1, cVar 2, cVar 3, cVar 4, cK .none, cK (.int 0)])
def f_run_buses : Fn := bodyFn 5 0 b_run_buses
theorem d_run_buses (B : Bi mg) (Dd : Df K mg "run_buses" st_run_buses ["begins", "runs", "people", "step", "gap"]) (o_table_with : Ok K mg P w base 2 "table_with" ["begins", "runs", "people", "step", "gap", "hold", "least"] 7 f_table_with) : Ok K mg P w base 3 "run_buses" ["begins", "runs", "people", "step", "gap"] 5 f_run_buses :=
  ok_of (O' := []) Dd sc_run_buses fun f cdv A outer s H E hr => ESs.one (ES.ret (EV.callO o_table_with (hr.mono (by decide)) (EA.cons (EV.var 0) (EA.cons (EV.var 1) (EA.cons (EV.var 2) (EA.cons (EV.var 3) (EA.cons (EV.var 4) (EA.cons (EV.non) (EA.cons (EV.int) (EA.nil))))))))))
/-! held -/
abbrev st_held : Stmt := topS 4
abbrev N_held : List Str := ["begins", "runs", "people", "step", "gap", "hold", "least"]
theorem sc_held : FnScope N_held ["begins", "runs", "people", "step", "gap", "hold", "least"] (defScope st_held) := ⟨rfl, rfl, rfl, by decide +kernel, rfl, by decide +kernel, by decide +kernel⟩
def b_held : S :=
    sRet (cCall f_table_with [cVar 0, cVar 1, cVar 2, cVar 3, cVar 4, cVar 5, cVar 6])
def f_held : Fn := bodyFn 7 0 b_held
theorem d_held (B : Bi mg) (Dd : Df K mg "held" st_held ["begins", "runs", "people", "step", "gap", "hold", "least"]) (o_table_with : Ok K mg P w base 2 "table_with" ["begins", "runs", "people", "step", "gap", "hold", "least"] 7 f_table_with) : Ok K mg P w base 3 "held" ["begins", "runs", "people", "step", "gap", "hold", "least"] 7 f_held :=
  ok_of (O' := []) Dd sc_held fun f cdv A outer s H E hr => ESs.one (ES.ret (EV.callO o_table_with (hr.mono (by decide)) (EA.cons (EV.var 0) (EA.cons (EV.var 1) (EA.cons (EV.var 2) (EA.cons (EV.var 3) (EA.cons (EV.var 4) (EA.cons (EV.var 5) (EA.cons (EV.var 6) (EA.nil))))))))))
/-! gaps_behind -/
abbrev st_gaps_behind : Stmt := topS 5
abbrev N_gaps_behind : List Str := ["table", "stop", "one", "other"]
theorem sc_gaps_behind : FnScope N_gaps_behind ["table", "stop"] (defScope st_gaps_behind) := ⟨rfl, rfl, rfl, by decide +kernel, rfl, by decide +kernel, by decide +kernel⟩
def b_gaps_behind : S :=
    sRet (cOp1 tupD (cLc (itZip (cVar 0) (cCut (cVar 0) (some (cK (.int 1))) none)) (gTup [gName 2, gName 3]) (tYes) (cOp2 subD (cOp2 ixD (cVar 3) (cVar 1)) (cOp2 ixD (cVar 2) (cVar 1))) [2, 3]))
def f_gaps_behind : Fn := bodyFn 2 2 b_gaps_behind
theorem d_gaps_behind (B : Bi mg) (Dd : Df K mg "gaps_behind" st_gaps_behind ["table", "stop"])  : Ok K mg P w base 1 "gaps_behind" ["table", "stop"] 2 f_gaps_behind :=
  ok_of (O' := []) Dd sc_gaps_behind fun f cdv A outer s H E hr => ESs.one (ES.ret (EV.tuple B.b_tuple (EO.b (EO.lc (own := [("one", 2), ("other", 3)]) rfl sc_gaps_behind.nd (EI.zip B.b_zip (EV.var 0) (EV.cut (EB.var 0) (EP.some (EV.b (EV.int))) EP.none)) (blkOk_by (N := N_gaps_behind) (sc := defScope st_gaps_behind) (own := [("one", 2), ("other", 3)]) (by decide +kernel)) (fun _ _ _ _ _ => GG.tup rfl (GG.cons (GG.name 2 sc_gaps_behind.nd) (GG.cons (GG.name 3 sc_gaps_behind.nd) (GG.nil)))) (fun _ _ _ _ _ => tests0) (fun _ _ _ _ _ => EV.sub (EV.b (EV.ix (EB.var 3) (EB.var 1))) (EV.b (EV.ix (EB.var 2) (EB.var 1))))))))
/-! spread_gap -/
abbrev st_spread_gap : Stmt := topS 7
abbrev N_spread_gap : List Str := ["table", "stop", "gaps"]
theorem sc_spread_gap : FnScope N_spread_gap ["table", "stop"] (defScope st_spread_gap) := ⟨rfl, rfl, rfl, by decide +kernel, rfl, by decide +kernel, by decide +kernel⟩
def b_spread_gap : S :=
    sSeq (sSet (gName 2) (cCall f_gaps_behind [cVar 0, cVar 1]))
    (sRet (cIf (tCmp neD (cVar 2) (cTup [])) (cOp2 subD (cOp1 maxD1 (cVar 2)) (cOp1 minD1 (cVar 2))) (cK (.int 0))))
def f_spread_gap : Fn := bodyFn 2 1 b_spread_gap
theorem d_spread_gap (B : Bi mg) (Dd : Df K mg "spread_gap" st_spread_gap ["table", "stop"]) (o_gaps_behind : Ok K mg P w base 1 "gaps_behind" ["table", "stop"] 2 f_gaps_behind) : Ok K mg P w base 2 "spread_gap" ["table", "stop"] 2 f_spread_gap :=
  ok_of (O' := []) Dd sc_spread_gap fun f cdv A outer s H E hr => ESs.cons (O1 := []) (ES.set (EV.callO o_gaps_behind (hr.mono (by decide)) (EA.cons (EV.var 0) (EA.cons (EV.var 1) (EA.nil)))) (GG.name 2 sc_spread_gap.nd))
    (ESs.one (ES.ret (EV.if (ET.cmp (ok_ne hr) (EB.var 2) (EV.b (EV.tup (EA.nil)))) (EV.sub (EV.b (EV.max1 B.b_max hr (EB.var 2))) (EV.b (EV.min1 B.b_min hr (EB.var 2)))) (EV.int))))
/-! best_hold -/
abbrev st_best_hold : Stmt := topS 8
abbrev N_best_hold : List Str := ["begins", "runs", "people", "step", "gap", "least", "rows", "stop"]
theorem sc_best_hold : FnScope N_best_hold ["begins", "runs", "people", "step", "gap", "least"] (defScope st_best_hold) := ⟨rfl, rfl, rfl, by decide +kernel, rfl, by decide +kernel, by decide +kernel⟩
def b_best_hold_0 : S :=
    sApp 6 (cTup [cCall f_spread_gap [cCall f_held [cVar 0, cVar 1, cVar 2, cVar 3, cVar 4, cVar 7, cVar 5], cOp1 lenD (cVar 1)], cVar 7])
def b_best_hold : S :=
    sSeq (sSet (gName 6) (cLst []))
    (sSeq (sFor (itR1 (cOp2 addD (cOp1 lenD (cVar 1)) (cK (.int 1)))) (gName 7) (b_best_hold_0) [7])
    (sRet (cOp1 minD1 (cVar 6))))
def f_best_hold : Fn := bodyFn 6 2 b_best_hold
theorem d_best_hold (B : Bi mg) (Dd : Df K mg "best_hold" st_best_hold ["begins", "runs", "people", "step", "gap", "least"]) (o_spread_gap : Ok K mg P w base 2 "spread_gap" ["table", "stop"] 2 f_spread_gap) (o_held : Ok K mg P w base 3 "held" ["begins", "runs", "people", "step", "gap", "hold", "least"] 7 f_held) : Ok K mg P w base 4 "best_hold" ["begins", "runs", "people", "step", "gap", "least"] 6 f_best_hold :=
  ok_of (O' := []) Dd sc_best_hold fun f cdv A outer s H E hr => ESs.cons (O1 := [6]) (ES.setO 6 sc_best_hold.nd (EO.lst (EA.nil)))
    (ESs.cons (O1 := [6]) (ES.for (Oh := [6]) (Ob := [6]) (O' := [6]) [7] PassesOwn.never rfl (EI.r1 B.b_range (EV.b (EV.add (EV.b (EV.len B.len (EB.var 1))) (EV.b (EV.int))))) (GG.name 7 sc_best_hold.nd) (ESs.one (ES.app 6 (EV.tup (EA.cons (EV.callO o_spread_gap (hr.mono (by decide)) (EA.cons (EV.callO o_held (hr.mono (by decide)) (EA.cons (EV.var 0) (EA.cons (EV.var 1) (EA.cons (EV.var 2) (EA.cons (EV.var 3) (EA.cons (EV.var 4) (EA.cons (EV.var 7) (EA.cons (EV.var 5) (EA.nil))))))))) (EA.cons (EV.len B.len (EB.var 1)) (EA.nil)))) (EA.cons (EV.var 7) (EA.nil)))))))
    (ESs.one (ES.ret (EV.min1 B.b_min hr (EB.var 6)))))
/-! _law_alike -/
abbrev st__law_alike : Stmt := topS 15
abbrev N__law_alike : List Str := ["seen", "due", "kind", "key", "k"]
theorem sc__law_alike : FnScope N__law_alike ["seen", "due"] (defScope st__law_alike) := ⟨rfl, rfl, rfl, by decide +kernel, rfl, by decide +kernel, by decide +kernel⟩
def b_law_alike (self : Fn) : S :=
    sSeq (sIf (tVal (cOp1 (isaD .dict) (cVar 1))) (sDead) (sPass))
    (sSeq (sIf (tOr (tVal (cOp1 (isaD .tuple) (cVar 1))) (tVal (cOp1 (isaD .list) (cVar 1)))) (sSeq (sSet (gName 2) (cIf (tVal (cOp1 (isaD .tuple) (cVar 1))) (cOp1 (isaD .tuple) (cVar 0)) (cOp1 (isaD .list) (cVar 0))))
    (sRet (cAnd (cVar 2) (cAnd (cT (tCmp eqD (cOp1 lenD (cVar 0)) (cOp1 lenD (cVar 1)))) (cT (tCmp eqD (cLc (itR1 (cOp1 lenD (cVar 1))) (gName 4) (tNot (tVal (cCall self [cOp2 ixD (cVar 0) (cVar 4), cOp2 ixD (cVar 1) (cVar 4)]))) (cVar 4) [4]) (cLst []))))))) (sPass))
    (sSeq (sIf (tOr (tCmp isND (cVar 1) (cK .none)) (tVal (cOp1 (isaD .str) (cVar 1)))) (sRet (cIf (tCmp isND (cVar 1) (cK .none)) (cT (tCmp isND (cVar 0) (cK .none))) (cAnd (cOp1 (isaD .str) (cVar 0)) (cT (tCmp eqD (cVar 0) (cVar 1)))))) (sPass))
    (sRet (cAnd (cOp1 (isaD .int) (cVar 0)) (cAnd (cT (tCmp eqD (cOp1 (isaD .bool) (cVar 0)) (cOp1 (isaD .bool) (cVar 1)))) (cT (tCmp eqD (cVar 0) (cVar 1))))))))
def f_law_alike : Nat → Fn
  | 0 => bodyFn 2 3 sDead
  | n + 1 => bodyFn 2 3 (b_law_alike (f_law_alike n))
theorem d__law_alike (B : Bi mg) (Dd : Df K mg "_law_alike" st__law_alike ["seen", "due"])  : ∀ n : Nat, Ok K mg P w base (0 + n + 1) "_law_alike" ["seen", "due"] 2 (f_law_alike n)
  | 0 => ok_of (O' := []) Dd sc__law_alike fun f cdv A outer s H E hr => ESs.dead
  | n + 1 => have ih := d__law_alike B Dd  n
    ok_of (O' := []) Dd sc__law_alike fun f cdv A outer s H E hr => ESs.cons (O1 := []) (ES.if (ET.val (EV.b (EV.isa .dict B.b_isinstance B.b_dict (by decide +kernel) (EB.var 1)))) (ESs.dead) (ESs.nil))
    (ESs.cons (O1 := []) (ES.if ((orW (ET.val (EV.b (EV.isa .tuple B.b_isinstance B.b_tuple (by decide +kernel) (EB.var 1)))) (ET.or1 (ET.val (EV.b (EV.isa .list B.b_isinstance B.b_list (by decide +kernel) (EB.var 1)))))).pt) (ESs.cons (O1 := []) (ES.set (EV.if (ET.val (EV.b (EV.isa .tuple B.b_isinstance B.b_tuple (by decide +kernel) (EB.var 1)))) (EV.isa .tuple B.b_isinstance B.b_tuple (by decide +kernel) (EB.var 0)) (EV.isa .list B.b_isinstance B.b_list (by decide +kernel) (EB.var 0))) (GG.name 2 sc__law_alike.nd))
    (ESs.one (ES.ret (EV.and (EB.var 2) (EV.and (EV.b (EV.cmp (ok_eq hr) (EV.b (EV.len B.len (EB.var 0))) (EV.b (EV.len B.len (EB.var 1))))) (EV.one (EV.cmp (ok_eq hr) (EO.b (EO.lc (own := [("k", 4)]) rfl sc__law_alike.nd (EI.r1 B.b_range (EV.b (EV.len B.len (EB.var 1)))) (blkOk_by (N := N__law_alike) (sc := defScope st__law_alike) (own := [("k", 4)]) (by decide +kernel)) (fun _ _ _ _ _ => GG.name 4 sc__law_alike.nd) (fun _ _ _ _ _ => tests1 (ET.not (ET.val (EV.b (EV.callO ih (hr.mono (by omega)) (EA.cons (EV.ix (EB.var 0) (EB.var 4)) (EA.cons (EV.ix (EB.var 1) (EB.var 4)) (EA.nil)))))))) (fun _ _ _ _ _ => EV.var 4))) (EO.b (EO.lst (EA.nil)))))))))) (ESs.nil))
    (ESs.cons (O1 := []) (ES.if ((orW (ET.cmp ok_is (EB.var 1) (EV.b (EV.non))) (ET.or1 (ET.val (EV.b (EV.isa .str B.b_isinstance B.b_str (by decide +kernel) (EB.var 1)))))).pt) (ESs.one (ES.ret (EV.if (ET.cmp ok_is (EB.var 1) (EV.b (EV.non))) (EV.cmp ok_is (EB.var 0) (EV.b (EV.non))) (EV.and (EV.b (EV.isa .str B.b_isinstance B.b_str (by decide +kernel) (EB.var 0))) (EV.one (EV.cmp (ok_eq hr) (EB.var 0) (EB.var 1))))))) (ESs.nil))
    (ESs.one (ES.ret (EV.and (EV.b (EV.isa .int B.b_isinstance B.b_int (by decide +kernel) (EB.var 0))) (EV.and (EV.b (EV.cmp (ok_eq hr) (EV.b (EV.isa .bool B.b_isinstance B.b_bool (by decide +kernel) (EB.var 0))) (EV.b (EV.isa .bool B.b_isinstance B.b_bool (by decide +kernel) (EB.var 1))))) (EV.one (EV.cmp (ok_eq hr) (EB.var 0) (EB.var 1)))))))))
/-! bunched -/
abbrev st_bunched : Stmt := topS 6
abbrev N_bunched : List Str := ["table", "least", "found", "k", "stop"]
theorem sc_bunched : FnScope N_bunched ["table", "least"] (defScope st_bunched) := ⟨rfl, rfl, rfl, by decide +kernel, rfl, by decide +kernel, by decide +kernel⟩
def b_bunched_0 : S :=
    sExt 2 (cLc (itR1 (cOp1 lenD (cOp2 ixD (cVar 0) (cVar 3)))) (gName 4) (tCmp ltD (cOp2 subD (cOp2 ixD (cOp2 ixD (cVar 0) (cVar 3)) (cVar 4)) (cOp2 ixD (cOp2 ixD (cVar 0) (cOp2 subD (cVar 3) (cK (.int 1)))) (cVar 4))) (cVar 1)) (cTup [cVar 3, cVar 4]) [4])
def b_bunched : S :=
    sSeq (sSet (gName 2) (cLst []))
    (sSeq (sFor (itR2 (cK (.int 1)) (cOp1 lenD (cVar 0))) (gName 3) (b_bunched_0) [3])
    (sRet (cOp1 tupD (cVar 2))))
def f_bunched : Fn := bodyFn 2 3 b_bunched
theorem d_bunched (B : Bi mg) (Dd : Df K mg "bunched" st_bunched ["table", "least"])  : Ok K mg P w base 1 "bunched" ["table", "least"] 2 f_bunched :=
  ok_of (O' := []) Dd sc_bunched fun f cdv A outer s H E hr => ESs.cons (O1 := [2]) (ES.setO 2 sc_bunched.nd (EO.lst (EA.nil)))
    (ESs.cons (O1 := [2]) (ES.for (Oh := [2]) (Ob := [2]) (O' := [2]) [3] PassesOwn.never rfl (EI.r2 B.b_range (EV.b (EV.int)) (EV.b (EV.len B.len (EB.var 0)))) (GG.name 3 sc_bunched.nd) (ESs.one (ES.ext 2 (EO.v (EO.lc (own := [("stop", 4)]) rfl sc_bunched.nd (EI.r1 B.b_range (EV.b (EV.len B.len (EV.b (EV.ix (EB.var 0) (EB.var 3)))))) (blkOk_by (N := N_bunched) (sc := defScope st_bunched) (own := [("stop", 4)]) (by decide +kernel)) (fun _ _ _ _ _ => GG.name 4 sc_bunched.nd) (fun _ _ _ _ _ => tests1 (ET.cmp (ok_lt hr) (EV.b (EV.sub (EV.b (EV.ix (EV.b (EV.ix (EB.var 0) (EB.var 3))) (EB.var 4))) (EV.b (EV.ix (EV.b (EV.ix (EB.var 0) (EV.b (EV.sub (EB.var 3) (EV.b (EV.int)))))) (EB.var 4))))) (EB.var 1))) (fun _ _ _ _ _ => EV.tup (EA.cons (EV.var 3) (EA.cons (EV.var 4) (EA.nil)))))))))
    (ESs.one (ES.ret (EV.tuple B.b_tuple (EB.var 2)))))
/-! whole_wait -/
abbrev st_whole_wait : Stmt := topS 9
abbrev N_whole_wait : List Str := ["table", "people", "found", "stop", "gap"]
theorem sc_whole_wait : FnScope N_whole_wait ["table", "people"] (defScope st_whole_wait) := ⟨rfl, rfl, rfl, by decide +kernel, rfl, by decide +kernel, by decide +kernel⟩
def b_whole_wait_0 : S :=
    sAugN 2 addI (cOp2 mulI (cOp2 ixD (cVar 1) (cVar 3)) (cOp1 sumD (cLc (itSeq (cCall f_gaps_behind [cVar 0, cVar 3])) (gName 4) (tYes) (cOp2 mulI (cVar 4) (cVar 4)) [4])))
def b_whole_wait : S :=
    sSeq (sSet (gName 2) (cK (.int 0)))
    (sSeq (sFor (itR1 (cOp1 lenD (cVar 1))) (gName 3) (b_whole_wait_0) [3])
    (sRet (cVar 2)))
def f_whole_wait : Fn := bodyFn 2 3 b_whole_wait
theorem d_whole_wait (B : Bi mg) (Dd : Df K mg "whole_wait" st_whole_wait ["table", "people"]) (o_gaps_behind : Ok K mg P w base 1 "gaps_behind" ["table", "stop"] 2 f_gaps_behind) : Ok K mg P w base 2 "whole_wait" ["table", "people"] 2 f_whole_wait :=
  ok_of (O' := []) Dd sc_whole_wait fun f cdv A outer s H E hr => ESs.cons (O1 := []) (ES.set (EV.int) (GG.name 2 sc_whole_wait.nd))
    (ESs.cons (O1 := []) (ES.for (Oh := []) (Ob := []) (O' := []) [3] PassesOwn.never rfl (EI.r1 B.b_range (EV.b (EV.len B.len (EB.var 1)))) (GG.name 3 sc_whole_wait.nd) (ESs.one (ES.augAdd 2 sc_whole_wait.nd (EV.b (EV.mul (EV.b (EV.ix (EB.var 1) (EB.var 3))) (EV.b (EV.sum B.b_sum rfl (EO.b (EO.lc (own := [("gap", 4)]) rfl sc_whole_wait.nd (EI.seq (EV.callO o_gaps_behind (hr.mono (by decide)) (EA.cons (EV.var 0) (EA.cons (EV.var 3) (EA.nil))))) (blkOk_by (N := N_whole_wait) (sc := defScope st_whole_wait) (own := [("gap", 4)]) (by decide +kernel)) (fun _ _ _ _ _ => GG.name 4 sc_whole_wait.nd) (fun _ _ _ _ _ => tests0) (fun _ _ _ _ _ => EV.mul (EB.var 4) (EB.var 4)))))))))))
    (ESs.one (ES.ret (EV.var 2))))
/-! _law_gaps -/
abbrev st__law_gaps : Stmt := topS 17
abbrev N__law_gaps : List Str := ["table", "stop", "k"]
theorem sc__law_gaps : FnScope N__law_gaps ["table", "stop"] (defScope st__law_gaps) := ⟨rfl, rfl, rfl, by decide +kernel, rfl, by decide +kernel, by decide +kernel⟩
def b_law_gaps : S :=
    sRet (cOp1 tupD (cLc (itR2 (cK (.int 1)) (cOp1 lenD (cVar 0))) (gName 2) (tYes) (cOp2 subD (cOp2 ixD (cOp2 ixD (cVar 0) (cVar 2)) (cVar 1)) (cOp2 ixD (cOp2 ixD (cVar 0) (cOp2 subD (cVar 2) (cK (.int 1)))) (cVar 1))) [2]))
def f_law_gaps : Fn := bodyFn 2 1 b_law_gaps
theorem d__law_gaps (B : Bi mg) (Dd : Df K mg "_law_gaps" st__law_gaps ["table", "stop"])  : Ok K mg P w base 1 "_law_gaps" ["table", "stop"] 2 f_law_gaps :=
  ok_of (O' := []) Dd sc__law_gaps fun f cdv A outer s H E hr => ESs.one (ES.ret (EV.tuple B.b_tuple (EO.b (EO.lc (own := [("k", 2)]) rfl sc__law_gaps.nd (EI.r2 B.b_range (EV.b (EV.int)) (EV.b (EV.len B.len (EB.var 0)))) (blkOk_by (N := N__law_gaps) (sc := defScope st__law_gaps) (own := [("k", 2)]) (by decide +kernel)) (fun _ _ _ _ _ => GG.name 2 sc__law_gaps.nd) (fun _ _ _ _ _ => tests0) (fun _ _ _ _ _ => EV.sub (EV.b (EV.ix (EV.b (EV.ix (EB.var 0) (EB.var 2))) (EB.var 1))) (EV.b (EV.ix (EV.b (EV.ix (EB.var 0) (EV.b (EV.sub (EB.var 2) (EV.b (EV.int)))))) (EB.var 1))))))))
/-! _law_spread -/
abbrev st__law_spread : Stmt := topS 18
abbrev N__law_spread : List Str := ["table", "stop", "gaps"]
theorem sc__law_spread : FnScope N__law_spread ["table", "stop"] (defScope st__law_spread) := ⟨rfl, rfl, rfl, by decide +kernel, rfl, by decide +kernel, by decide +kernel⟩
def b_law_spread : S :=
    sSeq (sSet (gName 2) (cCall f_law_gaps [cVar 0, cVar 1]))
    (sRet (cIf (tCmp neD (cVar 2) (cTup [])) (cOp2 subD (cOp1 maxD1 (cVar 2)) (cOp1 minD1 (cVar 2))) (cK (.int 0))))
def f_law_spread : Fn := bodyFn 2 1 b_law_spread
theorem d__law_spread (B : Bi mg) (Dd : Df K mg "_law_spread" st__law_spread ["table", "stop"]) (o__law_gaps : Ok K mg P w base 1 "_law_gaps" ["table", "stop"] 2 f_law_gaps) : Ok K mg P w base 2 "_law_spread" ["table", "stop"] 2 f_law_spread :=
  ok_of (O' := []) Dd sc__law_spread fun f cdv A outer s H E hr => ESs.cons (O1 := []) (ES.set (EV.callO o__law_gaps (hr.mono (by decide)) (EA.cons (EV.var 0) (EA.cons (EV.var 1) (EA.nil)))) (GG.name 2 sc__law_spread.nd))
    (ESs.one (ES.ret (EV.if (ET.cmp (ok_ne hr) (EB.var 2) (EV.b (EV.tup (EA.nil)))) (EV.sub (EV.b (EV.max1 B.b_max hr (EB.var 2))) (EV.b (EV.min1 B.b_min hr (EB.var 2)))) (EV.int))))
/-! steady -/
abbrev st_steady : Stmt := topS 10
abbrev N_steady : List Str := ["begins", "gaps", "one", "other"]
theorem sc_steady : FnScope N_steady ["begins"] (defScope st_steady) := ⟨rfl, rfl, rfl, by decide +kernel, rfl, by decide +kernel, by decide +kernel⟩
def b_steady : S :=
    sSeq (sSet (gName 1) (cLc (itZip (cVar 0) (cCut (cVar 0) (some (cK (.int 1))) none)) (gTup [gName 2, gName 3]) (tYes) (cOp2 subD (cVar 3) (cVar 2)) [2, 3]))
    (sRet (cT (tCmp ltD (cOp1 lenSetD (cVar 1)) (cK (.int 2)))))
def f_steady : Fn := bodyFn 1 3 b_steady
theorem d_steady (B : Bi mg) (Dd : Df K mg "steady" st_steady ["begins"])  : Ok K mg P w base 1 "steady" ["begins"] 1 f_steady :=
  ok_of (O' := []) Dd sc_steady fun f cdv A outer s H E hr => ESs.cons (O1 := [1]) (ES.setLc (own := [("one", 2), ("other", 3)]) 1 rfl sc_steady.nd (EI.zip B.b_zip (EV.var 0) (EV.cut (EB.var 0) (EP.some (EV.b (EV.int))) EP.none)) (blkOk_by (N := N_steady) (sc := defScope st_steady) (own := [("one", 2), ("other", 3)]) (by decide +kernel)) (fun _ _ _ _ _ => GG.tup rfl (GG.cons (GG.name 2 sc_steady.nd) (GG.cons (GG.name 3 sc_steady.nd) (GG.nil)))) (fun _ _ _ _ _ => tests0) (fun _ _ _ _ _ => EV.sub (EB.var 3) (EB.var 2)) (sw_true rfl rfl rfl (by decide +kernel)))
    (ESs.one (ES.ret (EV.cmp (ok_lt hr) (EV.b (EV.lenSet ⟨_, hr⟩ B.len B.b_set (EB.var 1))) (EV.b (EV.int)))))
/-! late_last -/
abbrev st_late_last : Stmt := topS 11
abbrev N_late_last : List Str := ["table"]
theorem sc_late_last : FnScope N_late_last ["table"] (defScope st_late_last) := ⟨rfl, rfl, rfl, by decide +kernel, rfl, by decide +kernel, by decide +kernel⟩
def b_late_last : S :=
    sSeq (sIf (tCmp eqD (cVar 0) (cTup [])) (sRet (cK (.int 0))) (sPass))
    (sRet (cOp2 subD (cOp2 subD (cOp2 ixD (cOp2 ixD (cVar 0) (cOp1 negD (cK (.int 1)))) (cOp1 negD (cK (.int 1)))) (cOp2 ixD (cOp2 ixD (cVar 0) (cK (.int 0))) (cOp1 negD (cK (.int 1))))) (cOp2 subD (cOp2 ixD (cOp2 ixD (cVar 0) (cOp1 negD (cK (.int 1)))) (cK (.int 0))) (cOp2 ixD (cOp2 ixD (cVar 0) (cK (.int 0))) (cK (.int 0))))))
def f_late_last : Fn := bodyFn 1 0 b_late_last
theorem d_late_last (B : Bi mg) (Dd : Df K mg "late_last" st_late_last ["table"])  : Ok K mg P w base 1 "late_last" ["table"] 1 f_late_last :=
  ok_of (O' := []) Dd sc_late_last fun f cdv A outer s H E hr => ESs.cons (O1 := []) (ES.if (ET.cmp (ok_eq hr) (EB.var 0) (EV.b (EV.tup (EA.nil)))) (ESs.one (ES.ret (EV.int))) (ESs.nil))
    (ESs.one (ES.ret (EV.sub (EV.b (EV.sub (EV.b (EV.ix (EV.b (EV.ix (EB.var 0) (EV.b (EV.neg (EV.b (EV.int)))))) (EV.b (EV.neg (EV.b (EV.int)))))) (EV.b (EV.ix (EV.b (EV.ix (EB.var 0) (EV.b (EV.int)))) (EV.b (EV.neg (EV.b (EV.int)))))))) (EV.b (EV.sub (EV.b (EV.ix (EV.b (EV.ix (EB.var 0) (EV.b (EV.neg (EV.b (EV.int)))))) (EV.b (EV.int)))) (EV.b (EV.ix (EV.b (EV.ix (EB.var 0) (EV.b (EV.int)))) (EV.b (EV.int)))))))))
/-! law -/
abbrev st_law : Stmt := topS 19
abbrev N_law : List Str := ["script", "w", "turn", "runs", "people", "begins", "step", "gap", "least", "k", "hold", "table", "kept", "told", "best", "close", "waits", "stop", "gaps", "late", "own"]
theorem sc_law : FnScope N_law ["script"] (defScope st_law) := ⟨rfl, rfl, rfl, by decide +kernel, rfl, by decide +kernel, by decide +kernel⟩
def b_law_0 : S :=
    sApp 5 (cOp2 addD (cOp2 addD (cOp2 ixD (cVar 5) (cOp1 negD (cK (.int 1)))) (cK (.int 1))) (cCall fnNext [cVar 1, cK (.int 9)]))
def b_law_1 : S :=
    sSet (gName 15) (cOp2 addD (cVar 15) (cLc (itR1 (cOp1 lenD (cVar 4))) (gName 17) (tCmp ltD (cOp2 subD (cOp2 ixD (cOp2 ixD (cVar 11) (cVar 9)) (cVar 17)) (cOp2 ixD (cOp2 ixD (cVar 11) (cOp2 subD (cVar 9) (cK (.int 1)))) (cVar 17))) (cVar 8)) (cTup [cVar 9, cVar 17]) [17]))
def b_law_2 : S :=
    sAugN 16 addI (cOp2 mulI (cOp2 ixD (cVar 4) (cVar 17)) (cOp1 sumD (cLc (itSeq (cCall f_law_gaps [cVar 11, cVar 17])) (gName 20) (tYes) (cOp2 mulI (cVar 20) (cVar 20)) [20])))
def b_law_3 : S :=
    sSeq (sSet (gName 3) (cOp1 tupD (cLc (itR1 (cCall fnNext [cVar 1, cK (.int 4)])) (gName 9) (tYes) (cOp2 addD (cK (.int 1)) (cCall fnNext [cVar 1, cK (.int 9)])) [9])))
    (sSeq (sSet (gName 4) (cOp1 tupD (cLc (itR1 (cOp2 addD (cOp1 lenD (cVar 3)) (cK (.int 1)))) (gName 9) (tYes) (cCall fnNext [cVar 1, cK (.int 5)]) [9])))
    (sSeq (sPar [gName 5, gName 6, gName 7, gName 8] [cLst [cOp2 addD (cK (.int 10)) (cCall fnNext [cVar 1, cK (.int 10)])], cCall fnNext [cVar 1, cK (.int 45)], cCall fnNext [cVar 1, cK (.int 20)], cCall fnNext [cVar 1, cK (.int 12)]])
    (sSeq (sFor (itR1 (cCall fnNext [cVar 1, cK (.int 5)])) (gName 9) (b_law_0) [9])
    (sSeq (sSet (gName 5) (cIf (tCmp gtD (cCall fnNext [cVar 1, cK (.int 8)]) (cK (.int 0))) (cOp1 tupD (cVar 5)) (cTup [])))
    (sSeq (sSet (gName 10) (cCall fnNext [cVar 1, cOp1 lenD (cVar 4)]))
    (sSeq (sSet (gName 11) (cCall f_law_run [cVar 5, cVar 3, cVar 4, cVar 6, cVar 7, cK .none, cK (.int 0)]))
    (sSeq (sSet (gName 12) (cLc (itR1 (cOp1 lenD (cVar 4))) (gName 17) (tYes) (cCall f_law_run [cVar 5, cVar 3, cVar 4, cVar 6, cVar 7, cVar 17, cVar 8]) [17]))
    (sSeq (sSet (gName 13) (cTup [cCall f_run_buses [cVar 5, cVar 3, cVar 4, cVar 6, cVar 7], cCall f_held [cVar 5, cVar 3, cVar 4, cVar 6, cVar 7, cVar 10, cVar 8], cCall f_best_hold [cVar 5, cVar 3, cVar 4, cVar 6, cVar 7, cVar 8]]))
    (sSeq (sSet (gName 14) (cOp1 minD1 (cLc (itR1 (cOp1 lenD (cVar 4))) (gName 17) (tYes) (cTup [cCall f_law_spread [cOp2 ixD (cVar 12) (cVar 17), cOp1 lenD (cVar 3)], cVar 17]) [17])))
    (sSeq (sIf (tNot (tVal (cCall (f_law_alike 12) [cVar 13, cTup [cVar 11, cOp2 ixD (cVar 12) (cVar 10), cVar 14]]))) (sRet (cK (.bool false))) (sPass))
    (sSeq (sPar [gName 15, gName 16] [cLst [], cK (.int 0)])
    (sSeq (sFor (itR2 (cK (.int 1)) (cOp1 lenD (cVar 11))) (gName 9) (b_law_1) [9])
    (sSeq (sFor (itR1 (cOp1 lenD (cVar 4))) (gName 17) (b_law_2) [17])
    (sSeq (sSet (gName 13) (cTup [cCall f_gaps_behind [cVar 11, cVar 10], cCall f_bunched [cVar 11, cVar 8], cCall f_spread_gap [cVar 11, cVar 10], cCall f_whole_wait [cVar 11, cVar 4]]))
    (sSeq (sIf (tNot (tVal (cCall (f_law_alike 12) [cVar 13, cTup [cCall f_law_gaps [cVar 11, cVar 10], cOp1 tupD (cVar 15), cCall f_law_spread [cVar 11, cVar 10], cVar 16]]))) (sRet (cK (.bool false))) (sPass))
    (sSeq (sSet (gName 18) (cLc (itR2 (cK (.int 1)) (cOp1 lenD (cVar 5))) (gName 9) (tYes) (cOp2 subD (cOp2 ixD (cVar 5) (cVar 9)) (cOp2 ixD (cVar 5) (cOp2 subD (cVar 9) (cK (.int 1))))) [9]))
    (sSeq (sSet (gName 19) (cIf (tCmp neD (cVar 11) (cTup [])) (cOp2 subD (cOp2 subD (cOp2 ixD (cOp2 ixD (cVar 11) (cOp1 negD (cK (.int 1)))) (cOp1 negD (cK (.int 1)))) (cOp2 ixD (cOp2 ixD (cVar 11) (cK (.int 0))) (cOp1 negD (cK (.int 1))))) (cOp2 subD (cOp2 ixD (cOp2 ixD (cVar 11) (cOp1 negD (cK (.int 1)))) (cK (.int 0))) (cOp2 ixD (cOp2 ixD (cVar 11) (cK (.int 0))) (cK (.int 0))))) (cK (.int 0))))
    (sIf (tNot (tVal (cCall (f_law_alike 12) [cTup [cCall f_steady [cVar 5], cCall f_late_last [cVar 11]], cTup [cT (tCmp eqD (cLc (itSeq (cVar 18)) (gName 20) (tCmp neD (cVar 20) (cOp2 ixD (cVar 18) (cK (.int 0)))) (cVar 20) [20]) (cLst [])), cVar 19]]))) (sRet (cK (.bool false))) (sPass)))))))))))))))))))
def e_law : E := cCall f_law_draws [cVar 0, cK (.int 700)]
def b_law : S :=
    sSeq (sFor (itR1 (cK (.int 9))) (gName 2) (b_law_3) [2, 3, 4, 5, 6, 7, 8, 9, 10, 11, 12, 13, 14, 15, 16, 17, 18, 19])
    (sRet (cK (.bool true)))
theorem d_law (B : Bi mg) {f : Addr} {fd : FuncData} (Fd : Fun K "law" "law" st_law f fd) (o__law_draws : Ok K mg P w base 1 "_law_draws" ["script", "many"] 2 f_law_draws) (o__law_next : Ok K mg P w base 1 "_law_next" ["w", "many"] 2 fnNext) (o__law_run : Ok K mg P w base 1 "_law_run" ["begins", "runs", "people", "step", "gap", "hold", "least"] 7 f_law_run) (o_run_buses : Ok K mg P w base 3 "run_buses" ["begins", "runs", "people", "step", "gap"] 5 f_run_buses) (o_held : Ok K mg P w base 3 "held" ["begins", "runs", "people", "step", "gap", "hold", "least"] 7 f_held) (o_best_hold : Ok K mg P w base 4 "best_hold" ["begins", "runs", "people", "step", "gap", "least"] 6 f_best_hold) (o__law_spread : Ok K mg P w base 2 "_law_spread" ["table", "stop"] 2 f_law_spread) (o__law_alike : Ok K mg P w base 13 "_law_alike" ["seen", "due"] 2 (f_law_alike 12)) (o__law_gaps : Ok K mg P w base 1 "_law_gaps" ["table", "stop"] 2 f_law_gaps) (o_gaps_behind : Ok K mg P w base 1 "gaps_behind" ["table", "stop"] 2 f_gaps_behind) (o_bunched : Ok K mg P w base 1 "bunched" ["table", "least"] 2 f_bunched) (o_spread_gap : Ok K mg P w base 2 "spread_gap" ["table", "stop"] 2 f_spread_gap) (o_whole_wait : Ok K mg P w base 2 "whole_wait" ["table", "people"] 2 f_whole_wait) (o_steady : Ok K mg P w base 1 "steady" ["begins"] 1 f_steady) (o_late_last : Ok K mg P w base 1 "late_last" ["table"] 1 f_late_last)
    (math : ∀ ns : List Int, ns.length ≤ 63 → ∃ l w', e_law (some (tokS ns) :: List.replicate 20 none) none = some (.list (l.map .int), none) ∧ b_law ((some (tokS ns) :: List.replicate 20 none).set 1 (some tokW)) (some l) = some (.rt (.bool true), w')) :
    FnOk P w K mg base CX0 14 f fd ["script"] (spLaw K 63) :=
  law_ok (O' := []) Fd sc_law rfl rfl (by first | exact Or.inl rfl | exact Or.inr rfl) (fun cdv A outer s H E hr => EV.callO o__law_draws (hr.mono (by decide)) (EA.cons (EV.var 0) (EA.cons (EV.int) (EA.nil)))) (fun cdv A outer s H E hr => ESs.cons (O1 := []) (ES.for (Oh := []) (Ob := [12]) (O' := []) [2, 3, 4, 5, 6, 7, 8, 9, 10, 11, 12, 13, 14, 15, 16, 17, 18, 19] PassesOwn.never rfl (EI.r1 B.b_range (EV.b (EV.int))) (GG.name 2 sc_law.nd) (ESs.cons (O1 := []) (ES.set (EV.tuple B.b_tuple (EO.b (EO.lc (own := [("k", 9)]) rfl sc_law.nd (EI.r1 B.b_range (EV.b (EV.callO o__law_next (hr.mono (by decide)) (EA.cons (EV.var 1) (EA.cons (EV.int) (EA.nil)))))) (blkOk_by (N := N_law) (sc := defScope st_law) (own := [("k", 9)]) (by decide +kernel)) (fun _ _ _ _ _ => GG.name 9 sc_law.nd) (fun _ _ _ _ _ => tests0) (fun _ _ _ _ _ => EV.add (EV.b (EV.int)) (EV.b (EV.callO o__law_next (hr.mono (by decide)) (EA.cons (EV.var 1) (EA.cons (EV.int) (EA.nil))))))))) (GG.name 3 sc_law.nd))
    (ESs.cons (O1 := []) (ES.set (EV.tuple B.b_tuple (EO.b (EO.lc (own := [("k", 9)]) rfl sc_law.nd (EI.r1 B.b_range (EV.b (EV.add (EV.b (EV.len B.len (EB.var 3))) (EV.b (EV.int))))) (blkOk_by (N := N_law) (sc := defScope st_law) (own := [("k", 9)]) (by decide +kernel)) (fun _ _ _ _ _ => GG.name 9 sc_law.nd) (fun _ _ _ _ _ => tests0) (fun _ _ _ _ _ => EV.callO o__law_next (hr.mono (by decide)) (EA.cons (EV.var 1) (EA.cons (EV.int) (EA.nil))))))) (GG.name 4 sc_law.nd))
    (ESs.cons (O1 := [5]) (ES.parN (ks := [true, false, false, false]) [5, 6, 7, 8] rfl (EM.consO (EO.lst (EA.cons (EV.add (EV.b (EV.int)) (EV.b (EV.callO o__law_next (hr.mono (by decide)) (EA.cons (EV.var 1) (EA.cons (EV.int) (EA.nil)))))) (EA.nil))) (EM.consV (EV.callO o__law_next (hr.mono (by decide)) (EA.cons (EV.var 1) (EA.cons (EV.int) (EA.nil)))) (EM.consV (EV.callO o__law_next (hr.mono (by decide)) (EA.cons (EV.var 1) (EA.cons (EV.int) (EA.nil)))) (EM.consV (EV.callO o__law_next (hr.mono (by decide)) (EA.cons (EV.var 1) (EA.cons (EV.int) (EA.nil)))) (EM.nil))))) (GS.cons 5 sc_law.nd (GS.cons 6 sc_law.nd (GS.cons 7 sc_law.nd (GS.cons 8 sc_law.nd (GS.nil))))))
    (ESs.cons (O1 := [5]) (ES.for (Oh := [5]) (Ob := [5]) (O' := [5]) [9] PassesOwn.never rfl (EI.r1 B.b_range (EV.b (EV.callO o__law_next (hr.mono (by decide)) (EA.cons (EV.var 1) (EA.cons (EV.int) (EA.nil)))))) (GG.name 9 sc_law.nd) (ESs.one (ES.app 5 (EV.add (EV.b (EV.add (EV.b (EV.ix (EB.var 5) (EV.b (EV.neg (EV.b (EV.int)))))) (EV.b (EV.int)))) (EV.b (EV.callO o__law_next (hr.mono (by decide)) (EA.cons (EV.var 1) (EA.cons (EV.int) (EA.nil)))))))))
    (ESs.cons (O1 := []) (ES.frz [5] (ES.set (EV.if (ET.cmp (ok_gt hr) (EV.b (EV.callO o__law_next (hr.mono (by decide)) (EA.cons (EV.var 1) (EA.cons (EV.int) (EA.nil))))) (EV.b (EV.int))) (EV.tuple B.b_tuple (EB.var 5)) (EV.tup (EA.nil))) (GG.name 5 sc_law.nd)))
    (ESs.cons (O1 := []) (ES.set (EV.callO o__law_next (hr.mono (by decide)) (EA.cons (EV.var 1) (EA.cons (EV.len B.len (EB.var 4)) (EA.nil)))) (GG.name 10 sc_law.nd))
    (ESs.cons (O1 := []) (ES.set (EV.callO o__law_run (hr.mono (by decide)) (EA.cons (EV.var 5) (EA.cons (EV.var 3) (EA.cons (EV.var 4) (EA.cons (EV.var 6) (EA.cons (EV.var 7) (EA.cons (EV.non) (EA.cons (EV.int) (EA.nil))))))))) (GG.name 11 sc_law.nd))
    (ESs.cons (O1 := [12]) (ES.setO 12 sc_law.nd (EO.lc (own := [("stop", 17)]) rfl sc_law.nd (EI.r1 B.b_range (EV.b (EV.len B.len (EB.var 4)))) (blkOk_by (N := N_law) (sc := defScope st_law) (own := [("stop", 17)]) (by decide +kernel)) (fun _ _ _ _ _ => GG.name 17 sc_law.nd) (fun _ _ _ _ _ => tests0) (fun _ _ _ _ _ => EV.callO o__law_run (hr.mono (by decide)) (EA.cons (EV.var 5) (EA.cons (EV.var 3) (EA.cons (EV.var 4) (EA.cons (EV.var 6) (EA.cons (EV.var 7) (EA.cons (EV.var 17) (EA.cons (EV.var 8) (EA.nil)))))))))))
    (ESs.cons (O1 := [12]) (ES.set (EV.tup (EA.cons (EV.callO o_run_buses (hr.mono (by decide)) (EA.cons (EV.var 5) (EA.cons (EV.var 3) (EA.cons (EV.var 4) (EA.cons (EV.var 6) (EA.cons (EV.var 7) (EA.nil))))))) (EA.cons (EV.callO o_held (hr.mono (by decide)) (EA.cons (EV.var 5) (EA.cons (EV.var 3) (EA.cons (EV.var 4) (EA.cons (EV.var 6) (EA.cons (EV.var 7) (EA.cons (EV.var 10) (EA.cons (EV.var 8) (EA.nil))))))))) (EA.cons (EV.callO o_best_hold (hr.mono (by decide)) (EA.cons (EV.var 5) (EA.cons (EV.var 3) (EA.cons (EV.var 4) (EA.cons (EV.var 6) (EA.cons (EV.var 7) (EA.cons (EV.var 8) (EA.nil)))))))) (EA.nil))))) (GG.name 13 sc_law.nd))
    (ESs.cons (O1 := [12]) (ES.set (EV.min1 B.b_min hr (EO.b (EO.lc (own := [("stop", 17)]) rfl sc_law.nd (EI.r1 B.b_range (EV.b (EV.len B.len (EB.var 4)))) (blkOk_by (N := N_law) (sc := defScope st_law) (own := [("stop", 17)]) (by decide +kernel)) (fun _ _ _ _ _ => GG.name 17 sc_law.nd) (fun _ _ _ _ _ => tests0) (fun _ _ _ _ _ => EV.tup (EA.cons (EV.callO o__law_spread (hr.mono (by decide)) (EA.cons (EV.ix (EB.var 12) (EB.var 17)) (EA.cons (EV.len B.len (EB.var 3)) (EA.nil)))) (EA.cons (EV.var 17) (EA.nil))))))) (GG.name 14 sc_law.nd))
    (ESs.cons (O1 := [12]) (ES.if (ET.not (ET.val (EV.b (EV.callO o__law_alike (hr.mono (by decide)) (EA.cons (EV.var 13) (EA.cons (EV.tup (EA.cons (EV.var 11) (EA.cons (EV.ix (EB.var 12) (EB.var 10)) (EA.cons (EV.var 14) (EA.nil))))) (EA.nil))))))) (ESs.one (ES.ret (EV.bl))) (ESs.nil))
    (ESs.cons (O1 := [12]) (ES.par2 (ks := [false, false]) 15 16 rfl sc_law.nd (EM.consV (EO.v (EO.lst (EA.nil))) (EM.consV (EV.int) (EM.nil))))
    (ESs.cons (O1 := [12]) (ES.for (Oh := [12]) (Ob := [12]) (O' := [12]) [9] PassesOwn.never rfl (EI.r2 B.b_range (EV.b (EV.int)) (EV.b (EV.len B.len (EB.var 11)))) (GG.name 9 sc_law.nd) (ESs.one (ES.set (EV.add (EB.var 15) (EO.b (EO.lc (own := [("stop", 17)]) rfl sc_law.nd (EI.r1 B.b_range (EV.b (EV.len B.len (EB.var 4)))) (blkOk_by (N := N_law) (sc := defScope st_law) (own := [("stop", 17)]) (by decide +kernel)) (fun _ _ _ _ _ => GG.name 17 sc_law.nd) (fun _ _ _ _ _ => tests1 (ET.cmp (ok_lt hr) (EV.b (EV.sub (EV.b (EV.ix (EV.b (EV.ix (EB.var 11) (EB.var 9))) (EB.var 17))) (EV.b (EV.ix (EV.b (EV.ix (EB.var 11) (EV.b (EV.sub (EB.var 9) (EV.b (EV.int)))))) (EB.var 17))))) (EB.var 8))) (fun _ _ _ _ _ => EV.tup (EA.cons (EV.var 9) (EA.cons (EV.var 17) (EA.nil))))))) (GG.name 15 sc_law.nd))))
    (ESs.cons (O1 := [12]) (ES.for (Oh := [12]) (Ob := [12]) (O' := [12]) [17] PassesOwn.never rfl (EI.r1 B.b_range (EV.b (EV.len B.len (EB.var 4)))) (GG.name 17 sc_law.nd) (ESs.one (ES.augAdd 16 sc_law.nd (EV.b (EV.mul (EV.b (EV.ix (EB.var 4) (EB.var 17))) (EV.b (EV.sum B.b_sum rfl (EO.b (EO.lc (own := [("own", 20)]) rfl sc_law.nd (EI.seq (EV.callO o__law_gaps (hr.mono (by decide)) (EA.cons (EV.var 11) (EA.cons (EV.var 17) (EA.nil))))) (blkOk_by (N := N_law) (sc := defScope st_law) (own := [("own", 20)]) (by decide +kernel)) (fun _ _ _ _ _ => GG.name 20 sc_law.nd) (fun _ _ _ _ _ => tests0) (fun _ _ _ _ _ => EV.mul (EB.var 20) (EB.var 20)))))))))))
    (ESs.cons (O1 := [12]) (ES.set (EV.tup (EA.cons (EV.callO o_gaps_behind (hr.mono (by decide)) (EA.cons (EV.var 11) (EA.cons (EV.var 10) (EA.nil)))) (EA.cons (EV.callO o_bunched (hr.mono (by decide)) (EA.cons (EV.var 11) (EA.cons (EV.var 8) (EA.nil)))) (EA.cons (EV.callO o_spread_gap (hr.mono (by decide)) (EA.cons (EV.var 11) (EA.cons (EV.var 10) (EA.nil)))) (EA.cons (EV.callO o_whole_wait (hr.mono (by decide)) (EA.cons (EV.var 11) (EA.cons (EV.var 4) (EA.nil)))) (EA.nil)))))) (GG.name 13 sc_law.nd))
    (ESs.cons (O1 := [12]) (ES.if (ET.not (ET.val (EV.b (EV.callO o__law_alike (hr.mono (by decide)) (EA.cons (EV.var 13) (EA.cons (EV.tup (EA.cons (EV.callO o__law_gaps (hr.mono (by decide)) (EA.cons (EV.var 11) (EA.cons (EV.var 10) (EA.nil)))) (EA.cons (EV.tuple B.b_tuple (EB.var 15)) (EA.cons (EV.callO o__law_spread (hr.mono (by decide)) (EA.cons (EV.var 11) (EA.cons (EV.var 10) (EA.nil)))) (EA.cons (EV.var 16) (EA.nil)))))) (EA.nil))))))) (ESs.one (ES.ret (EV.bl))) (ESs.nil))
    (ESs.cons (O1 := [12, 18]) (ES.setO 18 sc_law.nd (EO.lc (own := [("k", 9)]) rfl sc_law.nd (EI.r2 B.b_range (EV.b (EV.int)) (EV.b (EV.len B.len (EB.var 5)))) (blkOk_by (N := N_law) (sc := defScope st_law) (own := [("k", 9)]) (by decide +kernel)) (fun _ _ _ _ _ => GG.name 9 sc_law.nd) (fun _ _ _ _ _ => tests0) (fun _ _ _ _ _ => EV.sub (EV.b (EV.ix (EB.var 5) (EB.var 9))) (EV.b (EV.ix (EB.var 5) (EV.b (EV.sub (EB.var 9) (EV.b (EV.int)))))))))
    (ESs.cons (O1 := [12, 18]) (ES.set (EV.if (ET.cmp (ok_ne hr) (EB.var 11) (EV.b (EV.tup (EA.nil)))) (EV.sub (EV.b (EV.sub (EV.b (EV.ix (EV.b (EV.ix (EB.var 11) (EV.b (EV.neg (EV.b (EV.int)))))) (EV.b (EV.neg (EV.b (EV.int)))))) (EV.b (EV.ix (EV.b (EV.ix (EB.var 11) (EV.b (EV.int)))) (EV.b (EV.neg (EV.b (EV.int)))))))) (EV.b (EV.sub (EV.b (EV.ix (EV.b (EV.ix (EB.var 11) (EV.b (EV.neg (EV.b (EV.int)))))) (EV.b (EV.int)))) (EV.b (EV.ix (EV.b (EV.ix (EB.var 11) (EV.b (EV.int)))) (EV.b (EV.int))))))) (EV.int)) (GG.name 19 sc_law.nd))
    (ESs.one (ES.frz [18] (ES.if (ET.not (ET.val (EV.b (EV.callO o__law_alike (hr.mono (by decide)) (EA.cons (EV.tup (EA.cons (EV.callO o_steady (hr.mono (by decide)) (EA.cons (EV.var 5) (EA.nil))) (EA.cons (EV.callO o_late_last (hr.mono (by decide)) (EA.cons (EV.var 11) (EA.nil))) (EA.nil)))) (EA.cons (EV.tup (EA.cons (EV.cmp (ok_eq hr) (EO.b (EO.lc (own := [("own", 20)]) rfl sc_law.nd (EI.seq (EV.var 18)) (blkOk_by (N := N_law) (sc := defScope st_law) (own := [("own", 20)]) (by decide +kernel)) (fun _ _ _ _ _ => GG.name 20 sc_law.nd) (fun _ _ _ _ _ => tests1 (ET.cmp (ok_ne hr) (EB.var 20) (EV.b (EV.ix (EB.var 18) (EV.b (EV.int)))))) (fun _ _ _ _ _ => EV.var 20))) (EO.b (EO.lst (EA.nil)))) (EA.cons (EV.var 19) (EA.nil)))) (EA.nil))))))) (ESs.one (ES.ret (EV.bl))) (ESs.nil)))))))))))))))))))))))
    (ESs.one (ES.ret (EV.bl)))) rfl math
theorem all_mk {l : PySem.W.OpenLaw} {w : World} {K : PySem.W.Frag} {h : Heap} {mg : Str → Option Value} {fa : Addr} {g0 g1 g2 g3 g4 g5 g6 g7 g8 g9 g10 g11 g12 g13 g14 g15 g16 g17 : Addr} (X : K.In h) (G : h.Ns mainGlobals mg) (hfa : mg "law" = some (.ref fa))
    {od0 an0 : Option Addr} {sl0 : Array (Option Value)} {oc0 kV0 dc0 pm0 cd0 ct0 : Value}
    {od1 an1 : Option Addr} {sl1 : Array (Option Value)} {oc1 kV1 dc1 pm1 cd1 ct1 : Value}
    {od2 an2 : Option Addr} {sl2 : Array (Option Value)} {oc2 kV2 dc2 pm2 cd2 ct2 : Value}
    {od3 an3 : Option Addr} {sl3 : Array (Option Value)} {oc3 kV3 dc3 pm3 cd3 ct3 : Value}
    {od4 an4 : Option Addr} {sl4 : Array (Option Value)} {oc4 kV4 dc4 pm4 cd4 ct4 : Value}
    {od5 an5 : Option Addr} {sl5 : Array (Option Value)} {oc5 kV5 dc5 pm5 cd5 ct5 : Value}
    {od6 an6 : Option Addr} {sl6 : Array (Option Value)} {oc6 kV6 dc6 pm6 cd6 ct6 : Value}
    {od7 an7 : Option Addr} {sl7 : Array (Option Value)} {oc7 kV7 dc7 pm7 cd7 ct7 : Value}
    {od8 an8 : Option Addr} {sl8 : Array (Option Value)} {oc8 kV8 dc8 pm8 cd8 ct8 : Value}
    {od9 an9 : Option Addr} {sl9 : Array (Option Value)} {oc9 kV9 dc9 pm9 cd9 ct9 : Value}
    {od10 an10 : Option Addr} {sl10 : Array (Option Value)} {oc10 kV10 dc10 pm10 cd10 ct10 : Value}
    {od11 an11 : Option Addr} {sl11 : Array (Option Value)} {oc11 kV11 dc11 pm11 cd11 ct11 : Value}
    {od12 an12 : Option Addr} {sl12 : Array (Option Value)} {oc12 kV12 dc12 pm12 cd12 ct12 : Value}
    {od13 an13 : Option Addr} {sl13 : Array (Option Value)} {oc13 kV13 dc13 pm13 cd13 ct13 : Value}
    {od14 an14 : Option Addr} {sl14 : Array (Option Value)} {oc14 kV14 dc14 pm14 cd14 ct14 : Value}
    {od15 an15 : Option Addr} {sl15 : Array (Option Value)} {oc15 kV15 dc15 pm15 cd15 ct15 : Value}
    {od16 an16 : Option Addr} {sl16 : Array (Option Value)} {oc16 kV16 dc16 pm16 cd16 ct16 : Value}
    {od17 an17 : Option Addr} {sl17 : Array (Option Value)} {oc17 kV17 dc17 pm17 cd17 ct17 : Value}
    (a0 : PySem.W.nsIn K mainGlobals "_law_draws" = some (some (.ref g0))) (l0 : K.lookup g0 = some ⟨oc0, od0, .func (PySem.W.fnOf "_law_draws" "_law_draws" (defArgs st__law_draws) (defBody st__law_draws) (defScope st__law_draws) .none kV0 dc0 pm0 an0 cd0 ct0), sl0⟩) (c0 : PySem.W.codeIn K cd0 "_law_draws" = true) (k0 : PySem.W.keepIn K (.ref g0) = true)
    (a1 : PySem.W.nsIn K mainGlobals "_law_next" = some (some (.ref g1))) (l1 : K.lookup g1 = some ⟨oc1, od1, .func (PySem.W.fnOf "_law_next" "_law_next" (defArgs st__law_next) (defBody st__law_next) (defScope st__law_next) .none kV1 dc1 pm1 an1 cd1 ct1), sl1⟩) (c1 : PySem.W.codeIn K cd1 "_law_next" = true) (k1 : PySem.W.keepIn K (.ref g1) = true)
    (a2 : PySem.W.nsIn K mainGlobals "_law_run" = some (some (.ref g2))) (l2 : K.lookup g2 = some ⟨oc2, od2, .func (PySem.W.fnOf "_law_run" "_law_run" (defArgs st__law_run) (defBody st__law_run) (defScope st__law_run) .none kV2 dc2 pm2 an2 cd2 ct2), sl2⟩) (c2 : PySem.W.codeIn K cd2 "_law_run" = true) (k2 : PySem.W.keepIn K (.ref g2) = true)
    (a3 : PySem.W.nsIn K mainGlobals "stand" = some (some (.ref g3))) (l3 : K.lookup g3 = some ⟨oc3, od3, .func (PySem.W.fnOf "stand" "stand" (defArgs st_stand) (defBody st_stand) (defScope st_stand) .none kV3 dc3 pm3 an3 cd3 ct3), sl3⟩) (c3 : PySem.W.codeIn K cd3 "stand" = true) (k3 : PySem.W.keepIn K (.ref g3) = true)
    (a4 : PySem.W.nsIn K mainGlobals "table_with" = some (some (.ref g4))) (l4 : K.lookup g4 = some ⟨oc4, od4, .func (PySem.W.fnOf "table_with" "table_with" (defArgs st_table_with) (defBody st_table_with) (defScope st_table_with) .none kV4 dc4 pm4 an4 cd4 ct4), sl4⟩) (c4 : PySem.W.codeIn K cd4 "table_with" = true) (k4 : PySem.W.keepIn K (.ref g4) = true)
    (a5 : PySem.W.nsIn K mainGlobals "run_buses" = some (some (.ref g5))) (l5 : K.lookup g5 = some ⟨oc5, od5, .func (PySem.W.fnOf "run_buses" "run_buses" (defArgs st_run_buses) (defBody st_run_buses) (defScope st_run_buses) .none kV5 dc5 pm5 an5 cd5 ct5), sl5⟩) (c5 : PySem.W.codeIn K cd5 "run_buses" = true) (k5 : PySem.W.keepIn K (.ref g5) = true)
    (a6 : PySem.W.nsIn K mainGlobals "held" = some (some (.ref g6))) (l6 : K.lookup g6 = some ⟨oc6, od6, .func (PySem.W.fnOf "held" "held" (defArgs st_held) (defBody st_held) (defScope st_held) .none kV6 dc6 pm6 an6 cd6 ct6), sl6⟩) (c6 : PySem.W.codeIn K cd6 "held" = true) (k6 : PySem.W.keepIn K (.ref g6) = true)
    (a7 : PySem.W.nsIn K mainGlobals "gaps_behind" = some (some (.ref g7))) (l7 : K.lookup g7 = some ⟨oc7, od7, .func (PySem.W.fnOf "gaps_behind" "gaps_behind" (defArgs st_gaps_behind) (defBody st_gaps_behind) (defScope st_gaps_behind) .none kV7 dc7 pm7 an7 cd7 ct7), sl7⟩) (c7 : PySem.W.codeIn K cd7 "gaps_behind" = true) (k7 : PySem.W.keepIn K (.ref g7) = true)
    (a8 : PySem.W.nsIn K mainGlobals "spread_gap" = some (some (.ref g8))) (l8 : K.lookup g8 = some ⟨oc8, od8, .func (PySem.W.fnOf "spread_gap" "spread_gap" (defArgs st_spread_gap) (defBody st_spread_gap) (defScope st_spread_gap) .none kV8 dc8 pm8 an8 cd8 ct8), sl8⟩) (c8 : PySem.W.codeIn K cd8 "spread_gap" = true) (k8 : PySem.W.keepIn K (.ref g8) = true)
    (a9 : PySem.W.nsIn K mainGlobals "best_hold" = some (some (.ref g9))) (l9 : K.lookup g9 = some ⟨oc9, od9, .func (PySem.W.fnOf "best_hold" "best_hold" (defArgs st_best_hold) (defBody st_best_hold) (defScope st_best_hold) .none kV9 dc9 pm9 an9 cd9 ct9), sl9⟩) (c9 : PySem.W.codeIn K cd9 "best_hold" = true) (k9 : PySem.W.keepIn K (.ref g9) = true)
    (a10 : PySem.W.nsIn K mainGlobals "_law_alike" = some (some (.ref g10))) (l10 : K.lookup g10 = some ⟨oc10, od10, .func (PySem.W.fnOf "_law_alike" "_law_alike" (defArgs st__law_alike) (defBody st__law_alike) (defScope st__law_alike) .none kV10 dc10 pm10 an10 cd10 ct10), sl10⟩) (c10 : PySem.W.codeIn K cd10 "_law_alike" = true) (k10 : PySem.W.keepIn K (.ref g10) = true)
    (a11 : PySem.W.nsIn K mainGlobals "bunched" = some (some (.ref g11))) (l11 : K.lookup g11 = some ⟨oc11, od11, .func (PySem.W.fnOf "bunched" "bunched" (defArgs st_bunched) (defBody st_bunched) (defScope st_bunched) .none kV11 dc11 pm11 an11 cd11 ct11), sl11⟩) (c11 : PySem.W.codeIn K cd11 "bunched" = true) (k11 : PySem.W.keepIn K (.ref g11) = true)
    (a12 : PySem.W.nsIn K mainGlobals "whole_wait" = some (some (.ref g12))) (l12 : K.lookup g12 = some ⟨oc12, od12, .func (PySem.W.fnOf "whole_wait" "whole_wait" (defArgs st_whole_wait) (defBody st_whole_wait) (defScope st_whole_wait) .none kV12 dc12 pm12 an12 cd12 ct12), sl12⟩) (c12 : PySem.W.codeIn K cd12 "whole_wait" = true) (k12 : PySem.W.keepIn K (.ref g12) = true)
    (a13 : PySem.W.nsIn K mainGlobals "_law_gaps" = some (some (.ref g13))) (l13 : K.lookup g13 = some ⟨oc13, od13, .func (PySem.W.fnOf "_law_gaps" "_law_gaps" (defArgs st__law_gaps) (defBody st__law_gaps) (defScope st__law_gaps) .none kV13 dc13 pm13 an13 cd13 ct13), sl13⟩) (c13 : PySem.W.codeIn K cd13 "_law_gaps" = true) (k13 : PySem.W.keepIn K (.ref g13) = true)
    (a14 : PySem.W.nsIn K mainGlobals "_law_spread" = some (some (.ref g14))) (l14 : K.lookup g14 = some ⟨oc14, od14, .func (PySem.W.fnOf "_law_spread" "_law_spread" (defArgs st__law_spread) (defBody st__law_spread) (defScope st__law_spread) .none kV14 dc14 pm14 an14 cd14 ct14), sl14⟩) (c14 : PySem.W.codeIn K cd14 "_law_spread" = true) (k14 : PySem.W.keepIn K (.ref g14) = true)
    (a15 : PySem.W.nsIn K mainGlobals "steady" = some (some (.ref g15))) (l15 : K.lookup g15 = some ⟨oc15, od15, .func (PySem.W.fnOf "steady" "steady" (defArgs st_steady) (defBody st_steady) (defScope st_steady) .none kV15 dc15 pm15 an15 cd15 ct15), sl15⟩) (c15 : PySem.W.codeIn K cd15 "steady" = true) (k15 : PySem.W.keepIn K (.ref g15) = true)
    (a16 : PySem.W.nsIn K mainGlobals "late_last" = some (some (.ref g16))) (l16 : K.lookup g16 = some ⟨oc16, od16, .func (PySem.W.fnOf "late_last" "late_last" (defArgs st_late_last) (defBody st_late_last) (defScope st_late_last) .none kV16 dc16 pm16 an16 cd16 ct16), sl16⟩) (c16 : PySem.W.codeIn K cd16 "late_last" = true) (k16 : PySem.W.keepIn K (.ref g16) = true)
    (a17 : PySem.W.nsIn K mainGlobals "law" = some (some (.ref g17))) (l17 : K.lookup g17 = some ⟨oc17, od17, .func (PySem.W.fnOf "law" "law" (defArgs st_law) (defBody st_law) (defScope st_law) .none kV17 dc17 pm17 an17 cd17 ct17), sl17⟩) (c17 : PySem.W.codeIn K cd17 "law" = true) (k17 : PySem.W.keepIn K (.ref g17) = true)
    (z_abs : PySem.W.nsIn K mainGlobals "abs" = some none)
    (z_bool : PySem.W.nsIn K mainGlobals "bool" = some none)
    (z_dict : PySem.W.nsIn K mainGlobals "dict" = some none)
    (z_int : PySem.W.nsIn K mainGlobals "int" = some none)
    (z_isinstance : PySem.W.nsIn K mainGlobals "isinstance" = some none)
    (z_len : PySem.W.nsIn K mainGlobals "len" = some none)
    (z_list : PySem.W.nsIn K mainGlobals "list" = some none)
    (z_max : PySem.W.nsIn K mainGlobals "max" = some none)
    (z_min : PySem.W.nsIn K mainGlobals "min" = some none)
    (z_range : PySem.W.nsIn K mainGlobals "range" = some none)
    (z_set : PySem.W.nsIn K mainGlobals "set" = some none)
    (z_str : PySem.W.nsIn K mainGlobals "str" = some none)
    (z_sum : PySem.W.nsIn K mainGlobals "sum" = some none)
    (z_tuple : PySem.W.nsIn K mainGlobals "tuple" = some none)
    (z_zip : PySem.W.nsIn K mainGlobals "zip" = some none)
    (math : ∀ ns : List Int, ns.length ≤ 63 → ∃ l w', e_law (some (tokS ns) :: List.replicate 20 none) none = some (.list (l.map .int), none) ∧ b_law ((some (tokS ns) :: List.replicate 20 none).set 1 (some tokW)) (some l) = some (.rt (.bool true), w')) :
    ∃ fd : FuncData, (∀ (s : Shared) (v : Value), BindsTo s fd ⟨[v], []⟩ [("script", v)]) ∧ ∀ base : Heap, K.In base → base.Ns mainGlobals mg → FnOk l.prog w K mg base CX0 14 fa fd ["script"] (spLaw K 63) := by
  have e := hfa.symm.trans (PySem.W.mg_of X G a17)
  cases e
  have B : Bi mg := ⟨PySem.W.mg_none_of X G z_abs, PySem.W.mg_none_of X G z_bool, PySem.W.mg_none_of X G z_dict, PySem.W.mg_none_of X G z_int, PySem.W.mg_none_of X G z_isinstance, PySem.W.mg_none_of X G z_len, PySem.W.mg_none_of X G z_list, PySem.W.mg_none_of X G z_max, PySem.W.mg_none_of X G z_min, PySem.W.mg_none_of X G z_range, PySem.W.mg_none_of X G z_set, PySem.W.mg_none_of X G z_str, PySem.W.mg_none_of X G z_sum, PySem.W.mg_none_of X G z_tuple, PySem.W.mg_none_of X G z_zip⟩
  have D0 : Df K mg "_law_draws" st__law_draws ["script", "many"] := df_mk X G a0 l0 c0 k0 fun _ _ _ _ _ _ us hl => match us, hl with | [_, _], _ => rfl
  have D1 : Df K mg "_law_next" st__law_next ["w", "many"] := df_mk X G a1 l1 c1 k1 fun _ _ _ _ _ _ us hl => match us, hl with | [_, _], _ => rfl
  have D2 : Df K mg "_law_run" st__law_run ["begins", "runs", "people", "step", "gap", "hold", "least"] := df_mk X G a2 l2 c2 k2 fun _ _ _ _ _ _ us hl => match us, hl with | [_, _, _, _, _, _, _], _ => rfl
  have D3 : Df K mg "stand" st_stand ["people", "step", "gap"] := df_mk X G a3 l3 c3 k3 fun _ _ _ _ _ _ us hl => match us, hl with | [_, _, _], _ => rfl
  have D4 : Df K mg "table_with" st_table_with ["begins", "runs", "people", "step", "gap", "hold", "least"] := df_mk X G a4 l4 c4 k4 fun _ _ _ _ _ _ us hl => match us, hl with | [_, _, _, _, _, _, _], _ => rfl
  have D5 : Df K mg "run_buses" st_run_buses ["begins", "runs", "people", "step", "gap"] := df_mk X G a5 l5 c5 k5 fun _ _ _ _ _ _ us hl => match us, hl with | [_, _, _, _, _], _ => rfl
  have D6 : Df K mg "held" st_held ["begins", "runs", "people", "step", "gap", "hold", "least"] := df_mk X G a6 l6 c6 k6 fun _ _ _ _ _ _ us hl => match us, hl with | [_, _, _, _, _, _, _], _ => rfl
  have D7 : Df K mg "gaps_behind" st_gaps_behind ["table", "stop"] := df_mk X G a7 l7 c7 k7 fun _ _ _ _ _ _ us hl => match us, hl with | [_, _], _ => rfl
  have D8 : Df K mg "spread_gap" st_spread_gap ["table", "stop"] := df_mk X G a8 l8 c8 k8 fun _ _ _ _ _ _ us hl => match us, hl with | [_, _], _ => rfl
  have D9 : Df K mg "best_hold" st_best_hold ["begins", "runs", "people", "step", "gap", "least"] := df_mk X G a9 l9 c9 k9 fun _ _ _ _ _ _ us hl => match us, hl with | [_, _, _, _, _, _], _ => rfl
  have D10 : Df K mg "_law_alike" st__law_alike ["seen", "due"] := df_mk X G a10 l10 c10 k10 fun _ _ _ _ _ _ us hl => match us, hl with | [_, _], _ => rfl
  have D11 : Df K mg "bunched" st_bunched ["table", "least"] := df_mk X G a11 l11 c11 k11 fun _ _ _ _ _ _ us hl => match us, hl with | [_, _], _ => rfl
  have D12 : Df K mg "whole_wait" st_whole_wait ["table", "people"] := df_mk X G a12 l12 c12 k12 fun _ _ _ _ _ _ us hl => match us, hl with | [_, _], _ => rfl
  have D13 : Df K mg "_law_gaps" st__law_gaps ["table", "stop"] := df_mk X G a13 l13 c13 k13 fun _ _ _ _ _ _ us hl => match us, hl with | [_, _], _ => rfl
  have D14 : Df K mg "_law_spread" st__law_spread ["table", "stop"] := df_mk X G a14 l14 c14 k14 fun _ _ _ _ _ _ us hl => match us, hl with | [_, _], _ => rfl
  have D15 : Df K mg "steady" st_steady ["begins"] := df_mk X G a15 l15 c15 k15 fun _ _ _ _ _ _ us hl => match us, hl with | [_], _ => rfl
  have D16 : Df K mg "late_last" st_late_last ["table"] := df_mk X G a16 l16 c16 k16 fun _ _ _ _ _ _ us hl => match us, hl with | [_], _ => rfl
  refine ⟨PySem.W.fnOf "law" "law" (defArgs st_law) (defBody st_law) (defScope st_law) .none kV17 dc17 pm17 an17 cd17 ct17, fun s v => .of_eq rfl, fun base _ _ => ?_⟩
  have o__law_draws := d__law_draws (P := l.prog) (w := w) (base := base) B D0 
  have o__law_next := d__law_next (P := l.prog) (w := w) (base := base) B D1 
  have o__law_run := d__law_run (P := l.prog) (w := w) (base := base) B D2 
  have o_stand := d_stand (P := l.prog) (w := w) (base := base) B D3 
  have o_table_with := d_table_with (P := l.prog) (w := w) (base := base) B D4 o_stand
  have o_run_buses := d_run_buses (P := l.prog) (w := w) (base := base) B D5 o_table_with
  have o_held := d_held (P := l.prog) (w := w) (base := base) B D6 o_table_with
  have o_gaps_behind := d_gaps_behind (P := l.prog) (w := w) (base := base) B D7 
  have o_spread_gap := d_spread_gap (P := l.prog) (w := w) (base := base) B D8 o_gaps_behind
  have o_best_hold := d_best_hold (P := l.prog) (w := w) (base := base) B D9 o_spread_gap o_held
  have o__law_alike := d__law_alike (P := l.prog) (w := w) (base := base) B D10  12
  have o_bunched := d_bunched (P := l.prog) (w := w) (base := base) B D11 
  have o_whole_wait := d_whole_wait (P := l.prog) (w := w) (base := base) B D12 o_gaps_behind
  have o__law_gaps := d__law_gaps (P := l.prog) (w := w) (base := base) B D13 
  have o__law_spread := d__law_spread (P := l.prog) (w := w) (base := base) B D14 o__law_gaps
  have o_steady := d_steady (P := l.prog) (w := w) (base := base) B D15 
  have o_late_last := d_late_last (P := l.prog) (w := w) (base := base) B D16 
  exact d_law (P := l.prog) (w := w) (base := base) B (fun_mk (st := st_law) l17 c17 k17) o__law_draws o__law_next o__law_run o_run_buses o_held o_best_hold o__law_spread o__law_alike o__law_gaps o_gaps_behind o_bunched o_spread_gap o_whole_wait o_steady o_late_last math
end
end W

set_option Elab.async false
set_option linter.all false
set_option autoImplicit false
set_option maxRecDepth 100000
namespace W
open PySem PySem.W Q
def getI (l : List Int) (i : Nat) : Int := l.getD i 0
theorem at_getI {l : List Int} {i : Nat} (h : i < l.length) : L2.atI (l.map PyData.int) (i : Int) = some (.int (getI l i)) := by
  rw [atI_lt _ (by simpa using h)]
  simp [getI, List.getD_eq_getElem?_getD, List.getElem?_eq_getElem h]
def hD : Option Nat → D
  | none => .none
  | some h => .int h
theorem eq_hD (h : Option Nat) (s : Nat) : eqD (hD h) (.int (s : Int)) = some (decide (h = some s)) := by
  cases h with
  | none => rfl
  | some h =>
    show eqD (.int (h : Int)) (.int (s : Int)) = _
    rw [eqD_i]
    congr 1
    exact decide_eq_decide.mpr (by rw [Option.some.injEq]; omega)
theorem eq_hD' (h : Option Nat) (s : Nat) : eqD (.int (s : Int)) (hD h) = some (decide (h = some s)) := by
  cases h with
  | none => rfl
  | some h =>
    show eqD (.int (s : Int)) (.int (h : Int)) = _
    rw [eqD_i]
    congr 1
    exact decide_eq_decide.mpr (by rw [Option.some.injEq]; omega)
/-- one stop -/
def nowF (a : Option Int) (r p step gap least : Int) (h : Bool) (now : Int) : Int :=
  match a with
  | none => now + r + (p * gap * step).fdiv 100
  | some x =>
    let n2 := if now + r < x then x else now + r
    let n3 := n2 + (p * (n2 - x) * step).fdiv 100
    if h = true then (if n3 < x + least then x + least else n3) else n3
structure Cfg where
  runs : List Int
  people : List Int
  step : Int
  gap : Int
  least : Int
  hold : Option Nat
structure Cfg.Ok (c : Cfg) : Prop where
  len : c.people.length = c.runs.length + 1
  few : c.runs.length ≤ 1000
  st : small64 c.step = true
  pp : ∀ s, s < c.people.length → small64 (getI c.people s) = true
def Cfg.run (c : Cfg) (s : Nat) : Int := if 0 < s then getI c.runs (s - 1) else 0
def Cfg.one (c : Cfg) (a : Option (List Int)) (s : Nat) (now : Int) : Int := nowF (a.map (getI · s)) (c.run s) (getI c.people s) c.step c.gap c.least (decide (c.hold = some s)) now
def Cfg.row (c : Cfg) (a : Option (List Int)) (b : Int) : Nat → Int × List Int
  | 0 => (b, [])
  | s + 1 => (c.one a s (c.row a b s).1, (c.row a b s).2 ++ [c.one a s (c.row a b s).1])
theorem Cfg.row_len (c : Cfg) (a : Option (List Int)) (b : Int) : ∀ s, (c.row a b s).2.length = s
  | 0 => rfl
  | s + 1 => by simp [Cfg.row, c.row_len a b s]
def Cfg.tab (c : Cfg) (bs : List Int) : Nat → List (List Int)
  | 0 => []
  | k + 1 => c.tab bs k ++ [(c.row (c.tab bs k).getLast? (getI bs k) c.people.length).2]
theorem Cfg.tab_len (c : Cfg) (bs : List Int) : ∀ k, (c.tab bs k).length = k
  | 0 => rfl
  | k + 1 => by simp [Cfg.tab, c.tab_len bs k]
theorem Cfg.tab_row (c : Cfg) (bs : List Int) : ∀ k r, r ∈ c.tab bs k → r.length = c.people.length
  | 0, r, h => by simp [Cfg.tab] at h
  | k + 1, r, h => by
    simp only [Cfg.tab, List.mem_append, List.mem_singleton] at h
    rcases h with h | h
    · exact c.tab_row bs k r h
    · rw [h]; exact c.row_len _ _ _
def tI (l : List Int) : D := .tuple (l.map .int)
def oT : Option (List Int) → D
  | none => .none
  | some l => tI l
/-! the program's table -/
def eTw (c : Cfg) (bs : List Int) (found : D) (k : Int) (a : Option (List Int)) (row : List Int) (now : Int) : Q.Env :=
  [some (tI bs), some (tI c.runs), some (tI c.people), some (.int c.step), some (.int c.gap), some (hD c.hold), some (.int c.least), some found, some (.int k), some (oT a), some (.list (row.map .int)), some (.int now), none, none]
theorem stand_eq (p step gap : Int) (hp : small64 p = true) (hs : small64 step = true) (w : Wd) : f_stand [.int p, .int step, .int gap] w = some (.int ((p * gap * step).fdiv 100), w) := by
  refine fn_eq rfl ?_
  unfold b_stand
  simp -implicitDefEqProofs [mulI_l hp, mulI_r hs, divD_i]
theorem tw_turn (c : Cfg) (h : c.Ok) (bs : List Int) (found : D) (k : Int) (a : Option (List Int)) (ha : ∀ l, a = some l → l.length = c.people.length) (row : List Int) (hrow : row.length ≤ 10000) (now : Int) (s : Nat) (hs : s < c.people.length) (w : Wd) :
    ∃ g, turn (gName 12) b_table_with_0 [12, 13] (.int (0 + (s : Int))) (eTw c bs found k a row now) w = some (.nx g, w) ∧ wipeE g [12, 13] = eTw c bs found k a (row ++ [c.one a s now]) (c.one a s now) := by
  have hl := h.len
  have hst := fun (p gap : Int) (hp : small64 p = true) => stand_eq p c.step gap hp h.st w
  have hp := h.pp s hs
  have hpe : L2.atI (c.people.map PyData.int) (s : Int) = some (.int (getI c.people s)) := at_getI hs
  have hz : ∀ x : D, apD (.list (row.map .int)) x = some (.list (row.map .int ++ [x])) := fun x => apD_l (by rw [size_eq]; simp; omega)
  have hh := eq_hD c.hold s
  unfold turn b_table_with_0 eTw Cfg.one
  cases a with
  | none =>
    by_cases h0 : 0 < s
    · have hru : L2.atI (c.runs.map PyData.int) ((s : Int) - 1) = some (.int (getI c.runs (s - 1))) := by
        have e : ((s : Int) - 1) = ((s - 1 : Nat) : Int) := by omega
        rw [e]; exact at_getI (by omega)
      simp -implicitDefEqProofs [s_sSeq, oT, tI, h0, hru, hpe, hst _ _ hp, hh, hz, nowF, Cfg.run]
    · simp -implicitDefEqProofs [s_sSeq, oT, tI, h0, hpe, hst _ _ hp, hh, hz, nowF, Cfg.run]
  | some l =>
    have hll := ha l rfl
    have hla : L2.atI (l.map PyData.int) (s : Int) = some (.int (getI l s)) := at_getI (by omega)
    by_cases h0 : 0 < s
    · have hru : L2.atI (c.runs.map PyData.int) ((s : Int) - 1) = some (.int (getI c.runs (s - 1))) := by
        have e : ((s : Int) - 1) = ((s - 1 : Nat) : Int) := by omega
        rw [e]; exact at_getI (by omega)
      cases h1 : decide (c.hold = some s) <;> rw [h1] at hh
      · simp -implicitDefEqProofs [s_sSeq, oT, tI, h0, hru, hpe, hst _ _ hp, hh, hz, nowF, Cfg.run, hla]
      · simp -implicitDefEqProofs [s_sSeq, oT, tI, h0, hru, hpe, hst _ _ hp, hh, hz, nowF, Cfg.run, hla]
    · cases h1 : decide (c.hold = some s) <;> rw [h1] at hh
      · simp -implicitDefEqProofs [s_sSeq, oT, tI, h0, hpe, hst _ _ hp, hh, hz, nowF, Cfg.run, hla]
      · simp -implicitDefEqProofs [s_sSeq, oT, tI, h0, hpe, hst _ _ hp, hh, hz, nowF, Cfg.run, hla]

def tT (t : List (List Int)) : D := .tuple (t.map tI)
theorem low_tI (l : List Int) : Low 1 (tI l) := Low.t fun x hx => by
  obtain ⟨i, _, rfl⟩ := List.mem_map.mp hx
  exact Low.i 0 i
theorem low_lT (t : List (List Int)) : Low 60 (.list (t.map tI)) := (Low.l (n := 1) fun x hx => by
  obtain ⟨i, _, rfl⟩ := List.mem_map.mp hx
  exact low_tI i).mono (by omega)
theorem low_tT (t : List (List Int)) : Low 60 (tT t) := (Low.t (n := 1) fun x hx => by
  obtain ⟨i, _, rfl⟩ := List.mem_map.mp hx
  exact low_tI i).mono (by omega)
theorem low_l0 : Low 60 (.list []) := (Low.l (n := 1) fun x hx => by simp at hx).mono (by omega)
theorem low_t0 : Low 60 (.tuple []) := (Low.t (n := 1) fun x hx => by simp at hx).mono (by omega)
theorem last_map {α β : Type} (f : α → β) (l : List α) (x : α) (h : l.getLast? = some x) : (l.map f).getLast? = some (f x) := by rw [List.getLast?_map, h]; rfl
def eTo (c : Cfg) (bs : List Int) (t : List (List Int)) : Q.Env :=
  [some (tI bs), some (tI c.runs), some (tI c.people), some (.int c.step), some (.int c.gap), some (hD c.hold), some (.int c.least), some (.list (t.map tI)), none, none, none, none, none, none]
theorem tw_inner (c : Cfg) (h : c.Ok) (bs : List Int) (found : D) (k : Int) (a : Option (List Int)) (ha : ∀ l, a = some l → l.length = c.people.length) (b : Int) (w : Wd) :
    loopS (gName 12) b_table_with_0 [12, 13] (rangeL 0 c.people.length) (eTw c bs found k a [] b) w = some (.nx (eTw c bs found k a (c.row a b c.people.length).2 (c.row a b c.people.length).1), w) := by
  have hf := h.few
  have hl := h.len
  have e := loop_eq (t := gName 12) (b := b_table_with_0) (vs := [12, 13]) (lo := 0) (n := c.people.length) (w := w) (fun s => eTw c bs found k a (c.row a b s).2 (c.row a b s).1) (fun s hs => by
    obtain ⟨g, h1, h2⟩ := tw_turn c h bs found k a ha (c.row a b s).2 (by rw [c.row_len]; omega) (c.row a b s).1 s hs w
    exact ⟨g, h1, h2⟩)
  exact e
theorem tw_outer (c : Cfg) (h : c.Ok) (bs : List Int) (hb : bs.length ≤ 1000) (k : Nat) (hk : k < bs.length) (w : Wd) :
    ∃ g, turn (gName 8) b_table_with_1 [8, 9, 10, 11, 12, 13] (.int (0 + (k : Int))) (eTo c bs (c.tab bs k)) w = some (.nx g, w) ∧ wipeE g [8, 9, 10, 11, 12, 13] = eTo c bs (c.tab bs (k + 1)) := by
  have hf := h.few
  have hl := h.len
  have hbk : L2.atI (bs.map PyData.int) (k : Int) = some (.int (getI bs k)) := at_getI hk
  have hr : range1 (.int ((c.runs.length : Int) + 1)) = some (rangeL 0 c.people.length) := by
    have e : ((c.runs.length : Int) + 1) = (c.people.length : Int) := by omega
    rw [e]; exact r1_nat (by rw [size_eq]; omega)
  have hn : neD (.list ((c.tab bs k).map tI)) (.list []) = some (!(c.tab bs k).isEmpty) := by rw [neD_low (low_lT _) low_l0, eqv_l0]; simp
  have hz : ∀ x : D, apD (.list ((c.tab bs k).map tI)) x = some (.list ((c.tab bs k).map tI ++ [x])) := fun x => apD_l (by rw [size_eq]; simp [c.tab_len]; omega)
  have hin := fun found a ha => tw_inner c h bs found (k : Int) a ha (getI bs k) w
  unfold turn b_table_with_1 eTo
  cases hlast : (c.tab bs k).getLast? with
  | none =>
    have he : c.tab bs k = [] := List.getLast?_eq_none_iff.mp hlast
    have hin := hin (.list ((c.tab bs k).map tI)) none (fun l e => by cases e)
    unfold eTw at hin
    simp only [oT, List.map_nil, tI] at hin
    have ht : c.tab bs (k + 1) = [(c.row none (getI bs k) c.people.length).2] := by simp [Cfg.tab, he]
    rw [ht]
    rw [he] at hn hz hin ⊢
    simp only [List.map_nil, List.isEmpty_nil, Bool.not_true, List.nil_append] at hn hz hin
    simp -implicitDefEqProofs [s_sSeq, tI, hbk, hr, hn, hin, hz]
  | some l =>
    have hin := hin (.list ((c.tab bs k).map tI)) (some l) (fun l' e => by cases e; exact c.tab_row bs k l (List.mem_of_getLast? hlast))
    have ht : c.tab bs (k + 1) = c.tab bs k ++ [(c.row (some l) (getI bs k) c.people.length).2] := by simp [Cfg.tab, hlast]
    have hne : (c.tab bs k).isEmpty = false := by
      cases hc : c.tab bs k with
      | nil => rw [hc] at hlast; cases hlast
      | cons x xs => rfl
    have hl1 : L2.atI ((c.tab bs k).map tI) (-1) = some (tI l) := atI_neg1 (last_map tI _ _ hlast)
    unfold eTw at hin
    rw [hne] at hn
    rw [ht]
    generalize c.tab bs k = t at *
    simp only [oT, List.map_nil, tI] at hin
    simp only [tI] at hn hz hl1
    simp -implicitDefEqProofs [s_sSeq, tI, hbk, hr, hn, hl1, hin, hz]
theorem tw_eq (c : Cfg) (h : c.Ok) (bs : List Int) (hb : bs.length ≤ 1000) (w : Wd) : f_table_with [tI bs, tI c.runs, tI c.people, .int c.step, .int c.gap, hD c.hold, .int c.least] w = some (tT (c.tab bs bs.length), w) := by
  have hr : range1 (.int (bs.length : Int)) = some (rangeL 0 bs.length) := r1_nat (by rw [size_eq]; omega)
  have e := loop_eq (t := gName 8) (b := b_table_with_1) (vs := [8, 9, 10, 11, 12, 13]) (lo := 0) (n := bs.length) (w := w) (fun k => eTo c bs (c.tab bs k)) (fun k hk => tw_outer c h bs hb k hk w)
  refine fn_eq rfl ?_
  unfold b_table_with
  unfold eTo at e
  simp only [tI, Cfg.tab, List.map_nil] at e
  simp -implicitDefEqProofs [s_sSeq, tI, hr, e, tT]
/-! the law's table -/
def eLr (c : Cfg) (bs : List Int) (t : List (List Int)) (k : Nat) (row : List Int) (now : Int) : Q.Env :=
  [some (tI bs), some (tI c.runs), some (tI c.people), some (.int c.step), some (.int c.gap), some (hD c.hold), some (.int c.least), some (.list (t.map tI)), some (.int k), some (.list (row.map .int)), some (.int now), none, none, none]
theorem prev_at {t : List (List Int)} {k : Nat} (hk : t.length = k) (h0 : 0 < k) : L2.atI (t.map tI) ((k : Int) - 1) = some (tI (t.getLast?.getD [])) := by
  have e : ((k : Int) - 1) = ((k - 1 : Nat) : Int) := by omega
  rw [e, List.getLast?_eq_getElem?, hk]
  refine atI_get ?_
  rw [List.getElem?_map, List.getElem?_eq_getElem (by omega)]
  rfl
theorem lr_turn (c : Cfg) (h : c.Ok) (bs : List Int) (t : List (List Int)) (k : Nat) (hk : t.length = k) (ht : ∀ l, t.getLast? = some l → l.length = c.people.length) (row : List Int) (hrow : row.length ≤ 10000) (now : Int) (s : Nat) (hs : s < c.people.length) (w : Wd) :
    ∃ g, turn (gName 11) b_law_run_0 [11, 12, 13] (.int (0 + (s : Int))) (eLr c bs t k row now) w = some (.nx g, w) ∧ wipeE g [11, 12, 13] = eLr c bs t k (row ++ [c.one t.getLast? s now]) (c.one t.getLast? s now) := by
  have hl := h.len
  have hp := h.pp s hs
  have hm : ∀ x : Int, mulI (.int (getI c.people s)) (.int x) = some (.int (getI c.people s * x)) := fun x => mulI_l hp
  have hm2 : ∀ x : Int, mulI (.int x) (.int c.step) = some (.int (x * c.step)) := fun x => mulI_r h.st
  have hpe : L2.atI (c.people.map PyData.int) (s : Int) = some (.int (getI c.people s)) := at_getI hs
  have hz : ∀ x : D, apD (.list (row.map .int)) x = some (.list (row.map .int ++ [x])) := fun x => apD_l (by rw [size_eq]; simp; omega)
  have hh := eq_hD' c.hold s
  unfold turn b_law_run_0 eLr Cfg.one
  cases hlast : t.getLast? with
  | none =>
    have he : t = [] := List.getLast?_eq_none_iff.mp hlast
    subst he
    have hk0 : k = 0 := hk.symm
    subst hk0
    by_cases h0 : 0 < s
    · have hru : L2.atI (c.runs.map PyData.int) ((s : Int) - 1) = some (.int (getI c.runs (s - 1))) := by
        have e : ((s : Int) - 1) = ((s - 1 : Nat) : Int) := by omega
        rw [e]; exact at_getI (by omega)
      simp -implicitDefEqProofs [s_sSeq, tI, h0, hru, hpe, hm, hm2, hh, hz, nowF, Cfg.run, divD_i]
    · simp -implicitDefEqProofs [s_sSeq, tI, h0, hpe, hm, hm2, hh, hz, nowF, Cfg.run, divD_i]
  | some l =>
    have hll := ht l hlast
    have hla : L2.atI (l.map PyData.int) (s : Int) = some (.int (getI l s)) := at_getI (by omega)
    have hk0 : 0 < k := by
      cases t with
      | nil => cases hlast
      | cons x xs => simp at hk; omega
    have hpv := prev_at hk hk0
    rw [hlast] at hpv
    simp only [Option.getD_some] at hpv
    simp only [tI] at hpv
    by_cases h0 : 0 < s
    · have hru : L2.atI (c.runs.map PyData.int) ((s : Int) - 1) = some (.int (getI c.runs (s - 1))) := by
        have e : ((s : Int) - 1) = ((s - 1 : Nat) : Int) := by omega
        rw [e]; exact at_getI (by omega)
      cases h1 : decide (c.hold = some s) <;> rw [h1] at hh
      · simp -implicitDefEqProofs [s_sSeq, tI, h0, hk0, hpv, hru, hpe, hm, hm2, hh, hz, nowF, Cfg.run, hla, divD_i]
      · simp -implicitDefEqProofs [s_sSeq, tI, h0, hk0, hpv, hru, hpe, hm, hm2, hh, hz, nowF, Cfg.run, hla, divD_i]
    · cases h1 : decide (c.hold = some s) <;> rw [h1] at hh
      · simp -implicitDefEqProofs [s_sSeq, tI, h0, hk0, hpv, hpe, hm, hm2, hh, hz, nowF, Cfg.run, hla, divD_i]
      · simp -implicitDefEqProofs [s_sSeq, tI, h0, hk0, hpv, hpe, hm, hm2, hh, hz, nowF, Cfg.run, hla, divD_i]
end W

set_option Elab.async false
set_option linter.all false
set_option autoImplicit false
set_option maxRecDepth 100000
namespace W
open PySem PySem.W Q
def eLo (c : Cfg) (bs : List Int) (t : List (List Int)) : Q.Env :=
  [some (tI bs), some (tI c.runs), some (tI c.people), some (.int c.step), some (.int c.gap), some (hD c.hold), some (.int c.least), some (.list (t.map tI)), none, none, none, none, none, none]
theorem lr_inner (c : Cfg) (h : c.Ok) (bs : List Int) (t : List (List Int)) (k : Nat) (hk : t.length = k) (ht : ∀ l, t.getLast? = some l → l.length = c.people.length) (b : Int) (w : Wd) :
    loopS (gName 11) b_law_run_0 [11, 12, 13] (rangeL 0 c.people.length) (eLr c bs t k [] b) w = some (.nx (eLr c bs t k (c.row t.getLast? b c.people.length).2 (c.row t.getLast? b c.people.length).1), w) := by
  have hf := h.few
  have hl := h.len
  have e := loop_eq (t := gName 11) (b := b_law_run_0) (vs := [11, 12, 13]) (lo := 0) (n := c.people.length) (w := w) (fun s => eLr c bs t k (c.row t.getLast? b s).2 (c.row t.getLast? b s).1) (fun s hs => by
    obtain ⟨g, h1, h2⟩ := lr_turn c h bs t k hk ht (c.row t.getLast? b s).2 (by rw [c.row_len]; omega) (c.row t.getLast? b s).1 s hs w
    exact ⟨g, h1, h2⟩)
  exact e
theorem lr_outer (c : Cfg) (h : c.Ok) (bs : List Int) (hb : bs.length ≤ 1000) (k : Nat) (hk : k < bs.length) (w : Wd) :
    ∃ g, turn (gName 8) b_law_run_1 [8, 9, 10, 11, 12, 13] (.int (0 + (k : Int))) (eLo c bs (c.tab bs k)) w = some (.nx g, w) ∧ wipeE g [8, 9, 10, 11, 12, 13] = eLo c bs (c.tab bs (k + 1)) := by
  have hf := h.few
  have hl := h.len
  have hbk : L2.atI (bs.map PyData.int) (k : Int) = some (.int (getI bs k)) := at_getI hk
  have hr : range1 (.int (c.people.length : Int)) = some (rangeL 0 c.people.length) := r1_nat (by rw [size_eq]; omega)
  have hz : ∀ x : D, apD (.list ((c.tab bs k).map tI)) x = some (.list ((c.tab bs k).map tI ++ [x])) := fun x => apD_l (by rw [size_eq]; simp [c.tab_len]; omega)
  have hin := lr_inner c h bs (c.tab bs k) k (c.tab_len bs k) (fun l hl => c.tab_row bs k l (List.mem_of_getLast? hl)) (getI bs k) w
  unfold turn b_law_run_1 eLo
  unfold eLr at hin
  rw [Cfg.tab]
  generalize c.tab bs k = t at *
  simp only [List.map_nil, tI] at hin
  simp -implicitDefEqProofs [s_sSeq, tI, hbk, hr, hin, hz]
theorem lr_eq (c : Cfg) (h : c.Ok) (bs : List Int) (hb : bs.length ≤ 1000) (w : Wd) : f_law_run [tI bs, tI c.runs, tI c.people, .int c.step, .int c.gap, hD c.hold, .int c.least] w = some (tT (c.tab bs bs.length), w) := by
  have hr : range1 (.int (bs.length : Int)) = some (rangeL 0 bs.length) := r1_nat (by rw [size_eq]; omega)
  have e := loop_eq (t := gName 8) (b := b_law_run_1) (vs := [8, 9, 10, 11, 12, 13]) (lo := 0) (n := bs.length) (w := w) (fun k => eLo c bs (c.tab bs k)) (fun k hk => lr_outer c h bs hb k hk w)
  refine fn_eq rfl ?_
  unfold b_law_run
  unfold eLo at e
  simp only [tI, Cfg.tab, List.map_nil] at e
  simp -implicitDefEqProofs [s_sSeq, tI, hr, e, tT]
theorem held_eq (c : Cfg) (h : c.Ok) (bs : List Int) (hb : bs.length ≤ 1000) (w : Wd) : f_held [tI bs, tI c.runs, tI c.people, .int c.step, .int c.gap, hD c.hold, .int c.least] w = some (tT (c.tab bs bs.length), w) := by
  refine fn_eq rfl ?_
  unfold b_held
  simp -implicitDefEqProofs [tw_eq c h bs hb]
theorem run_buses_eq (c : Cfg) (h : c.Ok) (h0 : c.hold = none) (hl : c.least = 0) (bs : List Int) (hb : bs.length ≤ 1000) (w : Wd) : f_run_buses [tI bs, tI c.runs, tI c.people, .int c.step, .int c.gap] w = some (tT (c.tab bs bs.length), w) := by
  have e := tw_eq c h bs hb w
  rw [h0, hl] at e
  simp only [hD] at e
  refine fn_eq rfl ?_
  unfold b_run_buses
  simp -implicitDefEqProofs [e]
end W

set_option Elab.async false
set_option linter.all false
set_option autoImplicit false
set_option maxRecDepth 100000
namespace W
open PySem PySem.W Q
def getR (t : List (List Int)) (i : Nat) : List Int := t.getD i []
theorem at_getR {t : List (List Int)} {i : Nat} (h : i < t.length) : L2.atI (t.map tI) (i : Int) = some (tI (getR t i)) := by
  rw [atI_lt _ (by simpa using h)]
  simp [getR, List.getD_eq_getElem?_getD, List.getElem?_eq_getElem h]
/-- all rows have n items -/
def Rect (n : Nat) (t : List (List Int)) : Prop := ∀ r ∈ t, r.length = n
theorem getR_mem {t : List (List Int)} {i : Nat} (h : i < t.length) : getR t i ∈ t := by
  simp [getR, List.getD_eq_getElem?_getD, List.getElem?_eq_getElem h]
def gapsZ (t : List (List Int)) (s : Nat) : List Int := (t.zip (t.drop 1)).map fun p => getI p.2 s - getI p.1 s
theorem gaps_range (t : List (List Int)) (s : Nat) : gapsZ t s = (List.range (t.length - 1)).map fun i => getI (getR t (i + 1)) s - getI (getR t i) s := by
  unfold gapsZ
  refine List.ext_getElem (by simp) fun i h1 h2 => ?_
  simp at h1 h2
  simp [getR, List.getD_eq_getElem?_getD, List.getElem?_eq_getElem (show i < t.length by omega), List.getElem?_eq_getElem (show i + 1 < t.length by omega), Nat.add_comm 1 i]
theorem gb_eq {n : Nat} {t : List (List Int)} (h : Rect n t) (ht : t.length ≤ 1000) {s : Nat} (hs : s < n) (w : Wd) : f_gaps_behind [tT t, .int s] w = some (tI (gapsZ t s), w) := by
  refine fn_eq rfl ?_
  unfold b_gaps_behind
  have hz : (t.map tI).zip ((t.map tI).drop 1) = (t.zip (t.drop 1)).map fun p => (tI p.1, tI p.2) := by
    rw [← List.map_drop, List.zip_map]; rfl
  have e : lcLoop (gTup [gName 2, gName 3]) tYes (cOp2 subD (cOp2 ixD (cVar 3) (cVar 1)) (cOp2 ixD (cVar 2) (cVar 1))) [some (tT t), some (.int s), none, none] ((t.zip (t.drop 1)).map fun p => .tuple [tI p.1, tI p.2]) w
      = some ((t.zip (t.drop 1)).map fun p => .int (getI p.2 s - getI p.1 s), w) := by
    refine lc_map (fun p : List Int × List Int => .tuple [tI p.1, tI p.2]) _ _ fun p hp => ?_
    have h1 := h p.1 (List.of_mem_zip hp).1
    have h2 := h p.2 (List.mem_of_mem_drop (List.of_mem_zip hp).2)
    have a1 : L2.atI (p.1.map PyData.int) (s : Int) = some (.int (getI p.1 s)) := at_getI (by omega)
    have a2 : L2.atI (p.2.map PyData.int) (s : Int) = some (.int (getI p.2 s)) := at_getI (by omega)
    unfold turnE
    simp -implicitDefEqProofs [tI, a1, a2]
  have hl : (((t.zip (t.drop 1)).map fun p => (.tuple [tI p.1, tI p.2] : D))).length ≤ sizeLine := by rw [size_eq]; simp; omega
  have hl2 : t.length ≤ sizeLine + 1 := by rw [size_eq]; omega
  unfold tT at e ⊢
  simp -implicitDefEqProofs only [s_sRet, s_cOp1, s_cLc, s_itZip, s_cVar, s_cCut, List.map_cons, List.map_nil, List.replicate, List.cons_append, List.nil_append, List.getElem?_cons_zero, Option.join_some, lft_some, bnd_some, s_optE1, s_optE0, s_cK, cutD_t, cutL_1, zipD_t, hz, List.map_map, s_wipe1, s_wipe0, List.set_cons_succ, List.set_cons_zero]
  simp only [Function.comp_def]
  rw [e]
  simp -implicitDefEqProofs [hl2, tI, gapsZ]
theorem lg_eq {n : Nat} {t : List (List Int)} (h : Rect n t) (ht : t.length ≤ 1000) {s : Nat} (hs : s < n) (w : Wd) : f_law_gaps [tT t, .int s] w = some (tI (gapsZ t s), w) := by
  have hr : range2 (.int ((1 : Nat) : Int)) (.int (t.length : Int)) = some (rangeL ((1 : Nat) : Int) (t.length - 1)) := r2_nat (by rw [size_eq]; omega) (by rw [size_eq]; omega)
  have hr : range2 (.int 1) (.int (t.length : Int)) = some (rangeL 1 (t.length - 1)) := hr
  have e : lcLoop (gName 2) tYes (cOp2 subD (cOp2 ixD (cOp2 ixD (cVar 0) (cVar 2)) (cVar 1)) (cOp2 ixD (cOp2 ixD (cVar 0) (cOp2 subD (cVar 2) (cK (.int 1)))) (cVar 1))) [some (tT t), some (.int s), none] (rangeL 1 (t.length - 1)) w
      = some ((List.range (t.length - 1)).map (fun i => .int (getI (getR t (i + 1)) s - getI (getR t i) s)), w) := by
    refine lc_rmap _ fun i hi => ?_
    have m1 := h _ (getR_mem (show i < t.length by omega))
    have m2 := h _ (getR_mem (show i + 1 < t.length by omega))
    have r1 : L2.atI (t.map tI) (1 + (i : Int)) = some (tI (getR t (i + 1))) := by
      rw [show (1 + (i : Int)) = ((i + 1 : Nat) : Int) by omega]; exact at_getR (by omega)
    have r2 : L2.atI (t.map tI) (1 + (i : Int) - 1) = some (tI (getR t i)) := by
      rw [show (1 + (i : Int) - 1) = (i : Int) by omega]; exact at_getR (by omega)
    have a1 : L2.atI ((getR t i).map PyData.int) (s : Int) = some (.int (getI (getR t i) s)) := at_getI (by omega)
    have a2 : L2.atI ((getR t (i + 1)).map PyData.int) (s : Int) = some (.int (getI (getR t (i + 1)) s)) := at_getI (by omega)
    unfold turnE
    unfold tI at r1 r2
    unfold tT tI
    simp -implicitDefEqProofs [r1, r2, a1, a2]
  refine fn_eq rfl ?_
  unfold b_law_gaps
  have hl2 : t.length - 1 ≤ sizeLine := by rw [size_eq]; omega
  unfold tT at e ⊢
  simp -implicitDefEqProofs [hr, e, hl2, tI, gaps_range]
/-- the width of the gaps -/
def spread (l : List Int) : Int := match maxD1 (.tuple (l.map .int)), minD1 (.tuple (l.map .int)) with
  | some (.int b), some (.int a) => b - a
  | _, _ => 0
theorem low_tI60 (l : List Int) : Low 60 (tI l) := (low_tI l).mono (by omega)
theorem spread_step (l : List Int) (w : Wd) (g : Q.Env) (hg : (g[2]?).join = some (tI l)) : cIf (tCmp neD (cVar 2) (cTup [])) (cOp2 subD (cOp1 maxD1 (cVar 2)) (cOp1 minD1 (cVar 2))) (cK (.int 0)) g w = some (.int (spread l), w) := by
  have hn : neD (tI l) (.tuple []) = some (!l.isEmpty) := by
    rw [neD_low (low_tI60 l) low_t0]
    unfold tI
    rw [eqv_t0]
    simp
  by_cases h : l = []
  · subst h
    simp -implicitDefEqProofs [hg, hn]
    rfl
  · obtain ⟨a, b, h1, h2⟩ := mm_ints h
    have he : l.isEmpty = false := by cases l <;> simp_all
    unfold tI at hg hn
    have hs : spread l = b - a := by unfold spread; rw [h1, h2]
    simp -implicitDefEqProofs [hg, hn, he, h1, h2, hs]
theorem sg_eq {n : Nat} {t : List (List Int)} (h : Rect n t) (ht : t.length ≤ 1000) {s : Nat} (hs : s < n) (w : Wd) : f_spread_gap [tT t, .int s] w = some (.int (spread (gapsZ t s)), w) := by
  refine fn_eq rfl ?_
  unfold b_spread_gap
  have e := spread_step (gapsZ t s) w [some (tT t), some (.int s), some (tI (gapsZ t s))] rfl
  rw [s_sSeq]
  simp -implicitDefEqProofs only [s_sSet, s_cCall, s_cArgs1, s_cArgs0, s_cVar, List.map_cons, List.map_nil, List.replicate, List.cons_append, List.nil_append, List.getElem?_cons_zero, List.getElem?_cons_succ, Option.join_some, lft_some, bnd_some, gb_eq h ht hs w, s_gName, List.length_cons, List.length_nil, Nat.reduceAdd, Nat.reduceLT, if_true, List.set_cons_succ, List.set_cons_zero, s_sRet]
  rw [e]
  rfl
theorem ls_eq {n : Nat} {t : List (List Int)} (h : Rect n t) (ht : t.length ≤ 1000) {s : Nat} (hs : s < n) (w : Wd) : f_law_spread [tT t, .int s] w = some (.int (spread (gapsZ t s)), w) := by
  refine fn_eq rfl ?_
  unfold b_law_spread
  have e := spread_step (gapsZ t s) w [some (tT t), some (.int s), some (tI (gapsZ t s))] rfl
  rw [s_sSeq]
  simp -implicitDefEqProofs only [s_sSet, s_cCall, s_cArgs1, s_cArgs0, s_cVar, List.map_cons, List.map_nil, List.replicate, List.cons_append, List.nil_append, List.getElem?_cons_zero, List.getElem?_cons_succ, Option.join_some, lft_some, bnd_some, lg_eq h ht hs w, s_gName, List.length_cons, List.length_nil, Nat.reduceAdd, Nat.reduceLT, if_true, List.set_cons_succ, List.set_cons_zero, s_sRet]
  rw [e]
  rfl
end W

set_option Elab.async false
set_option linter.all false
set_option autoImplicit false
set_option maxRecDepth 100000
namespace W
open PySem PySem.W Q
/-! bunched -/
def nearB (t : List (List Int)) (least : Int) (i s : Nat) : Bool := decide (getI (getR t (i + 1)) s - getI (getR t i) s < least)
def inB (t : List (List Int)) (n : Nat) (least : Int) (i : Nat) : List D := ((List.range n).filter (nearB t least i)).map fun s : Nat => .tuple [.int (1 + (i : Int)), .int (s : Int)]
def allB (t : List (List Int)) (n : Nat) (least : Int) (k : Nat) : List D := (List.range k).flatMap (inB t n least)
theorem inB_len (t : List (List Int)) (n : Nat) (least : Int) (i : Nat) : (inB t n least i).length ≤ n := by
  unfold inB
  rw [List.length_map]
  exact Nat.le_trans (List.length_filter_le _ _) (by simp)
theorem allB_succ (t : List (List Int)) (n : Nat) (least : Int) (k : Nat) : allB t n least (k + 1) = allB t n least k ++ inB t n least k := by
  unfold allB
  rw [List.range_succ, List.flatMap_append]
  simp only [List.flatMap_cons, List.flatMap_nil, List.append_nil]
theorem allB_len (t : List (List Int)) (n : Nat) (least : Int) : ∀ k, (allB t n least k).length ≤ k * n
  | 0 => by simp [allB]
  | k + 1 => by
    rw [allB_succ, List.length_append, Nat.succ_mul]
    have := allB_len t n least k
    have := inB_len t n least k
    omega
theorem sz_B {n k : Nat} (hn : n ≤ 1000) (hk : k ≤ 1000) : k * n + n ≤ sizeLine := by
  have : k * n ≤ 1000 * 1000 := Nat.mul_le_mul hk hn
  rw [size_eq]; omega
theorem rows_at {n : Nat} {t : List (List Int)} (h : Rect n t) {i : Nat} (hi : i + 1 < t.length) :
    L2.atI (t.map tI) (1 + (i : Int)) = some (tI (getR t (i + 1))) ∧ L2.atI (t.map tI) (1 + (i : Int) - 1) = some (tI (getR t i)) ∧ (getR t i).length = n ∧ (getR t (i + 1)).length = n := by
  refine ⟨?_, ?_, h _ (getR_mem (by omega)), h _ (getR_mem (by omega))⟩
  · rw [show (1 + (i : Int)) = ((i + 1 : Nat) : Int) by omega]; exact at_getR (by omega)
  · rw [show (1 + (i : Int) - 1) = (i : Int) by omega]; exact at_getR (by omega)
theorem bunched_turn {n : Nat} {t : List (List Int)} (h : Rect n t) (hn : n ≤ 1000) (ht : t.length ≤ 1000) (least : Int) (i : Nat) (hi : i < t.length - 1) (w : Wd) :
    ∃ g, turn (gName 3) b_bunched_0 [3] (.int (1 + (i : Int))) [some (tT t), some (.int least), some (.list (allB t n least i)), none, none] w = some (.nx g, w) ∧ wipeE g [3] = [some (tT t), some (.int least), some (.list (allB t n least (i + 1))), none, none] := by
  obtain ⟨r1, r2, l1, l2⟩ := rows_at h (show i + 1 < t.length by omega)
  have hr : range1 (.int ((getR t (i + 1)).length : Int)) = some (rangeL 0 n) := by rw [l2]; exact r1_nat (by rw [size_eq]; omega)
  have e : lcLoop (gName 4) (tCmp ltD (cOp2 subD (cOp2 ixD (cOp2 ixD (cVar 0) (cVar 3)) (cVar 4)) (cOp2 ixD (cOp2 ixD (cVar 0) (cOp2 subD (cVar 3) (cK (.int 1)))) (cVar 4))) (cVar 1)) (cTup [cVar 3, cVar 4]) [some (tT t), some (.int least), some (.list (allB t n least i)), some (.int (1 + (i : Int))), none] (rangeL 0 n) w
      = some (inB t n least i, w) := by
    refine lc_rfilter (nearB t least i) _ fun s hs => ?_
    have a1 : L2.atI ((getR t i).map PyData.int) (s : Int) = some (.int (getI (getR t i) s)) := at_getI (by omega)
    have a2 : L2.atI ((getR t (i + 1)).map PyData.int) (s : Int) = some (.int (getI (getR t (i + 1)) s)) := at_getI (by omega)
    unfold turnE
    unfold tI at r1 r2
    unfold tT tI nearB
    cases hd : decide (getI (getR t (i + 1)) s - getI (getR t i) s < least)
    · simp -implicitDefEqProofs [r1, r2, a1, a2, hd]
    · simp -implicitDefEqProofs [r1, r2, a1, a2, hd]
  have hx : exD (.list (allB t n least i)) (.list (inB t n least i)) = some (.list (allB t n least (i + 1))) := by
    have h1 := allB_len t n least i
    have h2 := inB_len t n least i
    have h3 := sz_B hn (show i ≤ 1000 by omega)
    rw [exD_l (by omega), allB_succ]
  have hz : n ≤ sizeLine := by rw [size_eq]; omega
  unfold turn b_bunched_0
  generalize inB t n least i = x at *
  generalize allB t n least (i + 1) = y at *
  unfold tI at r1 r2
  unfold tT tI at *
  simp -implicitDefEqProofs [r1, r2, hr, e, hx, hz]
theorem bunched_eq {n : Nat} {t : List (List Int)} (h : Rect n t) (hn : n ≤ 1000) (ht : t.length ≤ 1000) (least : Int) (w : Wd) : f_bunched [tT t, .int least] w = some (.tuple (allB t n least (t.length - 1)), w) := by
  have hr : range2 (.int ((1 : Nat) : Int)) (.int (t.length : Int)) = some (rangeL ((1 : Nat) : Int) (t.length - 1)) := r2_nat (by rw [size_eq]; omega) (by rw [size_eq]; omega)
  have hr : range2 (.int 1) (.int (t.length : Int)) = some (rangeL 1 (t.length - 1)) := hr
  have e := loop_eq (t := gName 3) (b := b_bunched_0) (vs := [3]) (lo := 1) (n := t.length - 1) (w := w) (fun k => [some (tT t), some (.int least), some (.list (allB t n least k)), none, none]) (fun k hk => bunched_turn h hn ht least k hk w)
  have e0 : allB t n least 0 = [] := rfl
  refine fn_eq rfl ?_
  unfold b_bunched
  rw [e0] at e
  unfold tT at *
  simp -implicitDefEqProofs [s_sSeq, hr, e]
/-! whole_wait -/
def sqs (l : List Int) : Int := (l.map fun x => x * x).sum
def waitF (t : List (List Int)) (people : List Int) : Nat → Int
  | 0 => 0
  | s + 1 => waitF t people s + getI people s * sqs (gapsZ t s)
def Bnd (t : List (List Int)) : Prop := ∀ r ∈ t, ∀ x ∈ r, 0 ≤ x ∧ x ≤ 2 ^ 62
theorem getI_bnd {l : List Int} {P : Int → Prop} (h : ∀ x ∈ l, P x) {s : Nat} (hs : s < l.length) : P (getI l s) := by
  simp only [getI, List.getD_eq_getElem?_getD, List.getElem?_eq_getElem hs, Option.getD_some]
  exact h _ (List.getElem_mem hs)
theorem gaps_small {n : Nat} {t : List (List Int)} (h : Rect n t) (hb : Bnd t) {s : Nat} (hs : s < n) : ∀ x ∈ gapsZ t s, small64 x = true := by
  intro x hx
  rw [gaps_range] at hx
  obtain ⟨i, hi, rfl⟩ := List.mem_map.mp hx
  have hi := List.mem_range.mp hi
  have m1 := getR_mem (t := t) (show i < t.length by omega)
  have m2 := getR_mem (t := t) (show i + 1 < t.length by omega)
  have b1 := getI_bnd (hb _ m1) (s := s) (by rw [h _ m1]; exact hs)
  have b2 := getI_bnd (hb _ m2) (s := s) (by rw [h _ m2]; exact hs)
  unfold small64
  simp only [Bool.and_eq_true, decide_eq_true_eq]
  omega
theorem intsOf_map : ∀ l : List Int, intsOf (l.map .int) = some l
  | [] => rfl
  | x :: l => by rw [List.map_cons, intsOf, intsOf_map l]; rfl
theorem sq_lc {l : List Int} (hl : ∀ x ∈ l, small64 x = true) (g : Q.Env) (v : Nat) (hv : v < g.length) (w : Wd) : lcLoop (gName v) tYes (cOp2 mulI (cVar v) (cVar v)) g (l.map .int) w = some (l.map (fun x => .int (x * x)), w) := by
  refine lc_map PyData.int _ l fun x hx => ?_
  unfold turnE
  have hm : mulI (.int x) (.int x) = some (.int (x * x)) := mulI_l (hl x hx)
  rw [s_gName, if_pos hv]
  simp -implicitDefEqProofs [hv, hm]
theorem sum_sq (l : List Int) : sumD (.list (l.map (fun x => .int (x * x)))) = some (.int (sqs l)) := by
  have e : l.map (fun x => (.int (x * x) : D)) = (l.map fun x => x * x).map .int := by rw [List.map_map]; rfl
  unfold sumD sqs
  dsimp only
  rw [e, intsOf_map]
  rfl
theorem gapsZ_len (t : List (List Int)) (s : Nat) : (gapsZ t s).length = t.length - 1 := by rw [gaps_range]; simp
theorem ww_turn {n : Nat} {t : List (List Int)} (h : Rect n t) (hb : Bnd t) (ht : t.length ≤ 1000) (people : List Int) (hp : people.length = n) (hs : ∀ s, s < n → small64 (getI people s) = true) (s : Nat) (hsn : s < n) (w : Wd) :
    ∃ g, turn (gName 3) b_whole_wait_0 [3] (.int (0 + (s : Int))) [some (tT t), some (tI people), some (.int (waitF t people s)), none, none] w = some (.nx g, w) ∧ wipeE g [3] = [some (tT t), some (tI people), some (.int (waitF t people (s + 1))), none, none] := by
  have a1 : L2.atI (people.map PyData.int) (s : Int) = some (.int (getI people s)) := at_getI (by omega)
  have hg := gb_eq h ht hsn w
  have hm : ∀ x, mulI (.int (getI people s)) (.int x) = some (.int (getI people s * x)) := fun x => mulI_l (hs s hsn)
  have e := fun g hv => sq_lc (gaps_small h hb hsn) g 4 hv w
  have hz : (gapsZ t s).length ≤ sizeLine := by rw [gapsZ_len, size_eq]; omega
  have hsum := sum_sq (gapsZ t s)
  unfold turn b_whole_wait_0
  rw [waitF]
  generalize gapsZ t s = l at *
  unfold tI at *
  simp -implicitDefEqProofs [a1, hg, hm, e, hz, hsum]
theorem ww_eq {n : Nat} {t : List (List Int)} (h : Rect n t) (hb : Bnd t) (ht : t.length ≤ 1000) (people : List Int) (hp : people.length = n) (hn : n ≤ 1000) (hs : ∀ s, s < n → small64 (getI people s) = true) (w : Wd) : f_whole_wait [tT t, tI people] w = some (.int (waitF t people n), w) := by
  have hr : range1 (.int (people.length : Int)) = some (rangeL 0 n) := by rw [hp]; exact r1_nat (by rw [size_eq]; omega)
  have e := loop_eq (t := gName 3) (b := b_whole_wait_0) (vs := [3]) (lo := 0) (n := n) (w := w) (fun s => [some (tT t), some (tI people), some (.int (waitF t people s)), none, none]) (fun s hsn => ww_turn h hb ht people hp hs s hsn w)
  refine fn_eq rfl ?_
  unfold b_whole_wait
  simp only [waitF] at e
  unfold tI at *
  simp -implicitDefEqProofs [s_sSeq, hr, e]
end W

set_option Elab.async false
set_option linter.all false
set_option autoImplicit false
set_option maxRecDepth 100000
namespace W
open PySem PySem.W Q
/-! steady -/
def bg (bs : List Int) : List Int := (bs.zip (bs.drop 1)).map fun p => p.2 - p.1
def allSame (l : List Int) : Bool := l.all fun x => decide (x = getI l 0)
theorem dedup_cons (acc : List Int) (x : Int) (l : List Int) : (x :: l).foldl PyProof.Rows.step_dedup acc = l.foldl PyProof.Rows.step_dedup (if acc.any (· == x) = true then acc else acc ++ [x]) := by
  rw [List.foldl_cons]
  rfl
theorem dedup_ge : ∀ (l acc : List Int), acc.length ≤ (l.foldl PyProof.Rows.step_dedup acc).length
  | [], acc => Nat.le_refl _
  | x :: l, acc => by
    rw [dedup_cons]
    refine Nat.le_trans ?_ (dedup_ge l _)
    split
    · exact Nat.le_refl _
    · simp
theorem dedup_one (x : Int) : ∀ l : List Int, decide ((l.foldl PyProof.Rows.step_dedup [x]).length < 2) = l.all fun y => decide (y = x)
  | [] => rfl
  | y :: l => by
    rw [dedup_cons, List.all_cons]
    by_cases h : y = x
    · subst h
      rw [if_pos (by simp), dedup_one y l]
      simp
    · rw [if_neg (by simp; exact fun e => h e.symm)]
      have := dedup_ge l ([x] ++ [y])
      rw [decide_eq_false (by simp at this ⊢; omega), decide_eq_false h]
      rfl
theorem dedup_same (l : List Int) : decide ((dedupI l).length < 2) = allSame l := by
  unfold dedupI allSame
  cases l with
  | nil => rfl
  | cons x l =>
    rw [dedup_cons, if_neg (by simp)]
    simp only [List.nil_append]
    rw [dedup_one x l, List.all_cons]
    simp [getI]
theorem st_eq (bs : List Int) (hb : bs.length ≤ 1000) (w : Wd) : f_steady [tI bs] w = some (.bool (allSame (bg bs)), w) := by
  have hz : (bs.map PyData.int).zip ((bs.map PyData.int).drop 1) = (bs.zip (bs.drop 1)).map fun p => (.int p.1, .int p.2) := by
    rw [← List.map_drop, List.zip_map]; rfl
  have e : lcLoop (gTup [gName 2, gName 3]) tYes (cOp2 subD (cVar 3) (cVar 2)) [some (tI bs), none, none, none] ((bs.zip (bs.drop 1)).map fun p => .tuple [.int p.1, .int p.2]) w
      = some ((bs.zip (bs.drop 1)).map fun p => .int (p.2 - p.1), w) := by
    refine lc_map (fun p : Int × Int => .tuple [.int p.1, .int p.2]) _ _ fun p hp => ?_
    unfold turnE
    simp -implicitDefEqProofs
  have hl : lenSetD (.list ((bg bs).map .int)) = some (.int (dedupI (bg bs)).length) := by
    unfold lenSetD
    dsimp only
    rw [intsOf_map]
    show (if (bg bs).length + 1 < scanBound then _ else _) = _
    rw [if_pos (by unfold bg scanBound; simp; omega)]
  have hb2 : (bs.zip (bs.drop 1)).map (fun p => (.int (p.2 - p.1) : D)) = (bg bs).map .int := by unfold bg; rw [List.map_map]; rfl
  have hl2 : bs.length ≤ sizeLine + 1 := by rw [size_eq]; omega
  rw [hb2] at e
  have hd := dedup_same (bg bs)
  refine fn_eq rfl ?_
  unfold b_steady
  unfold tI at *
  rw [s_sSeq]
  simp -implicitDefEqProofs only [s_sSet, s_cLc, s_itZip, s_cVar, s_cCut, List.map_cons, List.map_nil, List.replicate, List.cons_append, List.nil_append, List.getElem?_cons_zero, Option.join_some, lft_some, bnd_some, s_optE1, s_optE0, s_cK, cutD_t, cutL_1, zipD_t, hz, List.map_map, s_wipe1, s_wipe0, List.set_cons_succ, List.set_cons_zero]
  simp only [Function.comp_def]
  rw [e]
  generalize bg bs = l at *
  simp -implicitDefEqProofs [hl2, hl]
  rw [← hd]
  exact decide_eq_decide.mpr (by omega)
/-! late_last -/
def lateF (t : List (List Int)) (n : Nat) : Int := if t = [] then 0 else getI (getR t (t.length - 1)) (n - 1) - getI (getR t 0) (n - 1) - (getI (getR t (t.length - 1)) 0 - getI (getR t 0) 0)
theorem neg1_getI {l : List Int} (h : 0 < l.length) : L2.atI (l.map PyData.int) (-1) = some (.int (getI l (l.length - 1))) := by
  refine atI_neg1 ?_
  rw [List.getLast?_map, List.getLast?_eq_getElem?, List.getElem?_eq_getElem (by omega)]
  simp [getI, List.getD_eq_getElem?_getD, List.getElem?_eq_getElem (show l.length - 1 < l.length by omega)]
theorem neg1_getR {t : List (List Int)} (h : 0 < t.length) : L2.atI (t.map tI) (-1) = some (tI (getR t (t.length - 1))) := by
  refine atI_neg1 ?_
  rw [List.getLast?_map, List.getLast?_eq_getElem?, List.getElem?_eq_getElem (by omega)]
  simp [getR, List.getD_eq_getElem?_getD, List.getElem?_eq_getElem (show t.length - 1 < t.length by omega)]
theorem late_val {n : Nat} (h0 : 0 < n) {t : List (List Int)} (h : Rect n t) (hne : t ≠ []) (g : Q.Env) (i : Nat) (hg : (g[i]?).join = some (tT t)) (w : Wd) :
    (cOp2 subD (cOp2 subD (cOp2 ixD (cOp2 ixD (cVar i) (cOp1 negD (cK (.int 1)))) (cOp1 negD (cK (.int 1)))) (cOp2 ixD (cOp2 ixD (cVar i) (cK (.int 0))) (cOp1 negD (cK (.int 1))))) (cOp2 subD (cOp2 ixD (cOp2 ixD (cVar i) (cOp1 negD (cK (.int 1)))) (cK (.int 0))) (cOp2 ixD (cOp2 ixD (cVar i) (cK (.int 0))) (cK (.int 0))))) g w = some (.int (lateF t n), w) := by
  have hl : 0 < t.length := List.length_pos_iff.mpr hne
  have m1 := h _ (getR_mem (t := t) (show t.length - 1 < t.length by omega))
  have m2 := h _ (getR_mem (t := t) hl)
  have r1 := neg1_getR hl
  have r0 : L2.atI (t.map tI) 0 = some (tI (getR t 0)) := at_getR (i := 0) hl
  have a1 := neg1_getI (l := getR t (t.length - 1)) (by omega)
  have a2 := neg1_getI (l := getR t 0) (by omega)
  have b1 : L2.atI ((getR t (t.length - 1)).map PyData.int) 0 = some (.int (getI (getR t (t.length - 1)) 0)) := at_getI (i := 0) (by omega)
  have b2 : L2.atI ((getR t 0).map PyData.int) 0 = some (.int (getI (getR t 0) 0)) := at_getI (i := 0) (by omega)
  rw [m1] at a1
  rw [m2] at a2
  unfold lateF
  rw [if_neg hne]
  generalize getR t (t.length - 1) = x at *
  generalize getR t 0 = y at *
  unfold tT at hg
  unfold tI at *
  simp -implicitDefEqProofs [hg, r1, r0, a1, a2, b1, b2]
theorem ll_eq {n : Nat} (h0 : 0 < n) {t : List (List Int)} (h : Rect n t) (w : Wd) : f_late_last [tT t] w = some (.int (lateF t n), w) := by
  refine fn_eq rfl ?_
  unfold b_late_last
  by_cases hne : t = []
  · subst hne
    simp -implicitDefEqProofs [s_sSeq, tT, lateF]
    rfl
  · have he : eqD (tT t) (.tuple []) = some false := by
      rw [eqD_low (low_tT t) low_t0]
      unfold tT
      rw [eqv_t0]
      cases t <;> simp_all
    have hv := late_val h0 h hne [some (tT t)] 0 rfl w
    rw [s_sSeq]
    simp -implicitDefEqProofs only [s_sIf, s_tCmp, s_cVar, List.map_cons, List.map_nil, List.replicate, List.cons_append, List.nil_append, List.append_nil, List.getElem?_cons_zero, Option.join_some, lft_some, bnd_some, s_cTup, s_cArgs0, he, s_sPass, s_sRet]
    simp only [Bool.false_eq_true, if_false, bnd_some]
    rw [hv]
    rfl
end W

set_option Elab.async false
set_option linter.all false
set_option autoImplicit false
set_option maxRecDepth 100000
namespace W
open PySem PySem.W Q
/-! bounds -/
theorem mul3 {p d s D : Int} (hp : 0 ≤ p) (hp2 : p ≤ 4) (hd : 0 ≤ d) (hd2 : d ≤ D) (hs : 0 ≤ s) (hs2 : s ≤ 44) : 0 ≤ p * d * s ∧ p * d * s ≤ 176 * D := by
  have h1 : 0 ≤ p * d := Int.mul_nonneg hp hd
  have h2 : p * d ≤ 4 * D := Int.mul_le_mul hp2 hd2 hd (by omega)
  have h3 : p * d * s ≤ 4 * D * 44 := Int.mul_le_mul h2 hs2 hs (by omega)
  exact ⟨Int.mul_nonneg h1 hs, by omega⟩
structure Cfg.Sm (c : Cfg) : Prop where
  len : c.people.length = c.runs.length + 1
  few : c.runs.length ≤ 3
  st : 0 ≤ c.step ∧ c.step ≤ 44
  gp : 0 ≤ c.gap ∧ c.gap ≤ 19
  ls : 0 ≤ c.least ∧ c.least ≤ 11
  rn : ∀ x ∈ c.runs, 0 ≤ x ∧ x ≤ 9
  pp : ∀ x ∈ c.people, 0 ≤ x ∧ x ≤ 4
theorem Cfg.Sm.ok {c : Cfg} (h : c.Sm) : c.Ok := ⟨h.len, by have := h.few; omega, small_of (by have := h.st; omega) (by have := h.st; omega), fun s hs => by
  have := getI_bnd (P := fun x => 0 ≤ x ∧ x ≤ 4) h.pp hs
  exact small_of (by omega) (by omega)⟩
theorem one_bnd {c : Cfg} (h : c.Sm) {a : Option (List Int)} (ha : ∀ l, a = some l → l.length = c.people.length) {X : Int} (hX : 100 ≤ X) (hax : ∀ l, a = some l → ∀ x ∈ l, 0 ≤ x ∧ x ≤ X) {s : Nat} (hs : s < c.people.length) {now : Int} (h0 : 0 ≤ now) (h1 : now ≤ X) :
    0 ≤ c.one a s now ∧ c.one a s now ≤ 4 * X := by
  have hp := getI_bnd (P := fun x => 0 ≤ x ∧ x ≤ 4) h.pp hs
  have hr : 0 ≤ c.run s ∧ c.run s ≤ 9 := by
    unfold Cfg.run
    split
    · exact getI_bnd (P := fun x => 0 ≤ x ∧ x ≤ 9) h.rn (by have := h.len; omega)
    · omega
  obtain ⟨st0, st1⟩ := h.st
  obtain ⟨gp0, gp1⟩ := h.gp
  obtain ⟨ls0, ls1⟩ := h.ls
  unfold Cfg.one
  generalize getI c.people s = p at *
  generalize c.run s = r at *
  cases a with
  | none =>
    unfold nowF
    simp only [Option.map_none]
    obtain ⟨m0, m1⟩ := mul3 hp.1 hp.2 gp0 gp1 st0 st1
    generalize p * c.gap * c.step = q at *
    rw [Int.fdiv_eq_ediv_of_nonneg q (by omega)]
    omega
  | some l =>
    have hx := getI_bnd (P := fun x => 0 ≤ x ∧ x ≤ X) (hax l rfl) (s := s) (by rw [ha l rfl]; exact hs)
    unfold nowF
    simp only [Option.map_some]
    generalize getI l s = x at *
    have hn : x ≤ (if now + r < x then x else now + r) ∧ (if now + r < x then x else now + r) ≤ X + 9 := by split <;> omega
    generalize (if now + r < x then x else now + r) = n2 at *
    obtain ⟨m0, m1⟩ := mul3 (d := n2 - x) (D := X + 9) hp.1 hp.2 (by omega) (by omega) st0 st1
    generalize p * (n2 - x) * c.step = q at *
    rw [Int.fdiv_eq_ediv_of_nonneg q (by omega)]
    split
    · split <;> omega
    · omega
theorem row_bnd {c : Cfg} (h : c.Sm) {a : Option (List Int)} (ha : ∀ l, a = some l → l.length = c.people.length) {X : Int} (hX : 100 ≤ X) (hax : ∀ l, a = some l → ∀ x ∈ l, 0 ≤ x ∧ x ≤ X) {b : Int} (h0 : 0 ≤ b) (h1 : b ≤ X) :
    ∀ s, s ≤ c.people.length → ∃ Y : Int, X ≤ Y ∧ Y = X * 4 ^ s ∧ (0 ≤ (c.row a b s).1 ∧ (c.row a b s).1 ≤ Y) ∧ ∀ e ∈ (c.row a b s).2, 0 ≤ e ∧ e ≤ Y
  | 0, _ => ⟨X, Int.le_refl _, by simp, ⟨h0, h1⟩, fun e he => by simp [Cfg.row] at he⟩
  | s + 1, hs => by
    obtain ⟨Y, y0, y1, y2, y3⟩ := row_bnd h ha hX hax h0 h1 s (by omega)
    have hb := one_bnd h ha (X := Y) (by omega) (fun l hl x hx => by have := hax l hl x hx; omega) (s := s) (by omega) y2.1 y2.2
    refine ⟨4 * Y, by omega, by rw [y1, Int.pow_succ, Int.mul_comm 4, Int.mul_assoc], hb, fun e he => ?_⟩
    simp only [Cfg.row, List.mem_append, List.mem_singleton] at he
    rcases he with he | he
    · have := y3 e he; omega
    · rw [he]; exact hb
theorem tab_bnd {c : Cfg} (h : c.Sm) {bs : List Int} (hb : ∀ x ∈ bs, 0 ≤ x ∧ x ≤ 100) : ∀ k, k ≤ bs.length → ∀ r ∈ c.tab bs k, ∀ x ∈ r, 0 ≤ x ∧ x ≤ 100 * 256 ^ k
  | 0, _, r, hr, x, hx => by simp [Cfg.tab] at hr
  | k + 1, hk, r, hr, x, hx => by
    have ih := tab_bnd h hb k (by omega)
    have hp : (0 : Int) < 256 ^ k := Int.pow_pos (by omega)
    have h4 : (4 : Int) ^ c.people.length ≤ 256 := by
      have h1 := h.len
      have h2 := h.few
      have h3 : c.people.length = 1 ∨ c.people.length = 2 ∨ c.people.length = 3 ∨ c.people.length = 4 := by omega
      rcases h3 with e | e | e | e <;> rw [e] <;> decide
    simp only [Cfg.tab, List.mem_append, List.mem_singleton] at hr
    rw [Int.pow_succ]
    rcases hr with hr | hr
    · have := ih r hr x hx
      omega
    · subst hr
      have hbk := getI_bnd (P := fun x => 0 ≤ x ∧ x ≤ 100) hb (show k < bs.length by omega)
      obtain ⟨Y, y0, y1, y2, y3⟩ := row_bnd h (a := (c.tab bs k).getLast?) (fun l hl => c.tab_row bs k l (List.mem_of_getLast? hl)) (X := 100 * 256 ^ k) (by omega) (fun l hl x hx => ih l (List.mem_of_getLast? hl) x hx) hbk.1 (by omega) c.people.length (Nat.le_refl _)
      have := y3 x hx
      have hm : 100 * (256 : Int) ^ k * 4 ^ c.people.length ≤ 100 * 256 ^ k * 256 := Int.mul_le_mul_of_nonneg_left h4 (by omega)
      omega
theorem tab_Bnd {c : Cfg} (h : c.Sm) {bs : List Int} (hb : ∀ x ∈ bs, 0 ≤ x ∧ x ≤ 100) (hl : bs.length ≤ 5) : Bnd (c.tab bs bs.length) := fun r hr x hx => by
  have h1 := tab_bnd h hb bs.length (Nat.le_refl _) r hr x hx
  have h2 : (256 : Int) ^ bs.length ≤ 256 ^ 5 := by
    have h3 : bs.length = 0 ∨ bs.length = 1 ∨ bs.length = 2 ∨ bs.length = 3 ∨ bs.length = 4 ∨ bs.length = 5 := by omega
    rcases h3 with e | e | e | e | e | e <;> rw [e] <;> decide
  have h3 : (256 : Int) ^ 5 = 1099511627776 := by decide
  omega
/-! best_hold -/
def Cfg.at (c : Cfg) (least : Int) (h : Option Nat) : Cfg := { c with least := least, hold := h }
def kept (c : Cfg) (least : Int) (bs : List Int) (s : Nat) : List (List Int) := (c.at least (some s)).tab bs bs.length
def rowB (c : Cfg) (least : Int) (bs : List Int) (s : Nat) : D := .tuple [.int (spread (gapsZ (kept c least bs s) c.runs.length)), .int (s : Int)]
theorem kept_rect (c : Cfg) (least : Int) (bs : List Int) (s : Nat) : Rect c.people.length (kept c least bs s) := (c.at least (some s)).tab_row bs bs.length
theorem kept_len (c : Cfg) (least : Int) (bs : List Int) (s : Nat) : (kept c least bs s).length = bs.length := (c.at least (some s)).tab_len bs bs.length
def bestD (c : Cfg) (least : Int) (bs : List Int) : Option D := minD1 (.list ((List.range c.people.length).map (rowB c least bs)))
theorem best_some (c : Cfg) (least : Int) (bs : List Int) (h : 0 < c.people.length) : ∃ d, bestD c least bs = some d ∧ Alk 2 d := by
  unfold bestD
  have hne : List.range c.people.length ≠ [] := fun z => by
    have := congrArg List.length z
    rw [List.length_range, List.length_nil] at this
    omega
  obtain ⟨n, ns, e⟩ := List.exists_cons_of_ne_nil hne
  rw [e]
  have hl : Low 60 (.list ((n :: ns).map (rowB c least bs))) := (Low.l (n := 1) fun y hy => by
    obtain ⟨i, _, rfl⟩ := List.mem_map.mp hy
    exact Low.t fun x hx => by
      simp only [List.mem_cons, List.not_mem_nil, or_false] at hx
      rcases hx with rfl | rfl
      · exact Low.i _ _
      · exact Low.i _ _).mono (by omega)
  have ha : alikeB ((n :: ns).map (rowB c least bs)) = true := by
    unfold alikeB
    simp only [List.all_map]
    refine List.all_eq_true.mpr fun x _ => ?_
    refine List.all_eq_true.mpr fun y _ => ?_
    simp [rowB, alike, alikeAll]
  have hn : noNoneB ((n :: ns).map (rowB c least bs)) = true := by
    unfold noNoneB
    simp only [List.all_map]
    refine List.all_eq_true.mpr fun x _ => ?_
    simp [rowB]
  obtain ⟨h3, _⟩ := mm_plain (d := .list ((n :: ns).map (rowB c least bs))) (x := rowB c least bs n) (xs := ns.map (rowB c least bs)) rfl hl ha hn
  refine ⟨_, h3, ?_⟩
  have m1 := minD_mem (rowB c least bs n) (ns.map (rowB c least bs))
  obtain ⟨i, _, hi⟩ := List.mem_map.mp (show minD (rowB c least bs n) (ns.map (rowB c least bs)) ∈ (n :: ns).map (rowB c least bs) from m1)
  rw [← hi]
  unfold rowB
  exact Alk.t (by simp) fun x hx => by
    simp only [List.mem_cons, List.not_mem_nil, or_false] at hx
    rcases hx with rfl | rfl <;> exact Alk.i
theorem Cfg.Ok.at {c : Cfg} (h : c.Ok) (least : Int) (o : Option Nat) : (c.at least o).Ok := ⟨h.len, h.few, h.st, h.pp⟩
theorem bh_turn (c : Cfg) (h : c.Ok) (least : Int) (bs : List Int) (hb : bs.length ≤ 1000) (s : Nat) (hs : s < c.people.length) (w : Wd) :
    ∃ g, turn (gName 7) b_best_hold_0 [7] (.int (0 + (s : Int))) [some (tI bs), some (tI c.runs), some (tI c.people), some (.int c.step), some (.int c.gap), some (.int least), some (.list ((List.range s).map (rowB c least bs))), none] w = some (.nx g, w) ∧
      wipeE g [7] = [some (tI bs), some (tI c.runs), some (tI c.people), some (.int c.step), some (.int c.gap), some (.int least), some (.list ((List.range (s + 1)).map (rowB c least bs))), none] := by
  have hl := h.len
  have hf := h.few
  have e1 := held_eq (c.at least (some s)) (h.at _ _) bs hb w
  have e1 : f_held [tI bs, tI c.runs, tI c.people, .int c.step, .int c.gap, .int (s : Int), .int least] w = some (tT (kept c least bs s), w) := e1
  have e2 := sg_eq (kept_rect c least bs s) (by rw [kept_len]; exact hb) (show c.runs.length < c.people.length by omega) w
  have hz : apD (.list ((List.range s).map (rowB c least bs))) (.tuple [.int (spread (gapsZ (kept c least bs s) c.runs.length)), .int (s : Int)]) = some (.list ((List.range (s + 1)).map (rowB c least bs))) := by
    rw [apD_l (by rw [size_eq]; simp; omega), List.range_succ, List.map_append]
    rfl
  unfold turn b_best_hold_0
  generalize kept c least bs s = t at *
  generalize (PyData.list ((List.range s).map (rowB c least bs))) = x at *
  generalize (PyData.list ((List.range (s + 1)).map (rowB c least bs))) = y at *
  unfold tI tT at *
  simp -implicitDefEqProofs [e1, e2, hz]
theorem bh_eq (c : Cfg) (h : c.Ok) (least : Int) (bs : List Int) (hb : bs.length ≤ 1000) (d : D) (hd : bestD c least bs = some d) (w : Wd) : f_best_hold [tI bs, tI c.runs, tI c.people, .int c.step, .int c.gap, .int least] w = some (d, w) := by
  have hl := h.len
  have hf := h.few
  have hr : range1 (.int ((c.runs.length : Int) + 1)) = some (rangeL 0 c.people.length) := by
    have e : ((c.runs.length : Int) + 1) = (c.people.length : Int) := by omega
    rw [e]; exact r1_nat (by rw [size_eq]; omega)
  have e := loop_eq (t := gName 7) (b := b_best_hold_0) (vs := [7]) (lo := 0) (n := c.people.length) (w := w) (fun s => [some (tI bs), some (tI c.runs), some (tI c.people), some (.int c.step), some (.int c.gap), some (.int least), some (.list ((List.range s).map (rowB c least bs))), none]) (fun s hs => bh_turn c h least bs hb s hs w)
  refine fn_eq rfl ?_
  unfold b_best_hold
  unfold bestD at hd
  simp only [List.range_zero, List.map_nil] at e
  unfold tI at *
  generalize ((List.range c.people.length).map (rowB c least bs)) = x at *
  simp -implicitDefEqProofs [s_sSeq, hr, e, hd]
end W

set_option Elab.async false
set_option linter.all false
set_option autoImplicit false
set_option maxRecDepth 100000
namespace W
open PySem PySem.W Q
theorem s1 (sc : D) (i : Int) (l : List Int) : wp (sSet (gName 3) (cOp1 tupD (cLc (itR1 (cCall fnNext [cVar 1, cK (.int 4)])) (gName 9) tYes (cOp2 addD (cK (.int 1)) (cCall fnNext [cVar 1, cK (.int 9)])) [9])) [some sc, some tokW, some (.int i), none, none, none, none, none, none, none, none, none, none, none, none, none, none, none, none, none, none] (some l))
    fun o w' => ∃ (runs : List Int) (l' : List Int), o = .nx [some sc, some tokW, some (.int i), some (tI runs), none, none, none, none, none, none, none, none, none, none, none, none, none, none, none, none, none] ∧ w' = some l' ∧ runs.length ≤ 3 ∧ ∀ x ∈ runs, 0 ≤ x ∧ x ≤ 9 := by
  generalize hR : (fun (o : Out) (w' : Wd) => ∃ (runs : List Int) (l' : List Int), o = .nx [some sc, some tokW, some (.int i), some (tI runs), none, none, none, none, none, none, none, none, none, none, none, none, none, none, none, none, none] ∧ w' = some l' ∧ runs.length ≤ 3 ∧ ∀ x ∈ runs, 0 ≤ x ∧ x ≤ 9) = R
  simp -implicitDefEqProofs
  refine wp_next (by omega) fun v l' h0 h1 => ?_
  simp -implicitDefEqProofs [r1_int h0 (by omega : v ≤ 1000000)]
  refine wp_mono (lc_draw (P := fun x => 0 ≤ x ∧ x ≤ 9) (by simp) (fun x l => ?_) _ l') fun ds w' ⟨vs, l2, e1, e2, e3, e4⟩ => ?_
  · simp -implicitDefEqProofs
    refine wp_next (by omega) fun v l' h0 h1 => ?_
    simp -implicitDefEqProofs
    omega
  · subst e1 e2
    have hv : v ≤ (sizeLine : Int) := by rw [size_eq]; omega
    rw [rangeL_len] at e3
    simp -implicitDefEqProofs [hv]
    subst hR
    exact ⟨vs, l2, rfl, rfl, by omega, e4⟩
theorem s2 (sc : D) (i : Int) (runs : List Int) (hr : runs.length ≤ 3) (l : List Int) : wp (sSet (gName 4) (cOp1 tupD (cLc (itR1 (cOp2 addD (cOp1 lenD (cVar 3)) (cK (.int 1)))) (gName 9) tYes (cCall fnNext [cVar 1, cK (.int 5)]) [9])) [some sc, some tokW, some (.int i), some (tI runs), none, none, none, none, none, none, none, none, none, none, none, none, none, none, none, none, none] (some l))
    fun o w' => ∃ (people : List Int) (l' : List Int), o = .nx [some sc, some tokW, some (.int i), some (tI runs), some (tI people), none, none, none, none, none, none, none, none, none, none, none, none, none, none, none, none] ∧ w' = some l' ∧ people.length = runs.length + 1 ∧ ∀ x ∈ people, 0 ≤ x ∧ x ≤ 4 := by
  generalize hR : (fun (o : Out) (w' : Wd) => ∃ (people : List Int) (l' : List Int), o = .nx [some sc, some tokW, some (.int i), some (tI runs), some (tI people), none, none, none, none, none, none, none, none, none, none, none, none, none, none, none, none] ∧ w' = some l' ∧ people.length = runs.length + 1 ∧ ∀ x ∈ people, 0 ≤ x ∧ x ≤ 4) = R
  have hr1 : range1 (.int ((runs.length : Int) + 1)) = some (rangeL 0 (runs.length + 1)) := by
    have e : ((runs.length : Int) + 1) = ((runs.length + 1 : Nat) : Int) := by omega
    rw [e]; exact r1_nat (by rw [size_eq]; omega)
  unfold tI at *
  simp -implicitDefEqProofs [hr1]
  refine wp_mono (lc_draw (P := fun x => 0 ≤ x ∧ x ≤ 4) (by simp) (fun x l => ?_) _ l) fun ds w' ⟨vs, l2, e1, e2, e3, e4⟩ => ?_
  · simp -implicitDefEqProofs
    refine wp_next (by omega) fun v l' h0 h1 => ?_
    exact ⟨v, rfl, ⟨l', rfl⟩, by omega, by omega⟩
  · subst e1 e2
    have hv : runs.length + 1 ≤ sizeLine := by rw [size_eq]; omega
    rw [rangeL_len] at e3
    simp -implicitDefEqProofs [hv]
    subst hR
    exact ⟨vs, l2, rfl, rfl, by omega, e4⟩
theorem s3 (sc : D) (i : Int) (runs people : List Int) (l : List Int) : wp (sPar [gName 5, gName 6, gName 7, gName 8] [cLst [cOp2 addD (cK (.int 10)) (cCall fnNext [cVar 1, cK (.int 10)])], cCall fnNext [cVar 1, cK (.int 45)], cCall fnNext [cVar 1, cK (.int 20)], cCall fnNext [cVar 1, cK (.int 12)]] [some sc, some tokW, some (.int i), some (tI runs), some (tI people), none, none, none, none, none, none, none, none, none, none, none, none, none, none, none, none] (some l))
    fun o w' => ∃ (b step gap least : Int) (l' : List Int), o = .nx [some sc, some tokW, some (.int i), some (tI runs), some (tI people), some (.list ([b].map PyData.int)), some (.int step), some (.int gap), some (.int least), none, none, none, none, none, none, none, none, none, none, none, none] ∧ w' = some l' ∧ (0 ≤ b ∧ b ≤ 19) ∧ (0 ≤ step ∧ step ≤ 44) ∧ (0 ≤ gap ∧ gap ≤ 19) ∧ (0 ≤ least ∧ least ≤ 11) := by
  generalize hR : (fun (o : Out) (w' : Wd) => ∃ (b step gap least : Int) (l' : List Int), o = .nx [some sc, some tokW, some (.int i), some (tI runs), some (tI people), some (.list ([b].map PyData.int)), some (.int step), some (.int gap), some (.int least), none, none, none, none, none, none, none, none, none, none, none, none] ∧ w' = some l' ∧ (0 ≤ b ∧ b ≤ 19) ∧ (0 ≤ step ∧ step ≤ 44) ∧ (0 ≤ gap ∧ gap ≤ 19) ∧ (0 ≤ least ∧ least ≤ 11)) = R
  unfold tI at *
  simp -implicitDefEqProofs
  refine wp_next (by omega) fun v1 l1 a1 b1 => ?_
  simp -implicitDefEqProofs
  refine wp_next (by omega) fun v2 l2 a2 b2 => ?_
  try simp -implicitDefEqProofs
  refine wp_next (by omega) fun v3 l3 a3 b3 => ?_
  try simp -implicitDefEqProofs
  refine wp_next (by omega) fun v4 l4 a4 b4 => ?_
  try simp -implicitDefEqProofs
  subst hR
  exact ⟨10 + v1, v2, v3, v4, l4, rfl, rfl, by omega, by omega, by omega, by omega⟩
def eB (sc : D) (i : Int) (runs people : List Int) (step gap least : Int) (bs : List Int) : Q.Env := [some sc, some tokW, some (.int i), some (tI runs), some (tI people), some (.list (bs.map PyData.int)), some (.int step), some (.int gap), some (.int least), none, none, none, none, none, none, none, none, none, none, none, none]
theorem s4 (sc : D) (i : Int) (runs people : List Int) (step gap least b : Int) (hb : 0 ≤ b ∧ b ≤ 19) (l : List Int) : wp (sFor (itR1 (cCall fnNext [cVar 1, cK (.int 5)])) (gName 9) b_law_0 [9] (eB sc i runs people step gap least [b]) (some l))
    fun o w' => ∃ (bs : List Int) (l' : List Int), o = .nx (eB sc i runs people step gap least bs) ∧ w' = some l' ∧ bs.length ≤ 5 ∧ ∀ x ∈ bs, 0 ≤ x ∧ x ≤ 100 := by
  generalize hR : (fun (o : Out) (w' : Wd) => ∃ (bs : List Int) (l' : List Int), o = .nx (eB sc i runs people step gap least bs) ∧ w' = some l' ∧ bs.length ≤ 5 ∧ ∀ x ∈ bs, 0 ≤ x ∧ x ≤ 100) = R
  have e0 : itR1 (cCall fnNext [cVar 1, cK (.int 5)]) (eB sc i runs people step gap least [b]) (some l) = bnd (fnNext [tokW, .int 5] (some l)) fun x w1 => lft (range1 x) w1 := by
    unfold eB
    simp -implicitDefEqProofs
  rw [s_sFor, e0, wp_bnd, wp_bnd]
  refine wp_next (by omega) fun v l' h0 h1 => ?_
  rw [r1_int h0 (by omega : v ≤ 1000000), lft_some, wp_some]
  refine wp_range (fun k g w' => ∃ (bs : List Int) (l2 : List Int), wipeE g [9] = eB sc i runs people step gap least bs ∧ w' = some l2 ∧ bs.length = k + 1 ∧ ∀ x ∈ bs, 0 ≤ x ∧ x ≤ 19 + 9 * (k : Int)) ⟨[b], l', rfl, rfl, rfl, fun x hx => by
      simp only [List.mem_singleton] at hx; subst hx; omega⟩ (fun k g w' hk ⟨bs, l2, hg, hw, hl, hx⟩ => ?_) fun g w' ⟨bs, l2, hg, hw, hl, hx⟩ => ?_
  · subst hw
    have hlast : L2.atI (bs.map PyData.int) (-1) = some (.int (getI bs (bs.length - 1))) := neg1_getI (by omega)
    have hbl := getI_bnd (P := fun x => 0 ≤ x ∧ x ≤ 19 + 9 * (k : Int)) hx (show bs.length - 1 < bs.length by omega)
    have hz : ∀ x : D, apD (.list (bs.map .int)) x = some (.list (bs.map .int ++ [x])) := fun x => apD_l (by rw [size_eq]; simp; omega)
    generalize hR2 : aftS _ R [9] k = R2
    unfold turn b_law_0
    rw [hg]
    unfold eB tI
    simp -implicitDefEqProofs [hlast]
    refine wp_next (by omega) fun v2 l3 a2 b2 => ?_
    simp -implicitDefEqProofs [hz]
    subst hR2
    refine ⟨bs ++ [getI bs (bs.length - 1) + 1 + v2], l3, by simp [eB, tI], rfl, by simp; omega, fun x hx2 => ?_⟩
    rcases List.mem_append.mp hx2 with h | h
    · have := hx x h; omega
    · simp only [List.mem_singleton] at h; subst h; omega
  · subst hw
    rw [hg]
    subst hR
    exact ⟨bs, l2, rfl, rfl, by omega, fun x h => by have := hx x h; omega⟩
theorem s5 (sc : D) (i : Int) (runs people : List Int) (step gap least : Int) (bs : List Int) (h5 : bs.length ≤ 5) (hx : ∀ x ∈ bs, 0 ≤ x ∧ x ≤ 100) (l : List Int) : wp (sSet (gName 5) (cIf (tCmp gtD (cCall fnNext [cVar 1, cK (.int 8)]) (cK (.int 0))) (cOp1 tupD (cVar 5)) (cTup [])) (eB sc i runs people step gap least bs) (some l))
    fun o w' => ∃ (bs : List Int) (l' : List Int), o = .nx [some sc, some tokW, some (.int i), some (tI runs), some (tI people), some (tI bs), some (.int step), some (.int gap), some (.int least), none, none, none, none, none, none, none, none, none, none, none, none] ∧ w' = some l' ∧ bs.length ≤ 5 ∧ ∀ x ∈ bs, 0 ≤ x ∧ x ≤ 100 := by
  generalize hR : (fun (o : Out) (w' : Wd) => ∃ (bs : List Int) (l' : List Int), o = .nx [some sc, some tokW, some (.int i), some (tI runs), some (tI people), some (tI bs), some (.int step), some (.int gap), some (.int least), none, none, none, none, none, none, none, none, none, none, none, none] ∧ w' = some l' ∧ bs.length ≤ 5 ∧ ∀ x ∈ bs, 0 ≤ x ∧ x ≤ 100) = R
  unfold eB
  simp -implicitDefEqProofs
  refine wp_next (by omega) fun v l' h0 h1 => ?_
  by_cases hv : 0 < v
  · simp -implicitDefEqProofs [hv]
    subst hR
    exact ⟨bs, l', rfl, rfl, h5, hx⟩
  · simp -implicitDefEqProofs [hv]
    subst hR
    exact ⟨[], l', rfl, rfl, by simp, fun x h => by simp at h⟩
theorem s6 (sc : D) (i : Int) (runs people : List Int) (step gap least : Int) (bs : List Int) (hp : 0 < people.length) (l : List Int) : wp (sSet (gName 10) (cCall fnNext [cVar 1, cOp1 lenD (cVar 4)]) [some sc, some tokW, some (.int i), some (tI runs), some (tI people), some (tI bs), some (.int step), some (.int gap), some (.int least), none, none, none, none, none, none, none, none, none, none, none, none] (some l))
    fun o w' => ∃ (hold : Nat) (l' : List Int), o = .nx [some sc, some tokW, some (.int i), some (tI runs), some (tI people), some (tI bs), some (.int step), some (.int gap), some (.int least), none, some (.int (hold : Nat)), none, none, none, none, none, none, none, none, none, none] ∧ w' = some l' ∧ hold < people.length := by
  generalize hR : (fun (o : Out) (w' : Wd) => ∃ (hold : Nat) (l' : List Int), o = .nx [some sc, some tokW, some (.int i), some (tI runs), some (tI people), some (tI bs), some (.int step), some (.int gap), some (.int least), none, some (.int (hold : Nat)), none, none, none, none, none, none, none, none, none, none] ∧ w' = some l' ∧ hold < people.length) = R
  unfold tI at *
  simp -implicitDefEqProofs
  refine wp_next (by omega) fun v l' h0 h1 => ?_
  obtain ⟨n, rfl⟩ : ∃ n : Nat, v = n := ⟨v.toNat, by omega⟩
  try simp -implicitDefEqProofs
  subst hR
  exact ⟨n, l', rfl, rfl, by omega⟩
end W

set_option Elab.async false
set_option linter.all false
set_option autoImplicit false
set_option maxRecDepth 100000
namespace W
open PySem PySem.W Q
theorem alike_is : ∀ n, f_law_alike n = fAl n
  | 0 => rfl
  | n + 1 => by
    show bodyFn 2 3 (b_law_alike (f_law_alike n)) = bodyFn 2 3 (bAlike (fAl n))
    rw [alike_is n]
    rfl
theorem low_lI (l : List Int) : Low 60 (.list (l.map .int)) := (Low.l (n := 1) fun x hx => by
  obtain ⟨i, _, rfl⟩ := List.mem_map.mp hx
  exact Low.i 1 i).mono (by omega)
theorem alk_tI {n : Nat} {l : List Int} (h : l.length ≤ 1000000) : Alk (n + 2) (tI l) := Alk.t (by simpa using h) fun x hx => by
  obtain ⟨i, _, rfl⟩ := List.mem_map.mp hx
  exact Alk.i
theorem alk_tT {n m : Nat} {t : List (List Int)} (hm : m ≤ 1000000) (hr : Rect m t) (h : t.length ≤ 1000000) : Alk (n + 3) (tT t) := Alk.t (by simpa using h) fun x hx => by
  obtain ⟨r, hr2, rfl⟩ := List.mem_map.mp hx
  exact alk_tI (by rw [hr r hr2]; exact hm)
section
variable (sc : D) (i : Int) (c : Cfg) (bs : List Int) (least : Int) (hold : Nat) (T : List (List Int)) (KL : List D) (bd : D) (n : Nat) (w : Wd)
theorem s7 (h : c.Ok) (h0 : c.hold = none) (h1 : c.least = 0) (hb : bs.length ≤ 1000) (hT : c.tab bs bs.length = T) : (sSet (gName 11) (cCall f_law_run [cVar 5, cVar 3, cVar 4, cVar 6, cVar 7, cK .none, cK (.int 0)])) [some sc, some tokW, some (.int i), some (tI c.runs), some (tI c.people), some (tI bs), some (.int c.step), some (.int c.gap), some (.int least), none, some (.int (hold : Nat)), none, none, none, none, none, none, none, none, none, none] w = some (.nx [some sc, some tokW, some (.int i), some (tI c.runs), some (tI c.people), some (tI bs), some (.int c.step), some (.int c.gap), some (.int least), none, some (.int (hold : Nat)), some (tT T), none, none, none, none, none, none, none, none, none], w) := by
  have e := lr_eq c h bs hb w
  rw [h0, h1, hT] at e
  simp only [hD] at e
  generalize tT T = x at *
  generalize tI c.runs = x3 at *
  generalize tI c.people = x4 at *
  generalize tI bs = x5 at *
  simp -implicitDefEqProofs [e]
theorem s8 (h : c.Ok) (hb : bs.length ≤ 1000) : (sSet (gName 12) (cLc (itR1 (cOp1 lenD (cVar 4))) (gName 17) (tYes) (cCall f_law_run [cVar 5, cVar 3, cVar 4, cVar 6, cVar 7, cVar 17, cVar 8]) [17])) [some sc, some tokW, some (.int i), some (tI c.runs), some (tI c.people), some (tI bs), some (.int c.step), some (.int c.gap), some (.int least), none, some (.int (hold : Nat)), some (tT T), none, none, none, none, none, none, none, none, none] w = some (.nx [some sc, some tokW, some (.int i), some (tI c.runs), some (tI c.people), some (tI bs), some (.int c.step), some (.int c.gap), some (.int least), none, some (.int (hold : Nat)), some (tT T), some (.list ((List.range c.people.length).map fun s => tT (kept c least bs s))), none, none, none, none, none, none, none, none], w) := by
  have hl := h.len
  have hf := h.few
  have hr : range1 (.int (c.people.length : Int)) = some (rangeL 0 c.people.length) := r1_nat (by rw [size_eq]; omega)
  have hz : c.people.length ≤ sizeLine := by rw [size_eq]; omega
  have e : lcLoop (gName 17) tYes (cCall f_law_run [cVar 5, cVar 3, cVar 4, cVar 6, cVar 7, cVar 17, cVar 8]) [some sc, some tokW, some (.int i), some (tI c.runs), some (tI c.people), some (tI bs), some (.int c.step), some (.int c.gap), some (.int least), none, some (.int (hold : Nat)), some (tT T), none, none, none, none, none, none, none, none, none] (rangeL 0 c.people.length) w = some ((List.range c.people.length).map fun s => tT (kept c least bs s), w) := by
    refine lc_rmap _ fun s hs => ?_
    have e := lr_eq (c.at least (some s)) (h.at _ _) bs hb w
    have e : f_law_run [tI bs, tI c.runs, tI c.people, .int c.step, .int c.gap, .int (s : Int), .int least] w = some (tT (kept c least bs s), w) := e
    unfold turnE
    generalize tT (kept c least bs s) = x at *
    generalize tI c.runs = x3 at *
    generalize tI c.people = x4 at *
    generalize tI bs = x5 at *
    simp -implicitDefEqProofs [e]
  unfold tI at *
  simp -implicitDefEqProofs [hr, e, hz]
theorem s9 (h : c.Ok) (h0 : c.hold = none) (h1 : c.least = 0) (hb : bs.length ≤ 1000) (hT : c.tab bs bs.length = T) (hbd : bestD c least bs = some bd) : (sSet (gName 13) (cTup [cCall f_run_buses [cVar 5, cVar 3, cVar 4, cVar 6, cVar 7], cCall f_held [cVar 5, cVar 3, cVar 4, cVar 6, cVar 7, cVar 10, cVar 8], cCall f_best_hold [cVar 5, cVar 3, cVar 4, cVar 6, cVar 7, cVar 8]])) [some sc, some tokW, some (.int i), some (tI c.runs), some (tI c.people), some (tI bs), some (.int c.step), some (.int c.gap), some (.int least), none, some (.int (hold : Nat)), some (tT T), some (.list KL), none, none, none, none, none, none, none, none] w = some (.nx [some sc, some tokW, some (.int i), some (tI c.runs), some (tI c.people), some (tI bs), some (.int c.step), some (.int c.gap), some (.int least), none, some (.int (hold : Nat)), some (tT T), some (.list KL), some (.tuple [tT T, tT (kept c least bs hold), bd]), none, none, none, none, none, none, none], w) := by
  have e1 := run_buses_eq c h h0 h1 bs hb w
  have e2 := held_eq (c.at least (some hold)) (h.at _ _) bs hb w
  have e2 : f_held [tI bs, tI c.runs, tI c.people, .int c.step, .int c.gap, .int (hold : Int), .int least] w = some (tT (kept c least bs hold), w) := e2
  have e3 := bh_eq c h least bs hb bd hbd w
  rw [hT] at e1
  generalize tT (kept c least bs hold) = x at *
  generalize tT T = x2 at *
  generalize tI c.runs = x3 at *
  generalize tI c.people = x4 at *
  generalize tI bs = x5 at *
  simp -implicitDefEqProofs [e1, e2, e3]
theorem s10 (h : c.Ok) (hb : bs.length ≤ 1000) (hbd : bestD c least bs = some bd) : (sSet (gName 14) (cOp1 minD1 (cLc (itR1 (cOp1 lenD (cVar 4))) (gName 17) (tYes) (cTup [cCall f_law_spread [cOp2 ixD (cVar 12) (cVar 17), cOp1 lenD (cVar 3)], cVar 17]) [17]))) [some sc, some tokW, some (.int i), some (tI c.runs), some (tI c.people), some (tI bs), some (.int c.step), some (.int c.gap), some (.int least), none, some (.int (hold : Nat)), some (tT T), some (.list ((List.range c.people.length).map fun s => tT (kept c least bs s))), some (.tuple [tT T, tT (kept c least bs hold), bd]), none, none, none, none, none, none, none] w = some (.nx [some sc, some tokW, some (.int i), some (tI c.runs), some (tI c.people), some (tI bs), some (.int c.step), some (.int c.gap), some (.int least), none, some (.int (hold : Nat)), some (tT T), some (.list ((List.range c.people.length).map fun s => tT (kept c least bs s))), some (.tuple [tT T, tT (kept c least bs hold), bd]), some (bd), none, none, none, none, none, none], w) := by
  have hl := h.len
  have hf := h.few
  have hr : range1 (.int (c.people.length : Int)) = some (rangeL 0 c.people.length) := r1_nat (by rw [size_eq]; omega)
  have hz : c.people.length ≤ sizeLine := by rw [size_eq]; omega
  have e : lcLoop (gName 17) tYes (cTup [cCall f_law_spread [cOp2 ixD (cVar 12) (cVar 17), cOp1 lenD (cVar 3)], cVar 17]) [some sc, some tokW, some (.int i), some (tI c.runs), some (tI c.people), some (tI bs), some (.int c.step), some (.int c.gap), some (.int least), none, some (.int (hold : Nat)), some (tT T), some (.list ((List.range c.people.length).map fun s => tT (kept c least bs s))), some (.tuple [tT T, tT (kept c least bs hold), bd]), none, none, none, none, none, none, none] (rangeL 0 c.people.length) w = some ((List.range c.people.length).map (rowB c least bs), w) := by
    refine lc_rmap _ fun s hs => ?_
    have e2 := ls_eq (kept_rect c least bs s) (by rw [kept_len]; exact hb) (show c.runs.length < c.people.length by omega) w
    have e3 : L2.atI ((List.range c.people.length).map fun s => tT (kept c least bs s)) (s : Int) = some (tT (kept c least bs s)) := by
      rw [atI_lt _ (by simpa using hs)]
      simp
    unfold turnE rowB
    generalize ((List.range c.people.length).map fun s => tT (kept c least bs s)) = KL at *
    generalize kept c least bs s = t at *
    unfold tI tT at *
    simp -implicitDefEqProofs [e2, e3]
  unfold bestD at hbd
  generalize ((List.range c.people.length).map fun s => tT (kept c least bs s)) = KL at *
  generalize (List.range c.people.length).map (rowB c least bs) = RL at *
  unfold tI at *
  simp -implicitDefEqProofs [hr, e, hz, hbd]
theorem s11 (h : c.Ok) (hb : bs.length ≤ 1000) (hT : Rect c.people.length T) (hTl : T.length ≤ 1000) (hh : hold < c.people.length) (ha : Alk 2 bd) : (sIf (tNot (tVal (cCall (f_law_alike 12) [cVar 13, cTup [cVar 11, cOp2 ixD (cVar 12) (cVar 10), cVar 14]]))) (sRet (cK (.bool false))) (sPass)) [some sc, some tokW, some (.int i), some (tI c.runs), some (tI c.people), some (tI bs), some (.int c.step), some (.int c.gap), some (.int least), none, some (.int (hold : Nat)), some (tT T), some (.list ((List.range c.people.length).map fun s => tT (kept c least bs s))), some (.tuple [tT T, tT (kept c least bs hold), bd]), some (bd), none, none, none, none, none, none] w = some (.nx [some sc, some tokW, some (.int i), some (tI c.runs), some (tI c.people), some (tI bs), some (.int c.step), some (.int c.gap), some (.int least), none, some (.int (hold : Nat)), some (tT T), some (.list ((List.range c.people.length).map fun s => tT (kept c least bs s))), some (.tuple [tT T, tT (kept c least bs hold), bd]), some (bd), none, none, none, none, none, none], w) := by
  have hl := h.len
  have hf := h.few
  have e3 : L2.atI ((List.range c.people.length).map fun s => tT (kept c least bs s)) (hold : Int) = some (tT (kept c least bs hold)) := by
    rw [atI_lt _ (by simpa using hh)]
    simp
  have ea := alike_refl 12 (.tuple [tT T, tT (kept c least bs hold), bd]) (Alk.t (by simp) fun x hx => by
    simp only [List.mem_cons, List.not_mem_nil, or_false] at hx
    rcases hx with rfl | rfl | rfl
    · exact alk_tT (m := c.people.length) (by omega) hT (by omega)
    · exact alk_tT (m := c.people.length) (by omega) (kept_rect c least bs hold) (by rw [kept_len]; omega)
    · exact ha.ge (by omega)) w
  rw [alike_is]
  generalize ((List.range c.people.length).map fun s => tT (kept c least bs s)) = KL at *
  generalize tT (kept c least bs hold) = x at *
  generalize tT T = x2 at *
  simp -implicitDefEqProofs [e3, ea]
theorem s12 : (sPar [gName 15, gName 16] [cLst [], cK (.int 0)]) [some sc, some tokW, some (.int i), some (tI c.runs), some (tI c.people), some (tI bs), some (.int c.step), some (.int c.gap), some (.int least), none, some (.int (hold : Nat)), some (tT T), some (.list KL), some (.tuple [tT T, tT (kept c least bs hold), bd]), some (bd), none, none, none, none, none, none] w = some (.nx [some sc, some tokW, some (.int i), some (tI c.runs), some (tI c.people), some (tI bs), some (.int c.step), some (.int c.gap), some (.int least), none, some (.int (hold : Nat)), some (tT T), some (.list KL), some (.tuple [tT T, tT (kept c least bs hold), bd]), some (bd), some (.list []), some (.int 0), none, none, none, none], w) := by
  simp -implicitDefEqProofs
theorem s13t (hn : n ≤ 1000) (hp : c.people.length = n) (hT : Rect n T) (hTl : T.length ≤ 1000) (k : Nat) (hk : k < T.length - 1) :
    ∃ g, turn (gName 9) b_law_1 [9] (.int (1 + (k : Int))) [some sc, some tokW, some (.int i), some (tI c.runs), some (tI c.people), some (tI bs), some (.int c.step), some (.int c.gap), some (.int least), none, some (.int (hold : Nat)), some (tT T), some (.list KL), some (.tuple [tT T, tT (kept c least bs hold), bd]), some (bd), some (.list (allB T n least (k))), some (.int 0), none, none, none, none] w = some (.nx g, w) ∧ wipeE g [9] = [some sc, some tokW, some (.int i), some (tI c.runs), some (tI c.people), some (tI bs), some (.int c.step), some (.int c.gap), some (.int least), none, some (.int (hold : Nat)), some (tT T), some (.list KL), some (.tuple [tT T, tT (kept c least bs hold), bd]), some (bd), some (.list (allB T n least (k + 1))), some (.int 0), none, none, none, none] := by
  obtain ⟨r1, r2, l1, l2⟩ := rows_at hT (show k + 1 < T.length by omega)
  have hr : range1 (.int (c.people.length : Int)) = some (rangeL 0 n) := by rw [hp]; exact r1_nat (by rw [size_eq]; omega)
  have e : ∀ g : Q.Env, g.length = 21 → (g[11]?).join = some (tT T) → (g[8]?).join = some (.int least) → (g[9]?).join = some (.int (1 + (k : Int))) → lcLoop (gName 17) (tCmp ltD (cOp2 subD (cOp2 ixD (cOp2 ixD (cVar 11) (cVar 9)) (cVar 17)) (cOp2 ixD (cOp2 ixD (cVar 11) (cOp2 subD (cVar 9) (cK (.int 1)))) (cVar 17))) (cVar 8)) (cTup [cVar 9, cVar 17]) g (rangeL 0 n) w
      = some (inB T n least k, w) := fun g hg h11 h8 h9 => by
    refine lc_rfilter (nearB T least k) _ fun s hs => ?_
    have a1 : L2.atI ((getR T k).map PyData.int) (s : Int) = some (.int (getI (getR T k) s)) := at_getI (by omega)
    have a2 : L2.atI ((getR T (k + 1)).map PyData.int) (s : Int) = some (.int (getI (getR T (k + 1)) s)) := at_getI (by omega)
    unfold turnE
    unfold tI at r1 r2
    unfold tT at h11
    unfold tI at *
    unfold nearB
    rw [s_gName, if_pos (by omega)]
    cases hd : decide (getI (getR T (k + 1)) s - getI (getR T k) s < least)
    · simp -implicitDefEqProofs [r1, r2, a1, a2, hd, h11, h8, h9, List.getElem?_set_self (show 17 < g.length by omega)]
    · simp -implicitDefEqProofs [r1, r2, a1, a2, hd, h11, h8, h9, List.getElem?_set_self (show 17 < g.length by omega)]
  have hx : addD (.list (allB T n least k)) (.list (inB T n least k)) = some (.list (allB T n least (k + 1))) := by
    have h1 := allB_len T n least k
    have h2 := inB_len T n least k
    have h3 := sz_B hn (show k ≤ 1000 by omega)
    rw [allB_succ]
    exact if_pos (by omega)
  have hz : n ≤ sizeLine := by rw [size_eq]; omega
  have e2 := fun g h1 h2 h3 h4 => e g h1 h2 h3 h4
  unfold turn b_law_1
  generalize inB T n least k = x at *
  generalize allB T n least (k + 1) = y at *
  generalize tT T = z at *
  unfold tI at *
  simp -implicitDefEqProofs [hr, e2, hx, hz]
theorem s13 (hn : n ≤ 1000) (hp : c.people.length = n) (hT : Rect n T) (hTl : T.length ≤ 1000) : (sFor (itR2 (cK (.int 1)) (cOp1 lenD (cVar 11))) (gName 9) (b_law_1) [9]) [some sc, some tokW, some (.int i), some (tI c.runs), some (tI c.people), some (tI bs), some (.int c.step), some (.int c.gap), some (.int least), none, some (.int (hold : Nat)), some (tT T), some (.list KL), some (.tuple [tT T, tT (kept c least bs hold), bd]), some (bd), some (.list []), some (.int 0), none, none, none, none] w = some (.nx [some sc, some tokW, some (.int i), some (tI c.runs), some (tI c.people), some (tI bs), some (.int c.step), some (.int c.gap), some (.int least), none, some (.int (hold : Nat)), some (tT T), some (.list KL), some (.tuple [tT T, tT (kept c least bs hold), bd]), some (bd), some (.list (allB T n least (T.length - 1))), some (.int 0), none, none, none, none], w) := by
  have hr : range2 (.int ((1 : Nat) : Int)) (.int (T.length : Int)) = some (rangeL ((1 : Nat) : Int) (T.length - 1)) := r2_nat (by rw [size_eq]; omega) (by rw [size_eq]; omega)
  have hr : range2 (.int 1) (.int (T.length : Int)) = some (rangeL 1 (T.length - 1)) := hr
  have e := loop_eq (t := gName 9) (b := b_law_1) (vs := [9]) (lo := 1) (n := T.length - 1) (w := w) (fun k => [some sc, some tokW, some (.int i), some (tI c.runs), some (tI c.people), some (tI bs), some (.int c.step), some (.int c.gap), some (.int least), none, some (.int (hold : Nat)), some (tT T), some (.list KL), some (.tuple [tT T, tT (kept c least bs hold), bd]), some (bd), some (.list (allB T n least (k))), some (.int 0), none, none, none, none]) (fun k hk => s13t sc i c bs least hold T KL bd n w hn hp hT hTl k hk)
  have e0 : allB T n least 0 = [] := rfl
  rw [e0] at e
  unfold tT at *
  simp -implicitDefEqProofs [hr, e]
theorem s14t (hn : n ≤ 1000) (hp : c.people.length = n) (hs : ∀ s, s < n → small64 (getI c.people s) = true) (hT : Rect n T) (hB : Bnd T) (hTl : T.length ≤ 1000) (s : Nat) (hsn : s < n) :
    ∃ g, turn (gName 17) b_law_2 [17] (.int (0 + (s : Int))) [some sc, some tokW, some (.int i), some (tI c.runs), some (tI c.people), some (tI bs), some (.int c.step), some (.int c.gap), some (.int least), none, some (.int (hold : Nat)), some (tT T), some (.list KL), some (.tuple [tT T, tT (kept c least bs hold), bd]), some (bd), some (.list (allB T n least (T.length - 1))), some (.int (waitF T c.people (s))), none, none, none, none] w = some (.nx g, w) ∧ wipeE g [17] = [some sc, some tokW, some (.int i), some (tI c.runs), some (tI c.people), some (tI bs), some (.int c.step), some (.int c.gap), some (.int least), none, some (.int (hold : Nat)), some (tT T), some (.list KL), some (.tuple [tT T, tT (kept c least bs hold), bd]), some (bd), some (.list (allB T n least (T.length - 1))), some (.int (waitF T c.people (s + 1))), none, none, none, none] := by
  have a1 : L2.atI (c.people.map PyData.int) (s : Int) = some (.int (getI c.people s)) := at_getI (by omega)
  have hg := lg_eq hT hTl hsn w
  have hm : ∀ x, mulI (.int (getI c.people s)) (.int x) = some (.int (getI c.people s * x)) := fun x => mulI_l (hs s hsn)
  have e := fun g hv => sq_lc (gaps_small hT hB hsn) g 20 hv w
  have hz : (gapsZ T s).length ≤ sizeLine := by rw [gapsZ_len, size_eq]; omega
  have hsum := sum_sq (gapsZ T s)
  unfold turn b_law_2
  rw [waitF]
  generalize gapsZ T s = l at *
  generalize tT T = z at *
  generalize allB T n least (T.length - 1) = y at *
  unfold tI at *
  simp -implicitDefEqProofs [a1, hg, hm, e, hz, hsum]
theorem s14 (hn : n ≤ 1000) (hp : c.people.length = n) (hs : ∀ s, s < n → small64 (getI c.people s) = true) (hT : Rect n T) (hB : Bnd T) (hTl : T.length ≤ 1000) : (sFor (itR1 (cOp1 lenD (cVar 4))) (gName 17) (b_law_2) [17]) [some sc, some tokW, some (.int i), some (tI c.runs), some (tI c.people), some (tI bs), some (.int c.step), some (.int c.gap), some (.int least), none, some (.int (hold : Nat)), some (tT T), some (.list KL), some (.tuple [tT T, tT (kept c least bs hold), bd]), some (bd), some (.list (allB T n least (T.length - 1))), some (.int 0), none, none, none, none] w = some (.nx [some sc, some tokW, some (.int i), some (tI c.runs), some (tI c.people), some (tI bs), some (.int c.step), some (.int c.gap), some (.int least), none, some (.int (hold : Nat)), some (tT T), some (.list KL), some (.tuple [tT T, tT (kept c least bs hold), bd]), some (bd), some (.list (allB T n least (T.length - 1))), some (.int (waitF T c.people n)), none, none, none, none], w) := by
  have hr : range1 (.int (c.people.length : Int)) = some (rangeL 0 n) := by rw [hp]; exact r1_nat (by rw [size_eq]; omega)
  have e := loop_eq (t := gName 17) (b := b_law_2) (vs := [17]) (lo := 0) (n := n) (w := w) (fun s => [some sc, some tokW, some (.int i), some (tI c.runs), some (tI c.people), some (tI bs), some (.int c.step), some (.int c.gap), some (.int least), none, some (.int (hold : Nat)), some (tT T), some (.list KL), some (.tuple [tT T, tT (kept c least bs hold), bd]), some (bd), some (.list (allB T n least (T.length - 1))), some (.int (waitF T c.people (s))), none, none, none, none]) (fun s hsn => s14t sc i c bs least hold T KL bd n w hn hp hs hT hB hTl s hsn)
  simp only [waitF] at e
  generalize allB T n least (T.length - 1) = y at *
  generalize tT T = z at *
  unfold tI at *
  simp -implicitDefEqProofs [hr, e]
theorem s15 (hn : n ≤ 1000) (hp : c.people.length = n) (hs : ∀ s, s < n → small64 (getI c.people s) = true) (hT : Rect n T) (hB : Bnd T) (hTl : T.length ≤ 1000) (hh : hold < n) : (sSet (gName 13) (cTup [cCall f_gaps_behind [cVar 11, cVar 10], cCall f_bunched [cVar 11, cVar 8], cCall f_spread_gap [cVar 11, cVar 10], cCall f_whole_wait [cVar 11, cVar 4]])) [some sc, some tokW, some (.int i), some (tI c.runs), some (tI c.people), some (tI bs), some (.int c.step), some (.int c.gap), some (.int least), none, some (.int (hold : Nat)), some (tT T), some (.list KL), some (.tuple [tT T, tT (kept c least bs hold), bd]), some (bd), some (.list (allB T n least (T.length - 1))), some (.int (waitF T c.people n)), none, none, none, none] w = some (.nx [some sc, some tokW, some (.int i), some (tI c.runs), some (tI c.people), some (tI bs), some (.int c.step), some (.int c.gap), some (.int least), none, some (.int (hold : Nat)), some (tT T), some (.list KL), some (.tuple [tI (gapsZ T hold), .tuple (allB T n least (T.length - 1)), .int (spread (gapsZ T hold)), .int (waitF T c.people n)]), some (bd), some (.list (allB T n least (T.length - 1))), some (.int (waitF T c.people n)), none, none, none, none], w) := by
  have e1 := gb_eq hT hTl hh w
  have e2 := bunched_eq hT hn hTl least w
  have e3 := sg_eq hT hTl hh w
  have e4 := ww_eq hT hB hTl c.people hp hn hs w
  generalize allB T n least (T.length - 1) = y at *
  generalize tT T = z at *
  generalize tI c.people = x4 at *
  generalize tI (gapsZ T hold) = x5 at *
  simp -implicitDefEqProofs [e1, e2, e3, e4]
theorem alk_B : Alk 3 (.tuple (allB T n least (T.length - 1))) ↔ (allB T n least (T.length - 1)).length ≤ 1000000 := by
  constructor
  · intro h; unfold Alk at h; exact h.1
  · intro h
    refine Alk.t h fun x hx => ?_
    obtain ⟨k, _, hx⟩ := List.mem_flatMap.mp hx
    obtain ⟨s, _, rfl⟩ := List.mem_map.mp hx
    exact Alk.t (by simp) fun y hy => by
      simp only [List.mem_cons, List.not_mem_nil, or_false] at hy
      rcases hy with rfl | rfl <;> exact Alk.i
theorem s16 (hn : n ≤ 1000) (hT : Rect n T) (hTl : T.length ≤ 1000) (hh : hold < n) : (sIf (tNot (tVal (cCall (f_law_alike 12) [cVar 13, cTup [cCall f_law_gaps [cVar 11, cVar 10], cOp1 tupD (cVar 15), cCall f_law_spread [cVar 11, cVar 10], cVar 16]]))) (sRet (cK (.bool false))) (sPass)) [some sc, some tokW, some (.int i), some (tI c.runs), some (tI c.people), some (tI bs), some (.int c.step), some (.int c.gap), some (.int least), none, some (.int (hold : Nat)), some (tT T), some (.list KL), some (.tuple [tI (gapsZ T hold), .tuple (allB T n least (T.length - 1)), .int (spread (gapsZ T hold)), .int (waitF T c.people n)]), some (bd), some (.list (allB T n least (T.length - 1))), some (.int (waitF T c.people n)), none, none, none, none] w = some (.nx [some sc, some tokW, some (.int i), some (tI c.runs), some (tI c.people), some (tI bs), some (.int c.step), some (.int c.gap), some (.int least), none, some (.int (hold : Nat)), some (tT T), some (.list KL), some (.tuple [tI (gapsZ T hold), .tuple (allB T n least (T.length - 1)), .int (spread (gapsZ T hold)), .int (waitF T c.people n)]), some (bd), some (.list (allB T n least (T.length - 1))), some (.int (waitF T c.people n)), none, none, none, none], w) := by
  have e1 := lg_eq hT hTl hh w
  have e3 := ls_eq hT hTl hh w
  have hl : (allB T n least (T.length - 1)).length ≤ 1000000 := by
    have h1 := allB_len T n least (T.length - 1)
    have h2 : (T.length - 1) * n ≤ 1000 * 1000 := Nat.mul_le_mul (by omega) hn
    omega
  have ea := alike_refl 12 (.tuple [tI (gapsZ T hold), .tuple (allB T n least (T.length - 1)), .int (spread (gapsZ T hold)), .int (waitF T c.people n)]) (Alk.t (by simp) fun x hx => by
    simp only [List.mem_cons, List.not_mem_nil, or_false] at hx
    rcases hx with rfl | rfl | rfl | rfl
    · exact alk_tI (by rw [gapsZ_len]; omega)
    · exact ((alk_B least T n).mpr hl).ge (by omega)
    · exact Alk.i
    · exact Alk.i) w
  rw [alike_is]
  generalize allB T n least (T.length - 1) = y at *
  generalize tT T = z at *
  generalize tI (gapsZ T hold) = x5 at *
  simp -implicitDefEqProofs [e1, e3, ea]
theorem bg_range : bg bs = (List.range (bs.length - 1)).map fun k => getI bs (k + 1) - getI bs k := by
  unfold bg
  refine List.ext_getElem (by simp) fun i h1 h2 => ?_
  simp at h1 h2
  simp [getI, List.getD_eq_getElem?_getD, List.getElem?_eq_getElem (show i < bs.length by omega), List.getElem?_eq_getElem (show i + 1 < bs.length by omega), Nat.add_comm 1 i]
theorem s17 (hb : bs.length ≤ 1000) : (sSet (gName 18) (cLc (itR2 (cK (.int 1)) (cOp1 lenD (cVar 5))) (gName 9) (tYes) (cOp2 subD (cOp2 ixD (cVar 5) (cVar 9)) (cOp2 ixD (cVar 5) (cOp2 subD (cVar 9) (cK (.int 1))))) [9])) [some sc, some tokW, some (.int i), some (tI c.runs), some (tI c.people), some (tI bs), some (.int c.step), some (.int c.gap), some (.int least), none, some (.int (hold : Nat)), some (tT T), some (.list KL), some (.tuple [tI (gapsZ T hold), .tuple (allB T n least (T.length - 1)), .int (spread (gapsZ T hold)), .int (waitF T c.people n)]), some (bd), some (.list (allB T n least (T.length - 1))), some (.int (waitF T c.people n)), none, none, none, none] w = some (.nx [some sc, some tokW, some (.int i), some (tI c.runs), some (tI c.people), some (tI bs), some (.int c.step), some (.int c.gap), some (.int least), none, some (.int (hold : Nat)), some (tT T), some (.list KL), some (.tuple [tI (gapsZ T hold), .tuple (allB T n least (T.length - 1)), .int (spread (gapsZ T hold)), .int (waitF T c.people n)]), some (bd), some (.list (allB T n least (T.length - 1))), some (.int (waitF T c.people n)), none, some (.list ((bg bs).map PyData.int)), none, none], w) := by
  have hr : range2 (.int ((1 : Nat) : Int)) (.int (bs.length : Int)) = some (rangeL ((1 : Nat) : Int) (bs.length - 1)) := r2_nat (by rw [size_eq]; omega) (by rw [size_eq]; omega)
  have hr : range2 (.int 1) (.int (bs.length : Int)) = some (rangeL 1 (bs.length - 1)) := hr
  have e : ∀ g : Q.Env, g.length = 21 → (g[5]?).join = some (tI bs) → lcLoop (gName 9) tYes (cOp2 subD (cOp2 ixD (cVar 5) (cVar 9)) (cOp2 ixD (cVar 5) (cOp2 subD (cVar 9) (cK (.int 1))))) g (rangeL 1 (bs.length - 1)) w = some ((bg bs).map PyData.int, w) := fun g hg h5 => by
    rw [bg_range, List.map_map]
    refine lc_rmap _ fun k hk => ?_
    have r1 : L2.atI (bs.map PyData.int) (1 + (k : Int)) = some (.int (getI bs (k + 1))) := by
      rw [show (1 + (k : Int)) = ((k + 1 : Nat) : Int) by omega]; exact at_getI (by omega)
    have r2 : L2.atI (bs.map PyData.int) (1 + (k : Int) - 1) = some (.int (getI bs k)) := by
      rw [show (1 + (k : Int) - 1) = (k : Int) by omega]; exact at_getI (by omega)
    unfold turnE
    rw [s_gName, if_pos (by omega)]
    unfold tI at h5
    simp -implicitDefEqProofs [r1, r2, h5, List.getElem?_set_self (show 9 < g.length by omega)]
  have hz : bs.length ≤ sizeLine + 1 := by rw [size_eq]; omega
  have hl : lenD (tI bs) = some (.int (bs.length : Int)) := by unfold tI; simp
  generalize (bg bs).map PyData.int = z at *
  generalize allB T n least (T.length - 1) = y at *
  generalize tT T = z2 at *
  generalize tI bs = x5 at *
  simp -implicitDefEqProofs [hr, e, hz, hl]
theorem s18 (h0 : 0 < n) (hT : Rect n T) : (sSet (gName 19) (cIf (tCmp neD (cVar 11) (cTup [])) (cOp2 subD (cOp2 subD (cOp2 ixD (cOp2 ixD (cVar 11) (cOp1 negD (cK (.int 1)))) (cOp1 negD (cK (.int 1)))) (cOp2 ixD (cOp2 ixD (cVar 11) (cK (.int 0))) (cOp1 negD (cK (.int 1))))) (cOp2 subD (cOp2 ixD (cOp2 ixD (cVar 11) (cOp1 negD (cK (.int 1)))) (cK (.int 0))) (cOp2 ixD (cOp2 ixD (cVar 11) (cK (.int 0))) (cK (.int 0))))) (cK (.int 0)))) [some sc, some tokW, some (.int i), some (tI c.runs), some (tI c.people), some (tI bs), some (.int c.step), some (.int c.gap), some (.int least), none, some (.int (hold : Nat)), some (tT T), some (.list KL), some (.tuple [tI (gapsZ T hold), .tuple (allB T n least (T.length - 1)), .int (spread (gapsZ T hold)), .int (waitF T c.people n)]), some (bd), some (.list (allB T n least (T.length - 1))), some (.int (waitF T c.people n)), none, some (.list ((bg bs).map PyData.int)), none, none] w = some (.nx [some sc, some tokW, some (.int i), some (tI c.runs), some (tI c.people), some (tI bs), some (.int c.step), some (.int c.gap), some (.int least), none, some (.int (hold : Nat)), some (tT T), some (.list KL), some (.tuple [tI (gapsZ T hold), .tuple (allB T n least (T.length - 1)), .int (spread (gapsZ T hold)), .int (waitF T c.people n)]), some (bd), some (.list (allB T n least (T.length - 1))), some (.int (waitF T c.people n)), none, some (.list ((bg bs).map PyData.int)), some (.int (lateF T n)), none], w) := by
  generalize hg : ([some sc, some tokW, some (.int i), some (tI c.runs), some (tI c.people), some (tI bs), some (.int c.step), some (.int c.gap), some (.int least), none, some (.int (hold : Nat)), some (tT T), some (.list KL), some (.tuple [tI (gapsZ T hold), .tuple (allB T n least (T.length - 1)), .int (spread (gapsZ T hold)), .int (waitF T c.people n)]), some (bd), some (.list (allB T n least (T.length - 1))), some (.int (waitF T c.people n)), none, some (.list ((bg bs).map PyData.int)), none, none] : Q.Env) = g
  have hgl : g.length = 21 := by rw [← hg]; rfl
  have hg11 : (g[11]?).join = some (tT T) := by rw [← hg]; rfl
  have hn : neD (tT T) (.tuple []) = some (!T.isEmpty) := by
    rw [neD_low (low_tT T) low_t0]
    unfold tT
    rw [eqv_t0]
    simp
  have ht : (g.set 19 (some (.int (lateF T n)))) = [some sc, some tokW, some (.int i), some (tI c.runs), some (tI c.people), some (tI bs), some (.int c.step), some (.int c.gap), some (.int least), none, some (.int (hold : Nat)), some (tT T), some (.list KL), some (.tuple [tI (gapsZ T hold), .tuple (allB T n least (T.length - 1)), .int (spread (gapsZ T hold)), .int (waitF T c.people n)]), some (bd), some (.list (allB T n least (T.length - 1))), some (.int (waitF T c.people n)), none, some (.list ((bg bs).map PyData.int)), some (.int (lateF T n)), none] := by rw [← hg]; rfl
  rw [s_sSet, s_cIf, s_tCmp, s_cVar, hg11, lft_some, bnd_some, s_cTup, s_cArgs0, bnd_some, bnd_some, hn, lft_some, bnd_some]
  by_cases hne : T = []
  · have hlf : lateF T n = 0 := by rw [hne]; rfl
    have he : T.isEmpty = true := by rw [hne]; rfl
    rw [he, Bool.not_true, if_neg Bool.false_ne_true, s_cK, bnd_some, ← hlf, s_gName, if_pos (by omega), ht]
  · have hv := late_val h0 hT hne g 11 hg11 w
    have he : T.isEmpty = false := by cases T <;> simp_all
    rw [he, Bool.not_false, if_pos rfl, hv, bnd_some, s_gName, if_pos (by omega), ht]
theorem s19 (h0 : 0 < n) (hb : bs.length ≤ 1000) (hT : Rect n T) : (sIf (tNot (tVal (cCall (f_law_alike 12) [cTup [cCall f_steady [cVar 5], cCall f_late_last [cVar 11]], cTup [cT (tCmp eqD (cLc (itSeq (cVar 18)) (gName 20) (tCmp neD (cVar 20) (cOp2 ixD (cVar 18) (cK (.int 0)))) (cVar 20) [20]) (cLst [])), cVar 19]]))) (sRet (cK (.bool false))) (sPass)) [some sc, some tokW, some (.int i), some (tI c.runs), some (tI c.people), some (tI bs), some (.int c.step), some (.int c.gap), some (.int least), none, some (.int (hold : Nat)), some (tT T), some (.list KL), some (.tuple [tI (gapsZ T hold), .tuple (allB T n least (T.length - 1)), .int (spread (gapsZ T hold)), .int (waitF T c.people n)]), some (bd), some (.list (allB T n least (T.length - 1))), some (.int (waitF T c.people n)), none, some (.list ((bg bs).map PyData.int)), some (.int (lateF T n)), none] w = some (.nx [some sc, some tokW, some (.int i), some (tI c.runs), some (tI c.people), some (tI bs), some (.int c.step), some (.int c.gap), some (.int least), none, some (.int (hold : Nat)), some (tT T), some (.list KL), some (.tuple [tI (gapsZ T hold), .tuple (allB T n least (T.length - 1)), .int (spread (gapsZ T hold)), .int (waitF T c.people n)]), some (bd), some (.list (allB T n least (T.length - 1))), some (.int (waitF T c.people n)), none, some (.list ((bg bs).map PyData.int)), some (.int (lateF T n)), none], w) := by
  have e1 := st_eq bs hb w
  have e2 := ll_eq h0 hT w
  have e : ∀ g : Q.Env, g.length = 21 → (g[18]?).join = some (.list ((bg bs).map PyData.int)) → lcLoop (gName 20) (tCmp neD (cVar 20) (cOp2 ixD (cVar 18) (cK (.int 0)))) (cVar 20) g ((bg bs).map PyData.int) w = some (((bg bs).filter fun x => !decide (x = getI (bg bs) 0)).map PyData.int, w) := fun g hg h18 => by
    have key : ∀ (l l2 : List Int), l2 ≠ [] ∨ l = [] → (g[18]?).join = some (.list (l2.map PyData.int)) → lcLoop (gName 20) (tCmp neD (cVar 20) (cOp2 ixD (cVar 18) (cK (.int 0)))) (cVar 20) g (l.map PyData.int) w = some ((l.filter fun x => !decide (x = getI l2 0)).map PyData.int, w) := by
      intro l
      induction l with
      | nil => intro l2 _ _; rfl
      | cons x l ih =>
        intro l2 hne h18
        have hne2 : l2 ≠ [] := hne.resolve_right (by simp)
        have r0 : L2.atI (l2.map PyData.int) 0 = some (.int (getI l2 0)) := at_getI (i := 0) (List.length_pos_iff.mpr hne2)
        rw [List.map_cons, lc_cons]
        have ht : turnE (gName 20) (tCmp neD (cVar 20) (cOp2 ixD (cVar 18) (cK (.int 0)))) (cVar 20) (.int x) g w = some (if (!decide (x = getI l2 0)) = true then some (.int x) else none, w) := by
          unfold turnE
          rw [s_gName, if_pos (by omega)]
          cases hd : decide (x = getI l2 0)
          · simp -implicitDefEqProofs [h18, r0, hd, List.getElem?_set_self (show 20 < g.length by omega)]
          · simp -implicitDefEqProofs [h18, r0, hd, List.getElem?_set_self (show 20 < g.length by omega)]
        rw [ht, bnd_some, ih l2 (.inl hne2) h18, bnd_some, List.filter_cons]
        cases decide (x = getI l2 0) <;> rfl
    refine key _ _ ?_ h18
    by_cases h : bg bs = []
    · exact .inr h
    · exact .inl h
  have hz : (bg bs).length ≤ sizeLine := by rw [size_eq]; unfold bg; simp; omega
  have hc : eqD (.list (((bg bs).filter fun x => !decide (x = getI (bg bs) 0)).map PyData.int)) (.list []) = some (allSame (bg bs)) := by
    rw [eqD_low (low_lI _) low_l0, eqv_l0]
    congr 1
    unfold allSame
    generalize getI (bg bs) 0 = v
    induction bg bs with
    | nil => rfl
    | cons x l ih =>
      rw [List.filter_cons, List.all_cons, ← ih]
      cases decide (x = v) <;> simp
  have ea := alike_refl 12 (.tuple [.bool (allSame (bg bs)), .int (lateF T n)]) (Alk.t (by simp) fun x hx => by
    simp only [List.mem_cons, List.not_mem_nil, or_false] at hx
    rcases hx with rfl | rfl
    · exact Alk.b
    · exact Alk.i) w
  rw [alike_is]
  generalize allB T n least (T.length - 1) = y at *
  generalize tT T = z2 at *
  generalize tI bs = x5 at *
  generalize allSame (bg bs) = b1 at *
  generalize (bg bs).filter (fun x => !decide (x = getI (bg bs) 0)) = fl at *
  generalize bg bs = l at *
  simp -implicitDefEqProofs [e1, e2, e, hz, hc, ea]
end
end W

set_option Elab.async false
set_option linter.all false
set_option autoImplicit false
set_option maxRecDepth 100000
namespace W
open PySem PySem.W Q
def eLaw (sc : D) : Q.Env := [some sc, some tokW, none, none, none, none, none, none, none, none, none, none, none, none, none, none, none, none, none, none, none]
def lawVs : List Nat := [2, 3, 4, 5, 6, 7, 8, 9, 10, 11, 12, 13, 14, 15, 16, 17, 18, 19]
theorem law_turn (sc : D) (i : Int) (l : List Int) : wp (turn (gName 2) b_law_3 lawVs (.int i) (eLaw sc) (some l)) fun o w' => ∃ g l', o = .nx g ∧ w' = some l' ∧ wipeE g lawVs = eLaw sc := by
  have e0 : wipeE (eLaw sc) lawVs = eLaw sc := by simp [eLaw, lawVs]
  have e1 : gName 2 (.int i) (eLaw sc) = some [some sc, some tokW, some (.int i), none, none, none, none, none, none, none, none, none, none, none, none, none, none, none, none, none, none] := by simp [eLaw]
  unfold turn
  rw [e0, e1]
  dsimp only
  unfold b_law_3
  refine seq_wp (s1 sc i l) fun o w1 ⟨runs, l1, ho, hw, r1, r2⟩ => ?_
  subst ho hw
  rw [thenS_nx]
  refine seq_wp (s2 sc i runs r1 l1) fun o w1 ⟨people, l2, ho, hw, p1, p2⟩ => ?_
  subst ho hw
  rw [thenS_nx]
  refine seq_wp (s3 sc i runs people l2) fun o w1 ⟨b, step, gap, least, l3, ho, hw, hb, hst, hgp, hls⟩ => ?_
  subst ho hw
  rw [thenS_nx]
  refine seq_wp (s4 sc i runs people step gap least b hb l3) fun o w1 ⟨bs0, l4, ho, hw, hbs, hbx⟩ => ?_
  subst ho hw
  rw [thenS_nx]
  refine seq_wp (s5 sc i runs people step gap least bs0 hbs hbx l4) fun o w1 ⟨bs, l5, ho, hw, hbs, hbx⟩ => ?_
  subst ho hw
  rw [thenS_nx]
  refine seq_wp (s6 sc i runs people step gap least bs (by omega) l5) fun o w1 ⟨hold, l6, ho, hw, hh⟩ => ?_
  subst ho hw
  rw [thenS_nx]
  obtain ⟨c, hc1, hc2, hc3, hc4, hc5, hc6⟩ : ∃ c : Cfg, c.runs = runs ∧ c.people = people ∧ c.step = step ∧ c.gap = gap ∧ c.least = 0 ∧ c.hold = none := ⟨⟨runs, people, step, gap, 0, none⟩, rfl, rfl, rfl, rfl, rfl, rfl⟩
  subst hc1 hc2 hc3 hc4
  have hsm : c.Sm := ⟨p1, r1, hst, hgp, by omega, r2, p2⟩
  have hok := hsm.ok
  have hb1 : bs.length ≤ 1000 := by omega
  have hT : Rect c.people.length (c.tab bs bs.length) := c.tab_row bs bs.length
  have hTl : (c.tab bs bs.length).length ≤ 1000 := by rw [c.tab_len]; exact hb1
  have hB := tab_Bnd hsm hbx hbs
  have hn : c.people.length ≤ 1000 := by omega
  have h0 : 0 < c.people.length := by omega
  obtain ⟨bd, hbd, hal⟩ := best_some c least bs h0
  refine seq_det (s7 sc i c bs least hold _ (some l6) hok hc6 hc5 hb1 rfl) ?_
  refine seq_det (s8 sc i c bs least hold _ (some l6) hok hb1) ?_
  refine seq_det (s9 sc i c bs least hold _ _ bd (some l6) hok hc6 hc5 hb1 rfl hbd) ?_
  refine seq_det (s10 sc i c bs least hold _ bd (some l6) hok hb1 hbd) ?_
  refine seq_det (s11 sc i c bs least hold _ bd (some l6) hok hb1 hT hTl hh hal) ?_
  refine seq_det (s12 sc i c bs least hold _ _ bd (some l6)) ?_
  refine seq_det (s13 sc i c bs least hold _ _ bd c.people.length (some l6) hn rfl hT hTl) ?_
  refine seq_det (s14 sc i c bs least hold _ _ bd c.people.length (some l6) hn rfl hok.pp hT hB hTl) ?_
  refine seq_det (s15 sc i c bs least hold _ _ bd c.people.length (some l6) hn rfl hok.pp hT hB hTl hh) ?_
  refine seq_det (s16 sc i c bs least hold _ _ bd c.people.length (some l6) hn hT hTl hh) ?_
  refine seq_det (s17 sc i c bs least hold _ _ bd c.people.length (some l6) hb1) ?_
  refine seq_det (s18 sc i c bs least hold _ _ bd c.people.length (some l6) h0 hT) ?_
  refine wp_of (s19 sc i c bs least hold _ _ bd c.people.length (some l6) h0 hb1 hT) ⟨_, l6, rfl, rfl, ?_⟩
  simp [eLaw, lawVs]
theorem math : ∀ ns : List Int, ns.length ≤ 63 → ∃ l w', e_law (some (tokS ns) :: List.replicate 20 none) none = some (.list (l.map .int), none) ∧ b_law ((some (tokS ns) :: List.replicate 20 none).set 1 (some tokW)) (some l) = some (.rt (.bool true), w') := by
  intro ns hns
  obtain ⟨l, hl⟩ := draws_ok ns 700 (by omega) (by omega) hns none
  have hl : f_law_draws [tokS ns, .int 700] none = some (.list (l.map .int), none) := hl
  have he : e_law (some (tokS ns) :: List.replicate 20 none) none = some (.list (l.map .int), none) := by
    unfold e_law
    simp -implicitDefEqProofs [hl]
  have hE : ((some (tokS ns) :: List.replicate 20 none).set 1 (some tokW) : Q.Env) = eLaw (tokS ns) := rfl
  have h9 : range1 (.int 9) = some (rangeL 0 9) := r1_int (by omega) (by omega)
  have hb : wp (b_law (eLaw (tokS ns)) (some l)) fun o w' => o = .rt (.bool true) := by
    unfold b_law
    rw [wp_seq, s_sFor, s_itR1, s_cK, bnd_some, h9, lft_some, bnd_some]
    have hv : [2, 3, 4, 5, 6, 7, 8, 9, 10, 11, 12, 13, 14, 15, 16, 17, 18, 19] = lawVs := rfl
    rw [hv]
    have e0 : wipeE (eLaw (tokS ns)) lawVs = eLaw (tokS ns) := by simp [eLaw, lawVs]
    refine wp_range (fun k g w' => wipeE g lawVs = eLaw (tokS ns) ∧ ∃ l', w' = some l') ⟨e0, l, rfl⟩ (fun k g w' hk ⟨hg, l', hw⟩ => ?_) fun g w' ⟨hg, l', hw⟩ => ?_
    · subst hw
      rw [turn_wipe (g' := eLaw (tokS ns)) (hg.trans e0.symm)]
      refine wp_mono (law_turn (tokS ns) (0 + (k : Int)) l') fun o w2 ⟨g2, l2, ho, hw, hg2⟩ => ?_
      subst ho hw
      exact ⟨hg2, l2, rfl⟩
    · rw [thenS_nx, s_sRet, s_cK, bnd_some, wp_some]
  obtain ⟨o, w', h1, h2⟩ := hb
  subst h2
  exact ⟨l, w', he, by rw [hE]; exact h1⟩
end W

open PySem PySem.W PyProof.Rows
set_option maxHeartbeats 0 in
theorem PySem.Challenge.cw_nightbus_k19_buses_that_bunch_holds : PySem.Challenge.rw_nightbus_k19_buses_that_bunch.Holds := by
  w_on; o_law; k_head; (case hw => w_witness2)
  k_fill
  refine L2.walk_of (l := PySem.Challenge.rw_nightbus_k19_buses_that_bunch) (n := 63) (k := 14) (x := "script") (CX := fun _ => L2.CX0) (sp := fun w => Q.spLaw _ 63) rfl (by decide) rfl ⟨rfl, by decide, by decide⟩ (fun w h Y => PySem.W.kIn_of Y) ?F (fun _ _ a ns hl _ hS => ⟨a, ns, rfl, hS, hl, fun _ => rfl⟩) (fun _ _ _ _ _ h => h)
  case F =>
    intro w mg fa h KX G hmg
    refine' W.all_mk KX G hmg ?a0 ?l0 ?c0 ?k0 ?a1 ?l1 ?c1 ?k1 ?a2 ?l2 ?c2 ?k2 ?a3 ?l3 ?c3 ?k3 ?a4 ?l4 ?c4 ?k4 ?a5 ?l5 ?c5 ?k5 ?a6 ?l6 ?c6 ?k6 ?a7 ?l7 ?c7 ?k7 ?a8 ?l8 ?c8 ?k8 ?a9 ?l9 ?c9 ?k9 ?a10 ?l10 ?c10 ?k10 ?a11 ?l11 ?c11 ?k11 ?a12 ?l12 ?c12 ?k12 ?a13 ?l13 ?c13 ?k13 ?a14 ?l14 ?c14 ?k14 ?a15 ?l15 ?c15 ?k15 ?a16 ?l16 ?c16 ?k16 ?a17 ?l17 ?c17 ?k17 ?z_abs ?z_bool ?z_dict ?z_int ?z_isinstance ?z_len ?z_list ?z_max ?z_min ?z_range ?z_set ?z_str ?z_sum ?z_tuple ?z_zip ?hmath
    (case a0 => k_is); (case l0 => k_is); (case c0 => k_is); (case k0 => k_is); (case a1 => k_is); (case l1 => k_is); (case c1 => k_is); (case k1 => k_is); (case a2 => k_is); (case l2 => k_is); (case c2 => k_is); (case k2 => k_is); (case a3 => k_is); (case l3 => k_is); (case c3 => k_is); (case k3 => k_is); (case a4 => k_is); (case l4 => k_is); (case c4 => k_is); (case k4 => k_is); (case a5 => k_is); (case l5 => k_is); (case c5 => k_is); (case k5 => k_is); (case a6 => k_is); (case l6 => k_is); (case c6 => k_is); (case k6 => k_is); (case a7 => k_is); (case l7 => k_is); (case c7 => k_is); (case k7 => k_is); (case a8 => k_is); (case l8 => k_is); (case c8 => k_is); (case k8 => k_is); (case a9 => k_is); (case l9 => k_is); (case c9 => k_is); (case k9 => k_is); (case a10 => k_is); (case l10 => k_is); (case c10 => k_is); (case k10 => k_is); (case a11 => k_is); (case l11 => k_is); (case c11 => k_is); (case k11 => k_is); (case a12 => k_is); (case l12 => k_is); (case c12 => k_is); (case k12 => k_is); (case a13 => k_is); (case l13 => k_is); (case c13 => k_is); (case k13 => k_is); (case a14 => k_is); (case l14 => k_is); (case c14 => k_is); (case k14 => k_is); (case a15 => k_is); (case l15 => k_is); (case c15 => k_is); (case k15 => k_is); (case a16 => k_is); (case l16 => k_is); (case c16 => k_is); (case k16 => k_is); (case a17 => k_is); (case l17 => k_is); (case c17 => k_is); (case k17 => k_is)
    (case z_abs => k_is); (case z_bool => k_is); (case z_dict => k_is); (case z_int => k_is); (case z_isinstance => k_is); (case z_len => k_is); (case z_list => k_is); (case z_max => k_is); (case z_min => k_is); (case z_range => k_is); (case z_set => k_is); (case z_str => k_is); (case z_sum => k_is); (case z_tuple => k_is); (case z_zip => k_is)
    case hmath => exact W.math
