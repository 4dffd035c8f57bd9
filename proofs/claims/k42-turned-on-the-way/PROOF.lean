import PyProof.Rows.All
import KE.DatumMoreOrd
import KE.SortData
import KE.DataFind
import KE.DataAny
import KE.DataIsa
import HandS.List
import Wide.All
import OpenK.AllK
import Wide.FinOn
import HandS.ForMost
import HandS.TupAny
import HandS.Style
import HandS.Deep
import HandS.Zip
import KE.DatumIndex
import HandS.SortInts
import KE.DataMinMax
import HandS.IsInst
import HandS.TupSets
import PyProof.SeqIndex
import HandS.SetFor
import HandS.Strs
import HandS.TupLen
import PySem.Challenge.RW_nightbus_k42_turned_on_the_way
set_option linter.all false
set_option autoImplicit false
/-! Q: the subset of Python that the laws use, as plain functions of data (PyData), slots and a stream of draws. -/
namespace Q
open PySem PySem.W

abbrev D := PyData
abbrev Env := List (Option D)
/-- the draws that are left; none: no dict of draws is about -/
abbrev Wd := Option (List Int)
abbrev E := Env → Wd → Option (D × Wd)
abbrev T := Env → Wd → Option (Bool × Wd)
abbrev Es := Env → Wd → Option (List D × Wd)
inductive Out where
  | nx (g : Env) | rt (d : D) | bk (g : Env) | ct (g : Env)
abbrev S := Env → Wd → Option (Out × Wd)
/-- a target -/
abbrev G := D → Env → Option Env
abbrev Fn := List D → Wd → Option (D × Wd)

def bnd {α β : Type} (x : Option (α × Wd)) (f : α → Wd → Option β) : Option β := match x with
  | some (a, w) => f a w
  | none => none
@[simp] theorem bnd_some {α β : Type} (a : α) (w : Wd) (f : α → Wd → Option β) : bnd (some (a, w)) f = f a w := rfl
@[simp] theorem bnd_none {α β : Type} (f : α → Wd → Option β) : bnd (none : Option (α × Wd)) f = none := rfl
theorem bnd_eq {α β : Type} {x : Option (α × Wd)} {f : α → Wd → Option β} {r : β} (h : bnd x f = some r) : ∃ a w, x = some (a, w) ∧ f a w = some r := by
  cases x with
  | none => simp at h
  | some p => exact ⟨p.1, p.2, rfl, h⟩
def lft {α : Type} (o : Option α) (w : Wd) : Option (α × Wd) := match o with
  | some a => some (a, w)
  | none => none
@[simp] theorem lft_some {α : Type} (a : α) (w : Wd) : lft (some a) w = some (a, w) := rfl
@[simp] theorem lft_none {α : Type} (w : Wd) : lft (none : Option α) w = none := rfl
theorem lft_eq {α : Type} {o : Option α} {w : Wd} {r : α × Wd} (h : lft o w = some r) : o = some r.1 ∧ w = r.2 := by
  cases o with
  | none => simp at h
  | some a => simp at h; subst h; exact ⟨rfl, rfl⟩

/-! ### expressions -/
def cVar (i : Nat) : E := fun g w => lft (g[i]?).join w
def cK (d : D) : E := fun _ w => some (d, w)
def cArgs : List E → Es
  | [], _, w => some ([], w)
  | e :: es, g, w => bnd (e g w) fun d w1 => bnd (cArgs es g w1) fun ds w2 => some (d :: ds, w2)
def cTup (es : List E) : E := fun g w => bnd (cArgs es g w) fun ds w1 => some (.tuple ds, w1)
def cLst (es : List E) : E := fun g w => bnd (cArgs es g w) fun ds w1 => some (.list ds, w1)
def cOp1 (f : D → Option D) (a : E) : E := fun g w => bnd (a g w) fun x w1 => lft (f x) w1
def cOp2 (f : D → D → Option D) (a b : E) : E := fun g w => bnd (a g w) fun x w1 => bnd (b g w1) fun y w2 => lft (f x y) w2
def cIf (c : T) (a b : E) : E := fun g w => bnd (c g w) fun k w1 => if k = true then a g w1 else b g w1
def cCall (f : Fn) (es : List E) : E := fun g w => bnd (cArgs es g w) fun ds w1 => f ds w1
/-- a value that is a bool, as a test -/
def boolD : D → Option Bool
  | .bool b => some b
  | _ => none
def tVal (a : E) : T := fun g w => bnd (a g w) fun x w1 => lft (boolD x) w1
def tCmp (f : D → D → Option Bool) (a b : E) : T := fun g w => bnd (a g w) fun x w1 => bnd (b g w1) fun y w2 => lft (f x y) w2
def tNot (a : T) : T := fun g w => bnd (a g w) fun k w1 => some (!k, w1)
def tAnd (a b : T) : T := fun g w => bnd (a g w) fun k w1 => if k = true then b g w1 else some (false, w1)
def tOr (a b : T) : T := fun g w => bnd (a g w) fun k w1 => if k = true then some (true, w1) else b g w1
/-- a < b < c -/
def tChain (f f' : D → D → Option Bool) (a b c : E) : T := fun g w => bnd (a g w) fun x w1 => bnd (b g w1) fun y w2 => bnd (lft (f x y) w2) fun k w3 =>
  if k = true then bnd (c g w3) fun z w4 => lft (f' y z) w4 else some (false, w3)
/-- a test as a value -/
def cT (t : T) : E := fun g w => bnd (t g w) fun k w1 => some (.bool k, w1)

/-- x and y, x or y, not x as values: all but the last are bools -/
def cAnd (a b : E) : E := fun g w => bnd (a g w) fun x w1 => bnd (lft (boolD x) w1) fun k w2 => if k = true then b g w2 else some (.bool false, w2)
def cOr (a b : E) : E := fun g w => bnd (a g w) fun x w1 => bnd (lft (boolD x) w1) fun k w2 => if k = true then some (.bool true, w2) else b g w2
def cNot (a : E) : E := fun g w => bnd (a g w) fun x w1 => bnd (lft (boolD x) w1) fun k w2 => some (.bool (!k), w2)

/-! ### operators on data -/
def addD : D → D → Option D
  | .int i, .int j => some (.int (i + j))
  | .str x, .str y => if x.length + y.length ≤ sizeLine then some (.str (x ++ y)) else none
  | .list xs, .list ys => if xs.length + ys.length ≤ sizeLine then some (.list (xs ++ ys)) else none
  | .tuple xs, .tuple ys => if xs.length + ys.length ≤ sizeLine then some (.tuple (xs ++ ys)) else none
  | _, _ => none
def subD : D → D → Option D
  | .int i, .int j => some (.int (i - j))
  | _, _ => none
/-- the numbers that * takes: one of them below 2^64 -/
def small64 (i : Int) : Bool := decide (-(2 ^ 64) < i) && decide (i < 2 ^ 64)
def mulD : D → D → Option D
  | .int i, .int j => if (small64 i || small64 j) = true then some (.int (i * j)) else none
  | .list xs, .int k => if -(2 ^ 63) ≤ k ∧ k < 2 ^ 63 ∧ xs.length * k.toNat ≤ sizeLine then some (.list (List.replicate k.toNat xs).flatten) else none
  | _, _ => none
def divD : D → D → Option D
  | .int i, .int j => if j ≠ 0 ∧ j.natAbs < 1073741824 then some (.int (i.fdiv j)) else none
  | _, _ => none
def modD : D → D → Option D
  | .int i, .int j => if j ≠ 0 then some (.int (i.fmod j)) else none
  | _, _ => none
def powD : D → D → Option D
  | .int i, .int j => if 0 ≤ j ∧ j ≤ 1000000 ∧ i.natAbs < 2 ^ 64 then some (.int (i ^ j.toNat)) else none
  | _, _ => none
def negD : D → Option D
  | .int i => some (.int (-i))
  | _ => none
/-- the depth that comparisons may go down -/
def lowD (d : D) : Bool := decide (d.depth ≤ 60)
def eqD (x y : D) : Option Bool := if (x.plain && y.plain && lowD x && lowD y) = true then some (PyData.eqv x y) else none
def neD (x y : D) : Option Bool := (eqD x y).map (!·)
def isNoneD : D → Bool
  | .none => true
  | _ => false
def okLt (x y : D) : Bool := x.plain && y.plain && alike x y && !isNoneD x && lowD x
def ltD (x y : D) : Option Bool := if okLt x y = true then some (dataLt x y) else none
def gtD (x y : D) : Option Bool := if okLt x y = true then some (dataLt y x) else none
def leD (x y : D) : Option Bool := if okLt x y = true then some (!dataLt y x) else none
def geD (x y : D) : Option Bool := if okLt x y = true then some (!dataLt x y) else none
/-- is None -/
def isND (x y : D) : Option Bool := if isNoneD y = true then some (isNoneD x) else none
def isNotND (x y : D) : Option Bool := if isNoneD y = true then some (!isNoneD x) else none
/-- keys of dicts: ints, texts, tuples of these -/
def atomD : D → Bool
  | .int _ => true
  | .str _ => true
  | _ => false
def keyD : D → Bool
  | .int _ => true
  | .str _ => true
  | .tuple ds => ds.all atomD
  | _ => false
def lookD (kvs : List (D × D)) (k : D) : Option D := (kvs.find? fun p => PyData.eqv p.1 k).map (·.2)
def putD (kvs : List (D × D)) (k v : D) : List (D × D) := if (lookD kvs k).isSome = true then kvs.map (fun p => if PyData.eqv p.1 k = true then (p.1, v) else p) else kvs ++ [(k, v)]
def inD (x c : D) : Option Bool := match c with
  | .list ys => if (PyData.plainAll ys && x.plain && lowD x && lowD c) = true then some (ys.any fun y => PyData.eqv y x) else none
  | .tuple ys => if (PyData.plainAll ys && x.plain && lowD x && lowD c) = true then some (ys.any fun y => PyData.eqv y x) else none
  | _ => none
def notInD (x c : D) : Option Bool := (inD x c).map (!·)
/-- the script is told by an odd dict -/
def scrOf : List (D × D) → Option (List D)
  | [(.none, .list xs)] => some xs
  | _ => none
/-- c[i] -/
def ixD (c i : D) : Option D := match c, i with
  | .list xs, .int k => L2.atI xs k
  | .tuple xs, .int k => L2.atI xs k
  | .str z, .int k => if z.length ≤ sizeLine then (L2.atI z.cps.toList k).map fun c => .str ⟨#[c]⟩ else none
  | .dict kvs, .int k => (scrOf kvs).bind fun xs => L2.atI xs k
  | _, _ => none
/-- the dict of draws, a def that is handed on, the script: as data -/
def tokW : D := .dict [(.none, .none)]
def tokF (x : Str) : D := .dict [(.none, .str x)]
def tokS (ns : List Int) : D := .dict [(.none, .list (ns.map .int))]
def cutL {α : Type} (xs : List α) (lo hi : Option Int) : List α := (xs.drop (HT.sIx xs.length 0 lo)).take (HT.sIx xs.length xs.length hi - HT.sIx xs.length 0 lo)
def cutD (c : D) (lo hi : Option Int) : Option D := match c with
  | .list xs => some (.list (cutL xs lo hi))
  | .tuple xs => some (.tuple (cutL xs lo hi))
  | _ => none
def optE : Option E → Env → Wd → Option (Option Int × Wd)
  | none, _, w => some (none, w)
  | some e, g, w => bnd (e g w) fun d w1 => match d with
    | .int i => some (some i, w1)
    | _ => none
def cCut (a : E) (lo hi : Option E) : E := fun g w => bnd (a g w) fun x w1 => bnd (optE lo g w1) fun l w2 => bnd (optE hi g w2) fun h w3 => lft (cutD x l h) w3
def lenD : D → Option D
  | .list xs => some (.int xs.length)
  | .tuple xs => some (.int xs.length)
  | .str z => if z.length ≤ sizeLine then some (.int z.length) else none
  | .dict kvs => (scrOf kvs).map fun xs => .int xs.length
  | _ => none
def intsOf : List D → Option (List Int)
  | [] => some []
  | .int i :: r => (intsOf r).map (i :: ·)
  | _ :: _ => none
def boolsOf : List D → Option (List Bool)
  | [] => some []
  | .bool i :: r => (boolsOf r).map (i :: ·)
  | _ :: _ => none
def itemsD : D → Option (List D)
  | .list xs => some xs
  | .tuple xs => some xs
  | _ => none
def sumD : D → Option D
  | .list xs => (intsOf xs).map fun ns => .int ns.sum
  | _ => none
def allD : D → Option D
  | .list xs => (boolsOf xs).map fun bs => .bool (bs.all id)
  | _ => none
def anyD : D → Option D
  | .list xs => (boolsOf xs).map fun bs => .bool (bs.any id)
  | _ => none
def alikeB (xs : List D) : Bool := xs.all fun x => xs.all fun y => alike x y
def noNoneB (xs : List D) : Bool := xs.all fun x => !isNoneD x
def minD1 (d : D) : Option D := match itemsD d with
  | some (x :: xs) => if (d.plain && alikeB (x :: xs) && noNoneB (x :: xs) && lowD d) = true then some (minD x xs) else none
  | _ => none
def maxD1 (d : D) : Option D := match itemsD d with
  | some (x :: xs) => if (d.plain && alikeB (x :: xs) && noNoneB (x :: xs) && lowD d) = true then some (maxD x xs) else none
  | _ => none
def max2D : D → D → Option D
  | .int i, .int j => some (.int (if j > i then j else i))
  | _, _ => none
def min2D : D → D → Option D
  | .int i, .int j => some (.int (if j < i then j else i))
  | _, _ => none
def absD : D → Option D
  | .int i => some (.int (if i < 0 then -i else i))
  | _ => none
def intD : D → Option D
  | .int i => some (.int i)
  | .bool b => some (.int (if b then 1 else 0))
  | _ => none
def tupD : D → Option D
  | .list xs => some (.tuple xs)
  | .tuple xs => some (.tuple xs)
  | _ => none
def lstD : D → Option D
  | .list xs => some (.list xs)
  | .tuple xs => some (.list xs)
  | .dict kvs => some (.list (kvs.map (·.1)))
  | _ => none
/-- sorted(..): tuples with an item at least, or other things than None and tuples -/
def sortableB (xs : List D) : Bool := (xs.all fun x => match x with | .tuple (_ :: _) => true | _ => false) || (xs.all fun x => match x with | .none => false | .tuple _ => false | _ => true)
def sortD (d : D) : Option D := match itemsD d with
  | some xs => if (d.plain && alikeB xs && sortableB xs && lowD d && decide (xs.length ≤ sizeLine)) = true then some (.list (xs.mergeSort (dataLe false id))) else none
  | none => none
def indexD (c x : D) : Option D := match itemsD c with
  | some ys => if (PyData.plainAll ys && x.plain && lowD x && lowD c) = true then (ys.findIdx? fun y => PyData.eqv y x).map fun j => .int (j : Nat) else none
  | none => none
def countD (c x : D) : Option D := match itemsD c with
  | some ys => if (PyData.plainAll ys && x.plain && lowD x && lowD c) = true then some (.int (ys.countP fun y => PyData.eqv y x : Nat)) else none
  | none => none

/-! ### what is walked -/
def itSeq (a : E) : Es := fun g w => bnd (a g w) fun x w1 => lft (itemsD x) w1
def small62 (i : Int) : Bool := decide (-(2 ^ 62) ≤ i) && decide (i < 2 ^ 62)
def rangeL (lo : Int) (n : Nat) : List D := (List.range n).map fun i => .int (lo + (i : Nat))
def range1 : D → Option (List D)
  | .int n => if small62 n = true then some (rangeL 0 n.toNat) else none
  | _ => none
def range2 : D → D → Option (List D)
  | .int i, .int j => if (small62 i && small62 j) = true then some (rangeL i (j - i).toNat) else none
  | _, _ => none
def itR1 (a : E) : Es := fun g w => bnd (a g w) fun x w1 => lft (range1 x) w1
def itR2 (a b : E) : Es := fun g w => bnd (a g w) fun x w1 => bnd (b g w1) fun y w2 => lft (range2 x y) w2
def zipD : D → D → Option (List D)
  | .list xs, .list ys => some ((xs.zip ys).map fun p => .tuple [p.1, p.2])
  | .tuple xs, .tuple ys => some ((xs.zip ys).map fun p => .tuple [p.1, p.2])
  | _, _ => none
def itZip (a b : E) : Es := fun g w => bnd (a g w) fun x w1 => bnd (b g w1) fun y w2 => lft (zipD x y) w2

/-! ### targets -/
def wipeE (g : Env) : List Nat → Env
  | [] => g
  | v :: vs => (wipeE g vs).set v none
def gName (i : Nat) : G := fun d g => if i < g.length then some (g.set i (some d)) else none
def gList : List G → List D → Env → Option Env
  | [], [], g => some g
  | t :: ts, d :: ds, g => match t d g with
    | some g1 => gList ts ds g1
    | none => none
  | _, _, _ => none
def gTup (ts : List G) : G := fun d g => match d with
  | .tuple ds => gList ts ds g
  | _ => none

/-! ### comprehensions -/
def lcLoop (t : G) (c : T) (e : E) (g : Env) : List D → Wd → Option (List D × Wd)
  | [], w => some ([], w)
  | x :: xs, w => match t x g with
    | none => none
    | some g1 => bnd (c g1 w) fun k w1 => if k = true then bnd (e g1 w1) fun d w2 => bnd (lcLoop t c e g xs w2) fun ds w3 => some (d :: ds, w3) else lcLoop t c e g xs w1
def tYes : T := fun _ w => some (true, w)
/-- [e for t in it if c], vs the slots of its own names -/
def cLc (it : Es) (t : G) (c : T) (e : E) (vs : List Nat) : E := fun g w => bnd (it g w) fun xs w1 => bnd (lcLoop t c e (wipeE g vs) xs w1) fun ds w2 => if xs.length ≤ sizeLine then some (.list ds, w2) else none

/-! ### statements -/
def sSeq (a b : S) : S := fun g w => bnd (a g w) fun o w1 => match o with
  | .nx g1 => b g1 w1
  | .rt d => some (.rt d, w1)
  | .bk g1 => some (.bk g1, w1)
  | .ct g1 => some (.ct g1, w1)
def sPass : S := fun g w => some (.nx g, w)
def sSet (t : G) (e : E) : S := fun g w => bnd (e g w) fun d w1 => match t d g with
  | some g1 => some (.nx g1, w1)
  | none => none
/-- a, b, .. = x, y, .. -/
def sPar (ts : List G) (es : List E) : S := fun g w => bnd (cArgs es g w) fun ds w1 => match gList ts ds g with
  | some g1 => some (.nx g1, w1)
  | none => none
def sRet (e : E) : S := fun g w => bnd (e g w) fun d w1 => some (.rt d, w1)
def sIf (c : T) (a b : S) : S := fun g w => bnd (c g w) fun k w1 => if k = true then a g w1 else b g w1
def sBreak : S := fun g w => some (.bk g, w)
def sCont : S := fun g w => some (.ct g, w)
def sDrop (e : E) : S := fun g w => bnd (e g w) fun _ w1 => some (.nx g, w1)
/-- slots forgotten -/
def sForget (vs : List Nat) : S := fun g w => some (.nx (wipeE g vs), w)
def apD : D → D → Option D
  | .list xs, d => if xs.length < sizeLine then some (.list (xs ++ [d])) else none
  | _, _ => none
def exD : D → D → Option D
  | .list xs, .list ys => if xs.length + ys.length ≤ sizeLine then some (.list (xs ++ ys)) else none
  | _, _ => none
def setD : D → D → D → Option D
  | .list xs, .int k, d => (L2.ixN xs.length k).map fun j => .list (xs.set j d)
  | .dict kvs, k, d => if (keyD k && decide (kvs.length < sizeLine)) = true then some (.dict (putD kvs k d)) else none
  | _, _, _ => none
/-- the object in slot i is changed -/
def mutS (i : Nat) (f : D → Option D) (g : Env) (w : Wd) : Option (Out × Wd) := match (g[i]?).join with
  | some x => match f x with
    | some y => some (.nx (g.set i (some y)), w)
    | none => none
  | none => none
def sApp (i : Nat) (e : E) : S := fun g w => bnd (e g w) fun d w1 => mutS i (apD · d) g w1
def sExt (i : Nat) (e : E) : S := fun g w => bnd (e g w) fun d w1 => mutS i (exD · d) g w1
/-- x[k] = e: e first -/
def sPut (i : Nat) (k e : E) : S := fun g w => bnd (e g w) fun d w1 => bnd (k g w1) fun kd w2 => mutS i (setD · kd d) g w2
/-- x[k] += e -/
def sAug (i : Nat) (f : D → D → Option D) (k e : E) : S := fun g w => bnd (k g w) fun kd w1 => match (g[i]?).join with
  | some x => match ixD x kd with
    | some old => bnd (e g w1) fun d w2 => match f old d with
      | some new => mutS i (setD · kd new) g w2
      | none => none
    | none => none
  | none => none
def loopS (t : G) (b : S) (vs : List Nat) : List D → Env → Wd → Option (Out × Wd)
  | [], g, w => some (.nx (wipeE g vs), w)
  | x :: xs, g, w => match t x (wipeE g vs) with
    | none => none
    | some g1 => bnd (b g1 w) fun o w1 => match o with
      | .nx g2 => loopS t b vs xs g2 w1
      | .ct g2 => loopS t b vs xs g2 w1
      | .bk g2 => some (.nx (wipeE g2 vs), w1)
      | .rt d => some (.rt d, w1)
/-- vs: the slots forgotten at each turn's start and behind the loop -/
def sFor (it : Es) (t : G) (b : S) (vs : List Nat) : S := fun g w => bnd (it g w) fun xs w1 => loopS t b vs xs g w1
def whileS (c : T) (b : S) (vs : List Nat) : Nat → Env → Wd → Option (Out × Wd)
  | 0, _, _ => none
  | n + 1, g, w => bnd (c (wipeE g vs) w) fun k w1 => if k = true then bnd (b (wipeE g vs) w1) fun o w2 => match o with
      | .nx g2 => whileS c b vs n g2 w2
      | .ct g2 => whileS c b vs n g2 w2
      | .bk g2 => some (.nx (wipeE g2 vs), w2)
      | .rt d => some (.rt d, w2)
    else some (.nx (wipeE g vs), w1)
def sWhile (c : T) (b : S) (vs : List Nat) (n : Nat) : S := fun g w => whileS c b vs n g w

/-! ### defs -/
def bodyFn (n locals : Nat) (b : S) : Fn := fun ds w => if ds.length = n then bnd (b (ds.map some ++ List.replicate locals none) w) fun o w1 => match o with
    | .rt d => some (d, w1)
    | .nx _ => some (.none, w1)
    | _ => none
  else none
/-- the next draw below many -/
def fnNext : Fn := fun ds w => match ds, w with
  | [.dict [(.none, .none)], .int many], some l => match l with
    | [] => some (.int 0, some [])
    | x :: r => if many ≠ 0 then some (.int (x.fmod many), some r) else none
  | _, _ => none
end Q

set_option Elab.async false
set_option linter.all false
set_option autoImplicit false
set_option maxRecDepth 100000
/-! QS1: how slots and heaps bear data; the readings. -/
namespace Q
open PySem PySem.Spec PyProof.Rows L2

def keyOf : Key → D
  | .inl i => .int i
  | .inr x => .str x

/-- the dict of draws, and where the defs stand that are handed on -/
structure Tk (Kx : PySem.W.Frag) (mx : Str → Option Value) (zf : Bool) where
  pw : Option Addr
/-- how a tuple stands: with its object (zf), or not -/
def tupO (zf : Bool) (ob : Obj) (xs : List V) : HO := if zf = true then .frz ob (.tup xs) else .tup xs
def TupAt (zf : Bool) (F : Hp) (a : Addr) (xs : List V) : Prop := ∃ ob : Obj, F a = some (tupO zf ob xs) ∧ ob.dict = none
theorem TupAt.rd {zf : Bool} {F : Hp} {a : Addr} {xs : List V} (h : TupAt zf F a xs) : Rd F a (.tup xs) := by
  obtain ⟨ob, h, _⟩ := h
  unfold tupO at h
  cases zf
  · exact .inl h
  · exact .inr ⟨ob, h⟩
theorem TupAt.sq {K : PySem.W.Frag} {zf : Bool} {F : Hp} {a : Addr} {xs : List V} (h : TupAt zf F a xs) : SqT K F a xs := .inl h.rd
theorem TupAt.same {zf : Bool} {F F' : Hp} {a : Addr} {xs : List V} (h : TupAt zf F a xs) (s : Same F F') : TupAt zf F' a xs := by
  obtain ⟨ob, h, k⟩ := h
  exact ⟨ob, s _ _ h, k⟩
mutual
/-- v bears d in the frozen heap F; two odd dicts stand for the dict of draws and for defs -/
def Rep {Kx : PySem.W.Frag} {mx : Str → Option Value} {zf : Bool} (tk : Tk Kx mx zf) (F : Hp) : D → V → Prop
  | .none, v => v = .non
  | .bool b, v => v = .bl b
  | .int i, v => v = .int i
  | .str x, v => v = .str x
  | .list ds, v => ∃ a xs, v = .ref a ∧ Rd F a (.lst xs) ∧ RepL tk F ds xs
  | .tuple ds, v => ∃ a xs, v = .ref a ∧ TupAt zf F a xs ∧ RepL tk F ds xs
  | .dict kvs, v => ∃ a, v = .ref a ∧ ((∃ es, F a = some (.dK es) ∧ RepK tk F kvs es) ∨ (∃ es, F a = some (.dT es) ∧ RepT tk F kvs es) ∨ (kvs = [(.none, .none)] ∧ tk.pw = some a) ∨ (∃ x : Str, kvs = [(.none, .str x)] ∧ mx x = some (.ref a)) ∨ ∃ ns : List Int, kvs = [(.none, .list (ns.map .int))] ∧ SqL Kx F a (ns.map V.int))
def RepL {Kx : PySem.W.Frag} {mx : Str → Option Value} {zf : Bool} (tk : Tk Kx mx zf) (F : Hp) : List D → List V → Prop
  | [], [] => True
  | d :: ds, v :: vs => Rep tk F d v ∧ RepL tk F ds vs
  | [], _ :: _ => False
  | _ :: _, [] => False
def RepK {Kx : PySem.W.Frag} {mx : Str → Option Value} {zf : Bool} (tk : Tk Kx mx zf) (F : Hp) : List (D × D) → List (Key × V) → Prop
  | [], [] => True
  | (k, d) :: r, (k', v) :: r' => k = keyOf k' ∧ Rep tk F d v ∧ RepK tk F r r'
  | [], _ :: _ => False
  | _ :: _, [] => False
def RepT {Kx : PySem.W.Frag} {mx : Str → Option Value} {zf : Bool} (tk : Tk Kx mx zf) (F : Hp) : List (D × D) → List (List Key × V) → Prop
  | [], [] => True
  | (k, d) :: r, (k', v) :: r' => k = .tuple (k'.map keyOf) ∧ Rep tk F d v ∧ RepT tk F r r'
  | [], _ :: _ => False
  | _ :: _, [] => False
end

theorem Rd.same {F F' : Hp} {a : Addr} {u : HO} (s : Same F F') (h : Rd F a u) : Rd F' a u := by
  rcases h with h | ⟨o, h⟩
  · exact .inl (s _ _ h)
  · exact .inr ⟨o, s _ _ h⟩

mutual
theorem Rep.same {Kx : PySem.W.Frag} {mx : Str → Option Value} {zf : Bool} {tk : Tk Kx mx zf} {F F' : Hp} (s : Same F F') : ∀ (d : D) (v : V), Rep tk F d v → Rep tk F' d v
  | .none, _, h => by simpa only [Rep] using h
  | .bool _, _, h => by simpa only [Rep] using h
  | .int _, _, h => by simpa only [Rep] using h
  | .str _, _, h => by simpa only [Rep] using h
  | .list ds, v, h => by
    simp only [Rep] at h ⊢
    obtain ⟨a, xs, e, r, l⟩ := h
    exact ⟨a, xs, e, Rd.same s r, RepL.same s ds xs l⟩
  | .tuple ds, v, h => by
    simp only [Rep] at h ⊢
    obtain ⟨a, xs, e, r, l⟩ := h
    exact ⟨a, xs, e, r.same s, RepL.same s ds xs l⟩
  | .dict kvs, v, h => by
    simp only [Rep] at h ⊢
    obtain ⟨a, e, h⟩ := h
    refine ⟨a, e, ?_⟩
    rcases h with ⟨es, r, l⟩ | ⟨es, r, l⟩ | h
    · exact .inl ⟨es, s _ _ r, RepK.same s kvs es l⟩
    · exact .inr (.inl ⟨es, s _ _ r, RepT.same s kvs es l⟩)
    · refine .inr (.inr ?_)
      rcases h with h | h | ⟨ns, e, h⟩
      · exact .inl h
      · exact .inr (.inl h)
      · exact .inr (.inr ⟨ns, e, s.seq h⟩)
theorem RepL.same {Kx : PySem.W.Frag} {mx : Str → Option Value} {zf : Bool} {tk : Tk Kx mx zf} {F F' : Hp} (s : Same F F') : ∀ (ds : List D) (vs : List V), RepL tk F ds vs → RepL tk F' ds vs
  | [], [], _ => by simp only [RepL]
  | [], _ :: _, h => by simp only [RepL] at h
  | _ :: _, [], h => by simp only [RepL] at h
  | d :: ds, v :: vs, h => by
    simp only [RepL] at h ⊢
    exact ⟨Rep.same s d v h.1, RepL.same s ds vs h.2⟩
theorem RepK.same {Kx : PySem.W.Frag} {mx : Str → Option Value} {zf : Bool} {tk : Tk Kx mx zf} {F F' : Hp} (s : Same F F') : ∀ (kvs : List (D × D)) (es : List (Key × V)), RepK tk F kvs es → RepK tk F' kvs es
  | [], [], _ => by simp only [RepK]
  | [], _ :: _, h => by simp only [RepK] at h
  | _ :: _, [], h => by simp only [RepK] at h
  | (k, d) :: r, (k', v) :: r', h => by
    simp only [RepK] at h ⊢
    exact ⟨h.1, Rep.same s d v h.2.1, RepK.same s r r' h.2.2⟩
theorem RepT.same {Kx : PySem.W.Frag} {mx : Str → Option Value} {zf : Bool} {tk : Tk Kx mx zf} {F F' : Hp} (s : Same F F') : ∀ (kvs : List (D × D)) (es : List (List Key × V)), RepT tk F kvs es → RepT tk F' kvs es
  | [], [], _ => by simp only [RepT]
  | [], _ :: _, h => by simp only [RepT] at h
  | _ :: _, [], h => by simp only [RepT] at h
  | (k, d) :: r, (k', v) :: r', h => by
    simp only [RepT] at h ⊢
    exact ⟨h.1, Rep.same s d v h.2.1, RepT.same s r r' h.2.2⟩
end
theorem RepL.length {Kx : PySem.W.Frag} {mx : Str → Option Value} {zf : Bool} {tk : Tk Kx mx zf} {F : Hp} : ∀ {ds : List D} {vs : List V}, RepL tk F ds vs → ds.length = vs.length
  | [], [], _ => rfl
  | [], _ :: _, h => by simp only [RepL] at h
  | _ :: _, [], h => by simp only [RepL] at h
  | d :: ds, v :: vs, h => by
    simp only [RepL] at h
    simp [RepL.length h.2]
theorem RepL.at {Kx : PySem.W.Frag} {mx : Str → Option Value} {zf : Bool} {tk : Tk Kx mx zf} {F : Hp} : ∀ {ds : List D} {vs : List V} {i : Nat} {d : D}, RepL tk F ds vs → ds[i]? = some d → ∃ v, vs[i]? = some v ∧ Rep tk F d v
  | [], [], _, _, _, h => by simp at h
  | [], _ :: _, _, _, h, _ => by simp only [RepL] at h
  | _ :: _, [], _, _, h, _ => by simp only [RepL] at h
  | d :: ds, v :: vs, 0, x, h, e => by
    simp only [RepL] at h
    simp at e
    subst e
    exact ⟨v, rfl, h.1⟩
  | d :: ds, v :: vs, i + 1, x, h, e => by
    simp only [RepL] at h
    exact RepL.at (i := i) h.2 (by simpa using e)
theorem RepL.append {Kx : PySem.W.Frag} {mx : Str → Option Value} {zf : Bool} {tk : Tk Kx mx zf} {F : Hp} : ∀ {ds : List D} {vs : List V} {es : List D} {ws : List V}, RepL tk F ds vs → RepL tk F es ws → RepL tk F (ds ++ es) (vs ++ ws)
  | [], [], _, _, _, h => h
  | [], _ :: _, _, _, h, _ => by simp only [RepL] at h
  | _ :: _, [], _, _, h, _ => by simp only [RepL] at h
  | d :: ds, v :: vs, es, ws, h, k => by
    simp only [RepL] at h
    simp only [List.cons_append, RepL]
    exact ⟨h.1, RepL.append h.2 k⟩
theorem RepL.take {Kx : PySem.W.Frag} {mx : Str → Option Value} {zf : Bool} {tk : Tk Kx mx zf} {F : Hp} : ∀ {ds : List D} {vs : List V} (n : Nat), RepL tk F ds vs → RepL tk F (ds.take n) (vs.take n)
  | _, _, 0, _ => by simp only [List.take_zero, RepL]
  | [], [], n + 1, h => by simp only [List.take_nil, RepL]
  | [], _ :: _, _, h => by simp only [RepL] at h
  | _ :: _, [], _, h => by simp only [RepL] at h
  | d :: ds, v :: vs, n + 1, h => by
    simp only [RepL] at h
    simp only [List.take_succ_cons, RepL]
    exact ⟨h.1, RepL.take n h.2⟩
theorem RepL.drop {Kx : PySem.W.Frag} {mx : Str → Option Value} {zf : Bool} {tk : Tk Kx mx zf} {F : Hp} : ∀ {ds : List D} {vs : List V} (n : Nat), RepL tk F ds vs → RepL tk F (ds.drop n) (vs.drop n)
  | _, _, 0, h => h
  | [], [], n + 1, h => by simp only [List.drop_nil, RepL]
  | [], _ :: _, _, h => by simp only [RepL] at h
  | _ :: _, [], _, h => by simp only [RepL] at h
  | d :: ds, v :: vs, n + 1, h => by
    simp only [RepL] at h
    simp only [List.drop_succ_cons]
    exact RepL.drop n h.2
theorem RepL.set {Kx : PySem.W.Frag} {mx : Str → Option Value} {zf : Bool} {tk : Tk Kx mx zf} {F : Hp} {d : D} {v : V} (hd : Rep tk F d v) : ∀ {ds : List D} {vs : List V} (n : Nat), RepL tk F ds vs → RepL tk F (ds.set n d) (vs.set n v)
  | [], [], _, _ => by simp only [List.set_nil, RepL]
  | [], _ :: _, _, h => by simp only [RepL] at h
  | _ :: _, [], _, h => by simp only [RepL] at h
  | e :: ds, u :: vs, 0, h => by
    simp only [RepL] at h
    simp only [List.set_cons_zero, RepL]
    exact ⟨hd, h.2⟩
  | e :: ds, u :: vs, n + 1, h => by
    simp only [RepL] at h
    simp only [List.set_cons_succ, RepL]
    exact ⟨h.1, RepL.set hd n h.2⟩
theorem RepL.snoc {Kx : PySem.W.Frag} {mx : Str → Option Value} {zf : Bool} {tk : Tk Kx mx zf} {F : Hp} {ds : List D} {vs : List V} {d : D} {v : V} (h : RepL tk F ds vs) (k : Rep tk F d v) : RepL tk F (ds ++ [d]) (vs ++ [v]) :=
  h.append (by simp only [RepL]; exact ⟨k, trivial⟩)

/-- what an own object holds -/
def RepO {Kx : PySem.W.Frag} {mx : Str → Option Value} {zf : Bool} (tk : Tk Kx mx zf) (F : Hp) : D → HO → Prop
  | .list ds, .lst xs => RepL tk F ds xs
  | .dict kvs, .dK es => RepK tk F kvs es
  | .dict kvs, .dT es => RepT tk F kvs es
  | _, _ => False
theorem RepO.same {Kx : PySem.W.Frag} {mx : Str → Option Value} {zf : Bool} {tk : Tk Kx mx zf} {F F' : Hp} (s : Same F F') {d : D} {o : HO} (h : RepO tk F d o) : RepO tk F' d o := by
  cases d <;> cases o <;> simp only [RepO] at h ⊢
  · exact RepL.same s _ _ h
  · exact RepK.same s _ _ h
  · exact RepT.same s _ _ h
/-- an own object frozen -/
theorem RepO.frz {Kx : PySem.W.Frag} {mx : Str → Option Value} {zf : Bool} {tk : Tk Kx mx zf} {F : Hp} {d : D} {o : HO} {a : Addr} (h : RepO tk F d o) (hn : F a = none) : Rep tk (upd F a o) d (.ref a) := by
  have s : Same F (upd F a o) := fun b u e => by rw [upd_ne (ne_of_none e hn)]; exact e
  cases d <;> cases o <;> simp only [RepO] at h <;> simp only [Rep]
  · exact ⟨a, _, rfl, .inl upd_same, RepL.same s _ _ h⟩
  · exact ⟨a, rfl, .inl ⟨_, upd_same, RepK.same s _ _ h⟩⟩
  · exact ⟨a, rfl, .inr (.inl ⟨_, upd_same, RepT.same s _ _ h⟩)⟩

def isDictO : HO → Bool
  | .dK _ => true
  | .dT _ => true
  | _ => false
/-- the frozen heap lies in the heap (a dict may be locked) -/
def Sub (F H : Hp) : Prop := ∀ a o, F a = some o → H a = some o ∨ (isDictO o = true ∧ ∃ ob, H a = some (.frz ob o))
theorem Sub.rdL {F H : Hp} {a : Addr} {xs : List V} (s : Sub F H) (h : Rd F a (.lst xs)) : Rd H a (.lst xs) := by
  rcases h with h | ⟨o, h⟩
  · rcases s _ _ h with k | ⟨k, _⟩
    · exact .inl k
    · cases k
  · rcases s _ _ h with k | ⟨k, _⟩
    · exact .inr ⟨o, k⟩
    · cases k
theorem Sub.tup {zf : Bool} {F H : Hp} {a : Addr} {xs : List V} (s : Sub F H) (h : TupAt zf F a xs) : TupAt zf H a xs := by
  obtain ⟨ob, h, k⟩ := h
  refine ⟨ob, ?_, k⟩
  rcases s _ _ h with e | ⟨e, _⟩
  · exact e
  · unfold tupO at e
    cases zf <;> cases e
theorem Sub.tup0 {F H : Hp} {a : Addr} {xs : List V} (s : Sub F H) (h : F a = some (.tup xs)) : H a = some (.tup xs) := by
  rcases s _ _ h with k | ⟨k, _⟩
  · exact k
  · cases k
theorem Sub.dict {F H : Hp} {a : Addr} {o : HO} (s : Sub F H) (h : F a = some o) (hd : isDictO o = true) : Rd H a o := by
  rcases s _ _ h with k | ⟨_, ob, k⟩
  · exact .inl k
  · exact .inr ⟨ob, k⟩
theorem Sub.none {F H : Hp} {a : Addr} (s : Sub F H) (h : H a = none) : F a = none := by
  cases e : F a with
  | none => rfl
  | some o =>
    rcases s _ _ e with k | ⟨_, ob, k⟩ <;> rw [h] at k <;> cases k

/-- a value that is read where it stands: a list or a dict that is still being made too -/
def RepB {Kx : PySem.W.Frag} {mx : Str → Option Value} {zf : Bool} (tk : Tk Kx mx zf) (F H : Hp) : D → V → Prop
  | .list ds, v => ∃ a xs, v = .ref a ∧ tk.pw ≠ some a ∧ Rd H a (.lst xs) ∧ RepL tk F ds xs
  | .dict kvs, v => ∃ a, v = .ref a ∧ ((tk.pw ≠ some a ∧ ((∃ es, Rd H a (.dK es) ∧ RepK tk F kvs es) ∨ ∃ es, Rd H a (.dT es) ∧ RepT tk F kvs es)) ∨ (kvs = [(.none, .none)] ∧ tk.pw = some a) ∨ (∃ x : Str, kvs = [(.none, .str x)] ∧ mx x = some (.ref a)) ∨ ∃ ns : List Int, kvs = [(.none, .list (ns.map .int))] ∧ SqL Kx F a (ns.map V.int))
  | d, v => Rep tk F d v

/-- all but the dict of draws stands -/
def Grow {Kx : PySem.W.Frag} {mx : Str → Option Value} {zf : Bool} (tk : Tk Kx mx zf) (H F' H' : Hp) : Prop := ∀ a o, H a = some o → tk.pw ≠ some a → H' a = some o ∨ (isDictO o = true ∧ F' a ≠ none ∧ ∃ ob, H' a = some (.frz ob o))
section
variable {Kx : PySem.W.Frag} {mx : Str → Option Value} {zf : Bool} {tk : Tk Kx mx zf} {H H' H2 F F' : Hp}
theorem Grow.refl : Grow tk H F H := fun _ _ h _ => .inl h
theorem Grow.ne (g : Grow tk H F' H') {a : Addr} {o : HO} (h : H a = some o) (n : tk.pw ≠ some a) : H' a ≠ none := by
  rcases g a o h n with e | ⟨_, _, ob, e⟩ <;> rw [e] <;> exact fun z => nomatch z
theorem Grow.ex (g : Grow tk H F' H') {a : Addr} {o : HO} (h : H a = some o) (n : tk.pw ≠ some a) (f : F' a = none) : H' a = some o := by
  rcases g a o h n with e | ⟨_, k, _⟩
  · exact e
  · exact absurd f k
theorem Grow.exL (g : Grow tk H F' H') {a : Addr} {o : HO} (h : H a = some o) (n : tk.pw ≠ some a) (f : isDictO o = false) : H' a = some o := by
  rcases g a o h n with e | ⟨k, _⟩
  · exact e
  · rw [f] at k; cases k
theorem Grow.to (g : Grow tk H F H') (s : Same F F') (k : ∀ a u, tk.pw ≠ some a → H' a = some u → H2 a = some u) : Grow tk H F' H2 := fun a o h n => by
  rcases g a o h n with e | ⟨d, f, ob, e⟩
  · exact .inl (k _ _ n e)
  · refine .inr ⟨d, fun z => ?_, ob, k _ _ n e⟩
    cases q : F a with
    | none => exact f q
    | some u => rw [s _ _ q] at z; cases z
theorem Grow.trans {H1 F1 H2 F2 : Hp} (a : Grow tk H F1 H1) (s : Same F1 F2) (b : Grow tk H1 F2 H2) : Grow tk H F2 H2 := fun c o h n => by
  rcases a c o h n with e | ⟨d, f, ob, e⟩
  · exact b c o e n
  · refine .inr ⟨d, fun z => ?_, ob, b.exL e n rfl⟩
    cases q : F1 c with
    | none => exact f q
    | some u => rw [s _ _ q] at z; cases z
theorem Grow.of (k : ∀ a u, tk.pw ≠ some a → H a = some u → H' a = some u) : Grow tk H F H' := fun a o h n => .inl (k a o n h)
end
/-- what was not frozen is not -/
def New {Kx : PySem.W.Frag} {mx : Str → Option Value} {zf : Bool} (tk : Tk Kx mx zf) (H F F' : Hp) : Prop := ∀ a, tk.pw ≠ some a → H a ≠ none → F a = none → F' a = none
structure Ex {Kx : PySem.W.Frag} {mx : Str → Option Value} {zf : Bool} (tk : Tk Kx mx zf) (F H F' H' : Hp) : Prop where
  sm : Same F F'
  gr : Grow tk H F' H'
  nw : New tk H F F'
theorem Ex.refl {Kx : PySem.W.Frag} {mx : Str → Option Value} {zf : Bool} (tk : Tk Kx mx zf) (F H : Hp) : Ex tk F H F H := ⟨Same.refl F, Grow.refl, fun _ _ _ h => h⟩
theorem Ex.trans {Kx : PySem.W.Frag} {mx : Str → Option Value} {zf : Bool} {tk : Tk Kx mx zf} {F H F1 H1 F2 H2 : Hp} (a : Ex tk F H F1 H1) (b : Ex tk F1 H1 F2 H2) : Ex tk F H F2 H2 :=
  ⟨a.sm.trans b.sm, a.gr.trans b.sm b.gr, fun c n h f => b.nw c n (by
    cases e : H c with
    | none => exact absurd e h
    | some o => exact a.gr.ne e n) (a.nw c n h f)⟩
theorem Rd.grow {Kx : PySem.W.Frag} {mx : Str → Option Value} {zf : Bool} {tk : Tk Kx mx zf} {H F' H' : Hp} {a : Addr} {u : HO} (g : Grow tk H F' H') (n : tk.pw ≠ some a) (h : Rd H a u) : Rd H' a u := by
  rcases h with h | ⟨o, h⟩
  · rcases g _ _ h n with e | ⟨_, _, ob, e⟩
    · exact .inl e
    · exact .inr ⟨ob, e⟩
  · exact .inr ⟨o, g.exL h n rfl⟩
theorem RepB.ex {Kx : PySem.W.Frag} {mx : Str → Option Value} {zf : Bool} {tk : Tk Kx mx zf} {F H F' H' : Hp} (x : Ex tk F H F' H') {d : D} {v : V} (h : RepB tk F H d v) : RepB tk F' H' d v := by
  cases d <;> simp only [RepB] at h ⊢
  case list ds =>
    obtain ⟨a, xs, e, n, r, l⟩ := h
    exact ⟨a, xs, e, n, Rd.grow x.gr n r, RepL.same x.sm _ _ l⟩
  case dict kvs =>
    obtain ⟨a, e, h⟩ := h
    refine ⟨a, e, ?_⟩
    rcases h with ⟨n, ⟨es, r, l⟩ | ⟨es, r, l⟩⟩ | h
    · exact .inl ⟨n, .inl ⟨es, Rd.grow x.gr n r, RepK.same x.sm _ _ l⟩⟩
    · exact .inl ⟨n, .inr ⟨es, Rd.grow x.gr n r, RepT.same x.sm _ _ l⟩⟩
    · refine .inr ?_
      rcases h with h | h | ⟨ns, e, h⟩
      · exact .inl h
      · exact .inr (.inl h)
      · exact .inr (.inr ⟨ns, e, x.sm.seq h⟩)
  all_goals exact Rep.same x.sm _ _ h

/-- the dict of draws -/
def WAt {Kx : PySem.W.Frag} {mx : Str → Option Value} {zf : Bool} (tk : Tk Kx mx zf) (H F : Hp) (w : Wd) : Prop := match tk.pw, w with
  | none, none => True
  | some p, some l => F p = none ∧ ∃ (b : Addr) (n : Nat) (full : List Int), H p = some (.dK [(.inr "draws", .ref b), (.inr "at", .int n)]) ∧ Rd F b (.lst (full.map V.int)) ∧ l = full.drop n
  | _, _ => False
theorem WAt.free {Kx : PySem.W.Frag} {mx : Str → Option Value} {zf : Bool} {tk : Tk Kx mx zf} {H F : Hp} {w : Wd} (h : WAt tk H F w) : ∀ p, tk.pw = some p → F p = none ∧ H p ≠ none := by
  intro p e
  unfold WAt at h
  rw [e] at h
  cases w with
  | none => exact h.elim
  | some l =>
    obtain ⟨f, b, n, full, e, _⟩ := h
    exact ⟨f, by rw [e]; exact fun z => nomatch z⟩
theorem WAt.to {Kx : PySem.W.Frag} {mx : Str → Option Value} {zf : Bool} {tk : Tk Kx mx zf} {H F H' F' : Hp} {w : Wd} (h : WAt tk H F w) (hk : ∀ p, tk.pw = some p → H' p = H p) (s : Same F F') (hf : ∀ q, tk.pw = some q → F' q = none) : WAt tk H' F' w := by
  unfold WAt at h ⊢
  cases e : tk.pw with
  | none =>
    rw [e] at h
    cases w <;> exact h
  | some q =>
    rw [e] at h
    cases w with
    | none => exact h.elim
    | some l =>
      obtain ⟨f, b, n, full, e1, r, z⟩ := h
      exact ⟨hf q e, b, n, full, by rw [hk q e]; exact e1, Rd.same s r, z⟩
theorem WAt.upd {Kx : PySem.W.Frag} {mx : Str → Option Value} {zf : Bool} {tk : Tk Kx mx zf} {H F F' : Hp} {w : Wd} {p : Addr} {o : HO} (h : WAt tk H F w) (hn : H p = none) (s : Same F F') (hf : ∀ q, tk.pw = some q → F' q = none) : WAt tk (upd H p o) F' w :=
  h.to (fun q e => upd_ne fun z => (h.free q e).2 (by rw [z]; exact hn)) s hf

structure Rel {Kx : PySem.W.Frag} {mx : Str → Option Value} {zf : Bool} (tk : Tk Kx mx zf) (H0 F0 : Hp) (O : List Nat) (σ : L2.St) (H F : Hp) (g : Env) (w : Wd) : Prop where
  len : g.length = σ.length
  sub : Sub F H
  f0 : Same F0 F
  k0 : Grow tk H0 F H
  n0 : New tk H0 F0 F
  val : ∀ i d, i ∉ O → g[i]? = some (some d) → ∃ v, σ[i]? = some (some v) ∧ Rep tk F d v
  own : ∀ i d, i ∈ O → g[i]? = some (some d) → ∃ a o, σ[i]? = some (some (.ref a)) ∧ H a = some o ∧ F a = none ∧ H0 a = none ∧ tk.pw ≠ some a ∧ RepO tk F d o
  sep : ∀ i j a d e, i ∈ O → j ∈ O → g[i]? = some (some d) → g[j]? = some (some e) → σ[i]? = some (some (.ref a)) → σ[j]? = some (some (.ref a)) → i = j
  wat : WAt tk H F w

theorem Rep.b {Kx : PySem.W.Frag} {mx : Str → Option Value} {zf : Bool} {tk : Tk Kx mx zf} {F H : Hp} {d : D} {v : V} (s : Sub F H) (f : ∀ p, tk.pw = some p → F p = none) (h : Rep tk F d v) : RepB tk F H d v := by
  have ne : ∀ {a o}, F a = some o → tk.pw ≠ some a := fun {a o} e z => by rw [f _ z] at e; cases e
  cases d <;> simp only [RepB] <;> try exact h
  case list ds =>
    simp only [Rep] at h
    obtain ⟨a, xs, e, r, l⟩ := h
    refine ⟨a, xs, e, ?_, s.rdL r, l⟩
    rcases r with r | ⟨o, r⟩ <;> exact ne r
  case dict kvs =>
    simp only [Rep] at h
    obtain ⟨a, e, h⟩ := h
    rcases h with ⟨es, r, l⟩ | ⟨es, r, l⟩ | h
    · exact ⟨a, e, .inl ⟨ne r, .inl ⟨es, s.dict r rfl, l⟩⟩⟩
    · exact ⟨a, e, .inl ⟨ne r, .inr ⟨es, s.dict r rfl, l⟩⟩⟩
    · exact ⟨a, e, .inr h⟩
section
variable {Kx : PySem.W.Frag} {mx : Str → Option Value} {zf : Bool} {tk : Tk Kx mx zf} {H0 F0 : Hp} {O : List Nat} {σ : L2.St} {H F : Hp} {g : Env} {w : Wd}
theorem Rel.fw (R : Rel tk H0 F0 O σ H F g w) : ∀ p, tk.pw = some p → F p = none := fun p e => (R.wat.free p e).1
theorem Rel.b (R : Rel tk H0 F0 O σ H F g w) {d : D} {v : V} (h : Rep tk F d v) : RepB tk F H d v := h.b R.sub R.fw
theorem same_new {F : Hp} {p : Addr} {o : HO} (h : F p = none) : Same F (upd F p o) := fun b u e => by rw [upd_ne (ne_of_none e h)]; exact e
/-- a new frozen object -/
theorem Rel.alloc (R : Rel tk H0 F0 O σ H F g w) {p : Addr} (hp : H p = none) (o : HO) : Rel tk H0 F0 O σ (upd H p o) (upd F p o) g w ∧ Ex tk F H (upd F p o) (upd H p o) := by
  have hf : F p = none := R.sub.none hp
  have s := same_new (o := o) hf
  have npw : tk.pw ≠ some p := fun e => (R.wat.free p e).2 hp
  refine ⟨⟨R.len, fun a u e => ?_, R.f0.trans s, R.k0.to s fun a u n e => by rw [upd_ne (ne_of_none e hp)]; exact e, fun a n e f => ?_, fun i d hi e => ?_, fun i d hi e => ?_, R.sep, R.wat.upd hp s fun q e => ?_⟩, s, fun a u e n => .inl (by rw [upd_ne (ne_of_none e hp)]; exact e), fun a n e f => ?_⟩
  · by_cases h : a = p
    · subst h; rw [upd_same] at e; exact .inl (by rw [upd_same]; exact e)
    · rw [upd_ne h] at e
      rcases R.sub a u e with k | ⟨k, ob, q⟩
      · exact .inl (by rw [upd_ne h]; exact k)
      · exact .inr ⟨k, ob, by rw [upd_ne h]; exact q⟩
  · have h1 := R.n0 a n e f
    cases q : H0 a with
    | none => exact absurd q e
    | some u =>
      have ne : a ≠ p := fun z => R.k0.ne q n (by rw [z]; exact hp)
      rw [upd_ne ne]; exact h1
  · obtain ⟨v, h1, h2⟩ := R.val i d hi e
    exact ⟨v, h1, Rep.same s _ _ h2⟩
  · obtain ⟨a, u, h1, h2, h3, h4, h5, h6⟩ := R.own i d hi e
    have ne := ne_of_none h2 hp
    exact ⟨a, u, h1, by rw [upd_ne ne]; exact h2, by rw [upd_ne ne]; exact h3, h4, h5, h6.same s⟩
  · rw [upd_ne (fun z => npw (by rw [e, z]))]; exact R.fw q e
  · have ne : a ≠ p := fun z => e (by rw [z]; exact hp)
    rw [upd_ne ne]; exact f
/-- a new object that is not frozen -/
theorem Rel.allocO (R : Rel tk H0 F0 O σ H F g w) {p : Addr} (hp : H p = none) (o : HO) : Rel tk H0 F0 O σ (upd H p o) F g w ∧ Ex tk F H F (upd H p o) := by
  refine ⟨⟨R.len, fun a u e => ?_, R.f0, R.k0.to (Same.refl F) fun a u n e => by rw [upd_ne (ne_of_none e hp)]; exact e, R.n0, R.val, fun i d hi e => ?_, R.sep, R.wat.upd hp (Same.refl F) R.fw⟩, Same.refl F, fun a u e n => .inl (by rw [upd_ne (ne_of_none e hp)]; exact e), fun a n e f => f⟩
  · have ne : a ≠ p := fun z => by rw [z, R.sub.none hp] at e; cases e
    rcases R.sub a u e with k | ⟨k, ob, q⟩
    · exact .inl (by rw [upd_ne ne]; exact k)
    · exact .inr ⟨k, ob, by rw [upd_ne ne]; exact q⟩
  · obtain ⟨a, u, h1, h2, h3⟩ := R.own i d hi e
    exact ⟨a, u, h1, by rw [upd_ne (ne_of_none h2 hp)]; exact h2, h3⟩
/-- a standing object frozen: it is no slot's own -/
theorem Rel.frz (R : Rel tk H0 F0 O σ H F g w) {p : Addr} {o : HO} (hp : H p = some o) (hf : F p = none) (h0 : H0 p = none) (npw : tk.pw ≠ some p) (no : ∀ i d, i ∈ O → g[i]? = some (some d) → σ[i]? ≠ some (some (.ref p))) :
    Rel tk H0 F0 O σ H (upd F p o) g w := by
  have s := same_new (o := o) hf
  refine ⟨R.len, fun a u e => ?_, R.f0.trans s, R.k0.to s fun _ _ _ e => e, fun a n e f => ?_, fun i d hi e => ?_, fun i d hi e => ?_, R.sep, ?_⟩
  · by_cases h : a = p
    · subst h; rw [upd_same] at e; cases e; exact .inl hp
    · rw [upd_ne h] at e; exact R.sub a u e
  · have ne : a ≠ p := fun z => e (by rw [z]; exact h0)
    rw [upd_ne ne]; exact R.n0 a n e f
  · obtain ⟨v, h1, h2⟩ := R.val i d hi e
    exact ⟨v, h1, Rep.same s _ _ h2⟩
  · obtain ⟨a, u, h1, h2, h3, h4, h5, h6⟩ := R.own i d hi e
    have ne : a ≠ p := fun z => no i d hi e (by rw [← z]; exact h1)
    exact ⟨a, u, h1, h2, by rw [upd_ne ne]; exact h3, h4, h5, h6.same s⟩
  · exact R.wat.to (fun _ _ => rfl) s fun q e => by rw [upd_ne (fun z => npw (by rw [e, z]))]; exact R.fw q e
end

/-! ### the readings -/
abbrev KE {Kx : PySem.W.Frag} {mx : Str → Option Value} {zf : Bool} (tk : Tk Kx mx zf) (H0 F0 : Hp) (O : List Nat) (σ : L2.St) (F H : Hp) (g : Env) (w' : Wd) (P : Hp → Hp → V → Prop) (Q : VK) : Prop :=
  ∀ v H' F', Rel tk H0 F0 O σ H' F' g w' → Ex tk F H F' H' → P F' H' v → Q v H'
def rd (Kx : PySem.W.Frag) (mx : Str → Option Value) (zf : Bool) (O : List Nat) (f : E) : TE := fun σ H Q => ∃ tk : Tk Kx mx zf, ∃ H0 F0 F g w d w', Rel tk H0 F0 O σ H F g w ∧ f g w = some (d, w') ∧ KE tk H0 F0 O σ F H g w' (fun F' _ v => Rep tk F' d v) Q
def rdB (Kx : PySem.W.Frag) (mx : Str → Option Value) (zf : Bool) (O : List Nat) (f : E) : TE := fun σ H Q => ∃ tk : Tk Kx mx zf, ∃ H0 F0 F g w d w', Rel tk H0 F0 O σ H F g w ∧ f g w = some (d, w') ∧ KE tk H0 F0 O σ F H g w' (fun F' H' v => RepB tk F' H' d v) Q
/-- a new object, not frozen yet -/
def IsOwn {Kx : PySem.W.Frag} {mx : Str → Option Value} {zf : Bool} (tk : Tk Kx mx zf) (H F' H' : Hp) (d : D) (v : V) : Prop := ∃ a o, v = .ref a ∧ H' a = some o ∧ F' a = none ∧ H a = none ∧ tk.pw ≠ some a ∧ RepO tk F' d o
def rdO (Kx : PySem.W.Frag) (mx : Str → Option Value) (zf : Bool) (O : List Nat) (f : E) : TE := fun σ H Q => ∃ tk : Tk Kx mx zf, ∃ H0 F0 F g w d w', Rel tk H0 F0 O σ H F g w ∧ f g w = some (d, w') ∧ KE tk H0 F0 O σ F H g w' (fun F' H' v => IsOwn tk H F' H' d v) Q
def rdT (Kx : PySem.W.Frag) (mx : Str → Option Value) (zf : Bool) (O : List Nat) (f : T) : TT := fun σ H Q => ∃ tk : Tk Kx mx zf, ∃ H0 F0 F g w k w', Rel tk H0 F0 O σ H F g w ∧ f g w = some (k, w') ∧ ∀ H' F', Rel tk H0 F0 O σ H' F' g w' → Ex tk F H F' H' → Q k H'
def rdA (Kx : PySem.W.Frag) (mx : Str → Option Value) (zf : Bool) (O : List Nat) (f : Es) : TA := fun σ H Q => ∃ tk : Tk Kx mx zf, ∃ H0 F0 F g w ds w', Rel tk H0 F0 O σ H F g w ∧ f g w = some (ds, w') ∧ ∀ vs H' F', Rel tk H0 F0 O σ H' F' g w' → Ex tk F H F' H' → RepL tk F' ds vs → Q vs H'
def RepBL {Kx : PySem.W.Frag} {mx : Str → Option Value} {zf : Bool} (tk : Tk Kx mx zf) (F H : Hp) : List D → List V → Prop
  | [], [] => True
  | d :: ds, v :: vs => RepB tk F H d v ∧ RepBL tk F H ds vs
  | _, _ => False
theorem RepBL.ex {Kx : PySem.W.Frag} {mx : Str → Option Value} {zf : Bool} {tk : Tk Kx mx zf} {F H F' H' : Hp} (x : Ex tk F H F' H') : ∀ {ds : List D} {vs : List V}, RepBL tk F H ds vs → RepBL tk F' H' ds vs
  | [], [], _ => by simp only [RepBL]
  | [], _ :: _, h => by simp only [RepBL] at h
  | _ :: _, [], h => by simp only [RepBL] at h
  | d :: ds, v :: vs, h => by
    simp only [RepBL] at h ⊢
    exact ⟨h.1.ex x, RepBL.ex x h.2⟩
def rdAB (Kx : PySem.W.Frag) (mx : Str → Option Value) (zf : Bool) (O : List Nat) (f : Es) : TA := fun σ H Q => ∃ tk : Tk Kx mx zf, ∃ H0 F0 F g w ds w', Rel tk H0 F0 O σ H F g w ∧ f g w = some (ds, w') ∧ ∀ vs H' F', Rel tk H0 F0 O σ H' F' g w' → Ex tk F H F' H' → RepBL tk F' H' ds vs → Q vs H'
/-- a statement: O' the own slots behind it, Ol those at a break or continue -/
def SOut {Kx : PySem.W.Frag} {mx : Str → Option Value} {zf : Bool} (tk : Tk Kx mx zf) (H0 F0 : Hp) (O' Ol : List Nat) (D : Ends) (w' : Wd) : Out → Prop
  | .nx g' => ∀ σ' H' F', Rel tk H0 F0 O' σ' H' F' g' w' → D.nx σ' H'
  | .rt d => ∀ v H' F', Sub F' H' → Same F0 F' → Grow tk H0 F' H' → New tk H0 F0 F' → WAt tk H' F' w' → Rep tk F' d v → D.rt v H'
  | .bk g' => ∀ σ' H' F', Rel tk H0 F0 Ol σ' H' F' g' w' → D.bk σ' H'
  | .ct g' => ∀ σ' H' F', Rel tk H0 F0 Ol σ' H' F' g' w' → D.ct σ' H'
def rdS (Kx : PySem.W.Frag) (mx : Str → Option Value) (zf : Bool) (O O' Ol : List Nat) (f : S) : TS := fun D σ H => ∃ tk : Tk Kx mx zf, ∃ H0 F0 F g w o w', Rel tk H0 F0 O σ H F g w ∧ f g w = some (o, w') ∧ SOut tk H0 F0 O' Ol D w' o

section
variable (X : Cx) (zf : Bool)
abbrev EV (O : List Nat) (e : Expr) (f : E) : Prop := PE X e (rd X.K X.mg zf O f)
abbrev EB (O : List Nat) (e : Expr) (f : E) : Prop := PE X e (rdB X.K X.mg zf O f)
abbrev EO (O : List Nat) (e : Expr) (f : E) : Prop := PE X e (rdO X.K X.mg zf O f)
abbrev ET (O : List Nat) (e : Expr) (f : T) : Prop := PT X e (rdT X.K X.mg zf O f)
abbrev EA (O : List Nat) (es : List Expr) (f : Es) : Prop := PA X es (rdA X.K X.mg zf O f)
abbrev EAB (O : List Nat) (es : List Expr) (f : Es) : Prop := PA X es (rdAB X.K X.mg zf O f)
abbrev ES (O O' Ol : List Nat) (st : Stmt) (f : S) : Prop := PS X st (rdS X.K X.mg zf O O' Ol f)
abbrev ESs (O O' Ol : List Nat) (st : List Stmt) (f : S) : Prop := PSs X st (rdS X.K X.mg zf O O' Ol f)
end
section
variable {X : Cx} {zf : Bool}
theorem PE.imp {e : Expr} {t t' : TE} (h : PE X e t) (k : ∀ σ H Q, t' σ H Q → t σ H Q) : PE X e t' := ⟨fun pins s σ H Q I hw => h.run pins s σ H Q I (k σ H Q hw)⟩
theorem PT.imp {e : Expr} {t t' : TT} (h : PT X e t) (k : ∀ σ H Q, t' σ H Q → t σ H Q) : PT X e t' := ⟨fun pins s σ H Q I hw => h.run pins s σ H Q I (k σ H Q hw)⟩
theorem PA.imp {e : List Expr} {t t' : TA} (h : PA X e t) (k : ∀ σ H Q, t' σ H Q → t σ H Q) : PA X e t' := ⟨fun pos pins s σ H Q I hw => h.run pos pins s σ H Q I (k σ H Q hw)⟩
theorem PS.imp {st : Stmt} {t t' : TS} (h : PS X st t) (k : ∀ D σ H, t' D σ H → t D σ H) : PS X st t' := ⟨fun pins s σ H D I hw => h.run pins s σ H D I (k D σ H hw)⟩
theorem PSs.imp {st : List Stmt} {t t' : TS} (h : PSs X st t) (k : ∀ D σ H, t' D σ H → t D σ H) : PSs X st t' := ⟨fun pins s σ H D I hw => h.run pins s σ H D I (k D σ H hw)⟩
/-- what the state tells is at hand in a reading -/
theorem PE.inv {e : Expr} {t : TE} {P : L2.St → Hp → Prop} (h : PE X e t) (hp : ∀ pins s σ H, Inv X pins σ H s → P σ H) : PE X e (fun σ H Q => P σ H → t σ H Q) :=
  ⟨fun pins s σ H Q I hw => h.run pins s σ H Q I (hw (hp pins s σ H I))⟩

theorem EV.b {O : List Nat} {e : Expr} {f : E} (h : EV X zf O e f) : EB X zf O e f := PE.imp h fun σ H Q ⟨tk, H0, F0, F, g, w, d, w', R, ef, k⟩ =>
  ⟨tk, H0, F0, F, g, w, d, w', R, ef, fun v H' F' R' x r => k v H' F' R' x (R'.b r)⟩
/-- an own object as a value: frozen at once -/
theorem EO.v {O : List Nat} {e : Expr} {f : E} (h : EO X zf O e f) : EV X zf O e f := PE.imp h fun σ H Q ⟨tk, H0, F0, F, g, w, d, w', R, ef, k⟩ => by
  refine ⟨tk, H0, F0, F, g, w, d, w', R, ef, fun v H' F' R' x r => ?_⟩
  obtain ⟨a, o, rfl, h1, h2, h3, h4, h5⟩ := r
  have h0 : H0 a = none := by
    cases q : H0 a with
    | none => rfl
    | some u => exact absurd h3 (R.k0.ne q h4)
  have no : ∀ i d, i ∈ O → g[i]? = some (some d) → σ[i]? ≠ some (some (.ref a)) := fun i d hi hg z => by
    obtain ⟨b, u, k1, k2, _⟩ := R.own i d hi hg
    rw [z] at k1
    cases k1
    rw [h3] at k2; cases k2
  refine k (.ref a) H' (upd F' a o) (R'.frz h1 h2 h0 h4 no) ⟨x.sm.trans (same_new h2), x.gr.to (same_new h2) (fun _ _ _ e => e), fun b n hb f => ?_⟩ (h5.frz h2)
  have ne : b ≠ a := fun z => hb (by rw [z]; exact h3)
  rw [upd_ne ne]
  exact x.nw b n hb f
theorem EO.b {O : List Nat} {e : Expr} {f : E} (h : EO X zf O e f) : EB X zf O e f := EV.b (EO.v h)

/-! ### names, constants -/
theorem EV.var {O : List Nat} {x : Str} {pos : Pos} (i : Nat) (hO : i ∉ O := by decide) (hN : X.N[i]? = some x := by rfl) (hv : Vis X.env.scope x := by first | exact Or.inl rfl | exact Or.inr (Or.inl rfl) | exact Or.inr (Or.inr rfl)) (hd : (x == ("__debug__" : Str)) = false := by decide)
    (hcd : (x == ("__classdict__" : Str)) = false := by decide) : EV X zf O (.Name x pos) (cVar i) := PE.imp (pe_var (i := i) hN hv hd hcd) fun σ H Q ⟨tk, H0, F0, F, g, w, d, w', R, ef, k⟩ => by
  obtain ⟨e0, e2⟩ := lft_eq (show lft (g[i]?).join w = _ from ef)
  have e1 : g[i]? = some (some d) := Option.join_eq_some_iff.mp e0
  obtain ⟨v, h1, h2⟩ := R.val i d hO e1
  have e2 : w = w' := e2
  subst e2
  exact ⟨v, h1, k v H F R (Ex.refl ..) h2⟩
theorem EB.var {O : List Nat} {x : Str} {pos : Pos} (i : Nat) (hN : X.N[i]? = some x := by rfl) (hv : Vis X.env.scope x := by first | exact Or.inl rfl | exact Or.inr (Or.inl rfl) | exact Or.inr (Or.inr rfl)) (hd : (x == ("__debug__" : Str)) = false := by decide)
    (hcd : (x == ("__classdict__" : Str)) = false := by decide) : EB X zf O (.Name x pos) (cVar i) := PE.imp (pe_var (i := i) hN hv hd hcd) fun σ H Q ⟨tk, H0, F0, F, g, w, d, w', R, ef, k⟩ => by
  obtain ⟨e0, e2⟩ := lft_eq (show lft (g[i]?).join w = _ from ef)
  have e1 : g[i]? = some (some d) := Option.join_eq_some_iff.mp e0
  have e2 : w = w' := e2
  subst e2
  by_cases hO : i ∈ O
  · obtain ⟨a, o, h1, h2, h3, h4, h5, h6⟩ := R.own i d hO e1
    refine ⟨.ref a, h1, k _ H F R (Ex.refl ..) ?_⟩
    cases d <;> cases o <;> simp only [RepO] at h6 <;> simp only [RepB]
    · exact ⟨a, _, rfl, h5, .inl h2, h6⟩
    · exact ⟨a, rfl, .inl ⟨h5, .inl ⟨_, .inl h2, h6⟩⟩⟩
    · exact ⟨a, rfl, .inl ⟨h5, .inr ⟨_, .inl h2, h6⟩⟩⟩
  · obtain ⟨v, h1, h2⟩ := R.val i d hO e1
    exact ⟨v, h1, k v H F R (Ex.refl ..) (R.b h2)⟩
theorem ev_const {O : List Nat} {e : Expr} {v : V} {d : D} (h : PE X e (tC v)) (r : ∀ (tk : Tk X.K X.mg zf) F, Rep tk F d v) : EV X zf O e (cK d) := PE.imp h fun σ H Q ⟨tk, H0, F0, F, g, w, d', w', R, ef, k⟩ => by
  have ef : some (d, w) = some (d', w') := ef
  cases ef
  exact k v H F R (Ex.refl ..) (r tk F)
theorem EV.int {O : List Nat} {i j pos} : EV X zf O (.Constant (.int i) j pos) (cK (.int i)) := ev_const pe_int fun _ _ => by simp only [Rep]
theorem EV.bl {O : List Nat} {b j pos} : EV X zf O (.Constant (.bool b) j pos) (cK (.bool b)) := ev_const pe_bl fun _ _ => by simp only [Rep]
theorem EV.non {O : List Nat} {j pos} : EV X zf O (.Constant .none j pos) (cK .none) := ev_const pe_non fun _ _ => by simp only [Rep]
theorem EV.str {O : List Nat} {x j pos} : EV X zf O (.Constant (.str x) j pos) (cK (.str x)) := ev_const pe_str fun _ _ => by simp only [Rep]

/-! ### argument lists, displays -/
theorem EA.nil {O : List Nat} : EA X zf O [] (cArgs []) := PA.imp pa_nil fun σ H Q ⟨tk, H0, F0, F, g, w, ds, w', R, ef, k⟩ => by
  have ef : some (([] : List D), w) = some (ds, w') := ef
  cases ef
  exact k [] H F R (Ex.refl ..) (by simp only [RepL])
theorem EA.cons {O : List Nat} {e : Expr} {es : List Expr} {f : E} {fs : List E} (h : EV X zf O e f) (hs : EA X zf O es (cArgs fs)) (ho : starEach (e :: es) X.env = (false, eval e X.env) :: starEach es X.env := by rfl) : EA X zf O (e :: es) (cArgs (f :: fs)) :=
  PA.imp (pa_cons h hs ho) fun σ H Q ⟨tk, H0, F0, F, g, w, ds, w', R, ef, k⟩ => by
  obtain ⟨d, w1, e1, ef⟩ := bnd_eq (show bnd (f g w) _ = _ from ef)
  obtain ⟨ds', w2, e2, ef⟩ := bnd_eq ef
  cases ef
  refine ⟨tk, H0, F0, F, g, w, d, w1, R, e1, fun v H1 F1 R1 x1 r1 => ?_⟩
  refine ⟨tk, H0, F0, F1, g, w1, ds', w', R1, e2, fun vs H2 F2 R2 x2 r2 => ?_⟩
  exact k (v :: vs) H2 F2 R2 (x1.trans x2) (by simp only [RepL]; exact ⟨Rep.same x2.sm _ _ r1, r2⟩)
theorem EAB.nil {O : List Nat} : EAB X zf O [] (cArgs []) := PA.imp pa_nil fun σ H Q ⟨tk, H0, F0, F, g, w, ds, w', R, ef, k⟩ => by
  have ef : some (([] : List D), w) = some (ds, w') := ef
  cases ef
  exact k [] H F R (Ex.refl ..) (by simp only [RepBL])
theorem EAB.cons {O : List Nat} {e : Expr} {es : List Expr} {f : E} {fs : List E} (h : EB X zf O e f) (hs : EAB X zf O es (cArgs fs)) (ho : starEach (e :: es) X.env = (false, eval e X.env) :: starEach es X.env := by rfl) : EAB X zf O (e :: es) (cArgs (f :: fs)) :=
  PA.imp (pa_cons h hs ho) fun σ H Q ⟨tk, H0, F0, F, g, w, ds, w', R, ef, k⟩ => by
  obtain ⟨d, w1, e1, ef⟩ := bnd_eq (show bnd (f g w) _ = _ from ef)
  obtain ⟨ds', w2, e2, ef⟩ := bnd_eq ef
  cases ef
  refine ⟨tk, H0, F0, F, g, w, d, w1, R, e1, fun v H1 F1 R1 x1 r1 => ?_⟩
  refine ⟨tk, H0, F0, F1, g, w1, ds', w', R1, e2, fun vs H2 F2 R2 x2 r2 => ?_⟩
  exact k (v :: vs) H2 F2 R2 (x1.trans x2) (by simp only [RepBL]; exact ⟨r1.ex x2, r2⟩)
theorem cArgs_len : ∀ {fs : List E} {g : Env} {w : Wd} {ds : List D} {w' : Wd}, cArgs fs g w = some (ds, w') → ds.length = fs.length
  | [], g, w, ds, w', h => by
    have h : some (([] : List D), w) = some (ds, w') := h
    cases h; rfl
  | f :: fs, g, w, ds, w', h => by
    obtain ⟨d, w1, e1, ef⟩ := bnd_eq (show bnd (f g w) _ = _ from h)
    obtain ⟨ds', w2, e2, ef⟩ := bnd_eq ef
    cases ef
    simp [cArgs_len e2]
/-- a tuple of written items, with its object -/
def tTupZ (zf : Bool) (t : TA) : TE := fun σ H Q => t σ H fun xs H1 => xs.length ≤ sizeLine ∧ ∀ p ob, H1 p = none → ob.dict = none → Q (.ref p) (upd H1 p (tupO zf ob xs))
theorem objOk_tup {P : Program} {w : World} {H : Hp} {h : Heap} {p : Addr} {xs : List V} {us : List Value} {ob : Obj} (hz : xs.length ≤ sizeLine) (r : Vals xs us) (e : h.get? p = some ob) (hc : ob.cls = .type "tuple") (hd : ∃ n, ob.data = .seq us.toArray n) : ObjOk P w H h p (tupO zf ob xs) := by
  have k : ObjOk P w H h p (.tup xs) := ⟨hz, us, r, ob, e, hc, hd⟩
  unfold tupO
  cases zf
  · exact k
  · exact ⟨e, k⟩
theorem pe_tupZ {es : List Expr} {t : TA} {pos : Pos} {x1} (h : PA X es t) : PE X (.Tuple es x1 pos) (tTupZ zf t) := by
  refine ⟨fun pins s σ H Q I hq => ?_⟩
  refine wpAny_Tuple_spliced (thn (h.run pos pins s σ H _ I hq) fun us s1 ⟨xs, H1, I1, r, z, q⟩ => ⟨by rw [← r.length]; exact z, ?_⟩)
  have hf : H1 s1.heap.objs.size = none := I1.hok.fresh (Nat.le_refl _)
  exact ⟨.ref s1.heap.objs.size, _, I1.laid (t' := s1.toks) (fun b u e => Heap.get?_push_of_some _ e) (Nat.le_refl _) (objOk_tup z r (Heap.get?_push_size _ rfl) rfl ⟨_, rfl⟩), rfl, q _ _ hf rfl⟩
theorem EV.tup {O : List Nat} {es : List Expr} {x1 : Nat} {pos : Pos} {fs : List E} (h : EA X zf O es (cArgs fs)) (hl : fs.length ≤ sizeLine := by decide) : EV X zf O (.Tuple es x1 pos) (cTup fs) := PE.imp (pe_tupZ h) fun σ H Q ⟨tk, H0, F0, F, g, w, d, w', R, ef, k⟩ => by
  obtain ⟨ds, w1, e1, ef⟩ := bnd_eq (show bnd (cArgs fs g w) _ = _ from ef)
  cases ef
  refine ⟨tk, H0, F0, F, g, w, ds, w', R, e1, fun vs H1 F1 R1 x1 r1 => ⟨by rw [← r1.length, cArgs_len e1]; exact hl, fun p ob hp hob => ?_⟩⟩
  obtain ⟨R2, x2⟩ := R1.alloc hp (tupO zf ob vs)
  refine k (.ref p) _ _ R2 (x1.trans x2) ?_
  simp only [Rep]
  exact ⟨p, vs, rfl, ⟨ob, upd_same, hob⟩, RepL.same x2.sm _ _ r1⟩
theorem EO.lst {O : List Nat} {es : List Expr} {pos : Pos} {fs : List E} (h : EA X zf O es (cArgs fs)) (hl : fs.length ≤ sizeLine := by decide) : EO X zf O (.List es pos) (cLst fs) := PE.imp (pe_lst h) fun σ H Q ⟨tk, H0, F0, F, g, w, d, w', R, ef, k⟩ => by
  obtain ⟨ds, w1, e1, ef⟩ := bnd_eq (show bnd (cArgs fs g w) _ = _ from ef)
  cases ef
  refine ⟨tk, H0, F0, F, g, w, ds, w', R, e1, fun vs H1 F1 R1 x1 r1 => ⟨by rw [← r1.length, cArgs_len e1]; exact hl, fun p hp => ?_⟩⟩
  obtain ⟨R2, x2⟩ := R1.allocO hp (.lst vs)
  have npw : tk.pw ≠ some p := fun e => (R1.wat.free p e).2 hp
  have hp0 : H p = none := by
    cases q : H p with
    | none => rfl
    | some u => exact absurd hp (x1.gr.ne q npw)
  refine k (.ref p) _ _ R2 (x1.trans x2) ⟨p, .lst vs, rfl, upd_same, R1.sub.none hp, hp0, npw, ?_⟩
  simp only [RepO]
  exact r1
end
end Q

set_option Elab.async false
set_option linter.all false
set_option autoImplicit false
set_option maxRecDepth 100000
/-! QS2: operators, tests, built-in functions. -/
namespace Q
open PySem PySem.Spec PyProof.Rows L2
section
variable {X : Cx} {zf : Bool} {Kx : PySem.W.Frag} {mx : Str → Option Value} {zf : Bool} {tk : Tk Kx mx zf} {pins : List (Addr × Obj)} {σ : L2.St} {H F : Hp} {s : Shared}
theorem lstAt (I : Inv X pins σ H s) {a : Addr} {xs : List V} (h : Rd H a (.lst xs)) :
    xs.length ≤ sizeLine ∧ ∃ (its : List Value) (n : Nat), Vals xs its ∧ xs.length = its.length ∧ s.heap.get? a = some { cls := .type "list", data := .seq its.toArray n } := by
  have k : ObjOk X.prog X.w H s.heap a (.lst xs) := by
    rcases h with h | ⟨o, h⟩
    · exact I.hok a _ h
    · exact (I.hok a _ h).2
  obtain ⟨z, its, n, r, e⟩ := k
  exact ⟨z, its, n, r, r.length, e⟩
mutual
/-- what stands in the heap reads as the data -/
theorem Rep.reads (I : Inv X pins σ H s) (sb : Sub F H) : ∀ (d : D) (v : V) (u : Value), d.plain = true → Rep tk F d v → RelV v u → ∃ as, Reads s.heap u d as
  | .none, v, u, _, h, r => by simp only [Rep] at h; subst h; cases r; exact ⟨_, .none⟩
  | .bool b, v, u, _, h, r => by simp only [Rep] at h; subst h; cases r; exact ⟨_, .bool b⟩
  | .int i, v, u, _, h, r => by simp only [Rep] at h; subst h; obtain ⟨t, rfl⟩ := r; exact ⟨_, .int i t⟩
  | .str x, v, u, _, h, r => by simp only [Rep] at h; subst h; obtain ⟨t, rfl⟩ := r; exact ⟨_, .str x t⟩
  | .list ds, v, u, hp, h, r => by
    simp only [Rep] at h
    obtain ⟨a, xs, e, hr, l⟩ := h
    subst e
    cases r
    obtain ⟨z, its, n, rv, hl, e⟩ := lstAt I (sb.rdL hr)
    obtain ⟨as, q⟩ := RepL.reads I sb ds xs its (by simpa only [PyData.plain] using hp) l rv
    exact ⟨_, .list e rfl rfl q⟩
  | .tuple ds, v, u, hp, h, r => by
    simp only [Rep] at h
    obtain ⟨a, xs, e, hr, l⟩ := h
    subst e
    cases r
    obtain ⟨its, rv, ⟨o, e, hc, n, hd⟩, z⟩ := I.tuple (sb.tup hr).sq
    obtain ⟨as, q⟩ := RepL.reads I sb ds xs its (by simpa only [PyData.plain] using hp) l rv
    exact ⟨_, .tuple e hc hd q⟩
  | .dict kvs, v, u, hp, h, r => by simp only [PyData.plain] at hp; cases hp
theorem RepL.reads (I : Inv X pins σ H s) (sb : Sub F H) : ∀ (ds : List D) (vs : List V) (us : List Value), PyData.plainAll ds = true → RepL tk F ds vs → Vals vs us → ∃ as, ReadsAll s.heap us ds as
  | [], [], us, _, _, r => by cases r; exact ⟨_, .nil⟩
  | [], _ :: _, us, _, h, r => by simp only [RepL] at h
  | _ :: _, [], us, _, h, r => by simp only [RepL] at h
  | d :: ds, v :: vs, us, hp, h, r => by
    simp only [RepL] at h
    simp only [PyData.plainAll, Bool.and_eq_true] at hp
    cases r with
    | cons r1 r2 =>
      obtain ⟨as, q1⟩ := Rep.reads I sb d v _ hp.1 h.1 r1
      obtain ⟨bs, q2⟩ := RepL.reads I sb ds vs _ hp.2 h.2 r2
      exact ⟨_, .cons q1 q2⟩
end
theorem RepB.reads (I : Inv X pins σ H s) (sb : Sub F H) {d : D} {v : V} {u : Value} (hp : d.plain = true) (h : RepB tk F H d v) (r : RelV v u) : ∃ as, Reads s.heap u d as := by
  cases d with
  | list ds =>
    simp only [RepB] at h
    obtain ⟨a, xs, e, _, hr, l⟩ := h
    subst e
    cases r
    obtain ⟨z, its, n, rv, hl, e⟩ := lstAt I hr
    obtain ⟨as, q⟩ := RepL.reads I sb ds xs its (by simpa only [PyData.plain] using hp) l rv
    exact ⟨_, .list e rfl rfl q⟩
  | dict kvs => simp only [PyData.plain] at hp; cases hp
  | _ => simp only [RepB] at h; exact Rep.reads I sb _ v u hp h r
end

/-! ### two operands -/
section
variable {X : Cx} {zf : Bool}
/-- r lets f through: the result is data, where nothing that stood changes -/
def Ok2 (Kx : PySem.W.Frag) (mx : Str → Option Value) (zf : Bool) (f : D → D → Option D) (r : R2) : Prop := ∀ (tk : Tk Kx mx zf) H0 F0 O σ F H g w x y d vx vy Q, Rel tk H0 F0 O σ H F g w → RepB tk F H x vx → RepB tk F H y vy → f x y = some d → KE tk H0 F0 O σ F H g w (fun F' _ v => Rep tk F' d v) Q → r vx vy H Q
theorem EV.op2 {op : Operator} {r : R2} {f : D → D → Option D} {O : List Nat} {a b : Expr} {fa fb : E} {pos : Pos} (ho : OpR X (binaryOp op) r) (hk : Ok2 X.K X.mg zf f r) (ha : EB X zf O a fa) (hb : EB X zf O b fb) : EV X zf O (.BinOp a op b pos) (cOp2 f fa fb) :=
  PE.imp (pe_op ho ha hb) fun σ H Q ⟨tk, H0, F0, F, g, w, d, w', R, ef, k⟩ => by
  obtain ⟨x, w1, e1, ef⟩ := bnd_eq (show bnd (fa g w) _ = _ from ef)
  obtain ⟨y, w2, e2, ef⟩ := bnd_eq ef
  obtain ⟨e3, e4⟩ := lft_eq ef
  have e4 : w2 = w' := e4
  subst e4
  refine ⟨tk, H0, F0, F, g, w, x, w1, R, e1, fun vx H1 F1 R1 x1 r1 => ?_⟩
  refine ⟨tk, H0, F0, F1, g, w1, y, w2, R1, e2, fun vy H2 F2 R2 x2 r2 => ?_⟩
  exact hk tk H0 F0 O σ F2 H2 g w2 x y d vx vy Q R2 (r1.ex x2) r2 e3 fun v H' F' R' x' r' => k v H' F' R' ((x1.trans x2).trans x') r'
theorem Ok2.or {Kx : PySem.W.Frag} {mx : Str → Option Value} {zf : Bool} {f : D → D → Option D} {r r' : R2} (h : ∀ (tk : Tk Kx mx zf) H0 F0 O σ F H g w x y d vx vy Q, Rel tk H0 F0 O σ H F g w → RepB tk F H x vx → RepB tk F H y vy → f x y = some d → KE tk H0 F0 O σ F H g w (fun F' _ v => Rep tk F' d v) Q → r vx vy H Q ∨ r' vx vy H Q) :
    Ok2 Kx mx zf f (fun x y H Q => r x y H Q ∨ r' x y H Q) := h
theorem ok2_int {Kx : PySem.W.Frag} {mx : Str → Option Value} {zf : Bool} {f : D → D → Option D} {C : Int → Int → Prop} {gi : Int → Int → Int} (hf : ∀ x y d, f x y = some d → ∃ i j, x = .int i ∧ y = .int j ∧ C i j ∧ d = .int (gi i j)) : Ok2 Kx mx zf f (rI C fun i j => .int (gi i j)) :=
  fun tk H0 F0 O σ F H g w x y d vx vy Q R rx ry e k => by
  obtain ⟨i, j, rfl, rfl, c, rfl⟩ := hf x y d e
  simp only [RepB, Rep] at rx ry
  subst rx
  subst ry
  exact ⟨i, j, rfl, rfl, c, k _ H F R (Ex.refl ..) (by simp only [Rep])⟩
theorem op_sub' : OpR X (binaryOp .Sub) (rI (fun _ _ => True) fun i j => .int (i - j)) := opI fun _ _ _ _ _ _ _ _ q => sub_int q
theorem op_add' : OpR X (binaryOp .Add) (rI (fun _ _ => True) fun i j => .int (i + j)) := opI fun _ _ _ _ _ _ _ _ q => add_int q
theorem EV.sub {O : List Nat} {a b : Expr} {fa fb : E} {pos : Pos} (ha : EB X zf O a fa) (hb : EB X zf O b fb) : EV X zf O (.BinOp a .Sub b pos) (cOp2 subD fa fb) :=
  EV.op2 op_sub' (ok2_int (C := fun _ _ => True) fun x y d e => by
    cases x <;> cases y <;> simp only [subD] at e <;> first | cases e | skip
    exact ⟨_, _, rfl, rfl, trivial, rfl⟩) ha hb
theorem EV.div {O : List Nat} {a b : Expr} {fa fb : E} {pos : Pos} (ha : EB X zf O a fa) (hb : EB X zf O b fb) : EV X zf O (.BinOp a .FloorDiv b pos) (cOp2 divD fa fb) :=
  EV.op2 op_fdivN (ok2_int (C := CDivN) fun x y d e => by
    cases x <;> cases y <;> simp only [divD] at e <;> first | cases e | skip
    split at e <;> first | cases e | skip
    rename_i h
    exact ⟨_, _, rfl, rfl, h, rfl⟩) ha hb
theorem EV.mod {O : List Nat} {a b : Expr} {fa fb : E} {pos : Pos} (ha : EB X zf O a fa) (hb : EB X zf O b fb) : EV X zf O (.BinOp a .Mod b pos) (cOp2 modD fa fb) :=
  EV.op2 op_modN (ok2_int (C := fun _ j => j ≠ 0) fun x y d e => by
    cases x <;> cases y <;> simp only [modD] at e <;> first | cases e | skip
    split at e <;> first | cases e | skip
    rename_i h
    exact ⟨_, _, rfl, rfl, h, rfl⟩) ha hb
theorem EV.pow {O : List Nat} {a b : Expr} {fa fb : E} {pos : Pos} (ha : EB X zf O a fa) (hb : EB X zf O b fb) : EV X zf O (.BinOp a .Pow b pos) (cOp2 powD fa fb) :=
  EV.op2 op_pow (ok2_int (C := CPow) (gi := fun i j => i ^ j.toNat) fun x y d e => by
    cases x <;> cases y <;> simp only [powD] at e <;> first | cases e | skip
    split at e <;> first | cases e | skip
    rename_i h
    exact ⟨_, _, rfl, rfl, h, rfl⟩) ha hb

/-! + -/
def rCatR : R2 := fun x y H Q => ∃ l b xs zs, x = .ref l ∧ y = .ref b ∧ Rd H l (.lst xs) ∧ Rd H b (.lst zs) ∧ xs.length + zs.length ≤ sizeLine ∧ ∀ p, H p = none → Q (.ref p) (upd H p (.lst (xs ++ zs)))
theorem op_catR : OpR X (binaryOp .Add) rCatR := by
  intro pins s σ H x y v u Q I hx hy hq
  obtain ⟨l, b, xs, zs, rfl, rfl, h1, h2, hz, q⟩ := hq
  cases hx
  cases hy
  obtain ⟨za, its, n, ra, la, ea⟩ := lstAt I h1
  obtain ⟨zb, jts, m, rb, lb, eb⟩ := lstAt I h2
  have hn : its.toArray.size + jts.toArray.size ≤ sizeLine := by simp only [List.size_toArray]; omega
  refine PySem.P.add_list ea eb ?_ hn
  have eq : its.toArray ++ jts.toArray = (its ++ jts).toArray := by simp
  rw [eq]
  have hzz : (xs ++ zs).length ≤ sizeLine := by simpa using hz
  exact ⟨.ref _, _, I.lnew (t' := s.toks) (ra.append rb) hzz, rfl, q _ I.fresh⟩
/-- t + u of tuples, the new one with its object -/
def rCatZ (K : PySem.W.Frag) (zf : Bool) : R2 := fun x y H Q => ∃ a b xs ys, x = .ref a ∧ y = .ref b ∧ SqT K H a xs ∧ SqT K H b ys ∧ xs.length + ys.length ≤ sizeLine ∧
  (xs = [] → Q (.ref b) H) ∧ (xs ≠ [] → ys = [] → Q (.ref a) H) ∧ (xs ≠ [] → ys ≠ [] → ∀ p ob, H p = none → ob.dict = none → Q (.ref p) (upd H p (tupO zf ob (xs ++ ys))))
theorem op_catZ : OpR X (binaryOp .Add) (rCatZ X.K zf) := by
  intro pins s σ H x y v u Q I rx ry h
  obtain ⟨a, b, xs, ys, rfl, rfl, ha, hb, hz, q0, q1, q2⟩ := h
  cases rx
  cases ry
  obtain ⟨its, r1, p1, _⟩ := I.tuple ha
  obtain ⟨its2, r2, p2, _⟩ := I.tuple hb
  by_cases hx : xs = []
  · subst hx
    cases r1
    exact cat_tup0 p1 p2 ⟨.ref b, H, I, rfl, q0 rfl⟩
  · refine HT.cat_tup p1 p2 (fun z => hx (r1.nil_iff.mp z)) (fun z => ⟨.ref a, H, I, rfl, q1 hx (r2.nil_iff.mp z)⟩) (fun z => ?_) (by rw [← r1.length, ← r2.length]; exact hz)
    exact ⟨.ref s.heap.objs.size, _, I.laid (t' := s.toks) (fun b ob q => Heap.get?_push_of_some _ q) (Nat.le_refl _) (objOk_tup (by rw [List.length_append]; exact hz) (r1.append r2) (Heap.get?_push_size _ rfl) rfl ⟨_, rfl⟩), rfl, q2 hx (fun w => z (r2.nil_iff.mpr w)) _ _ (I.hok.fresh (Nat.le_refl _)) rfl⟩
def rAddA (K : PySem.W.Frag) (zf : Bool) : R2 := fun x y H Q => rI (fun _ _ => True) (fun i j => .int (i + j)) x y H Q ∨ ((∃ i j, x = .str i ∧ y = .str j ∧ i.length + j.length ≤ sizeLine ∧ Q (.str (i ++ j)) H) ∨ (rCatR x y H Q ∨ rCatZ K zf x y H Q))
theorem op_addA : OpR X (binaryOp .Add) (rAddA X.K zf) := OpR.or op_add' (OpR.or op_add_str (OpR.or op_catR op_catZ))
theorem ok_addA {Kx : PySem.W.Frag} {mx : Str → Option Value} {zf : Bool} : Ok2 Kx mx zf addD (rAddA Kx zf) := fun tk H0 F0 O σ F H g w x y d vx vy Q R rx ry e k => by
  cases x <;> cases y <;> simp only [addD] at e <;> first | cases e | skip
  · simp only [RepB, Rep] at rx ry
    subst rx; subst ry
    exact .inl ⟨_, _, rfl, rfl, trivial, k _ H F R (Ex.refl ..) (by simp only [Rep])⟩
  · simp only [RepB, Rep] at rx ry
    subst rx; subst ry
    split at e <;> first | cases e | skip
    rename_i h
    exact .inr (.inl ⟨_, _, rfl, rfl, h, k _ H F R (Ex.refl ..) (by simp only [Rep])⟩)
  · simp only [RepB] at rx ry
    obtain ⟨a, xs, rfl, na, ra, la⟩ := rx
    obtain ⟨b, ys, rfl, nb, rb, lb⟩ := ry
    split at e <;> first | cases e | skip
    rename_i h
    rw [la.length, lb.length] at h
    refine .inr (.inr (.inl ⟨a, b, xs, ys, rfl, rfl, ra, rb, h, fun p hp => ?_⟩))
    obtain ⟨R2, x2⟩ := R.alloc hp (.lst (xs ++ ys))
    refine k _ _ _ R2 x2 ?_
    simp only [Rep]
    exact ⟨p, _, rfl, .inl upd_same, RepL.same x2.sm _ _ (la.append lb)⟩
  · simp only [RepB, Rep] at rx ry
    obtain ⟨a, xs, rfl, ra, la⟩ := rx
    obtain ⟨b, ys, rfl, rb, lb⟩ := ry
    split at e <;> first | cases e | skip
    rename_i h
    rw [la.length, lb.length] at h
    refine .inr (.inr (.inr ⟨a, b, xs, ys, rfl, rfl, (R.sub.tup ra).sq, (R.sub.tup rb).sq, h, fun he => ?_, fun _ he => ?_, fun _ _ p ob hp hob => ?_⟩))
    · subst he
      have := la.length
      refine k _ H F R (Ex.refl ..) ?_
      rw [List.eq_nil_of_length_eq_zero this, List.nil_append]
      simp only [Rep]
      exact ⟨b, ys, rfl, rb, lb⟩
    · subst he
      have := lb.length
      refine k _ H F R (Ex.refl ..) ?_
      rw [List.eq_nil_of_length_eq_zero this, List.append_nil]
      simp only [Rep]
      exact ⟨a, xs, rfl, ra, la⟩
    · obtain ⟨R2, x2⟩ := R.alloc hp (tupO zf ob (xs ++ ys))
      refine k _ _ _ R2 x2 ?_
      simp only [Rep]
      exact ⟨p, _, rfl, ⟨ob, upd_same, hob⟩, RepL.same x2.sm _ _ (la.append lb)⟩
theorem EV.add {O : List Nat} {a b : Expr} {fa fb : E} {pos : Pos} (ha : EB X zf O a fa) (hb : EB X zf O b fb) : EV X zf O (.BinOp a .Add b pos) (cOp2 addD fa fb) := EV.op2 op_addA ok_addA ha hb

/-! * -/
def rRepR : R2 := fun x y H Q => ∃ l k xs, x = .ref l ∧ y = .int k ∧ Rd H l (.lst xs) ∧ (-(2 ^ 63) ≤ k ∧ k < 2 ^ 63 ∧ xs.length * k.toNat ≤ sizeLine) ∧ ∀ p, H p = none → Q (.ref p) (upd H p (.lst (List.replicate k.toNat xs).flatten))
theorem RepL.rep {Kx : PySem.W.Frag} {mx : Str → Option Value} {zf : Bool} {tk : Tk Kx mx zf} {F : Hp} {ds : List D} {vs : List V} (h : RepL tk F ds vs) : ∀ n : Nat, RepL tk F (List.replicate n ds).flatten (List.replicate n vs).flatten
  | 0 => by simp only [List.replicate_zero, List.flatten_nil, RepL]
  | n + 1 => by
    simp only [List.replicate_succ, List.flatten_cons]
    exact h.append (RepL.rep h n)
theorem ok_mul {Kx : PySem.W.Frag} {mx : Str → Option Value} {zf : Bool} : Ok2 Kx mx zf mulD (fun x y H Q => rI CMul (fun i j => .int (i * j)) x y H Q ∨ rRepR x y H Q) := fun tk H0 F0 O σ F H g w x y d vx vy Q R rx ry e k => by
  cases x <;> cases y <;> simp only [mulD] at e <;> first | cases e | skip
  · simp only [RepB, Rep] at rx ry
    subst rx; subst ry
    split at e <;> first | cases e | skip
    rename_i h
    refine .inl ⟨_, _, rfl, rfl, ?_, k _ H F R (Ex.refl ..) (by simp only [Rep])⟩
    simpa [small64, CMul] using h
  · simp only [RepB] at rx ry
    simp only [Rep] at ry
    subst ry
    obtain ⟨a, xs, rfl, na, ra, la⟩ := rx
    split at e <;> first | cases e | skip
    rename_i h
    rw [la.length] at h
    refine .inr ⟨a, _, xs, rfl, rfl, ra, h, fun p hp => ?_⟩
    obtain ⟨R2, x2⟩ := R.alloc hp (.lst (List.replicate _ xs).flatten)
    refine k _ _ _ R2 x2 ?_
    simp only [Rep]
    exact ⟨p, _, rfl, .inl upd_same, RepL.same x2.sm _ _ (la.rep _)⟩
/-- of ints alone -/
def mulI : D → D → Option D
  | .int i, .int j => mulD (.int i) (.int j)
  | _, _ => none
theorem EV.mul {O : List Nat} {a b : Expr} {fa fb : E} {pos : Pos} (ha : EB X zf O a fa) (hb : EB X zf O b fb) : EV X zf O (.BinOp a .Mult b pos) (cOp2 mulI fa fb) :=
  EV.op2 op_mul (ok2_int (C := CMul) fun x y d e => by
    cases x <;> cases y <;> simp only [mulI] at e <;> first | cases e | skip
    simp only [mulD] at e
    split at e <;> first | cases e | skip
    rename_i h
    exact ⟨_, _, rfl, rfl, by simpa [small64, CMul] using h, rfl⟩) ha hb
theorem EV.neg {O : List Nat} {a : Expr} {fa : E} {pos : Pos} (ha : EB X zf O a fa) : EV X zf O (.UnaryOp .USub a pos) (cOp1 negD fa) := PE.imp (pe_un un_neg ha) fun σ H Q ⟨tk, H0, F0, F, g, w, d, w', R, ef, k⟩ => by
  obtain ⟨x, w1, e1, ef⟩ := bnd_eq (show bnd (fa g w) _ = _ from ef)
  obtain ⟨e3, e4⟩ := lft_eq ef
  have e4 : w1 = w' := e4
  subst e4
  refine ⟨tk, H0, F0, F, g, w, x, w1, R, e1, fun vx H1 F1 R1 x1 r1 => ?_⟩
  cases x <;> simp only [negD] at e3 <;> first | cases e3 | skip
  simp only [RepB, Rep] at r1
  subst r1
  exact ⟨_, rfl, k _ H1 F1 R1 x1 (by simp only [Rep])⟩

/-! ### comparisons: a Bool, nothing changes -/
def OkC (X : Cx) (op : CmpOp) (f : D → D → Option Bool) : Prop :=
  ∀ (pins : List (Addr × Obj)) (s : Shared) (σ : L2.St) (H F : Hp) (tk : Tk X.K X.mg zf) (x y : D) (vx vy : V) (v u : Value) (b : Bool) (Q : Value → Shared → Prop), Inv X pins σ H s → Sub F H → RepB tk F H x vx → RepB tk F H y vy → RelV vx v → RelV vy u → f x y = some b →
    (∀ s', Inv X pins σ H s' → Q (.bool b) s') → wpAny (model X.prog X.w) X.A (compareOp op v u) Q X.xe s
def rC (Kx : PySem.W.Frag) (mx : Str → Option Value) (zf : Bool) (f : D → D → Option Bool) : R2 := fun vx vy H Q => ∃ tk : Tk Kx mx zf, ∃ F x y b, Sub F H ∧ RepB tk F H x vx ∧ RepB tk F H y vy ∧ f x y = some b ∧ Q (.bl b) H
theorem OkC.op {op : CmpOp} {f : D → D → Option Bool} (h : OkC (zf := zf) X op f) : OpR X (compareOp op) (rC X.K X.mg zf f) := by
  intro pins s σ H vx vy v u Q I rx ry ⟨tk, F, x, y, b, sb, hx, hy, e, q⟩
  exact h pins s σ H F tk x y vx vy v u b _ I sb hx hy rx ry e fun s' I' => ⟨.bl b, H, I', rfl, q⟩
theorem ET.cmp {op : CmpOp} {f : D → D → Option Bool} {O : List Nat} {a b : Expr} {fa fb : E} {pos : Pos} (h : OkC (zf := zf) X op f) (ha : EB X zf O a fa) (hb : EB X zf O b fb) (hm : behindInMarks op b = false := by first | exact nomark _ | rfl) : ET X zf O (.Compare a [op] [b] pos) (tCmp f fa fb) :=
  PT.imp (pt_cmpR h.op ha hb hm) fun σ H Q ⟨tk, H0, F0, F, g, w, d, w', R, ef, k⟩ => by
  obtain ⟨x, w1, e1, ef⟩ := bnd_eq (show bnd (fa g w) _ = _ from ef)
  obtain ⟨y, w2, e2, ef⟩ := bnd_eq ef
  obtain ⟨e3, e4⟩ := lft_eq ef
  have e4 : w2 = w' := e4
  subst e4
  refine ⟨tk, H0, F0, F, g, w, x, w1, R, e1, fun vx H1 F1 R1 x1 r1 => ?_⟩
  refine ⟨tk, H0, F0, F1, g, w1, y, w2, R1, e2, fun vy H2 F2 R2 x2 r2 => ?_⟩
  exact ⟨tk, F2, x, y, d, R2.sub, r1.ex x2, r2, e3, d, rfl, k H2 F2 R2 (x1.trans x2)⟩
theorem EV.cmp {op : CmpOp} {f : D → D → Option Bool} {O : List Nat} {a b : Expr} {fa fb : E} {pos : Pos} (h : OkC (zf := zf) X op f) (ha : EB X zf O a fa) (hb : EB X zf O b fb) (hm : behindInMarks op b = false := by first | exact nomark _ | rfl) : EV X zf O (.Compare a [op] [b] pos) (cT (tCmp f fa fb)) :=
  PE.imp (pe_cmpR h.op ha hb hm) fun σ H Q ⟨tk, H0, F0, F, g, w, d, w', R, ef, k⟩ => by
  obtain ⟨t, w0, e0, ef⟩ := bnd_eq (show bnd (tCmp f fa fb g w) _ = _ from ef)
  cases ef
  obtain ⟨x, w1, e1, ef⟩ := bnd_eq (show bnd (fa g w) _ = _ from e0)
  obtain ⟨y, w2, e2, ef⟩ := bnd_eq ef
  obtain ⟨e3, e4⟩ := lft_eq ef
  have e4 : w2 = w' := e4
  subst e4
  refine ⟨tk, H0, F0, F, g, w, x, w1, R, e1, fun vx H1 F1 R1 x1 r1 => ?_⟩
  refine ⟨tk, H0, F0, F1, g, w1, y, w2, R1, e2, fun vy H2 F2 R2 x2 r2 => ?_⟩
  exact ⟨tk, F2, x, y, t, R2.sub, r1.ex x2, r2, e3, k _ H2 F2 R2 (x1.trans x2) (by simp only [Rep])⟩

theorem low60 {x : D} (h : lowD x = true) : x.depth ≤ 60 := of_decide_eq_true h
theorem min60 {x y : D} (h : lowD x = true) : min x.depth y.depth ≤ 60 := Nat.le_trans (Nat.min_le_left _ _) (low60 h)
variable {k : Nat}
theorem ok_eq (hr : Room k X.A) : OkC (zf := zf) X .Eq eqD := fun pins s σ H F tk x y vx vy v u b Q I sb hx hy rx ry e q => by
  simp only [eqD] at e
  split at e <;> first | cases e | skip
  rename_i h
  simp only [Bool.and_eq_true] at h
  obtain ⟨as, r1⟩ := RepB.reads I sb h.1.1.1 hx rx
  obtain ⟨bs, r2⟩ := RepB.reads I sb h.1.1.2 hy ry
  have := hr.units
  have := min60 (y := y) h.1.2
  exact SeqAt.eq_plain r1 r2 h.1.1.1 h.1.1.2 (by omega) (q s I)
theorem ok_ne (hr : Room k X.A) : OkC (zf := zf) X .NotEq neD := fun pins s σ H F tk x y vx vy v u b Q I sb hx hy rx ry e q => by
  simp only [neD, eqD] at e
  split at e <;> simp only [Option.map_some, Option.map_none] at e <;> first | cases e | skip
  rename_i h
  simp only [Bool.and_eq_true] at h
  obtain ⟨as, r1⟩ := RepB.reads I sb h.1.1.1 hx rx
  obtain ⟨bs, r2⟩ := RepB.reads I sb h.1.1.2 hy ry
  have := hr.units
  have := min60 (y := y) h.1.2
  exact SeqAt.ne_plain r1 r2 h.1.1.1 h.1.1.2 (by omega) (q s I)
theorem okLt_of {x y : D} (h : okLt x y = true) : x.plain = true ∧ y.plain = true ∧ PySem.W.alike x y = true ∧ x ≠ .none ∧ min x.depth y.depth ≤ 60 := by
  simp only [okLt, Bool.and_eq_true] at h
  exact ⟨h.1.1.1.1, h.1.1.1.2, h.1.1.2, fun e => (by have := h.1.2; rw [e] at this; cases this), min60 h.2⟩
theorem ok_ord (hr : Room k X.A) {op : CmpOp} {f : D → D → Option Bool} {gb : D → D → Bool} (hf : ∀ x y b, f x y = some b → okLt x y = true ∧ b = gb x y)
    (rule : ∀ (s : Shared) (v u : Value) (x y : D) (as bs : List Addr) (Q E : Value → Shared → Prop), Reads s.heap v x as → Reads s.heap u y bs → PySem.W.alike x y = true → x ≠ .none → X.A.units + min x.depth y.depth < cLine → Q (.bool (gb x y)) s → wpAny (model X.prog X.w) X.A (compareOp op v u) Q E s) :
    OkC (zf := zf) X op f := fun pins s σ H F tk x y vx vy v u b Q I sb hx hy rx ry e q => by
  obtain ⟨h, rfl⟩ := hf x y b e
  obtain ⟨p1, p2, p3, p4, p5⟩ := okLt_of h
  obtain ⟨as, r1⟩ := RepB.reads I sb p1 hx rx
  obtain ⟨bs, r2⟩ := RepB.reads I sb p2 hy ry
  have := hr.units
  exact rule s v u x y as bs Q _ r1 r2 p3 p4 (by omega) (q s I)
theorem ord_of {g : D → D → Bool} {f : D → D → Option Bool} (hf : ∀ x y, f x y = if okLt x y = true then some (g x y) else none) (x y : D) (b : Bool) (e : f x y = some b) : okLt x y = true ∧ b = g x y := by
  rw [hf] at e
  split at e
  · rename_i h
    exact ⟨h, (Option.some.inj e).symm⟩
  · cases e
theorem ok_lt (hr : Room k X.A) : OkC (zf := zf) X .Lt ltD := ok_ord hr (ord_of (g := PySem.W.dataLt) fun _ _ => rfl) fun _ _ _ _ _ _ _ _ _ r1 r2 a b c d => PySem.W.lt_data r1 r2 a b c d
theorem ok_gt (hr : Room k X.A) : OkC (zf := zf) X .Gt gtD := ok_ord hr (ord_of (g := fun x y => PySem.W.dataLt y x) fun _ _ => rfl) fun _ _ _ _ _ _ _ _ _ r1 r2 a b c d => PySem.W.gt_data r1 r2 a b c d
theorem ok_le (hr : Room k X.A) : OkC (zf := zf) X .LtE leD := ok_ord hr (ord_of (g := fun x y => !PySem.W.dataLt y x) fun _ _ => rfl) fun _ _ _ _ _ _ _ _ _ r1 r2 a b c d => PySem.W.le_data r1 r2 a b c d
theorem ok_ge (hr : Room k X.A) : OkC (zf := zf) X .GtE geD := ok_ord hr (ord_of (g := fun x y => !PySem.W.dataLt x y) fun _ _ => rfl) fun _ _ _ _ _ _ _ _ _ r1 r2 a b c d => PySem.W.ge_data r1 r2 a b c d
theorem rep_none {Kx : PySem.W.Frag} {mx : Str → Option Value} {zf : Bool} {tk : Tk Kx mx zf} {F H : Hp} {x : D} {v : V} (h : RepB tk F H x v) : isNoneD x = decide (v = .non) := by
  cases x <;> simp only [RepB, Rep] at h <;> simp only [isNoneD]
  case none => subst h; rfl
  case list => obtain ⟨a, xs, rfl, _⟩ := h; rfl
  case tuple => obtain ⟨a, xs, rfl, _⟩ := h; rfl
  case dict => obtain ⟨a, rfl, _⟩ := h; rfl
  all_goals subst h; rfl
theorem ok_is : OkC (zf := zf) X .Is isND := fun pins s σ H F tk x y vx vy v u b Q I sb hx hy rx ry e q => by
  simp only [isND] at e
  split at e <;> first | cases e | skip
  rename_i h
  cases y <;> simp only [isNoneD] at h <;> first | cases h | skip
  simp only [RepB, Rep] at hy
  subst hy
  cases ry
  refine is_none_gen ?_
  rw [rx.none_iff, ← rep_none hx]
  exact q s I
theorem ok_isNot : OkC (zf := zf) X .IsNot isNotND := fun pins s σ H F tk x y vx vy v u b Q I sb hx hy rx ry e q => by
  simp only [isNotND] at e
  split at e <;> first | cases e | skip
  rename_i h
  cases y <;> simp only [isNoneD] at h <;> first | cases h | skip
  simp only [RepB, Rep] at hy
  subst hy
  cases ry
  refine isnot_none_gen ?_
  rw [rx.none_iff, ← rep_none hx]
  exact q s I

/-! in, not in: of lists and tuples -/
theorem ok_in (hr : Room k X.A) : OkC (zf := zf) X .In inD := fun pins s σ H F tk x y vx vy v u b Q I sb hx hy rx ry e q => by
  cases y <;> simp only [inD] at e <;> first | cases e | skip
  all_goals
    split at e <;> first | cases e | skip
    rename_i h
    simp only [Bool.and_eq_true] at h
    obtain ⟨as, r1⟩ := RepB.reads I sb h.1.1.2 hx rx
    obtain ⟨bs, r2⟩ := RepB.reads I sb (by simp only [PyData.plain]; exact h.1.1.1) hy ry
    have := hr.units
    have l1 := low60 h.1.2
    first
      | exact SeqAt.in_list_data r2 r1 h.1.1.1 h.1.1.2 (by omega) (q s I)
      | exact SeqAt.in_tuple_data r2 r1 h.1.1.1 h.1.1.2 (by omega) (q s I)
theorem ok_notIn (hr : Room k X.A) : OkC (zf := zf) X .NotIn notInD := fun pins s σ H F tk x y vx vy v u b Q I sb hx hy rx ry e q => by
  cases y <;> simp only [notInD, inD, Option.map_none] at e <;> first | cases e | skip
  all_goals
    split at e <;> simp only [Option.map_some, Option.map_none] at e <;> first | cases e | skip
    rename_i h
    simp only [Bool.and_eq_true] at h
    obtain ⟨as, r1⟩ := RepB.reads I sb h.1.1.2 hx rx
    obtain ⟨bs, r2⟩ := RepB.reads I sb (by simp only [PyData.plain]; exact h.1.1.1) hy ry
    have := hr.units
    have l1 := low60 h.1.2
    first
      | exact SeqAt.notIn_list_data r2 r1 h.1.1.1 h.1.1.2 (by omega) (q s I)
      | exact SeqAt.notIn_tuple_data r2 r1 h.1.1.1 h.1.1.2 (by omega) (q s I)

/-! ### and, or, not, a if c else b -/
theorem ET.and1 {O : List Nat} {a : Expr} {fa : T} {pos : Pos} (h : ET X zf O a fa) : PW X (.BoolOp .And [a] pos) (rdT X.K X.mg zf O fa) := pw_and1 h
theorem PW.imp {e : Expr} {t t' : TT} (h : PW X e t) (k : ∀ σ H Q, t' σ H Q → t σ H Q) : PW X e t' := ⟨fun wh pins s σ H Q I hw => h.run wh pins s σ H Q I (k σ H Q hw)⟩
theorem andW {O : List Nat} {a b : Expr} {rest : List Expr} {fa fb : T} {pos : Pos} (ha : ET X zf O a fa) (hb : PW X (.BoolOp .And (b :: rest) pos) (rdT X.K X.mg zf O fb)) : PW X (.BoolOp .And (a :: b :: rest) pos) (rdT X.K X.mg zf O (tAnd fa fb)) :=
  PW.imp (pw_and ha hb) fun σ H Q ⟨tk, H0, F0, F, g, w, d, w', R, ef, kk⟩ => by
  obtain ⟨c, w1, e1, ef⟩ := bnd_eq (show bnd (fa g w) _ = _ from ef)
  refine ⟨tk, H0, F0, F, g, w, c, w1, R, e1, fun H1 F1 R1 x1 => ?_⟩
  cases c with
  | true =>
    rw [if_pos rfl] at ef ⊢
    exact ⟨tk, H0, F0, F1, g, w1, d, w', R1, ef, fun H2 F2 R2 x2 => kk H2 F2 R2 (x1.trans x2)⟩
  | false =>
    rw [if_neg Bool.false_ne_true] at ef ⊢
    cases ef
    exact kk H1 F1 R1 x1
theorem orW {O : List Nat} {a b : Expr} {rest : List Expr} {fa fb : T} {pos : Pos} (ha : ET X zf O a fa) (hb : PW X (.BoolOp .Or (b :: rest) pos) (rdT X.K X.mg zf O fb)) : PW X (.BoolOp .Or (a :: b :: rest) pos) (rdT X.K X.mg zf O (tOr fa fb)) :=
  PW.imp (pw_or ha hb) fun σ H Q ⟨tk, H0, F0, F, g, w, d, w', R, ef, kk⟩ => by
  obtain ⟨c, w1, e1, ef⟩ := bnd_eq (show bnd (fa g w) _ = _ from ef)
  refine ⟨tk, H0, F0, F, g, w, c, w1, R, e1, fun H1 F1 R1 x1 => ?_⟩
  cases c with
  | true =>
    rw [if_pos rfl] at ef ⊢
    cases ef
    exact kk H1 F1 R1 x1
  | false =>
    rw [if_neg Bool.false_ne_true] at ef ⊢
    exact ⟨tk, H0, F0, F1, g, w1, d, w', R1, ef, fun H2 F2 R2 x2 => kk H2 F2 R2 (x1.trans x2)⟩
theorem ET.not {O : List Nat} {a : Expr} {fa : T} {pos : Pos} (ha : ET X zf O a fa) : ET X zf O (.UnaryOp .Not a pos) (tNot fa) := PT.imp (pt_not ha) fun σ H Q ⟨tk, H0, F0, F, g, w, d, w', R, ef, kk⟩ => by
  obtain ⟨c, w1, e1, ef⟩ := bnd_eq (show bnd (fa g w) _ = _ from ef)
  cases ef
  exact ⟨tk, H0, F0, F, g, w, c, w', R, e1, fun H1 F1 R1 x1 => kk H1 F1 R1 x1⟩
/-- a value that is a bool, as a test -/
theorem ET.val {O : List Nat} {a : Expr} {fa : E} (ha : EB X zf O a fa) (he : ∀ whole, isTrue a X.env whole = (do let v ← whole; standAt a.pos; holding [v] (truthy v)) := by intro _; rfl) : ET X zf O a (tVal fa) := PT.imp (pt_val ha he) fun σ H Q ⟨tk, H0, F0, F, g, w, d, w', R, ef, kk⟩ => by
  obtain ⟨x, w1, e1, ef⟩ := bnd_eq (show bnd (fa g w) _ = _ from ef)
  obtain ⟨e3, e4⟩ := lft_eq ef
  have e4 : w1 = w' := e4
  subst e4
  refine ⟨tk, H0, F0, F, g, w, x, w1, R, e1, fun vx H1 F1 R1 x1 r1 => ?_⟩
  cases x <;> simp only [boolD] at e3 <;> first | cases e3 | skip
  simp only [RepB, Rep] at r1
  exact ⟨_, r1, kk H1 F1 R1 x1⟩
theorem EV.if {O : List Nat} {c a b : Expr} {fc : T} {fa fb : E} {pos : Pos} (hc : ET X zf O c fc) (ha : EV X zf O a fa) (hb : EV X zf O b fb) : EV X zf O (.IfExp c a b pos) (cIf fc fa fb) := PE.imp (pe_ifExp hc ha hb) fun σ H Q ⟨tk, H0, F0, F, g, w, d, w', R, ef, kk⟩ => by
  obtain ⟨c, w1, e1, ef⟩ := bnd_eq (show bnd (fc g w) _ = _ from ef)
  refine ⟨tk, H0, F0, F, g, w, c, w1, R, e1, fun H1 F1 R1 x1 => ?_⟩
  cases c with
  | true =>
    rw [if_pos rfl] at ef ⊢
    exact ⟨tk, H0, F0, F1, g, w1, d, w', R1, ef, fun v H2 F2 R2 x2 => kk v H2 F2 R2 (x1.trans x2)⟩
  | false =>
    rw [if_neg Bool.false_ne_true] at ef ⊢
    exact ⟨tk, H0, F0, F1, g, w1, d, w', R1, ef, fun v H2 F2 R2 x2 => kk v H2 F2 R2 (x1.trans x2)⟩
/-! the same as values -/
theorem EV.one {O : List Nat} {op : BoolOp} {a : Expr} {fa : E} {pos : Pos} (h : EV X zf O a fa) : EV X zf O (.BoolOp op [a] pos) fa := pe_one h
theorem EV.and {O : List Nat} {a b : Expr} {rest : List Expr} {fa fb : E} {pos : Pos} (ha : EB X zf O a fa) (hb : EV X zf O (.BoolOp .And (b :: rest) pos) fb) : EV X zf O (.BoolOp .And (a :: b :: rest) pos) (cAnd fa fb) :=
  PE.imp (pe_and ha hb) fun σ H Q ⟨tk, H0, F0, F, g, w, d, w', R, ef, kk⟩ => by
  obtain ⟨x, w1, e1, ef⟩ := bnd_eq (show bnd (fa g w) _ = _ from ef)
  obtain ⟨c, w2, e2, ef2⟩ := bnd_eq ef
  obtain ⟨e3, e4⟩ := lft_eq e2
  have e4 : w1 = w2 := e4
  subst e4
  refine ⟨tk, H0, F0, F, g, w, x, w1, R, e1, fun vx H1 F1 R1 x1 r1 => ?_⟩
  cases x <;> simp only [boolD] at e3 <;> first | cases e3 | skip
  simp only [RepB, Rep] at r1
  refine ⟨c, r1, ?_⟩
  cases c with
  | true =>
    rw [if_pos rfl] at ef2 ⊢
    exact ⟨tk, H0, F0, F1, g, w1, d, w', R1, ef2, fun v H2 F2 R2 x2 => kk v H2 F2 R2 (x1.trans x2)⟩
  | false =>
    rw [if_neg Bool.false_ne_true] at ef2 ⊢
    cases ef2
    exact kk _ H1 F1 R1 x1 (by simp only [Rep])
theorem EV.or {O : List Nat} {a b : Expr} {rest : List Expr} {fa fb : E} {pos : Pos} (ha : EB X zf O a fa) (hb : EV X zf O (.BoolOp .Or (b :: rest) pos) fb) : EV X zf O (.BoolOp .Or (a :: b :: rest) pos) (cOr fa fb) :=
  PE.imp (pe_or ha hb) fun σ H Q ⟨tk, H0, F0, F, g, w, d, w', R, ef, kk⟩ => by
  obtain ⟨x, w1, e1, ef⟩ := bnd_eq (show bnd (fa g w) _ = _ from ef)
  obtain ⟨c, w2, e2, ef2⟩ := bnd_eq ef
  obtain ⟨e3, e4⟩ := lft_eq e2
  have e4 : w1 = w2 := e4
  subst e4
  refine ⟨tk, H0, F0, F, g, w, x, w1, R, e1, fun vx H1 F1 R1 x1 r1 => ?_⟩
  cases x <;> simp only [boolD] at e3 <;> first | cases e3 | skip
  simp only [RepB, Rep] at r1
  refine ⟨c, r1, ?_⟩
  cases c with
  | true =>
    rw [if_pos rfl] at ef2 ⊢
    cases ef2
    exact kk _ H1 F1 R1 x1 (by simp only [Rep])
  | false =>
    rw [if_neg Bool.false_ne_true] at ef2 ⊢
    exact ⟨tk, H0, F0, F1, g, w1, d, w', R1, ef2, fun v H2 F2 R2 x2 => kk v H2 F2 R2 (x1.trans x2)⟩
theorem EV.not {O : List Nat} {a : Expr} {fa : E} {pos : Pos} (ha : EB X zf O a fa) : EV X zf O (.UnaryOp .Not a pos) (cNot fa) := PE.imp (pe_not ha) fun σ H Q ⟨tk, H0, F0, F, g, w, d, w', R, ef, kk⟩ => by
  obtain ⟨x, w1, e1, ef⟩ := bnd_eq (show bnd (fa g w) _ = _ from ef)
  obtain ⟨c, w2, e2, ef2⟩ := bnd_eq ef
  obtain ⟨e3, e4⟩ := lft_eq e2
  have e4 : w1 = w2 := e4
  subst e4
  cases ef2
  refine ⟨tk, H0, F0, F, g, w, x, _, R, e1, fun vx H1 F1 R1 x1 r1 => ?_⟩
  cases x <;> simp only [boolD] at e3 <;> first | cases e3 | skip
  simp only [RepB, Rep] at r1
  exact ⟨c, r1, kk _ H1 F1 R1 x1 (by simp only [Rep])⟩

/-! ### c[i] -/
theorem sqL_sub {K : PySem.W.Frag} {F H : Hp} {a : Addr} {xs : List V} (s : Sub F H) (h : SqL K F a xs) : SqL K H a xs := h.imp s.rdL id
theorem scrOf_eq {kvs : List (D × D)} {ds : List D} (h : scrOf kvs = some ds) : kvs = [(.none, .list ds)] := by
  unfold scrOf at h
  split at h
  · cases h; rfl
  · cases h
theorem RepB.script {Kx : PySem.W.Frag} {mx : Str → Option Value} {zf : Bool} {tk : Tk Kx mx zf} {F H : Hp} {ds : List D} {v : V} (h : RepB tk F H (.dict [(.none, .list ds)]) v) : ∃ (a : Addr) (ns : List Int), v = .ref a ∧ ds = ns.map .int ∧ SqL Kx F a (ns.map V.int) := by
  simp only [RepB] at h
  obtain ⟨a, e, h⟩ := h
  rcases h with ⟨_, ⟨es, _, l⟩ | ⟨es, _, l⟩⟩ | ⟨z, _⟩ | ⟨_, z, _⟩ | ⟨ns, z, r⟩
  · cases es with
    | nil => simp only [RepK] at l
    | cons p es =>
      obtain ⟨k', v'⟩ := p
      simp only [RepK] at l
      cases k' <;> cases l.1
  · cases es with
    | nil => simp only [RepT] at l
    | cons p es =>
      obtain ⟨k', v'⟩ := p
      simp only [RepT] at l
      cases l.1
  · cases z
  · cases z
  · cases z
    exact ⟨a, ns, e, rfl, r⟩
theorem okIx {Kx : PySem.W.Frag} {mx : Str → Option Value} {zf : Bool} : Ok2 Kx mx zf ixD (rIx Kx) := fun tk H0 F0 O σ F H g w x y d vx vy Q R rx ry e k => by
  cases x <;> cases y <;> simp only [ixD] at e <;> first | cases e | skip
  · simp only [RepB] at rx ry
    simp only [Rep] at rx ry
    subst rx; subst ry
    split at e <;> first | cases e | skip
    rename_i h
    obtain ⟨c, e1, e2⟩ := Option.map_eq_some_iff.mp e
    subst e2
    exact .inr (.inr ⟨_, _, c, rfl, rfl, h, e1, k _ H F R (Ex.refl ..) (by simp only [Rep])⟩)
  · simp only [RepB] at rx ry
    simp only [Rep] at ry
    subst ry
    obtain ⟨a, xs, rfl, na, ra, la⟩ := rx
    obtain ⟨j, h1, h2⟩ := Option.bind_eq_some_iff.mp (show (ixN _ _).bind _ = _ from e)
    obtain ⟨v, h3, h4⟩ := la.at h2
    exact .inl ⟨a, xs, _, v, rfl, rfl, .inl ra, by unfold atI; rw [← la.length, h1]; exact h3, k _ H F R (Ex.refl ..) h4⟩
  · simp only [RepB, Rep] at rx ry
    subst ry
    obtain ⟨a, xs, rfl, ra, la⟩ := rx
    obtain ⟨j, h1, h2⟩ := Option.bind_eq_some_iff.mp (show (ixN _ _).bind _ = _ from e)
    obtain ⟨v, h3, h4⟩ := la.at h2
    exact .inr (.inl ⟨a, xs, _, v, rfl, rfl, (R.sub.tup ra).sq, by unfold atI; rw [← la.length, h1]; exact h3, k _ H F R (Ex.refl ..) h4⟩)
  · obtain ⟨ds, h0, e⟩ := Option.bind_eq_some_iff.mp e
    rw [scrOf_eq h0] at rx
    obtain ⟨a, ns, rfl, rfl, ra⟩ := RepB.script rx
    simp only [RepB, Rep] at ry
    subst ry
    obtain ⟨j, h1, h2⟩ := Option.bind_eq_some_iff.mp (show (ixN _ _).bind _ = _ from e)
    rw [List.getElem?_map] at h2
    obtain ⟨n, h3, rfl⟩ := Option.map_eq_some_iff.mp h2
    rw [List.length_map] at h1
    exact .inl ⟨a, _, _, .int n, rfl, rfl, sqL_sub R.sub ra, by unfold atI; rw [List.length_map, h1]; simp [h3], k _ H F R (Ex.refl ..) (by simp only [Rep])⟩
theorem EV.ix {O : List Nat} {a b : Expr} {fa fb : E} {pos : Pos} (ha : EB X zf O a fa) (hb : EB X zf O b fb) (hs : PlainIx b := by intro _ _; rfl) : EV X zf O (.Subscript a b pos) (cOp2 ixD fa fb) :=
  PE.imp (pe_ix ix_seq ha hb hs) fun σ H Q ⟨tk, H0, F0, F, g, w, d, w', R, ef, k⟩ => by
  obtain ⟨x, w1, e1, ef⟩ := bnd_eq (show bnd (fa g w) _ = _ from ef)
  obtain ⟨y, w2, e2, ef⟩ := bnd_eq ef
  obtain ⟨e3, e4⟩ := lft_eq ef
  have e4 : w2 = w' := e4
  subst e4
  refine ⟨tk, H0, F0, F, g, w, x, w1, R, e1, fun vx H1 F1 R1 x1 r1 => ?_⟩
  refine ⟨tk, H0, F0, F1, g, w1, y, w2, R1, e2, fun vy H2 F2 R2 x2 r2 => ?_⟩
  exact okIx tk H0 F0 O σ F2 H2 g w2 x y d vx vy Q R2 (r1.ex x2) r2 e3 fun v H' F' R' x' r' => k v H' F' R' ((x1.trans x2).trans x') r'
end
end Q

set_option Elab.async false
set_option linter.all false
set_option autoImplicit false
set_option maxRecDepth 100000
/-! QS3: slices, built-in functions of data. -/
namespace Q
open PySem PySem.Spec PyProof.Rows L2
section
variable {X : Cx} {zf : Bool} {k : Nat}
/-! ### slices -/
def rdP (Kx : PySem.W.Frag) (mx : Str → Option Value) (zf : Bool) (O : List Nat) (f : Env → Wd → Option (Option Int × Wd)) : TO := fun σ H Q => ∃ tk : Tk Kx mx zf, ∃ H0 F0 F g w d w', Rel tk H0 F0 O σ H F g w ∧ f g w = some (d, w') ∧ ∀ H' F', Rel tk H0 F0 O σ H' F' g w' → Ex tk F H F' H' → Q d H'
theorem PO.imp {e : Option Expr} {t t' : TO} (h : PO X e t) (kk : ∀ σ H Q, t' σ H Q → t σ H Q) : PO X e t' := ⟨fun pins s σ H Q I hw => h.run pins s σ H Q I (kk σ H Q hw)⟩
theorem EP.none {O : List Nat} : PO X Option.none (rdP X.K X.mg zf O (optE Option.none)) := PO.imp po_none fun σ H Q ⟨tk, H0, F0, F, g, w, d, w', R, ef, kk⟩ => by
  have ef : some (Option.none, w) = some (d, w') := ef
  cases ef
  exact kk H F R (Ex.refl ..)
theorem EP.some {O : List Nat} {e : Expr} {f : E} (h : EB X zf O e f) : PO X (Option.some e) (rdP X.K X.mg zf O (optE (Option.some f))) := PO.imp (po_some h) fun σ H Q ⟨tk, H0, F0, F, g, w, d, w', R, ef, kk⟩ => by
  obtain ⟨x, w1, e1, ef⟩ := bnd_eq (show bnd (f g w) _ = _ from ef)
  refine ⟨tk, H0, F0, F, g, w, x, w1, R, e1, fun vx H1 F1 R1 x1 r1 => ?_⟩
  cases x <;> simp only at ef <;> first | cases ef | skip
  simp only [RepB, Rep] at r1
  exact ⟨_, r1, kk H1 F1 R1 x1⟩
theorem RepL.cut {Kx : PySem.W.Frag} {mx : Str → Option Value} {zf : Bool} {tk : Tk Kx mx zf} {F : Hp} {ds : List D} {xs : List V} (h : RepL tk F ds xs) (lo hi : Option Int) : RepL tk F (cutL ds lo hi) (cutV xs lo hi) := by
  unfold cutL cutV
  rw [h.length]
  exact (h.drop _).take _
theorem cut_whole {α : Type} {xs : List α} {lo hi : Option Int} (h : HT.sIx xs.length 0 lo = 0 ∧ HT.sIx xs.length xs.length hi = xs.length) : cutL xs lo hi = xs := by
  unfold cutL
  rw [h.1, h.2]
  simp
/-- t[lo:hi], the new one with its object -/
def rSlZ (K : PySem.W.Frag) (zf : Bool) : V → Option Int → Option Int → Hp → VK → Prop := fun x lo hi H Q => ∃ a xs, x = .ref a ∧ SqT K H a xs ∧
  (HT.sIx xs.length 0 lo = 0 ∧ HT.sIx xs.length xs.length hi = xs.length → Q (.ref a) H) ∧ (¬ (HT.sIx xs.length 0 lo = 0 ∧ HT.sIx xs.length xs.length hi = xs.length) → ∀ p ob, H p = none → ob.dict = none → Q (.ref p) (upd H p (tupO zf ob (cutV xs lo hi))))
theorem sl_tupZ : SlR X (rSlZ X.K zf) := by
  intro pins s σ H x v vl vu lo hi sl Q I rx hs pl pu h
  obtain ⟨a, xs, rfl, hx, q1, q2⟩ := h
  cases rx
  obtain ⟨its, r, ht, hz⟩ := I.tuple hx
  have hlen : its.toArray.size = xs.length := by rw [List.size_toArray]; exact r.length.symm
  refine ⟨"tuple", _, PyProof.Rows.slot_tuple_getitem.lookup, ht.typeIs, ?_⟩
  by_cases hw : HT.sIx xs.length 0 lo = 0 ∧ HT.sIx xs.length xs.length hi = xs.length
  · exact getItem_tuple_whole ht hs pl pu (by rw [hlen]; exact hw) ⟨.ref a, H, I, rfl, q1 hw⟩
  · refine HT.getItem_tuple_cut ht hs pl pu (by rw [hlen]; exact hw) ?_ (by rw [hlen]; exact hz)
    rw [hlen]
    exact ⟨.ref s.heap.objs.size, _, I.laid (t' := s.toks) (fun b ob q => Heap.get?_push_of_some _ q) (Nat.le_refl _) (objOk_tup (Nat.le_trans (cutV_length xs lo hi) hz) ((r.drop (HT.sIx xs.length 0 lo)).take (HT.sIx xs.length xs.length hi - HT.sIx xs.length 0 lo)) (Heap.get?_push_size _ rfl) rfl ⟨_, rfl⟩), rfl, q2 hw _ _ (I.hok.fresh (Nat.le_refl _)) rfl⟩
/-- tuple(xs) -/
theorem call_tuple_ofZ : CallR X (.type "tuple") (fun xs H Q => ∃ p ys, xs = [.ref p] ∧ ((SqL X.K H p ys ∧ ∀ l ob, H l = none → ob.dict = none → Q (.ref l) (upd H l (tupO zf ob ys))) ∨ (SqT X.K H p ys ∧ Q (.ref p) H))) := by
  intro pins s σ H xs us Q I r h
  obtain ⟨p, ys, rfl, h⟩ := h
  obtain ⟨u, rfl, rx⟩ := vals1 r
  cases rx
  rcases h with ⟨hq, q⟩ | ⟨hq, q⟩
  · obtain ⟨its, r', pl, hz⟩ := I.list hq
    have hlen := r'.length
    refine call_tuple_list pl.isList (fun h' kp => ?_) (by simp only [List.size_toArray] <;> omega)
    have I1 : Inv X pins σ H { s with heap := h' } := I.kept (t' := s.toks) kp
    exact ⟨.ref h'.objs.size, _, I1.laid (t' := s.toks) (fun b o e => Heap.get?_push_of_some _ e) (Nat.le_refl _) (objOk_tup hz r' (Heap.get?_push_size _ rfl) rfl ⟨_, rfl⟩), rfl, q _ _ (I1.hok.fresh (Nat.le_refl _)) rfl⟩
  · obtain ⟨its, r', pl, hz⟩ := I.tuple hq
    exact call_tuple_same pl ⟨.ref p, H, I, rfl, q⟩
theorem ok_sl {Kx : PySem.W.Frag} {mx : Str → Option Value} {zf : Bool} {tk : Tk Kx mx zf} {H0 F0 O σ F H g w x d lo hi vx Q} (R : Rel tk H0 F0 O σ H F g w) (rx : RepB tk F H x vx) (e : cutD x lo hi = some d) (kk : KE tk H0 F0 O σ F H g w (fun F' _ v => Rep tk F' d v) Q) : rSlL Kx vx lo hi H Q ∨ rSlZ Kx zf vx lo hi H Q := by
  cases x <;> simp only [cutD] at e <;> first | cases e | skip
  · simp only [RepB] at rx
    obtain ⟨a, xs, rfl, na, ra, la⟩ := rx
    refine .inl ⟨a, xs, rfl, .inl ra, fun p hp => ?_⟩
    obtain ⟨R2, x2⟩ := R.alloc hp (.lst (cutV xs lo hi))
    refine kk _ _ _ R2 x2 ?_
    simp only [Rep]
    exact ⟨p, _, rfl, .inl upd_same, RepL.same x2.sm _ _ (la.cut lo hi)⟩
  · simp only [RepB, Rep] at rx
    obtain ⟨a, xs, rfl, ra, la⟩ := rx
    refine .inr ⟨a, xs, rfl, (R.sub.tup ra).sq, fun hw => ?_, fun _ p ob hp hob => ?_⟩
    · refine kk _ H F R (Ex.refl ..) ?_
      rw [← la.length] at hw
      rw [cut_whole hw]
      simp only [Rep]
      exact ⟨a, xs, rfl, ra, la⟩
    · obtain ⟨R2, x2⟩ := R.alloc hp (tupO zf ob (cutV xs lo hi))
      refine kk _ _ _ R2 x2 ?_
      simp only [Rep]
      exact ⟨p, _, rfl, ⟨ob, upd_same, hob⟩, RepL.same x2.sm _ _ (la.cut lo hi)⟩
theorem EV.cut {O : List Nat} {e : Expr} {lo hi : Option Expr} {f : E} {fl fh : Option E} {p2 pos : Pos} (h : EB X zf O e f) (hl : PO X lo (rdP X.K X.mg zf O (optE fl))) (hh : PO X hi (rdP X.K X.mg zf O (optE fh))) : EV X zf O (.Subscript e (.Slice lo hi Option.none p2) pos) (cCut f fl fh) :=
  PE.imp (pe_slice (SlR.or sl_list sl_tupZ) h hl hh) fun σ H Q ⟨tk, H0, F0, F, g, w, d, w', R, ef, kk⟩ => by
  obtain ⟨x, w1, e1, ef⟩ := bnd_eq (show bnd (f g w) _ = _ from ef)
  obtain ⟨l, w2, e2, ef⟩ := bnd_eq ef
  obtain ⟨u, w3, e3, ef⟩ := bnd_eq ef
  obtain ⟨e4, e5⟩ := lft_eq ef
  have e5 : w3 = w' := e5
  subst e5
  refine ⟨tk, H0, F0, F, g, w, x, w1, R, e1, fun vx H1 F1 R1 x1 r1 => ?_⟩
  refine ⟨tk, H0, F0, F1, g, w1, l, w2, R1, e2, fun H2 F2 R2 x2 => ?_⟩
  refine ⟨tk, H0, F0, F2, g, w2, u, w3, R2, e3, fun H3 F3 R3 x3 => ?_⟩
  exact ok_sl R3 ((r1.ex x2).ex x3) e4 fun v H' F' R' x' r' => kk v H' F' R' (((x1.trans x2).trans x3).trans x') r'

/-! ### built-in functions of one or two values -/
def Ok1 (Kx : PySem.W.Frag) (mx : Str → Option Value) (zf : Bool) (f : D → Option D) (r : List V → Hp → VK → Prop) : Prop := ∀ (tk : Tk Kx mx zf) H0 F0 O σ F H g w x d vx Q, Rel tk H0 F0 O σ H F g w → RepB tk F H x vx → f x = some d → KE tk H0 F0 O σ F H g w (fun F' _ v => Rep tk F' d v) Q → r [vx] H Q
def Ok22 (Kx : PySem.W.Frag) (mx : Str → Option Value) (zf : Bool) (f : D → D → Option D) (r : List V → Hp → VK → Prop) : Prop := ∀ (tk : Tk Kx mx zf) H0 F0 O σ F H g w x y d vx vy Q, Rel tk H0 F0 O σ H F g w → RepB tk F H x vx → RepB tk F H y vy → f x y = some d → KE tk H0 F0 O σ F H g w (fun F' _ v => Rep tk F' d v) Q → r [vx, vy] H Q
theorem one_reading {Kx : PySem.W.Frag} {mx : Str → Option Value} {zf : Bool} {O : List Nat} {f : D → Option D} {fa : E} {r : List V → Hp → VK → Prop} (hk : Ok1 Kx mx zf f r) : ∀ σ H Q, rd Kx mx zf O (cOp1 f fa) σ H Q → tCB r (rdAB Kx mx zf O (cArgs [fa])) σ H Q := fun σ H Q ⟨tk, H0, F0, F, g, w, d, w', R, ef, kk⟩ => by
  obtain ⟨x, w1, e1, ef⟩ := bnd_eq (show bnd (fa g w) _ = _ from ef)
  obtain ⟨e4, e5⟩ := lft_eq ef
  have e5 : w1 = w' := e5
  subst e5
  refine ⟨tk, H0, F0, F, g, w, [x], w1, R, by simp [cArgs, e1], fun vs H1 F1 R1 x1 r1 => ?_⟩
  match vs, r1 with
  | [], r1 => simp only [RepBL] at r1
  | [v], r1 =>
    simp only [RepBL] at r1
    exact hk tk H0 F0 O σ F1 H1 g w1 x d v Q R1 r1.1 e4 fun v H' F' R' x' r' => kk v H' F' R' (x1.trans x') r'
  | _ :: _ :: _, r1 => simp only [RepBL] at r1; exact r1.2.elim
theorem two_reading {Kx : PySem.W.Frag} {mx : Str → Option Value} {zf : Bool} {O : List Nat} {f : D → D → Option D} {fa fb : E} {r : List V → Hp → VK → Prop} (hk : Ok22 Kx mx zf f r) : ∀ σ H Q, rd Kx mx zf O (cOp2 f fa fb) σ H Q → tCB r (rdAB Kx mx zf O (cArgs [fa, fb])) σ H Q := fun σ H Q ⟨tk, H0, F0, F, g, w, d, w', R, ef, kk⟩ => by
  obtain ⟨x, w1, e1, ef⟩ := bnd_eq (show bnd (fa g w) _ = _ from ef)
  obtain ⟨y, w2, e2, ef⟩ := bnd_eq ef
  obtain ⟨e4, e5⟩ := lft_eq ef
  have e5 : w2 = w' := e5
  subst e5
  refine ⟨tk, H0, F0, F, g, w, [x, y], w2, R, by simp [cArgs, e1, e2], fun vs H1 F1 R1 x1 r1 => ?_⟩
  match vs, r1 with
  | [], r1 => simp only [RepBL] at r1
  | [v], r1 => simp only [RepBL] at r1; exact r1.2.elim
  | [v, u], r1 =>
    simp only [RepBL] at r1
    exact hk tk H0 F0 O σ F1 H1 g w2 x y d v u Q R1 r1.1 r1.2.1 e4 fun v H' F' R' x' r' => kk v H' F' R' (x1.trans x') r'
  | _ :: _ :: _ :: _, r1 => simp only [RepBL] at r1; exact r1.2.2.elim
theorem EV.bi1 {O : List Nat} {id : String} {x : Str} {f : D → Option D} {fa : E} {r : List V → Hp → VK → Prop} {a : Expr} {p pos : Pos} (hc : CallR X (.builtin id) r) (hk : Ok1 X.K X.mg zf f r) (hg : Gl X x) (hm : X.mg x = Option.none) (hv : bootBuiltins x = Option.some (.builtin id)) (ha : EB X zf O a fa)
    (hn : x ≠ "__name__" := by decide) (hdb : (x == ("__debug__" : Str)) = false := by decide) (he : starEach [a] X.env = (false, eval a X.env) :: starEach [] X.env := by rfl) (hpl : (backTo pos (starEach [] X.env)).any (·.1) = false := by rfl) :
    EV X zf O (.Call (.Name x p) [a] [] pos) (cOp1 f fa) := PE.imp (pe_callB hc hg hm hv (EAB.cons ha EAB.nil he) hn hdb he hpl) (one_reading hk)
theorem EV.ty1 {O : List Nat} {id : String} {x : Str} {f : D → Option D} {fa : E} {r : List V → Hp → VK → Prop} {a : Expr} {p pos : Pos} (hc : CallR X (.type id) r) (hk : Ok1 X.K X.mg zf f r) (hg : Gl X x) (hm : X.mg x = Option.none) (hv : bootBuiltins x = Option.some (.type id)) (ha : EB X zf O a fa)
    (hn : x ≠ "__name__" := by decide) (hdb : (x == ("__debug__" : Str)) = false := by decide) (he : starEach [a] X.env = (false, eval a X.env) :: starEach [] X.env := by rfl) (hpl : (backTo pos (starEach [] X.env)).any (·.1) = false := by rfl) :
    EV X zf O (.Call (.Name x p) [a] [] pos) (cOp1 f fa) := PE.imp (pe_callTy hc hg hm hv (EAB.cons ha EAB.nil he) hn hdb he hpl) (one_reading hk)
theorem EV.bi2 {O : List Nat} {id : String} {x : Str} {f : D → D → Option D} {fa fb : E} {r : List V → Hp → VK → Prop} {a b : Expr} {p pos : Pos} (hc : CallR X (.builtin id) r) (hk : Ok22 X.K X.mg zf f r) (hg : Gl X x) (hm : X.mg x = Option.none) (hv : bootBuiltins x = Option.some (.builtin id)) (ha : EB X zf O a fa) (hb : EB X zf O b fb)
    (hn : x ≠ "__name__" := by decide) (hdb : (x == ("__debug__" : Str)) = false := by decide) (he : starEach [a, b] X.env = (false, eval a X.env) :: starEach [b] X.env := by rfl) (he2 : starEach [b] X.env = (false, eval b X.env) :: starEach [] X.env := by rfl)
    (hpl : (backTo pos (starEach [b] X.env)).any (·.1) = false := by rfl) :
    EV X zf O (.Call (.Name x p) [a, b] [] pos) (cOp2 f fa fb) := PE.imp (pe_callB hc hg hm hv (EAB.cons ha (EAB.cons hb EAB.nil he2) he) hn hdb he hpl) (two_reading hk)

/-! len -/
theorem ok_len : Ok1 X.K X.mg zf lenD (fun xs H Q => (∃ p ys, xs = [.ref p] ∧ (SqL X.K H p ys ∨ SqT X.K H p ys) ∧ Q (.int ys.length) H) ∨ ∃ z, xs = [.str z] ∧ z.length ≤ sizeLine ∧ Q (.int z.length) H) := fun tk H0 F0 O σ F H g w x d vx Q R rx e kk => by
  cases x <;> simp only [lenD] at e <;> first | cases e | skip
  · simp only [RepB, Rep] at rx
    subst rx
    split at e <;> first | cases e | skip
    rename_i h
    exact .inr ⟨_, rfl, h, kk _ H F R (Ex.refl ..) (by simp only [Rep])⟩
  · simp only [RepB] at rx
    obtain ⟨a, xs, rfl, na, ra, la⟩ := rx
    exact .inl ⟨a, xs, rfl, .inl (.inl ra), kk _ H F R (Ex.refl ..) (by simp only [Rep]; rw [la.length])⟩
  · simp only [RepB, Rep] at rx
    obtain ⟨a, xs, rfl, ra, la⟩ := rx
    exact .inl ⟨a, xs, rfl, .inr ((R.sub.tup ra).sq), kk _ H F R (Ex.refl ..) (by simp only [Rep]; rw [la.length])⟩
  · obtain ⟨ds, h0, rfl⟩ := Option.map_eq_some_iff.mp e
    rw [scrOf_eq h0] at rx
    obtain ⟨a, ns, rfl, rfl, ra⟩ := RepB.script rx
    exact .inl ⟨a, _, rfl, .inl (sqL_sub R.sub ra), kk _ H F R (Ex.refl ..) (by simp only [Rep, List.length_map])⟩
theorem EV.len {O : List Nat} {a : Expr} {fa : E} {p pos : Pos} (hm : X.mg "len" = Option.none) (ha : EB X zf O a fa) (hg : Gl X "len" := by rfl) (he : starEach [a] X.env = (false, eval a X.env) :: starEach [] X.env := by rfl) : EV X zf O (.Call (.Name "len" p) [a] [] pos) (cOp1 lenD fa) :=
  EV.bi1 (CallR.or call_len_seq call_len_str) ok_len hg hm PySem.boot_len ha (he := he)
/-! sum -/
theorem ints_rep {Kx : PySem.W.Frag} {mx : Str → Option Value} {zf : Bool} {tk : Tk Kx mx zf} {F : Hp} : ∀ {ds : List D} {xs : List V} {ns : List Int}, intsOf ds = some ns → RepL tk F ds xs → xs = ns.map V.int
  | [], [], ns, e, _ => by
    have e : some ([] : List Int) = some ns := e
    cases e; rfl
  | [], _ :: _, _, _, h => by simp only [RepL] at h
  | _ :: _, [], _, _, h => by simp only [RepL] at h
  | d :: ds, x :: xs, ns, e, h => by
    cases d <;> simp only [intsOf] at e <;> first | cases e | skip
    obtain ⟨ms, e1, e2⟩ := Option.map_eq_some_iff.mp e
    subst e2
    simp only [RepL, Rep] at h
    rw [h.1, ints_rep e1 h.2]
    rfl
theorem bools_rep {Kx : PySem.W.Frag} {mx : Str → Option Value} {zf : Bool} {tk : Tk Kx mx zf} {F : Hp} : ∀ {ds : List D} {xs : List V} {ns : List Bool}, boolsOf ds = some ns → RepL tk F ds xs → xs = ns.map V.bl
  | [], [], ns, e, _ => by
    have e : some ([] : List Bool) = some ns := e
    cases e; rfl
  | [], _ :: _, _, _, h => by simp only [RepL] at h
  | _ :: _, [], _, _, h => by simp only [RepL] at h
  | d :: ds, x :: xs, ns, e, h => by
    cases d <;> simp only [boolsOf] at e <;> first | cases e | skip
    obtain ⟨ms, e1, e2⟩ := Option.map_eq_some_iff.mp e
    subst e2
    simp only [RepL, Rep] at h
    rw [h.1, bools_rep e1 h.2]
    rfl
theorem ok_sum : Ok1 X.K X.mg zf sumD (rSum X.K) := fun tk H0 F0 O σ F H g w x d vx Q R rx e kk => by
  cases x <;> simp only [sumD] at e <;> first | cases e | skip
  obtain ⟨ns, e1, rfl⟩ := Option.map_eq_some_iff.mp e
  simp only [RepB] at rx
  obtain ⟨a, xs, rfl, na, ra, la⟩ := rx
  have := ints_rep e1 la
  subst this
  exact ⟨a, ns, rfl, .inl ra, kk _ H F R (Ex.refl ..) (by simp only [Rep])⟩
theorem EV.sum {O : List Nat} {a : Expr} {fa : E} {p pos : Pos} (hm : X.mg "sum" = Option.none) (hc : X.calm = true) (ha : EB X zf O a fa) (hg : Gl X "sum" := by rfl) (he : starEach [a] X.env = (false, eval a X.env) :: starEach [] X.env := by rfl) : EV X zf O (.Call (.Name "sum" p) [a] [] pos) (cOp1 sumD fa) :=
  EV.bi1 (cr_sum hc) ok_sum hg hm (by decide +kernel) ha (he := he)
theorem ok_all : Ok1 X.K X.mg zf allD (rAll X.K) := fun tk H0 F0 O σ F H g w x d vx Q R rx e kk => by
  cases x <;> simp only [allD] at e <;> first | cases e | skip
  obtain ⟨ns, e1, rfl⟩ := Option.map_eq_some_iff.mp e
  simp only [RepB] at rx
  obtain ⟨a, xs, rfl, na, ra, la⟩ := rx
  have := bools_rep e1 la
  subst this
  exact ⟨a, ns, rfl, .inl ra, kk _ H F R (Ex.refl ..) (by simp only [Rep])⟩
theorem ok_any : Ok1 X.K X.mg zf anyD (rAny X.K) := fun tk H0 F0 O σ F H g w x d vx Q R rx e kk => by
  cases x <;> simp only [anyD] at e <;> first | cases e | skip
  obtain ⟨ns, e1, rfl⟩ := Option.map_eq_some_iff.mp e
  simp only [RepB] at rx
  obtain ⟨a, xs, rfl, na, ra, la⟩ := rx
  have := bools_rep e1 la
  subst this
  exact ⟨a, ns, rfl, .inl ra, kk _ H F R (Ex.refl ..) (by simp only [Rep])⟩
theorem EV.all {O : List Nat} {a : Expr} {fa : E} {p pos : Pos} (hm : X.mg "all" = Option.none) (hc : X.calm = true) (ha : EB X zf O a fa) (hg : Gl X "all" := by rfl) (he : starEach [a] X.env = (false, eval a X.env) :: starEach [] X.env := by rfl) : EV X zf O (.Call (.Name "all" p) [a] [] pos) (cOp1 allD fa) :=
  EV.bi1 (cr_all hc) ok_all hg hm (by decide +kernel) ha (he := he)
theorem EV.any {O : List Nat} {a : Expr} {fa : E} {p pos : Pos} (hm : X.mg "any" = Option.none) (hc : X.calm = true) (ha : EB X zf O a fa) (hg : Gl X "any" := by rfl) (he : starEach [a] X.env = (false, eval a X.env) :: starEach [] X.env := by rfl) : EV X zf O (.Call (.Name "any" p) [a] [] pos) (cOp1 anyD fa) :=
  EV.bi1 (cr_any hc) ok_any hg hm (by decide +kernel) ha (he := he)
/-! int, abs -/
theorem EV.int1 {O : List Nat} {a : Expr} {fa : E} {p pos : Pos} (hm : X.mg "int" = Option.none) (ha : EB X zf O a fa) (hg : Gl X "int" := by rfl) (he : starEach [a] X.env = (false, eval a X.env) :: starEach [] X.env := by rfl) : EV X zf O (.Call (.Name "int" p) [a] [] pos) (cOp1 intD fa) :=
  EV.ty1 call_int1 (fun tk H0 F0 O σ F H g w x d vx Q R rx e kk => by
    cases x <;> simp only [intD] at e <;> first | cases e | skip
    · simp only [RepB, Rep] at rx
      subst rx
      exact .inr ⟨_, rfl, kk _ H F R (Ex.refl ..) (by simp only [Rep])⟩
    · simp only [RepB, Rep] at rx
      subst rx
      exact .inl ⟨_, rfl, kk _ H F R (Ex.refl ..) (by simp only [Rep])⟩) hg hm (by decide +kernel) ha (he := he)
theorem EV.abs {O : List Nat} {a : Expr} {fa : E} {p pos : Pos} (hm : X.mg "abs" = Option.none) (ha : EB X zf O a fa) (hg : Gl X "abs" := by rfl) (he : starEach [a] X.env = (false, eval a X.env) :: starEach [] X.env := by rfl) : EV X zf O (.Call (.Name "abs" p) [a] [] pos) (cOp1 absD fa) :=
  EV.bi1 call_abs (fun tk H0 F0 O σ F H g w x d vx Q R rx e kk => by
    cases x <;> simp only [absD] at e <;> first | cases e | skip
    simp only [RepB, Rep] at rx
    subst rx
    exact ⟨_, rfl, kk _ H F R (Ex.refl ..) (by simp only [Rep])⟩) hg hm (by decide +kernel) ha (he := he)
theorem EV.max2 {O : List Nat} {a b : Expr} {fa fb : E} {p pos : Pos} (hm : X.mg "max" = Option.none) (hc : X.calm = true) (ha : EB X zf O a fa) (hb : EB X zf O b fb) (hg : Gl X "max" := by rfl) (he : starEach [a, b] X.env = (false, eval a X.env) :: starEach [b] X.env := by rfl) (he2 : starEach [b] X.env = (false, eval b X.env) :: starEach [] X.env := by rfl)
    (hpl : (backTo pos (starEach [b] X.env)).any (·.1) = false := by rfl) : EV X zf O (.Call (.Name "max" p) [a, b] [] pos) (cOp2 max2D fa fb) :=
  EV.bi2 (call_max2 hc) (fun tk H0 F0 O σ F H g w x y d vx vy Q R rx ry e kk => by
    cases x <;> cases y <;> simp only [max2D] at e <;> first | cases e | skip
    simp only [RepB, Rep] at rx ry
    subst rx; subst ry
    exact ⟨_, _, rfl, kk _ H F R (Ex.refl ..) (by simp only [Rep])⟩) hg hm (by decide +kernel) ha hb (he := he) (he2 := he2) (hpl := hpl)
theorem EV.min2 {O : List Nat} {a b : Expr} {fa fb : E} {p pos : Pos} (hm : X.mg "min" = Option.none) (hc : X.calm = true) (ha : EB X zf O a fa) (hb : EB X zf O b fb) (hg : Gl X "min" := by rfl) (he : starEach [a, b] X.env = (false, eval a X.env) :: starEach [b] X.env := by rfl) (he2 : starEach [b] X.env = (false, eval b X.env) :: starEach [] X.env := by rfl)
    (hpl : (backTo pos (starEach [b] X.env)).any (·.1) = false := by rfl) : EV X zf O (.Call (.Name "min" p) [a, b] [] pos) (cOp2 min2D fa fb) :=
  EV.bi2 (call_min2 hc) (fun tk H0 F0 O σ F H g w x y d vx vy Q R rx ry e kk => by
    cases x <;> cases y <;> simp only [min2D] at e <;> first | cases e | skip
    simp only [RepB, Rep] at rx ry
    subst rx; subst ry
    exact ⟨_, _, rfl, kk _ H F R (Ex.refl ..) (by simp only [Rep])⟩) hg hm (by decide +kernel) ha hb (he := he) (he2 := he2) (hpl := hpl)
/-! tuple, list -/
theorem EV.tuple {O : List Nat} {a : Expr} {fa : E} {p pos : Pos} (hm : X.mg "tuple" = Option.none) (ha : EB X zf O a fa) (hg : Gl X "tuple" := by rfl) (he : starEach [a] X.env = (false, eval a X.env) :: starEach [] X.env := by rfl) : EV X zf O (.Call (.Name "tuple" p) [a] [] pos) (cOp1 tupD fa) :=
  EV.ty1 (call_tuple_ofZ (zf := zf)) (fun tk H0 F0 O σ F H g w x d vx Q R rx e kk => by
    cases x <;> simp only [tupD] at e <;> first | cases e | skip
    · simp only [RepB] at rx
      obtain ⟨a, xs, rfl, na, ra, la⟩ := rx
      refine ⟨a, xs, rfl, .inl ⟨.inl ra, fun l ob hl hob => ?_⟩⟩
      obtain ⟨R2, x2⟩ := R.alloc hl (tupO zf ob xs)
      refine kk _ _ _ R2 x2 ?_
      simp only [Rep]
      exact ⟨l, xs, rfl, ⟨ob, upd_same, hob⟩, RepL.same x2.sm _ _ la⟩
    · simp only [RepB] at rx
      have rx' := rx
      simp only [Rep] at rx
      obtain ⟨a, xs, rfl, ra, la⟩ := rx
      exact ⟨a, xs, rfl, .inr ⟨(R.sub.tup ra).sq, kk _ H F R (Ex.refl ..) rx'⟩⟩) hg hm (by decide +kernel) ha (he := he)
end
end Q

set_option Elab.async false
set_option linter.all false
set_option autoImplicit false
set_option maxRecDepth 100000
/-! QS4: targets, what is walked, comprehensions. -/
namespace Q
open PySem PySem.Spec PyProof.Rows L2
section
variable {Kx : PySem.W.Frag} {mx : Str → Option Value} {zf : Bool} {tk : Tk Kx mx zf} {H0 F0 : Hp} {O : List Nat} {σ : L2.St} {H F : Hp} {g : Env} {w : Wd}
theorem Rel.set (R : Rel tk H0 F0 O σ H F g w) {i : Nat} {d : D} {v : V} (hO : i ∉ O) (r : Rep tk F d v) (hi : i < g.length) : Rel tk H0 F0 O (σ.set i (some v)) H F (g.set i (some d)) w := by
  have hl := R.len
  refine ⟨by simpa using hl, R.sub, R.f0, R.k0, R.n0, fun j e hj h => ?_, fun j e hj h => ?_, fun j l a e e' hj hll h h' k k' => ?_, R.wat⟩
  · by_cases z : j = i
    · subst z
      rw [List.getElem?_set_self hi] at h
      cases h
      exact ⟨v, List.getElem?_set_self (by omega), r⟩
    · rw [List.getElem?_set_ne (Ne.symm z)] at h ⊢
      exact R.val j e hj h
  · have z : j ≠ i := fun z => hO (z ▸ hj)
    rw [List.getElem?_set_ne (Ne.symm z)] at h ⊢
    exact R.own j e hj h
  · have z : j ≠ i := fun z => hO (z ▸ hj)
    have z' : l ≠ i := fun z => hO (z ▸ hll)
    rw [List.getElem?_set_ne (Ne.symm z)] at h k
    rw [List.getElem?_set_ne (Ne.symm z')] at h' k'
    exact R.sep j l a e e' hj hll h h' k k'
/-- what stands between two states, the slots as they were -/
theorem Rel.back {O2 : List Nat} {σ2 : L2.St} {H' F' : Hp} {g2 : Env} {w' : Wd} (R : Rel tk H0 F0 O σ H F g w) (R2 : Rel tk H0 F0 O2 σ2 H' F' g2 w') (x : Ex tk F H F' H') : Rel tk H0 F0 O σ H' F' g w' := by
  refine ⟨R.len, R2.sub, R2.f0, R2.k0, R2.n0, fun i d hi h => ?_, fun i d hi h => ?_, R.sep, R2.wat⟩
  · obtain ⟨v, h1, h2⟩ := R.val i d hi h
    exact ⟨v, h1, Rep.same x.sm _ _ h2⟩
  · obtain ⟨a, o, h1, h2, h3, h4, h5, h6⟩ := R.own i d hi h
    have h3' := x.nw a h5 (by rw [h2]; exact fun z => nomatch z) h3
    exact ⟨a, o, h1, x.gr.ex h2 h5 h3', h3', h4, h5, h6.same x.sm⟩
theorem wipeE_len (g : Env) : ∀ vs : List Nat, (wipeE g vs).length = g.length
  | [] => rfl
  | v :: vs => by simp only [wipeE, List.length_set, wipeE_len g vs]
theorem wipeE_some {g : Env} {i : Nat} {d : D} : ∀ {vs : List Nat}, (wipeE g vs)[i]? = some (some d) → g[i]? = some (some d) ∧ i ∉ vs
  | [], h => ⟨h, by simp⟩
  | v :: vs, h => by
    simp only [wipeE] at h
    by_cases hi : v = i
    · subst hi
      by_cases hv : v < (wipeE g vs).length
      · rw [List.getElem?_set_self hv] at h; cases h
      · rw [List.getElem?_eq_none (by simpa using hv)] at h; cases h
    · rw [List.getElem?_set_ne hi] at h
      obtain ⟨h1, h2⟩ := wipeE_some h
      exact ⟨h1, by simp only [List.mem_cons, not_or]; exact ⟨fun e => hi e.symm, h2⟩⟩
theorem wipe_keep {σ : L2.St} {i : Nat} : ∀ {vs : List Nat}, i ∉ vs → (wipe σ vs)[i]? = σ[i]?
  | [], _ => rfl
  | v :: vs, h => by
    simp only [List.mem_cons, not_or] at h
    unfold wipe
    rw [List.getElem?_set_ne (fun z => h.1 z.symm)]
    exact wipe_keep h.2
/-- slots forgotten on both sides -/
theorem Rel.wipe (R : Rel tk H0 F0 O σ H F g w) (vs : List Nat) : Rel tk H0 F0 O (L2.wipe σ vs) H F (wipeE g vs) w := by
  refine ⟨by rw [wipeE_len, wipe_length]; exact R.len, R.sub, R.f0, R.k0, R.n0, fun i d hi h => ?_, fun i d hi h => ?_, fun i j a d e hi hj h h' k k' => ?_, R.wat⟩
  · obtain ⟨h1, h2⟩ := wipeE_some h
    rw [wipe_keep h2]
    exact R.val i d hi h1
  · obtain ⟨h1, h2⟩ := wipeE_some h
    rw [wipe_keep h2]
    exact R.own i d hi h1
  · obtain ⟨h1, h2⟩ := wipeE_some h
    obtain ⟨h3, h4⟩ := wipeE_some h'
    rw [wipe_keep h2] at k
    rw [wipe_keep h4] at k'
    exact R.sep i j a d e hi hj h1 h3 k k'
/-- slots forgotten by the data alone -/
theorem Rel.wipeG (R : Rel tk H0 F0 O σ H F g w) (vs : List Nat) : Rel tk H0 F0 O σ H F (wipeE g vs) w := by
  refine ⟨by rw [wipeE_len]; exact R.len, R.sub, R.f0, R.k0, R.n0, fun i d hi h => R.val i d hi (wipeE_some h).1, fun i d hi h => R.own i d hi (wipeE_some h).1, fun i j a d e hi hj h h' k k' => R.sep i j a d e hi hj (wipeE_some h).1 (wipeE_some h').1 k k', R.wat⟩
/-- a free object changes -/
theorem Rel.free (R : Rel tk H0 F0 O σ H F g w) {p : Addr} {o : HO} (hf : F p = none) (h0 : H0 p = none) (npw : tk.pw ≠ some p) (no : ∀ i d, i ∈ O → g[i]? = some (some d) → σ[i]? ≠ some (some (.ref p))) : Rel tk H0 F0 O σ (upd H p o) F g w := by
  refine ⟨R.len, fun a u e => ?_, R.f0, fun a u e n => ?_, R.n0, R.val, fun i d hi h => ?_, R.sep, ?_⟩
  · have ne : a ≠ p := fun z => by rw [z, hf] at e; cases e
    rcases R.sub a u e with k | ⟨k, ob, q⟩
    · exact .inl (by rw [upd_ne ne]; exact k)
    · exact .inr ⟨k, ob, by rw [upd_ne ne]; exact q⟩
  · rw [upd_ne (ne_of_none e h0)]; exact R.k0 a u e n
  · obtain ⟨a, u, h1, h2, h3⟩ := R.own i d hi h
    have ne : a ≠ p := fun z => no i d hi h (by rw [← z]; exact h1)
    exact ⟨a, u, h1, by rw [upd_ne ne]; exact h2, h3⟩
  · exact R.wat.to (fun q e => upd_ne fun z => npw (by rw [e, z])) (Same.refl F) R.fw
end

/-! ### targets -/
/-- a target that is a tuple takes a pair that stands without its object too -/
def isTupE : Expr → Bool
  | .Tuple _ _ _ => true
  | _ => false
def RepW {Kx : PySem.W.Frag} {mx : Str → Option Value} {zf : Bool} (wk : Bool) (tk : Tk Kx mx zf) (F : Hp) (d : D) (v : V) : Prop := Rep tk F d v ∨ (wk = true ∧ ∃ ds a xs, d = .tuple ds ∧ v = .ref a ∧ F a = some (.tup xs) ∧ RepL tk F ds xs)
theorem RepW.same {Kx : PySem.W.Frag} {mx : Str → Option Value} {zf : Bool} {wk : Bool} {tk : Tk Kx mx zf} {F F' : Hp} {d : D} {v : V} (s : Same F F') (h : RepW wk tk F d v) : RepW wk tk F' d v := by
  rcases h with h | ⟨e, ds, a, xs, h1, h2, h3, h4⟩
  · exact .inl (Rep.same s _ _ h)
  · exact .inr ⟨e, ds, a, xs, h1, h2, s _ _ h3, RepL.same s _ _ h4⟩
theorem RepW.up {Kx : PySem.W.Frag} {mx : Str → Option Value} {zf : Bool} {wk : Bool} {tk : Tk Kx mx zf} {F : Hp} {d : D} {v : V} (h : Rep tk F d v) : RepW wk tk F d v := .inl h
theorem RepW.down {Kx : PySem.W.Frag} {mx : Str → Option Value} {zf : Bool} {tk : Tk Kx mx zf} {F : Hp} {d : D} {v : V} (h : RepW false tk F d v) : Rep tk F d v := by
  rcases h with h | ⟨e, _⟩
  · exact h
  · cases e
/-- ts: the slots that the target stores -/
def rdG (Kx : PySem.W.Frag) (mx : Str → Option Value) (zf wk : Bool) (O ts : List Nat) (t : G) : TG := fun v σ H Q => ∃ tk : Tk Kx mx zf, ∃ H0 F0 F g w d g', Rel tk H0 F0 O σ H F g w ∧ RepW wk tk F d v ∧ t d g = some g' ∧
  ∀ σ' H' F', Rel tk H0 F0 O σ' H' F' g' w → Ex tk F H F' H' → (∀ vs, (∀ i ∈ ts, i ∈ vs) → wipe σ' vs = wipe σ vs) → Q σ' H'
def rdGs (Kx : PySem.W.Frag) (mx : Str → Option Value) (zf : Bool) (O ts : List Nat) (t : List G) : TGs := fun vs σ H Q => ∃ tk : Tk Kx mx zf, ∃ H0 F0 F g w ds g', Rel tk H0 F0 O σ H F g w ∧ RepL tk F ds vs ∧ gList t ds g = some g' ∧
  ∀ σ' H' F', Rel tk H0 F0 O σ' H' F' g' w → Ex tk F H F' H' → (∀ vs, (∀ i ∈ ts, i ∈ vs) → wipe σ' vs = wipe σ vs) → Q σ' H'
section
variable {X : Cx} {zf : Bool}
theorem PG.imp {tg : Expr} {t t' : TG} (h : PG X tg t) (k : ∀ v σ H Q, t' v σ H Q → t v σ H Q) : PG X tg t' := ⟨fun pins s σ H v u Q I r hw => h.run pins s σ H v u Q I r (k v σ H Q hw)⟩
theorem PGs.imp {tg : List Expr} {t t' : TGs} (h : PGs X tg t) (k : ∀ v σ H Q, t' v σ H Q → t v σ H Q) : PGs X tg t' := ⟨fun pins s σ H v u Q I r hw => h.run pins s σ H v u Q I r (k v σ H Q hw)⟩
theorem wipe_set {σ : L2.St} {i : Nat} {x : Option V} : ∀ {vs : List Nat}, i ∈ vs → wipe (σ.set i x) vs = wipe σ vs
  | v :: vs, h => by
    unfold wipe
    by_cases hi : i ∈ vs
    · rw [wipe_set hi]
    · have e : i = v := by simpa [hi] using h
      subst e
      have : ∀ us : List Nat, i ∉ us → wipe (σ.set i x) us = (wipe σ us).set i x := by
        intro us hu
        induction us with
        | nil => rfl
        | cons u us ih =>
          simp only [List.mem_cons, not_or] at hu
          unfold wipe
          rw [ih hu.2, List.set_comm _ _ hu.1]
      rw [this vs hi, List.set_set]
theorem GG.name {O : List Nat} {x : Str} {pos : Pos} (i : Nat) (hN : X.N.Nodup) (hO : i ∉ O := by decide) (hi : X.N[i]? = some x := by rfl) (hx : Loc X.env.scope x := by first | exact Or.inl rfl | exact Or.inr rfl) (hf : X.fn x = true ∨ X.env.scope.names.lookup x = some .local := by first | exact .inl rfl | exact .inr rfl) :
    PG X (.Name x pos) (rdG X.K X.mg zf false O [i] (gName i)) := PG.imp (pg_name hN hi hx hf) fun v σ H Q ⟨tk, H0, F0, F, g, w, d, g', R, r, e, k⟩ => by
  simp only [gName] at e
  split at e <;> first | cases e | skip
  rename_i h
  exact k _ H F (R.set hO r.down h) (Ex.refl ..) fun vs hv => wipe_set (hv i (by simp))
theorem GG.nil {O : List Nat} : PGs X [] (rdGs X.K X.mg zf O [] []) := PGs.imp pgs_nil fun vs σ H Q ⟨tk, H0, F0, F, g, w, ds, g', R, r, e, k⟩ => by
  cases ds <;> simp only [gList] at e <;> first | cases e | skip
  cases vs <;> simp only [RepL] at r
  exact ⟨rfl, k σ H F R (Ex.refl ..) fun _ _ => rfl⟩
theorem GG.cons {O ts us : List Nat} {e : Expr} {es : List Expr} {t : G} {rs : List G} (h : PG X e (rdG X.K X.mg zf (isTupE e) O ts t)) (hs : PGs X es (rdGs X.K X.mg zf O us rs)) (ha : (assignEach (e :: es) X.env).map (·.2) = assign e X.env :: (assignEach es X.env).map (·.2) := by rfl) :
    PGs X (e :: es) (rdGs X.K X.mg zf O (ts ++ us) (t :: rs)) := PGs.imp (pgs_cons h hs ha) fun vs σ H Q ⟨tk, H0, F0, F, g, w, ds, g', R, r, e, k⟩ => by
  cases ds with
  | nil => simp only [gList] at e; cases e
  | cons d ds =>
    cases vs with
    | nil => simp only [RepL] at r
    | cons v vs =>
      simp only [RepL] at r
      simp only [gList] at e
      split at e <;> first | cases e | skip
      rename_i g1 hg
      refine ⟨v, vs, rfl, tk, H0, F0, F, g, w, d, g1, R, .inl r.1, hg, fun σ1 H1 F1 R1 x1 w1 => ?_⟩
      refine ⟨tk, H0, F0, F1, g1, w, ds, g', R1, RepL.same x1.sm _ _ r.2, e, fun σ2 H2 F2 R2 x2 w2 => ?_⟩
      exact k σ2 H2 F2 R2 (x1.trans x2) fun zs hz => (w2 zs fun i hi => hz i (List.mem_append_right _ hi)).trans (w1 zs fun i hi => hz i (List.mem_append_left _ hi))
theorem gList_len : ∀ {ts : List G} {ds : List D} {g g' : Env}, gList ts ds g = some g' → ts.length = ds.length
  | [], [], _, _, _ => rfl
  | [], _ :: _, _, _, h => by simp only [gList] at h; cases h
  | _ :: _, [], _, _, h => by simp only [gList] at h; cases h
  | t :: ts, d :: ds, g, g', h => by
    simp only [gList] at h
    split at h <;> first | cases h | skip
    simp [gList_len h]
theorem GG.tup {O ts : List Nat} {es : List Expr} {kk : Nat} {rs : List G} {pos : Pos} (hc : X.calm = true) (h : PGs X es (rdGs X.K X.mg zf O ts rs)) (hn : (assignEach es X.env).length = rs.length := by rfl) (hst : (assignEach es X.env).findIdx? (·.1) = none := by rfl) :
    PG X (.Tuple es kk pos) (rdG X.K X.mg zf true O ts (gTup rs)) := PG.imp (pg_tup hc h hn hst) fun v σ H Q ⟨tk, H0, F0, F, g, w, d, g', R, r, e, k⟩ => by
  cases d <;> simp only [gTup] at e <;> first | cases e | skip
  rename_i ds0
  have r : ∃ a xs, v = .ref a ∧ SqT X.K H a xs ∧ RepL tk F ds0 xs := by
    rcases r with r | ⟨_, ds, a, xs, h1, h2, h3, h4⟩
    · simp only [Rep] at r
      obtain ⟨a, xs, e, ra, la⟩ := r
      exact ⟨a, xs, e, (R.sub.tup ra).sq, la⟩
    · cases h1
      exact ⟨a, xs, h2, .of (R.sub.tup0 h3), h4⟩
  obtain ⟨a, xs, rfl, ra, la⟩ := r
  exact ⟨a, xs, rfl, ra, by rw [← la.length, gList_len e], tk, H0, F0, F, g, w, _, g', R, la, e, k⟩

/-! ### what is walked -/
/-- a walk over the data ds, wherever the frozen heap stands -/
def ItOk {Kx : PySem.W.Frag} {mx : Str → Option Value} {zf : Bool} (wk : Bool) (tk : Tk Kx mx zf) (J : It) (ds : List D) (F : Hp) : Prop := ∀ F2 H2, Same F F2 → Sub F2 H2 → ∀ i,
  (∀ d, ds[i]? = some d → J.go i H2 ∧ ∀ x H3, J.yld i H2 x H3 → (H3 = H2 ∧ RepW wk tk F2 d x) ∨ ∃ p o, H2 p = none ∧ H3 = upd H2 p o ∧ RepW wk tk (upd F2 p o) d x) ∧ (ds.length ≤ i → J.stop i H2)
def rdI (Kx : PySem.W.Frag) (mx : Str → Option Value) (zf wk : Bool) (O : List Nat) (f : Es) : TI := fun σ H R => ∃ tk : Tk Kx mx zf, ∃ H0 F0 F g w ds w', Rel tk H0 F0 O σ H F g w ∧ f g w = some (ds, w') ∧ ∀ J H' F', Rel tk H0 F0 O σ H' F' g w' → Ex tk F H F' H' → ItOk wk tk J ds F' → R J H'
abbrev EI (X : Cx) (zf : Bool) (O : List Nat) (tg it : Expr) (f : Es) : Prop := PI X tg it (rdI X.K X.mg zf (isTupE tg) O f)
theorem PI.imp {tg it : Expr} {t t' : TI} (h : PI X tg it t) (k : ∀ σ H Q, t' σ H Q → t σ H Q) : PI X tg it t' := ⟨fun pins s σ H R I hw => h.run pins s σ H R I (k σ H R hw)⟩
theorem PI.or {tg it : Expr} {t t' : TI} (h : PI X tg it t) (h' : PI X tg it t') : PI X tg it (fun σ H R => t σ H R ∨ t' σ H R) := ⟨fun pins s σ H R I hw => hw.elim (h.run pins s σ H R I) (h'.run pins s σ H R I)⟩
theorem itOk_list {wk : Bool} {Kx : PySem.W.Frag} {mx : Str → Option Value} {zf : Bool} {tk : Tk Kx mx zf} {K : PySem.W.Frag} {F : Hp} {a : Addr} {xs : List V} {ds : List D} (ra : Rd F a (.lst xs)) (la : RepL tk F ds xs) : ItOk wk tk (Itl K a) ds F := fun F2 H2 s sb i => by
  have r2 : SqL K H2 a xs := .inl (sb.rdL (Rd.same s ra))
  refine ⟨fun d hd => ?_, fun h => ⟨xs, r2, by rw [← la.length]; exact h⟩⟩
  obtain ⟨v, h1, h2⟩ := la.at hd
  refine ⟨⟨xs, v, r2, h1⟩, fun x H3 y => .inl ⟨y.1, ?_⟩⟩
  have := y.2 xs r2
  rw [h1] at this
  cases this
  exact .inl (Rep.same s _ _ h2)
theorem itOk_tup {wk : Bool} {Kx : PySem.W.Frag} {mx : Str → Option Value} {zf : Bool} {tk : Tk Kx mx zf} {K : PySem.W.Frag} {F : Hp} {a : Addr} {xs : List V} {ds : List D} (ra : TupAt zf F a xs) (la : RepL tk F ds xs) : ItOk wk tk (Itt K a) ds F := fun F2 H2 s sb i => by
  have r2 : SqT K H2 a xs := (sb.tup (ra.same s)).sq
  refine ⟨fun d hd => ?_, fun h => ⟨xs, r2, by rw [← la.length]; exact h⟩⟩
  obtain ⟨v, h1, h2⟩ := la.at hd
  refine ⟨⟨xs, v, r2, h1⟩, fun x H3 y => .inl ⟨y.1, ?_⟩⟩
  have := y.2 xs r2
  rw [h1] at this
  cases this
  exact .inl (Rep.same s _ _ h2)
theorem EI.seq {O : List Nat} {tg e : Expr} {f : E} (h : EV X zf O e f) : EI X zf O tg e (itSeq f) := PI.imp (PI.or (pi_list h) (pi_tup h)) fun σ H Q ⟨tk, H0, F0, F, g, w, ds, w', R, ef, k⟩ => by
  obtain ⟨x, w1, e1, ef⟩ := bnd_eq (show bnd (f g w) _ = _ from ef)
  obtain ⟨e4, e5⟩ := lft_eq ef
  have e5 : w1 = w' := e5
  subst e5
  have e4 : itemsD x = some ds := e4
  cases x <;> simp only [itemsD] at e4 <;> first | cases e4 | skip
  · refine .inl ⟨tk, H0, F0, F, g, w, _, w1, R, e1, fun v H1 F1 R1 x1 r1 => ?_⟩
    simp only [Rep] at r1
    obtain ⟨a, xs, rfl, ra, la⟩ := r1
    exact ⟨a, rfl, ⟨xs, .inl (R1.sub.rdL ra)⟩, k _ H1 F1 R1 x1 (itOk_list ra la)⟩
  · refine .inr ⟨tk, H0, F0, F, g, w, _, w1, R, e1, fun v H1 F1 R1 x1 r1 => ?_⟩
    simp only [Rep] at r1
    obtain ⟨a, xs, rfl, ra, la⟩ := r1
    exact ⟨a, rfl, ⟨xs, (R1.sub.tup ra).sq⟩, k _ H1 F1 R1 x1 (itOk_tup ra la)⟩
theorem itOk_range {wk : Bool} {Kx : PySem.W.Frag} {mx : Str → Option Value} {zf : Bool} {tk : Tk Kx mx zf} {F : Hp} (lo : Int) (n : Nat) : ItOk wk tk (Itr lo n) (rangeL lo n) F := fun F2 H2 s sb i => by
  refine ⟨fun d hd => ?_, fun h => (by
    show n ≤ i
    simpa [rangeL] using h)⟩
  have hi : i < n := by
    have := (List.getElem?_eq_some_iff.mp hd).1
    simpa [rangeL] using this
  refine ⟨hi, fun x H3 y => .inl ⟨y.1, ?_⟩⟩
  have e : (rangeL lo n)[i]? = some (.int (lo + (i : Nat))) := by simp [rangeL, hi]
  rw [e] at hd
  cases hd
  rw [y.2]
  exact .inl (by simp only [Rep])
theorem small62_iff {i : Int} (h : small62 i = true) : -(2 ^ 62) ≤ i ∧ i < 2 ^ 62 := by simpa [small62] using h
theorem EI.r1 {O : List Nat} {tg a : Expr} {fa : E} {p pos : Pos} (hm : X.mg "range" = none) (ha : EB X zf O a fa) (hg : Gl X "range" := by rfl) (hs : starEach [a] X.env = [(false, eval a X.env)] := by rfl) : EI X zf O tg (.Call (.Name "range" p) [a] [] pos) (itR1 fa) :=
  PI.imp (pi_range1 hg hm (EAB.cons ha EAB.nil hs) hs) fun σ H Q ⟨tk, H0, F0, F, g, w, ds, w', R, ef, k⟩ => by
  obtain ⟨x, w1, e1, ef⟩ := bnd_eq (show bnd (fa g w) _ = _ from ef)
  obtain ⟨e4, e5⟩ := lft_eq ef
  have e5 : w1 = w' := e5
  subst e5
  have e4 : range1 x = some ds := e4
  refine ⟨tk, H0, F0, F, g, w, [x], w1, R, by simp [cArgs, e1], fun vs H1 F1 R1 x1 r1 => ?_⟩
  have e6 : ∃ n, x = .int n ∧ small62 n = true ∧ ds = rangeL 0 n.toNat := by
    cases x <;> simp only [range1] at e4 <;> first | cases e4 | skip
    split at e4
    · rename_i h
      exact ⟨_, rfl, h, (Option.some.inj e4).symm⟩
    · cases e4
  obtain ⟨n, rfl, h, rfl⟩ := e6
  match vs, r1 with
  | [], r1 => simp only [RepBL] at r1
  | [v], r1 =>
    simp only [RepBL, RepB, Rep] at r1
    rw [r1.1]
    have h := small62_iff h
    exact ⟨_, rfl, h.1, h.2, k _ H1 F1 R1 x1 (itOk_range 0 _)⟩
  | _ :: _ :: _, r1 => simp only [RepBL] at r1; exact r1.2.elim
theorem EI.r2 {O : List Nat} {tg a b : Expr} {fa fb : E} {p pos : Pos} (hm : X.mg "range" = none) (ha : EB X zf O a fa) (hb : EB X zf O b fb) (hg : Gl X "range" := by rfl) (hs : starEach [a, b] X.env = [(false, eval a X.env), (false, eval b X.env)] := by rfl) (hs2 : starEach [b] X.env = [(false, eval b X.env)] := by rfl) :
    EI X zf O tg (.Call (.Name "range" p) [a, b] [] pos) (itR2 fa fb) :=
  PI.imp (pi_range2 hg hm (EAB.cons ha (EAB.cons hb EAB.nil hs2) (by rw [hs, hs2])) hs hs2) fun σ H Q ⟨tk, H0, F0, F, g, w, ds, w', R, ef, k⟩ => by
  obtain ⟨x, w1, e1, ef⟩ := bnd_eq (show bnd (fa g w) _ = _ from ef)
  obtain ⟨y, w2, e2, ef⟩ := bnd_eq ef
  obtain ⟨e4, e5⟩ := lft_eq ef
  have e5 : w2 = w' := e5
  subst e5
  have e4 : range2 x y = some ds := e4
  refine ⟨tk, H0, F0, F, g, w, [x, y], w2, R, by simp [cArgs, e1, e2], fun vs H1 F1 R1 x1 r1 => ?_⟩
  have e6 : ∃ n m, x = .int n ∧ y = .int m ∧ (small62 n && small62 m) = true ∧ ds = rangeL n (m - n).toNat := by
    cases x <;> cases y <;> simp only [range2] at e4 <;> first | cases e4 | skip
    split at e4
    · rename_i h
      exact ⟨_, _, rfl, rfl, h, (Option.some.inj e4).symm⟩
    · cases e4
  obtain ⟨n, m, rfl, rfl, h, rfl⟩ := e6
  match vs, r1 with
  | [], r1 => simp only [RepBL] at r1
  | [v], r1 => simp only [RepBL] at r1; exact r1.2.elim
  | [v, u], r1 =>
    simp only [RepBL, RepB, Rep] at r1
    rw [r1.1, r1.2.1]
    simp only [Bool.and_eq_true] at h
    have h1 := small62_iff h.1
    have h2 := small62_iff h.2
    exact ⟨_, _, rfl, ⟨h1.1, h1.2, h2.1, h2.2⟩, k _ H1 F1 R1 x1 (itOk_range _ _)⟩
  | _ :: _ :: _ :: _, r1 => simp only [RepBL] at r1; exact r1.2.2.elim
theorem EI.zip {O : List Nat} {a b : Expr} {fa fb : E} {p pos tpos : Pos} {elts : List Expr} {kk : Nat} (hm : X.mg "zip" = none) (ha : EV X zf O a fa) (hb : EV X zf O b fb) (hg : Gl X "zip" := by rfl) (hs : starEach [a, b] X.env = (false, eval a X.env) :: starEach [b] X.env := by rfl) (hs2 : starEach [b] X.env = (false, eval b X.env) :: starEach [] X.env := by rfl)
    (hpl : (backTo pos (starEach [b] X.env)).any (·.1) = false := by rfl) : EI X zf O (.Tuple elts kk tpos) (.Call (.Name "zip" p) [a, b] [] pos) (itZip fa fb) :=
  PI.imp (RZ.pi_zipA hg hm (EA.cons ha (EA.cons hb EA.nil hs2) hs) hs hpl) fun σ H Q ⟨tk, H0, F0, F, g, w, ds, w', R, ef, k⟩ => by
  obtain ⟨x, w1, e1, ef⟩ := bnd_eq (show bnd (fa g w) _ = _ from ef)
  obtain ⟨y, w2, e2, ef⟩ := bnd_eq ef
  obtain ⟨e4, e5⟩ := lft_eq ef
  have e5 : w2 = w' := e5
  subst e5
  have e4 : zipD x y = some ds := e4
  refine ⟨tk, H0, F0, F, g, w, [x, y], w2, R, by simp [cArgs, e1, e2], fun vs H1 F1 R1 x1 r1 => ?_⟩
  match vs, r1 with
  | [], r1 => simp only [RepL] at r1
  | [v], r1 => simp only [RepL] at r1; exact r1.2.elim
  | _ :: _ :: _ :: _, r1 => simp only [RepL] at r1; exact r1.2.2.elim
  | [v, u], r1 =>
    simp only [RepL] at r1
    obtain ⟨rv, ru, _⟩ := r1
    cases x <;> cases y <;> simp only [zipD] at e4 <;> first | cases e4 | skip
    · simp only [Rep] at rv ru
      obtain ⟨a, xs, rfl, ra, la⟩ := rv
      obtain ⟨b, ys, rfl, rb, lb⟩ := ru
      refine ⟨a, b, xs, ys, rfl, .inl ⟨.inl (R1.sub.rdL ra), .inl (R1.sub.rdL rb), k _ H1 F1 R1 x1 fun F2 H2 s sb i => ?_⟩⟩
      have ra2 : SqL X.K H2 a xs := .inl (sb.rdL (Rd.same s ra))
      have rb2 : SqL X.K H2 b ys := .inl (sb.rdL (Rd.same s rb))
      refine ⟨fun d hd => ?_, fun h => ⟨xs, ys, ra2, rb2, ?_⟩⟩
      · rw [List.getElem?_map] at hd
        obtain ⟨z, hz, rfl⟩ := Option.map_eq_some_iff.mp hd
        obtain ⟨hz1, hz2⟩ := List.getElem?_zip_eq_some.mp hz
        obtain ⟨v1, g1, g2⟩ := la.at hz1
        obtain ⟨v2, g3, g4⟩ := lb.at hz2
        refine ⟨⟨xs, ys, v1, v2, ra2, rb2, g1, g3⟩, fun t H3 yl => ?_⟩
        obtain ⟨T, q1, q2, rfl, hT, rfl, f1, f2⟩ := yl
        have k1 := f1 xs ra2
        have k2 := f2 ys rb2
        rw [g1] at k1
        rw [g3] at k2
        cases k1
        cases k2
        refine .inr ⟨T, _, hT, rfl, ?_⟩
        have s3 : Same F1 (upd F2 T (.tup [v1, v2])) := s.trans (same_new (sb.none hT))
        exact .inr ⟨rfl, _, T, _, rfl, rfl, upd_same, by simp only [RepL]; exact ⟨Rep.same s3 _ _ g2, Rep.same s3 _ _ g4, trivial⟩⟩
      · have := la.length
        have := lb.length
        simp only [List.length_map, List.length_zip] at h
        omega
    · simp only [Rep] at rv ru
      obtain ⟨a, xs, rfl, ra, la⟩ := rv
      obtain ⟨b, ys, rfl, rb, lb⟩ := ru
      refine ⟨a, b, xs, ys, rfl, .inr ⟨(R1.sub.tup ra).sq, (R1.sub.tup rb).sq, k _ H1 F1 R1 x1 fun F2 H2 s sb i => ?_⟩⟩
      have ra2 : SqT X.K H2 a xs := (sb.tup (ra.same s)).sq
      have rb2 : SqT X.K H2 b ys := (sb.tup (rb.same s)).sq
      refine ⟨fun d hd => ?_, fun h => ⟨xs, ys, ra2, rb2, ?_⟩⟩
      · rw [List.getElem?_map] at hd
        obtain ⟨z, hz, rfl⟩ := Option.map_eq_some_iff.mp hd
        obtain ⟨hz1, hz2⟩ := List.getElem?_zip_eq_some.mp hz
        obtain ⟨v1, g1, g2⟩ := la.at hz1
        obtain ⟨v2, g3, g4⟩ := lb.at hz2
        refine ⟨⟨xs, ys, v1, v2, ra2, rb2, g1, g3⟩, fun t H3 yl => ?_⟩
        obtain ⟨T, q1, q2, rfl, hT, rfl, f1, f2⟩ := yl
        have k1 := f1 xs ra2
        have k2 := f2 ys rb2
        rw [g1] at k1
        rw [g3] at k2
        cases k1
        cases k2
        refine .inr ⟨T, _, hT, rfl, ?_⟩
        have s3 : Same F1 (upd F2 T (.tup [v1, v2])) := s.trans (same_new (sb.none hT))
        exact .inr ⟨rfl, _, T, _, rfl, rfl, upd_same, by simp only [RepL]; exact ⟨Rep.same s3 _ _ g2, Rep.same s3 _ _ g4, trivial⟩⟩
      · have := la.length
        have := lb.length
        simp only [List.length_map, List.length_zip] at h
        omega
end
end Q

set_option Elab.async false
set_option linter.all false
set_option autoImplicit false
set_option maxRecDepth 100000
/-! QS5: comprehensions. -/
namespace Q
open PySem PySem.Spec PyProof.Rows L2
theorem wipe_wipe {σ : L2.St} {vs : List Nat} : wipe (wipe σ vs) vs = wipe σ vs := by
  apply List.ext_getElem?
  intro i
  by_cases h : i ∈ vs
  · have key : ∀ (τ : L2.St) (us : List Nat), i ∈ us → (wipe τ us)[i]? = if i < τ.length then some none else none := by
      intro τ us
      induction us with
      | nil => intro h; cases h
      | cons u us ih =>
        intro h
        unfold wipe
        by_cases e : u = i
        · subst e
          by_cases hl : u < τ.length
          · rw [if_pos hl, List.getElem?_set_self (by rw [wipe_length]; exact hl)]
          · rw [if_neg hl, List.getElem?_eq_none (by simpa [wipe_length] using hl)]
        · rw [List.getElem?_set_ne e]
          exact ih (by simpa [Ne.symm e] using h)
    rw [key _ vs h, key _ vs h, wipe_length]
  · rw [wipe_keep h]
theorem lc_read {Kx : PySem.W.Frag} {mx : Str → Option Value} {zf wk : Bool} {O ts vs : List Nat} {fi : Es} {t : G} {c : T} {f : E} (hts : ∀ i ∈ ts, i ∈ vs) : ∀ σ H Q, rdO Kx mx zf O (cLc fi t c f vs) σ H Q → tLc (rdI Kx mx zf wk O fi) (rdG Kx mx zf wk O ts t) (rdT Kx mx zf O c) (rd Kx mx zf O f) vs σ H Q := fun σ H Q ⟨tk, H0, F0, F, g, w, d, w', R, ef, k⟩ => by
  obtain ⟨xs, w1, e1, ef⟩ := bnd_eq (show bnd (fi g w) _ = _ from ef)
  obtain ⟨ds, w2, e2, ef⟩ := bnd_eq ef
  split at ef <;> first | cases ef | skip
  rename_i hlen
  refine ⟨tk, H0, F0, F, g, w, xs, w1, R, e1, fun J H1 F1 R1 x1 it => fun D hD => ?_⟩
  have npw : tk.pw ≠ some D := fun e => (R1.wat.free D e).2 hD
  have h0D : H0 D = none := by
    cases q : H0 D with
    | none => rfl
    | some u => exact absurd hD (R1.k0.ne q npw)
  have Rw := R1.wipe vs
  have noD : ∀ i d, i ∈ O → (wipeE g vs)[i]? = some (some d) → (wipe σ vs)[i]? ≠ some (some (.ref D)) := fun i d hi hg z => by
    obtain ⟨a, o, k1, k2, _⟩ := Rw.own i d hi hg
    rw [z] at k1
    cases k1
    rw [hD] at k2
    cases k2
  refine ⟨fun i m H => m = xs.length - i ∧ i ≤ xs.length ∧ ∃ F w acc done rest, Rel tk H0 F0 O (wipe σ vs) H F (wipeE g vs) w ∧ Ex tk F1 H1 F H ∧ H D = some (.lst acc) ∧ F D = none ∧ RepL tk F done acc ∧ acc.length ≤ i ∧
      lcLoop t c f (wipeE g vs) (xs.drop i) w = some (rest, w') ∧ done ++ rest = ds, ⟨_, rfl, Nat.zero_le _, F1, w1, [], [], ds, ?_⟩, ?_⟩
  · obtain ⟨Ra, xa⟩ := Rw.allocO hD (.lst [])
    exact ⟨Ra, xa, upd_same, R1.sub.none hD, by simp only [RepL], Nat.zero_le _, e2, rfl⟩
  · rintro i m H2 ⟨rfl, hile, F2, w3, acc, done, rest, R2, x2, hHD, hFD, hacc, hal, hloop, hds⟩
    have io := it F2 H2 x2.sm R2.sub i
    by_cases hlt : i < xs.length
    · have hx : xs[i]? = some xs[i] := List.getElem?_eq_getElem hlt
      obtain ⟨go, yl⟩ := io.1 _ hx
      rw [List.drop_eq_getElem_cons hlt] at hloop
      simp only [lcLoop] at hloop
      split at hloop <;> first | cases hloop | skip
      rename_i g1 hg1
      refine .inr ⟨go, fun H => ∃ F w acc done rest, Rel tk H0 F0 O (wipe σ vs) H F (wipeE g vs) w ∧ Ex tk F1 H1 F H ∧ H D = some (.lst acc) ∧ F D = none ∧ RepL tk F done acc ∧ acc.length ≤ i + 1 ∧
        lcLoop t c f (wipeE g vs) (xs.drop (i + 1)) w = some (rest, w') ∧ done ++ rest = ds, fun H' hN => ⟨_, Nat.lt_of_lt_of_le (Nat.sub_lt_sub_left hlt (Nat.lt_succ_self i)) (Nat.le_refl _), rfl, hlt, hN⟩, fun x H3 y => ?_⟩
      have ⟨F3, R3, x3, r3⟩ : ∃ F3, Rel tk H0 F0 O (wipe σ vs) H3 F3 (wipeE g vs) w3 ∧ Ex tk F2 H2 F3 H3 ∧ RepW wk tk F3 xs[i] x := by
        rcases yl x H3 y with ⟨rfl, r⟩ | ⟨p, o, hp, rfl, r⟩
        · exact ⟨F2, R2, Ex.refl .., r⟩
        · obtain ⟨Ra, xa⟩ := R2.alloc hp o
          exact ⟨_, Ra, xa, r⟩
      refine ⟨tk, H0, F0, F3, _, w3, xs[i], g1, R3, r3, hg1, fun σ4 H4 F4 R4 x4 w4 => ⟨(w4 _ hts).trans wipe_wipe, ?_⟩⟩
      obtain ⟨b, w5, e5, hloop⟩ := bnd_eq hloop
      refine ⟨tk, H0, F0, F4, g1, w3, b, w5, R4, e5, fun H5 F5 R5 x5 => ?_⟩
      have x25 := (x3.trans x4).trans x5
      have ne0 : H2 D ≠ none := by rw [hHD]; exact fun z => nomatch z
      cases b with
      | false =>
        rw [if_neg Bool.false_ne_true] at hloop
        refine iteF ?_
        exact ⟨F5, w5, acc, done, rest, R2.back R5 x25, x2.trans x25, x25.gr.exL hHD npw rfl, x25.nw D npw ne0 hFD, RepL.same x25.sm _ _ hacc, Nat.le_succ_of_le hal, hloop, hds⟩
      | true =>
        rw [if_pos rfl] at hloop
        refine iteT ?_
        obtain ⟨y6, w6, e6, hloop⟩ := bnd_eq hloop
        obtain ⟨r7, w7, e7, hloop⟩ := bnd_eq hloop
        cases hloop
        refine ⟨tk, H0, F0, F5, g1, w5, y6, w6, R5, e6, fun v H6 F6 R6 x6 r6 => ⟨acc, ?_⟩⟩
        have x26 := x25.trans x6
        have hD6 : H6 D = some (.lst acc) := x26.gr.exL hHD npw rfl
        have hF6 : F6 D = none := x26.nw D npw ne0 hFD
        refine ⟨hD6, by omega, F6, w6, acc ++ [v], done ++ [y6], r7, (R2.back R6 x26).free hF6 h0D npw noD, ?_, upd_same, hF6, (RepL.same x26.sm _ _ hacc).snoc r6, by simp; omega, e7, by rw [← hds]; simp⟩
        have xx := x2.trans x26
        exact ⟨xx.sm, fun a u e n => by rw [upd_ne (ne_of_none e hD)]; exact xx.gr a u e n, xx.nw⟩
    · have e : i = xs.length := by omega
      subst e
      refine .inl ⟨io.2 (Nat.le_refl _), ?_⟩
      rw [List.drop_length] at hloop
      have hloop : some (([] : List PySem.PyData), w3) = some (rest, w') := hloop
      cases hloop
      rw [List.append_nil] at hds
      subst hds
      have hD0 : H D = none := by
        cases q : H D with
        | none => rfl
        | some u => exact absurd hD (x1.gr.ne q npw)
      exact k (.ref D) H2 F2 (R1.back R2 x2) (x1.trans x2) ⟨D, .lst acc, rfl, hHD, hFD, hD0, npw, by simpa only [RepO] using hacc⟩
section
variable {X : Cx} {zf : Bool}
theorem EO.lc {O ts : List Nat} {elt tg iter : Expr} {ifs : List Expr} {scope : Scope} {own : List (Str × Nat)} {pos : Pos} {fi : Es} {t : G} {c : T} {f : E} (hc : X.calm = true) (hN : X.N.Nodup) (hi : EI X zf O tg iter fi) (ok : BlkOk X.N X.env.scope scope own)
    (hg : ∀ (s : Shared) (H : Hp) (C : Addr) (cl : List (Str × Addr)) (fp : List Addr), PG (X.blk s H scope (compEnvC scope cl C X.env) fp) tg (rdG X.K X.mg zf (isTupE tg) O ts t)) (ht : ∀ (s : Shared) (H : Hp) (C : Addr) (cl : List (Str × Addr)) (fp : List Addr), PTs (X.blk s H scope (compEnvC scope cl C X.env) fp) ifs (rdT X.K X.mg zf O c))
    (he : ∀ (s : Shared) (H : Hp) (C : Addr) (cl : List (Str × Addr)) (fp : List Addr), EV (X.blk s H scope (compEnvC scope cl C X.env) fp) zf O elt f) (hs : ∀ x, foldedSetIterable iter X.env x = pure x := by intro _; rfl) (hts : ∀ i ∈ ts, i ∈ own.map (·.2) := by decide) :
    EO X zf O (.ListComp elt [⟨tg, iter, ifs, 0⟩] scope pos) (cLc fi t c f (own.map (·.2))) := PE.imp (pe_lc hc hN hi ok hg ht he hs) (lc_read hts)
theorem tests0 {O : List Nat} : PTs X [] (rdT X.K X.mg zf O tYes) := ⟨fun pins s σ H Q I ⟨tk, H0, F0, F, g, w, d, w', R, ef, k⟩ => by
  have ef : some (true, w) = some (d, w') := ef
  cases ef
  exact pts_nil.run pins s σ H Q I (k H F R (Ex.refl ..))⟩
theorem tests1 {O : List Nat} {c : Expr} {f : T} (h : ET X zf O c f) : PTs X [c] (rdT X.K X.mg zf O f) := pts_one h
end
end Q

set_option Elab.async false
set_option linter.all false
set_option autoImplicit false
set_option maxRecDepth 100000
/-! QS6: statements. -/
namespace Q
open PySem PySem.Spec PyProof.Rows L2
section
variable {Kx : PySem.W.Frag} {mx : Str → Option Value} {zf : Bool} {tk : Tk Kx mx zf} {H0 F0 : Hp} {O : List Nat} {σ : L2.St} {H F : Hp} {g : Env} {w : Wd}
/-- other words for the own slots -/
theorem Rel.own' {O' : List Nat} (R : Rel tk H0 F0 O σ H F g w) (h : ∀ j, j ∈ O ↔ j ∈ O') : Rel tk H0 F0 O' σ H F g w :=
  ⟨R.len, R.sub, R.f0, R.k0, R.n0, fun i d hi => R.val i d fun z => hi ((h i).mp z), fun i d hi => R.own i d ((h i).mpr hi), fun i j a d e hi hj => R.sep i j a d e ((h i).mpr hi) ((h j).mpr hj), R.wat⟩
/-- slots that are forgotten may be called own or not -/
theorem Rel.off {O' vs : List Nat} (R : Rel tk H0 F0 O σ H F (wipeE g vs) w) (h : ∀ j, j ∉ vs → (j ∈ O ↔ j ∈ O')) : Rel tk H0 F0 O' σ H F (wipeE g vs) w :=
  ⟨R.len, R.sub, R.f0, R.k0, R.n0, fun i d hi e => R.val i d (fun z => hi ((h i (wipeE_some e).2).mp z)) e, fun i d hi e => R.own i d ((h i (wipeE_some e).2).mpr hi) e,
    fun i j a d e hi hj h1 h2 => R.sep i j a d e ((h i (wipeE_some h1).2).mpr hi) ((h j (wipeE_some h2).2).mpr hj) h1 h2, R.wat⟩
def sameOff (vs O O' : List Nat) : Bool := O.all (fun j => vs.contains j || O'.contains j) && O'.all (fun j => vs.contains j || O.contains j)
theorem sameOff_iff {vs O O' : List Nat} (h : sameOff vs O O' = true) : ∀ j, j ∉ vs → (j ∈ O ↔ j ∈ O') := by
  simp only [sameOff, Bool.and_eq_true, List.all_eq_true, Bool.or_eq_true, List.contains_iff_mem] at h
  exact fun j hj => ⟨fun k => (h.1 j k).resolve_left hj, fun k => (h.2 j k).resolve_left hj⟩
/-- one slot frozen -/
theorem Rel.frz1 (R : Rel tk H0 F0 O σ H F g w) (i : Nat) : ∃ F', Rel tk H0 F0 (O.filter fun j => j ≠ i) σ H F' g w ∧ Same F F' ∧ New tk H0 F F' := by
  have sub : ∀ j, j ∈ O.filter (fun j => j ≠ i) ↔ j ∈ O ∧ j ≠ i := fun j => by simp
  by_cases hi : i ∈ O
  · cases hg : g[i]? with
    | none =>
      refine ⟨F, ⟨R.len, R.sub, R.f0, R.k0, R.n0, fun j d hj e => ?_, fun j d hj e => R.own j d ((sub j).mp hj).1 e, fun j l a d e hj hl => R.sep j l a d e ((sub j).mp hj).1 ((sub l).mp hl).1, R.wat⟩, Same.refl F, fun _ _ _ h => h⟩
      refine R.val j d (fun z => hj ((sub j).mpr ⟨z, fun k => ?_⟩)) e
      rw [k, hg] at e; cases e
    | some o =>
      cases o with
      | none =>
        refine ⟨F, ⟨R.len, R.sub, R.f0, R.k0, R.n0, fun j d hj e => ?_, fun j d hj e => R.own j d ((sub j).mp hj).1 e, fun j l a d e hj hl => R.sep j l a d e ((sub j).mp hj).1 ((sub l).mp hl).1, R.wat⟩, Same.refl F, fun _ _ _ h => h⟩
        refine R.val j d (fun z => hj ((sub j).mpr ⟨z, fun k => ?_⟩)) e
        rw [k, hg] at e; cases e
      | some d0 =>
        obtain ⟨a, o, h1, h2, h3, h4, h5, h6⟩ := R.own i d0 hi hg
        have hr := h6.frz h3
        have s := same_new (o := o) h3
        have R1 : Rel tk H0 F0 (O.filter fun j => j ≠ i) σ H F g w ∨ True := .inr trivial
        refine ⟨upd F a o, ⟨R.len, fun b u e => ?_, R.f0.trans s, R.k0.to s (fun _ _ _ e => e), fun b n e f => ?_, fun j d hj e => ?_, fun j d hj e => ?_, fun j l a d e hj hl => R.sep j l a d e ((sub j).mp hj).1 ((sub l).mp hl).1, ?_⟩, s, fun b n e f => ?_⟩
        · by_cases h : b = a
          · subst h; rw [upd_same] at e; cases e; exact .inl h2
          · rw [upd_ne h] at e; exact R.sub b u e
        · have ne : b ≠ a := fun z => e (by rw [z]; exact h4)
          rw [upd_ne ne]; exact R.n0 b n e f
        · by_cases hji : j = i
          · subst hji
            rw [hg] at e
            cases e
            exact ⟨_, h1, hr⟩
          · obtain ⟨v, k1, k2⟩ := R.val j d (fun z => hj ((sub j).mpr ⟨z, hji⟩)) e
            exact ⟨v, k1, Rep.same s _ _ k2⟩
        · obtain ⟨hj1, hj2⟩ := (sub j).mp hj
          obtain ⟨b, u, k1, k2, k3, k4, k5, k6⟩ := R.own j d hj1 e
          have ne : b ≠ a := fun z => hj2 (R.sep j i a d d0 hj1 hi e hg (by rw [← z]; exact k1) h1)
          exact ⟨b, u, k1, k2, by rw [upd_ne ne]; exact k3, k4, k5, k6.same s⟩
        · exact R.wat.to (fun _ _ => rfl) s fun q e => by rw [upd_ne (fun z => h5 (by rw [e, z]))]; exact R.fw q e
        · have ne : b ≠ a := fun z => e (by rw [z]; exact h4)
          rw [upd_ne ne]; exact f
  · refine ⟨F, R.own' fun j => ?_, Same.refl F, fun _ _ _ h => h⟩
    rw [sub j]
    exact ⟨fun k => ⟨k, fun z => hi (z ▸ k)⟩, fun k => k.1⟩
theorem Rel.frzs (R : Rel tk H0 F0 O σ H F g w) : ∀ L : List Nat, ∃ F', Rel tk H0 F0 (O.filter fun j => !L.contains j) σ H F' g w
  | [] => ⟨F, R.own' fun j => by simp⟩
  | i :: L => by
    obtain ⟨F1, R1⟩ := R.frzs L
    obtain ⟨F2, R2, _⟩ := R1.frz1 i
    refine ⟨F2, R2.own' fun j => ?_⟩
    simp only [List.mem_filter, Bool.not_eq_true', List.contains_eq_mem, decide_eq_false_iff_not, List.mem_cons, not_or, ne_eq, decide_eq_true_eq]
    exact ⟨fun ⟨⟨a, b⟩, c⟩ => ⟨a, by simpa using c, b⟩, fun ⟨a, c, b⟩ => ⟨⟨a, b⟩, by simpa using c⟩⟩
/-- a slot gets a new own object -/
theorem Rel.setOwn {O' : List Nat} (R : Rel tk H0 F0 O σ H F g w) {i : Nat} {d : D} {a : Addr} {o : HO} (hO : ∀ j, j ∈ O' ↔ j = i ∨ j ∈ O) (hi : i < g.length) (h2 : H a = some o) (h3 : F a = none) (h4 : H0 a = none) (h5 : tk.pw ≠ some a) (h6 : RepO tk F d o)
    (no : ∀ j e, j ∈ O → g[j]? = some (some e) → σ[j]? ≠ some (some (.ref a))) : Rel tk H0 F0 O' (σ.set i (some (.ref a))) H F (g.set i (some d)) w := by
  have hl := R.len
  refine ⟨by simpa using hl, R.sub, R.f0, R.k0, R.n0, fun j e hj h => ?_, fun j e hj h => ?_, fun j l b e e' hj hll h h' k k' => ?_, R.wat⟩
  · have z : j ≠ i := fun z => hj ((hO j).mpr (.inl z))
    rw [List.getElem?_set_ne (Ne.symm z)] at h ⊢
    exact R.val j e (fun z => hj ((hO j).mpr (.inr z))) h
  · by_cases z : j = i
    · subst z
      rw [List.getElem?_set_self hi] at h
      cases h
      exact ⟨a, o, List.getElem?_set_self (by omega), h2, h3, h4, h5, h6⟩
    · rw [List.getElem?_set_ne (Ne.symm z)] at h ⊢
      exact R.own j e (((hO j).mp hj).resolve_left z) h
  · by_cases z : j = i
    · by_cases z' : l = i
      · rw [z, z']
      · exfalso
        subst z
        rw [List.getElem?_set_self (by omega)] at k
        rw [List.getElem?_set_ne (Ne.symm z')] at h' k'
        cases k
        exact no l e' (((hO l).mp hll).resolve_left z') h' k'
    · by_cases z' : l = i
      · exfalso
        subst z'
        rw [List.getElem?_set_self (by omega)] at k'
        rw [List.getElem?_set_ne (Ne.symm z)] at h k
        cases k'
        exact no j e (((hO j).mp hj).resolve_left z) h k
      · rw [List.getElem?_set_ne (Ne.symm z)] at h k
        rw [List.getElem?_set_ne (Ne.symm z')] at h' k'
        exact R.sep j l b e e' (((hO j).mp hj).resolve_left z) (((hO l).mp hll).resolve_left z') h h' k k'
/-- the own object of a slot changes -/
theorem Rel.mut (R : Rel tk H0 F0 O σ H F g w) {i : Nat} {d d' : D} {a : Addr} {o' : HO} (hO : i ∈ O) (hg : g[i]? = some (some d)) (hs : σ[i]? = some (some (.ref a))) (h6 : RepO tk F d' o') : Rel tk H0 F0 O σ (upd H a o') F (g.set i (some d')) w := by
  obtain ⟨b, o, h1, h2, h3, h4, h5, _⟩ := R.own i d hO hg
  rw [hs] at h1
  cases h1
  have hi : i < g.length := (List.getElem?_eq_some_iff.mp hg).1
  have hl := R.len
  refine ⟨by simpa using hl, fun b u e => ?_, R.f0, fun b u e n => ?_, R.n0, fun j e hj h => ?_, fun j e hj h => ?_, fun j l b e e' hj hll h h' k k' => ?_, ?_⟩
  · have ne : b ≠ a := fun z => by rw [z, h3] at e; cases e
    rcases R.sub b u e with k | ⟨k, ob, q⟩
    · exact .inl (by rw [upd_ne ne]; exact k)
    · exact .inr ⟨k, ob, by rw [upd_ne ne]; exact q⟩
  · rw [upd_ne (ne_of_none e h4)]; exact R.k0 b u e n
  · have z : j ≠ i := fun z => hj (z ▸ hO)
    rw [List.getElem?_set_ne (Ne.symm z)] at h
    exact R.val j e hj h
  · by_cases z : j = i
    · subst z
      rw [List.getElem?_set_self hi] at h
      cases h
      exact ⟨a, o', hs, upd_same, h3, h4, h5, h6⟩
    · rw [List.getElem?_set_ne (Ne.symm z)] at h
      obtain ⟨b, u, k1, k2, k3⟩ := R.own j e hj h
      have ne : b ≠ a := fun q => z (R.sep j i a e d hj hO h hg (by rw [← q]; exact k1) hs)
      exact ⟨b, u, k1, by rw [upd_ne ne]; exact k2, k3⟩
  · have key : ∀ j e, (g.set i (some d'))[j]? = some (some e) → ∃ e, g[j]? = some (some e) := fun j e h => by
      by_cases z : j = i
      · exact ⟨d, z ▸ hg⟩
      · rw [List.getElem?_set_ne (Ne.symm z)] at h
        exact ⟨e, h⟩
    obtain ⟨e1, h1⟩ := key j e h
    obtain ⟨e2, h2⟩ := key l e' h'
    exact R.sep j l b e1 e2 hj hll h1 h2 k k'
  · exact R.wat.to (fun q e => upd_ne fun z => h5 (by rw [e, z])) (Same.refl F) R.fw
end

section
variable {X : Cx} {zf : Bool} {O O' O1 Ol : List Nat}
/-! ### one after another -/
theorem SOut.weaken {Kx : PySem.W.Frag} {mx : Str → Option Value} {zf : Bool} {tk : Tk Kx mx zf} {H0 F0 : Hp} {D : Ends} {w' : Wd} {o : Out} (h : SOut tk H0 F0 O' Ol D w' o) {D2 : Ends} (hn : ∀ g' σ' H' F', o = .nx g' → Rel tk H0 F0 O1 σ' H' F' g' w' → D2.nx σ' H') (hr : D2.rt = D.rt) (hb : D2.bk = D.bk) (hc : D2.ct = D.ct) : SOut tk H0 F0 O1 Ol D2 w' o := by
  cases o with
  | nx g' => exact fun σ' H' F' R => hn g' σ' H' F' rfl R
  | rt d => simp only [SOut] at h ⊢; rw [hr]; exact h
  | bk g' => simp only [SOut] at h ⊢; rw [hb]; exact h
  | ct g' => simp only [SOut] at h ⊢; rw [hc]; exact h
theorem ESs.one {st : Stmt} {f : S} (h : ES X zf O O' Ol st f) : ESs X zf O O' Ol [st] f := pss_one h
theorem ESs.cons {st : Stmt} {rest : List Stmt} {f h : S} (h1 : ES X zf O O1 Ol st f) (h2 : ESs X zf O1 O' Ol rest h) : ESs X zf O O' Ol (st :: rest) (sSeq f h) := PSs.imp (pss_cons h1 h2) fun D σ H ⟨tk, H0, F0, F, g, w, o, w', R, ef, q⟩ => by
  obtain ⟨o1, w1, e1, ef⟩ := bnd_eq (show bnd (f g w) _ = _ from ef)
  refine ⟨tk, H0, F0, F, g, w, o1, w1, R, e1, ?_⟩
  cases o1 with
  | nx g1 =>
    simp only at ef
    exact fun σ' H' F' R' => ⟨tk, H0, F0, F', g1, w1, o, w', R', ef, q⟩
  | rt d => simp only at ef; cases ef; exact q
  | bk g1 => simp only at ef; cases ef; exact q
  | ct g1 => simp only at ef; cases ef; exact q
/-- own slots frozen ahead of a statement -/
theorem ES.frz {st : Stmt} {f : S} (L : List Nat) (h : ES X zf O1 O' Ol st f) (hO : (O.filter fun j => !L.contains j) = O1 := by rfl) : ES X zf O O' Ol st f := PS.imp h fun D σ H ⟨tk, H0, F0, F, g, w, o, w', R, ef, q⟩ => by
  obtain ⟨F', R'⟩ := R.frzs L
  rw [hO] at R'
  exact ⟨tk, H0, F0, F', g, w, o, w', R', ef, q⟩
theorem ESs.frz {st : List Stmt} {f : S} (L : List Nat) (h : ESs X zf O1 O' Ol st f) (hO : (O.filter fun j => !L.contains j) = O1 := by rfl) : ESs X zf O O' Ol st f := PSs.imp h fun D σ H ⟨tk, H0, F0, F, g, w, o, w', R, ef, q⟩ => by
  obtain ⟨F', R'⟩ := R.frzs L
  rw [hO] at R'
  exact ⟨tk, H0, F0, F', g, w, o, w', R', ef, q⟩
/-- .. behind one -/
theorem ESs.post {st : List Stmt} {f : S} (L : List Nat) (h : ESs X zf O O1 Ol st f) (hO : (O1.filter fun j => !L.contains j) = O' := by rfl) : ESs X zf O O' Ol st f := PSs.imp h fun D σ H ⟨tk, H0, F0, F, g, w, o, w', R, ef, q⟩ => by
  refine ⟨tk, H0, F0, F, g, w, o, w', R, ef, q.weaken (fun g' σ' H' F' e R' => ?_) rfl rfl rfl⟩
  obtain ⟨F2, R2⟩ := R'.frzs L
  rw [hO] at R2
  subst e
  exact q σ' H' F2 R2
/-- slots forgotten behind a block -/
theorem ESs.forget {st : List Stmt} {f : S} (vs : List Nat) (h : ESs X zf O O1 Ol st f) (hO : sameOff vs O1 O' = true := by rfl) : ESs X zf O O' Ol st (sSeq f (sForget vs)) := PSs.imp h fun D σ H ⟨tk, H0, F0, F, g, w, o, w', R, ef, q⟩ => by
  obtain ⟨o1, w1, e1, ef⟩ := bnd_eq (show bnd (f g w) _ = _ from ef)
  refine ⟨tk, H0, F0, F, g, w, o1, w1, R, e1, ?_⟩
  cases o1 with
  | nx g1 =>
    simp only [sForget] at ef
    cases ef
    exact fun σ' H' F' R' => q σ' H' F' ((R'.wipeG vs).off (sameOff_iff hO))
  | rt d => simp only at ef; cases ef; exact q
  | bk g1 => simp only at ef; cases ef; exact q
  | ct g1 => simp only at ef; cases ef; exact q
theorem ESs.nil : ESs X zf O O Ol [] sPass := PSs.imp pss_nil fun D σ H ⟨tk, H0, F0, F, g, w, o, w', R, ef, q⟩ => by
  have ef : some (Out.nx g, w) = some (o, w') := ef
  cases ef
  exact q σ H F R
theorem ES.pass {pos : Pos} : ES X zf O O Ol (.Pass pos) sPass := PS.imp ps_pass fun D σ H ⟨tk, H0, F0, F, g, w, o, w', R, ef, q⟩ => by
  have ef : some (Out.nx g, w) = some (o, w') := ef
  cases ef
  exact q σ H F R
theorem ES.break {pos : Pos} : ES X zf O O' O (.Break pos) sBreak := PS.imp ps_break fun D σ H ⟨tk, H0, F0, F, g, w, o, w', R, ef, q⟩ => by
  have ef : some (Out.bk g, w) = some (o, w') := ef
  cases ef
  exact q σ H F R
theorem ES.cont {pos : Pos} : ES X zf O O' O (.Continue pos) sCont := PS.imp ps_continue fun D σ H ⟨tk, H0, F0, F, g, w, o, w', R, ef, q⟩ => by
  have ef : some (Out.ct g, w) = some (o, w') := ef
  cases ef
  exact q σ H F R
theorem ES.ret {e : Expr} {f : E} {pos : Pos} (h : EV X zf O e f) : ES X zf O O' Ol (.Return (some e) pos) (sRet f) := PS.imp (ps_ret h) fun D σ H ⟨tk, H0, F0, F, g, w, o, w', R, ef, q⟩ => by
  obtain ⟨d, w1, e1, ef⟩ := bnd_eq (show bnd (f g w) _ = _ from ef)
  cases ef
  exact ⟨tk, H0, F0, F, g, w, d, _, R, e1, fun v H' F' R' x r => q v H' F' R'.sub R'.f0 R'.k0 R'.n0 R'.wat r⟩
theorem ES.if {c : Expr} {a b : List Stmt} {fc : T} {fa fb : S} {pos : Pos} (hc : ET X zf O c fc) (ha : ESs X zf O O' Ol a fa) (hb : ESs X zf O O' Ol b fb) : ES X zf O O' Ol (.If c a b pos) (sIf fc fa fb) := PS.imp (ps_if hc ha hb) fun D σ H ⟨tk, H0, F0, F, g, w, o, w', R, ef, q⟩ => by
  obtain ⟨c, w1, e1, ef⟩ := bnd_eq (show bnd (fc g w) _ = _ from ef)
  refine ⟨tk, H0, F0, F, g, w, c, w1, R, e1, fun H1 F1 R1 x1 => ?_⟩
  cases c with
  | true =>
    rw [if_pos rfl] at ef
    exact iteT ⟨tk, H0, F0, F1, g, w1, o, w', R1, ef, q⟩
  | false =>
    rw [if_neg Bool.false_ne_true] at ef
    exact iteF ⟨tk, H0, F0, F1, g, w1, o, w', R1, ef, q⟩
/-! ### stores -/
theorem ES.set {tg e : Expr} {f : E} {ts : List Nat} {t : G} {pos : Pos} (h : EV X zf O e f) (hg : PG X tg (rdG X.K X.mg zf (isTupE tg) O ts t)) (hs : swapsWithSole [tg] e pos.line X.env = pure false := by rfl) (hw : swappedStores [tg] e X.env = pure none := by rfl) (h1 : (assignEach [tg] X.env).map (·.2) = [assign tg X.env] := by rfl) :
    ES X zf O O Ol (.Assign [tg] e pos) (sSet t f) := PS.imp (ps_asg h hg hs hw h1) fun D σ H ⟨tk, H0, F0, F, g, w, o, w', R, ef, q⟩ => by
  obtain ⟨d, w1, e1, ef⟩ := bnd_eq (show bnd (f g w) _ = _ from ef)
  refine ⟨tk, H0, F0, F, g, w, d, w1, R, e1, fun v H1 F1 R1 x1 r1 => ?_⟩
  split at ef <;> first | cases ef | skip
  rename_i g1 hg1
  exact ⟨tk, H0, F0, F1, g, _, d, _, R1, .inl r1, hg1, fun σ2 H2 F2 R2 x2 _ => q σ2 H2 F2 R2⟩
/-- a comprehension to a local name, on one line -/
theorem tAsg_own {Kx : PySem.W.Frag} {mx : Str → Option Value} {zf : Bool} {i : Nat} {f : E} (hO : ∀ j, j ∈ O' ↔ j = i ∨ j ∈ O) : ∀ D σ H, rdS Kx mx zf O O' Ol (sSet (gName i) f) D σ H → tAsg (rdO Kx mx zf O f) (L2.gName i) D σ H := fun D σ H ⟨tk, H0, F0, F, g, w, o, w', R, ef, q⟩ => by
  obtain ⟨d, w1, e1, ef⟩ := bnd_eq (show bnd (f g w) _ = _ from ef)
  simp only [gName] at ef
  refine ⟨tk, H0, F0, F, g, w, d, w1, R, e1, fun v H1 F1 R1 x1 r1 => ?_⟩
  obtain ⟨a, u, rfl, h2, h3, hH, h5, h6⟩ := r1
  have h0 : H0 a = none := by
    cases z : H0 a with
    | none => rfl
    | some y => exact absurd hH (R.k0.ne z h5)
  have no : ∀ j e, j ∈ O → g[j]? = some (some e) → σ[j]? ≠ some (some (.ref a)) := fun j e hj hg z => by
    obtain ⟨b, y, k1, k2, _⟩ := R.own j e hj hg
    rw [z] at k1
    cases k1
    rw [hH] at k2; cases k2
  split at ef
  · rename_i g1 hg1
    split at hg1 <;> first | cases hg1 | skip
    rename_i hi
    cases ef
    exact q _ H1 F1 (R1.setOwn hO hi h2 h3 h0 h5 h6 no)
  · cases ef
def addO (i : Nat) (O O' : List Nat) : Bool := O'.contains i && O.all (fun j => O'.contains j) && O'.all (fun j => j == i || O.contains j)
theorem addO_iff {i : Nat} {O O' : List Nat} (h : addO i O O' = true) : ∀ j, j ∈ O' ↔ j = i ∨ j ∈ O := by
  simp only [addO, Bool.and_eq_true, List.all_eq_true, Bool.or_eq_true, List.contains_iff_mem, beq_iff_eq] at h
  exact fun j => ⟨fun k => h.2 j k, fun k => k.elim (fun z => z ▸ h.1.1) (h.1.2 j)⟩
/-- a new object to a name: the slot's own -/
theorem ES.setO {x : Str} {px pos : Pos} {e : Expr} {f : E} (i : Nat) (hN : X.N.Nodup) (h : EO X zf O e f) (hi : X.N[i]? = some x := by rfl) (hx : Loc X.env.scope x := by first | exact Or.inl rfl | exact Or.inr rfl) (hf : X.fn x = true ∨ X.env.scope.names.lookup x = some .local := by first | exact .inl rfl | exact .inr rfl)
    (hs : swapsWith e (some (.Name x px)) pos.line X.env = pure false := by rfl) (hO : addO i O O' = true := by rfl) : ES X zf O O' Ol (.Assign [.Name x px] e pos) (sSet (gName i) f) := PS.imp (ps_set hN hi hx h hs hf) (tAsg_own (addO_iff hO))
theorem ES.setLc {ts : List Nat} {y : Str} {py : Pos} {elt tg iter : Expr} {ifs : List Expr} {scope : Scope} {own : List (Str × Nat)} {pos spos : Pos} {fi : Es} {t : G} {c : T} {f : E} (i : Nat) (hc : X.calm = true) (hN : X.N.Nodup) (hi : EI X zf O tg iter fi) (ok : BlkOk X.N X.env.scope scope own)
    (hg : ∀ (s : Shared) (H : Hp) (C : Addr) (cl : List (Str × Addr)) (fp : List Addr), PG (X.blk s H scope (compEnvC scope cl C X.env) fp) tg (rdG X.K X.mg zf (isTupE tg) O ts t)) (ht : ∀ (s : Shared) (H : Hp) (C : Addr) (cl : List (Str × Addr)) (fp : List Addr), PTs (X.blk s H scope (compEnvC scope cl C X.env) fp) ifs (rdT X.K X.mg zf O c))
    (he : ∀ (s : Shared) (H : Hp) (C : Addr) (cl : List (Str × Addr)) (fp : List Addr), EV (X.blk s H scope (compEnvC scope cl C X.env) fp) zf O elt f) (hsw : swapsWith (.ListComp elt [⟨tg, iter, ifs, 0⟩] scope pos) (some (.Name y py)) spos.line X.env = pure true)
    (hy : X.N[i]? = some y := by rfl) (hyl : X.env.scope.names.lookup y = some .local := by rfl) (hs : ∀ x, foldedSetIterable iter X.env x = pure x := by intro _; rfl) (hts : ∀ i ∈ ts, i ∈ own.map (·.2) := by decide) (hO : addO i O O' = true := by rfl) :
    ES X zf O O' Ol (.Assign [.Name y py] (.ListComp elt [⟨tg, iter, ifs, 0⟩] scope pos) spos) (sSet (gName i) (cLc fi t c f (own.map (·.2)))) :=
  PS.imp (ps_setLc hc hN hy hyl hsw hi ok hg ht he hs) fun D σ H h => lc_read hts _ _ _ (tAsg_own (addO_iff hO) D σ H h)
/-! the same, the slot not its own: frozen at once -/
theorem tAsg_val {Kx : PySem.W.Frag} {mx : Str → Option Value} {zf : Bool} {i : Nat} {f : E} (hO : i ∉ O) : ∀ D σ H, rdS Kx mx zf O O Ol (sSet (gName i) f) D σ H → tAsg (rd Kx mx zf O f) (L2.gName i) D σ H := fun D σ H ⟨tk, H0, F0, F, g, w, o, w', R, ef, q⟩ => by
  obtain ⟨d, w1, e1, ef⟩ := bnd_eq (show bnd (f g w) _ = _ from ef)
  simp only [gName] at ef
  refine ⟨tk, H0, F0, F, g, w, d, w1, R, e1, fun v H1 F1 R1 x1 r1 => ?_⟩
  split at ef
  · rename_i g1 hg1
    split at hg1 <;> first | cases hg1 | skip
    rename_i hi
    cases ef
    exact q _ H1 F1 (R1.set hO r1 hi)
  · cases ef
/-! ### calls that change an own object -/
theorem mutS_eq {i : Nat} {f : D → Option D} {g : Env} {w : Wd} {o : Out} {w' : Wd} (h : mutS i f g w = some (o, w')) : ∃ x y, g[i]? = some (some x) ∧ f x = some y ∧ o = .nx (g.set i (some y)) ∧ w' = w := by
  simp only [mutS] at h
  split at h <;> first | cases h | skip
  rename_i x hx
  split at h <;> first | cases h | skip
  rename_i y hy
  exact ⟨x, y, Option.join_eq_some_iff.mp hx, hy, rfl, rfl⟩
theorem apD_eq {x d y : D} (h : apD x d = some y) : ∃ ds, x = .list ds ∧ ds.length < sizeLine ∧ y = .list (ds ++ [d]) := by
  cases x <;> simp only [apD] at h <;> first | cases h | skip
  split at h
  · rename_i hlt
    exact ⟨_, rfl, hlt, (Option.some.inj h).symm⟩
  · cases h
theorem exD_eq {x d y : D} (h : exD x d = some y) : ∃ ds es, x = .list ds ∧ d = .list es ∧ ds.length + es.length ≤ sizeLine ∧ y = .list (ds ++ es) := by
  cases x <;> cases d <;> simp only [exD] at h <;> first | cases h | skip
  split at h
  · rename_i hlt
    exact ⟨_, _, rfl, rfl, hlt, (Option.some.inj h).symm⟩
  · cases h
theorem RepO.lst {Kx : PySem.W.Frag} {mx : Str → Option Value} {zf : Bool} {tk : Tk Kx mx zf} {F : Hp} {ds : List D} {u : HO} (h : RepO tk F (.list ds) u) : ∃ xs, u = .lst xs ∧ RepL tk F ds xs := by
  cases u <;> simp only [RepO] at h
  exact ⟨_, rfl, h⟩
/-- the name of an own list, as a receiver -/
theorem ES.app {x : Str} {px apos cpos spos : Pos} {e : Expr} {f : E} (i : Nat) (h : EV X zf O e f) (hO : i ∈ O := by decide) (hN : X.N[i]? = some x := by rfl) (hv : Vis X.env.scope x := by first | exact Or.inl rfl | exact Or.inr (Or.inl rfl) | exact Or.inr (Or.inr rfl)) (hd : (x == ("__debug__" : Str)) = false := by decide)
    (hcd : (x == ("__classdict__" : Str)) = false := by decide) (hs : starEach [e] X.env = (false, eval e X.env) :: starEach [] X.env := by rfl)
    (hbase : attributeBase (.Name x px) "append" X.env (eval (.Name x px) X.env) = eval (.Name x px) X.env := by rfl)
    (hfew : ((backTo cpos (starEach [e] X.env)).all (fun x => !x.1) && (backToKw cpos (keywordEach [] X.env)).all (fun x => x.1.isSome)
      && decide (([e] : List Expr).length + ([] : List Keyword).length + (if ([] : List Keyword).isEmpty then 0 else 1) < 30)) = true := by rfl)
    (hline : (apos.endLine == cpos.line) = true := by rfl) (hplain : (backTo cpos (starEach [] X.env)).any (·.1) = false := by rfl)
    (hsw : swapsWith (.Call (.Attribute (.Name x px) "append" apos) [e] [] cpos) none spos.line X.env = pure false := by rfl) :
    ES X zf O O Ol (.Expr (.Call (.Attribute (.Name x px) "append" apos) [e] [] cpos) spos) (sApp i f) :=
  PS.imp (ps_expr (pe_bm PySem.F.plainAttrs_list PySem.F.slot_list_append PySem.F.type_list_append mt_append (pe_var (i := i) hN hv hd hcd) (EA.cons h EA.nil hs) hbase hfew hline hs hplain) hsw) fun D σ H ⟨tk, H0, F0, F, g, w, o, w', R, ef, q⟩ => by
  obtain ⟨d, w1, e1, ef⟩ := bnd_eq (show bnd (f g w) _ = _ from ef)
  obtain ⟨x0, y0, hg, hf, rfl, rfl⟩ := mutS_eq ef
  obtain ⟨ds, rfl, hlt, rfl⟩ := apD_eq hf
  obtain ⟨a, u, h1, h2, h3, h4, h5, h6⟩ := R.own i _ hO hg
  obtain ⟨xs, rfl, h6⟩ := RepO.lst h6
  refine ⟨.ref a, h1, .inl ⟨rfl, _, .inl (.inl h2)⟩, tk, H0, F0, F, g, w, [d], w', R, by simp [cArgs, e1], fun vs H1 F1 R1 x1 r1 => ?_⟩
  match vs, r1 with
  | [], r1 => simp only [RepL] at r1
  | _ :: _ :: _, r1 => simp only [RepL] at r1; exact r1.2.elim
  | [v], r1 =>
    simp only [RepL] at r1
    have k2 := x1.gr.exL h2 h5 rfl
    refine ⟨a, xs, v, rfl, rfl, k2, by rw [← h6.length]; exact hlt, ?_⟩
    exact q σ _ F1 (R1.mut hO hg h1 (by simp only [RepO]; exact (RepL.same x1.sm _ _ h6).snoc r1.1))
end
end Q

set_option Elab.async false
set_option linter.all false
set_option autoImplicit false
set_option maxRecDepth 100000
/-! QS7: loops, several stores at once, names changed in place. -/
namespace Q
open PySem PySem.Spec PyProof.Rows L2
section
variable {Kx : PySem.W.Frag} {mx : Str → Option Value} {zf : Bool} {tk : Tk Kx mx zf} {H0 F0 F1 : Hp} {O : List Nat} {σ : L2.St} {H F : Hp} {g : Env} {w : Wd}
/-- from now on F1 is what was frozen first -/
theorem Rel.now (R : Rel tk H0 F0 O σ H F g w) : Rel tk H0 F O σ H F g w := ⟨R.len, R.sub, Same.refl F, R.k0, fun _ _ _ h => h, R.val, R.own, R.sep, R.wat⟩
theorem Rel.ago (R : Rel tk H0 F1 O σ H F g w) (s : Same F0 F1) (n : New tk H0 F0 F1) : Rel tk H0 F0 O σ H F g w :=
  ⟨R.len, R.sub, s.trans R.f0, R.k0, fun a na ha fa => R.n0 a na ha (n a na ha fa), R.val, R.own, R.sep, R.wat⟩
end
section
variable {X : Cx} {zf : Bool} {O O' Oh Ob Ol : List Nat}
theorem ES.for {tg iter : Expr} {body : List Stmt} {fi : Es} {t : G} {ts : List Nat} {fb : S} {pos : Pos} (vs : List Nat) (hp : PassesOwn (model X.prog X.w) X.A X.env X.xe) (hc : X.calm = true) (hi : EI X zf O tg iter fi) (hg : PG X tg (rdG X.K X.mg zf (isTupE tg) Oh ts t)) (hb : ESs X zf Oh Ob Oh body fb)
    (h1 : sameOff vs O Oh = true := by rfl) (h2 : sameOff vs Ob Oh = true := by rfl) (h3 : sameOff vs Oh O' = true := by rfl) (hs : ∀ x, foldedSetIterable iter X.env x = pure x := by intro _; rfl) : ES X zf O O' Ol (.For tg iter body [] pos) (sFor fi t fb vs) :=
  PS.imp (ps_for hp hc hi hg hb hs) fun D σ H ⟨tk, H0, F0, F, g, w, o, w', R, ef, q⟩ => by
  obtain ⟨xs, w1, e1, ef⟩ := bnd_eq (show bnd (fi g w) _ = _ from ef)
  refine ⟨tk, H0, F0, F, g, w, xs, w1, R, e1, fun J H1 F1 R1 x1 it => ?_⟩
  have s01 : Same F0 F1 := R1.f0
  have n01 : New tk H0 F0 F1 := R1.n0
  refine ⟨fun i m σ H => m = xs.length - i ∧ i ≤ xs.length ∧ ∃ F g w, Rel tk H0 F1 Oh σ H F (wipeE g vs) w ∧ loopS t fb vs (xs.drop i) g w = some (o, w'), ⟨_, rfl, Nat.zero_le _, F1, g, w1, (R1.now.wipeG vs).off (sameOff_iff h1), ef⟩, ?_⟩
  rintro i m σ2 H2 ⟨rfl, hile, F2, g2, w2, R2, hloop⟩
  have io := it F2 H2 R2.f0 R2.sub i
  by_cases hlt : i < xs.length
  · have hx : xs[i]? = some xs[i] := List.getElem?_eq_getElem hlt
    obtain ⟨go, yl⟩ := io.1 _ hx
    rw [List.drop_eq_getElem_cons hlt] at hloop
    simp only [loopS] at hloop
    split at hloop <;> first | cases hloop | skip
    rename_i g3 hg3
    refine .inr ⟨go, fun σ H => ∃ F g w, Rel tk H0 F1 Oh σ H F (wipeE g vs) w ∧ loopS t fb vs (xs.drop (i + 1)) g w = some (o, w'), fun σ' H' hN => ⟨_, Nat.sub_lt_sub_left hlt (Nat.lt_succ_self i), rfl, hlt, hN⟩, fun x H3 y => ?_⟩
    have ⟨F3, R3, r3⟩ : ∃ F3, Rel tk H0 F1 Oh σ2 H3 F3 (wipeE g2 vs) w2 ∧ RepW (isTupE tg) tk F3 xs[i] x := by
      rcases yl x H3 y with ⟨rfl, r⟩ | ⟨p, u, hp, rfl, r⟩
      · exact ⟨F2, R2, r⟩
      · exact ⟨_, (R2.alloc hp u).1, r⟩
    refine ⟨tk, H0, F1, F3, _, w2, xs[i], g3, R3, r3, hg3, fun σ4 H4 F4 R4 x4 _ => ?_⟩
    obtain ⟨o5, w5, e5, hloop⟩ := bnd_eq hloop
    refine ⟨tk, H0, F1, F4, g3, w2, o5, w5, R4, e5, ?_⟩
    cases o5 with
    | nx g6 =>
      simp only at hloop
      exact fun σ' H' F' R' => ⟨F', g6, w5, (R'.wipeG vs).off (sameOff_iff h2), hloop⟩
    | ct g6 =>
      simp only at hloop
      exact fun σ' H' F' R' => ⟨F', g6, w5, R'.wipeG vs, hloop⟩
    | bk g6 =>
      simp only at hloop
      cases hloop
      exact fun σ' H' F' R' => q σ' H' F' (((R'.wipeG vs).off (sameOff_iff h3)).ago s01 n01)
    | rt d =>
      simp only at hloop
      cases hloop
      exact fun v H' F' a1 a2 a3 a4 a5 a6 => q v H' F' a1 (s01.trans a2) a3 (fun a na ha fa => a4 a na ha (n01 a na ha fa)) a5 a6
  · have e : i = xs.length := by omega
    subst e
    rw [List.drop_length] at hloop
    have hloop : some (Out.nx (wipeE g2 vs), w2) = some (o, w') := hloop
    cases hloop
    exact .inl ⟨io.2 (Nat.le_refl _), q σ2 H2 F2 ((R2.off (sameOff_iff h3)).ago s01 n01)⟩
theorem ES.while {c : Expr} {body : List Stmt} {fc : T} {fb : S} {pos : Pos} (vs : List Nat) (n : Nat) (hp : PassesOwn (model X.prog X.w) X.A X.env X.xe) (hc : ET X zf Oh c fc) (hb : ESs X zf Oh Ob Oh body fb)
    (h1 : sameOff vs O Oh = true := by rfl) (h2 : sameOff vs Ob Oh = true := by rfl) (h3 : sameOff vs Oh O' = true := by rfl) : ES X zf O O' Ol (.While c body [] pos) (sWhile fc fb vs n) :=
  PS.imp (ps_while hp hc hb) fun D σ H ⟨tk, H0, F0, F, g, w, o, w', R, ef, q⟩ => by
  refine ⟨fun m σ H => ∃ F g w, Rel tk H0 F0 Oh σ H F (wipeE g vs) w ∧ whileS fc fb vs m g w = some (o, w'), ⟨n, F, g, w, (R.wipeG vs).off (sameOff_iff h1), ef⟩, ?_⟩
  rintro m σ2 H2 ⟨F2, g2, w2, R2, hl⟩
  cases m with
  | zero => simp only [whileS] at hl; cases hl
  | succ m =>
    simp only [whileS] at hl
    obtain ⟨k, w3, e3, hl⟩ := bnd_eq hl
    refine ⟨tk, H0, F0, F2, _, w2, k, w3, R2, e3, fun H3 F3 R3 x3 => ?_⟩
    cases k with
    | false =>
      rw [if_neg Bool.false_ne_true] at hl
      cases hl
      exact iteF (q σ2 H3 F3 (R3.off (sameOff_iff h3)))
    | true =>
      rw [if_pos rfl] at hl
      refine iteT ⟨fun σ H => ∃ F g w, Rel tk H0 F0 Oh σ H F (wipeE g vs) w ∧ whileS fc fb vs m g w = some (o, w'), fun σ' H' hN => ⟨m, Nat.lt_succ_self m, hN⟩, ?_⟩
      obtain ⟨o5, w5, e5, hl⟩ := bnd_eq hl
      refine ⟨tk, H0, F0, F3, _, w3, o5, w5, R3, e5, ?_⟩
      cases o5 with
      | nx g6 =>
        simp only at hl
        exact fun σ' H' F' R' => ⟨F', g6, w5, (R'.wipeG vs).off (sameOff_iff h2), hl⟩
      | ct g6 =>
        simp only at hl
        exact fun σ' H' F' R' => ⟨F', g6, w5, R'.wipeG vs, hl⟩
      | bk g6 =>
        simp only at hl
        cases hl
        exact fun σ' H' F' R' => q σ' H' F' ((R'.wipeG vs).off (sameOff_iff h3))
      | rt d =>
        simp only at hl
        cases hl
        exact q
/-! ### x += e of ints -/
def sAugN (i : Nat) (f : D → D → Option D) (e : E) : S := fun g w => match (g[i]?).join with
  | some x => bnd (e g w) fun d w1 => match f x d with
    | some y => some (.nx (g.set i (some y)), w1)
    | none => none
  | none => none
def addI : D → D → Option D
  | .int i, .int j => some (.int (i + j))
  | _, _ => none
theorem augN_read {Kx : PySem.W.Frag} {mx : Str → Option Value} {zf : Bool} {i : Nat} {f : D → D → Option D} {gi : Int → Int → Int} {e : E} (hO : i ∉ O) (hf : ∀ x y d, f x y = some d → ∃ a b, x = .int a ∧ y = .int b ∧ d = .int (gi a b)) : ∀ D σ H, rdS Kx mx zf O O Ol (sAugN i f e) D σ H → tAug i (rdB Kx mx zf O e) (ipI gi) D σ H := fun D σ H ⟨tk, H0, F0, F, g, w, o, w', R, ef, q⟩ => by
  simp only [sAugN] at ef
  split at ef
  · rename_i x hx
    obtain ⟨d, w1, e1, ef⟩ := bnd_eq ef
    split at ef
    · rename_i y hy
      cases ef
      obtain ⟨a, b, rfl, rfl, rfl⟩ := hf x d y hy
      have hg := Option.join_eq_some_iff.mp hx
      obtain ⟨v, h1, h2⟩ := R.val i _ hO hg
      simp only [Rep] at h2
      subst h2
      refine ⟨_, h1, tk, H0, F0, F, g, w, _, w', R, e1, fun v H1 F1 R1 x1 r1 => ?_⟩
      simp only [RepB, Rep] at r1
      refine ⟨a, b, rfl, r1, q _ H1 F1 (R1.set hO (by simp only [Rep]) (List.getElem?_eq_some_iff.mp hg).1)⟩
    · cases ef
  · cases ef
theorem ES.augAdd {x : Str} {px pos : Pos} {e : Expr} {f : E} (i : Nat) (hN : X.N.Nodup) (h : EB X zf O e f) (hO : i ∉ O := by decide) (hi : X.N[i]? = some x := by rfl) (hx : Loc X.env.scope x := by first | exact Or.inl rfl | exact Or.inr rfl) (hf : X.fn x = true ∨ X.env.scope.names.lookup x = some .local := by first | exact .inl rfl | exact .inr rfl) :
    ES X zf O O Ol (.AugAssign (.Name x px) .Add e pos) (sAugN i addI f) := PS.imp (ps_aug hN hi hx h ip_add hf) (augN_read hO fun x y d e => by
    cases x <;> cases y <;> simp only [addI] at e <;> first | cases e | skip
    exact ⟨_, _, rfl, rfl, rfl⟩)
theorem ES.augSub {x : Str} {px pos : Pos} {e : Expr} {f : E} (i : Nat) (hN : X.N.Nodup) (h : EB X zf O e f) (hO : i ∉ O := by decide) (hi : X.N[i]? = some x := by rfl) (hx : Loc X.env.scope x := by first | exact Or.inl rfl | exact Or.inr rfl) (hf : X.fn x = true ∨ X.env.scope.names.lookup x = some .local := by first | exact .inl rfl | exact .inr rfl) :
    ES X zf O O Ol (.AugAssign (.Name x px) .Sub e pos) (sAugN i subD f) := PS.imp (ps_aug hN hi hx h ip_sub hf) (augN_read hO fun x y d e => by
    cases x <;> cases y <;> simp only [subD] at e <;> first | cases e | skip
    exact ⟨_, _, rfl, rfl, rfl⟩)
/-! ### x.extend(e) -/
def rExtR : V → List V → Hp → VK → Prop := fun x vs H Q => ∃ l b xs zs, x = .ref l ∧ vs = [.ref b] ∧ H l = some (.lst xs) ∧ Rd H b (.lst zs) ∧ xs.length + zs.length ≤ sizeLine ∧ Q .non (upd H l (.lst (xs ++ zs)))
theorem mt_extR : MtM X "list.extend" rExtR := by
  intro pins s σ H x vs v us Q I rx rv h
  obtain ⟨l, b, xs, zs, rfl, rfl, hl, hb, hz, q⟩ := h
  cases rx
  obtain ⟨u, rfl, ru⟩ := rv.one
  cases ru
  obtain ⟨za, its, n, ra, la, ea⟩ := I.lstM hl
  obtain ⟨zb, jts, m, rb, lb, eb⟩ := lstAt I hb
  have hn : its.toArray.size + jts.toArray.size ≤ sizeLine := by simp only [List.size_toArray]; omega
  have h63 := line63
  have hq : ¬ (!its.toArray.isEmpty && Builtin.List.listTooLong (its.toArray.size + jts.toArray.size)) = true := fun z => by
    simp only [notLongL hn, Bool.and_false] at z
    cases z
  have hm := AutoSeq1.list_extend_list_list_0 l its.toArray n b jts.toArray m hq (by rw [List.size_toArray]; omega) (by omega)
  refine call_meets F.slot_list_extend ⟨_, ea, rfl⟩
    F.entry_list_extend (F.args_list_extend_2 _ _) hm ⟨ea, eb, ?_⟩
  exact ⟨.non, _, I.lset (its' := its ++ jts) hl ea (by simp) (ra.append rb) (by rw [List.length_append]; omega), rfl, q⟩
theorem ES.ext {x : Str} {px apos cpos spos : Pos} {e : Expr} {f : E} (i : Nat) (h : EV X zf O e f) (hO : i ∈ O := by decide) (hN : X.N[i]? = some x := by rfl) (hv : Vis X.env.scope x := by first | exact Or.inl rfl | exact Or.inr (Or.inl rfl) | exact Or.inr (Or.inr rfl)) (hd : (x == ("__debug__" : Str)) = false := by decide)
    (hcd : (x == ("__classdict__" : Str)) = false := by decide) (hs : starEach [e] X.env = (false, eval e X.env) :: starEach [] X.env := by rfl)
    (hbase : attributeBase (.Name x px) "extend" X.env (eval (.Name x px) X.env) = eval (.Name x px) X.env := by rfl)
    (hfew : ((backTo cpos (starEach [e] X.env)).all (fun x => !x.1) && (backToKw cpos (keywordEach [] X.env)).all (fun x => x.1.isSome)
      && decide (([e] : List Expr).length + ([] : List Keyword).length + (if ([] : List Keyword).isEmpty then 0 else 1) < 30)) = true := by rfl)
    (hline : (apos.endLine == cpos.line) = true := by rfl) (hplain : (backTo cpos (starEach [] X.env)).any (·.1) = false := by rfl)
    (hsw : swapsWith (.Call (.Attribute (.Name x px) "extend" apos) [e] [] cpos) none spos.line X.env = pure false := by rfl) :
    ES X zf O O Ol (.Expr (.Call (.Attribute (.Name x px) "extend" apos) [e] [] cpos) spos) (sExt i f) :=
  PS.imp (ps_expr (pe_bm PySem.F.plainAttrs_list PySem.F.slot_list_extend PySem.F.type_list_extend mt_extR (pe_var (i := i) hN hv hd hcd) (EA.cons h EA.nil hs) hbase hfew hline hs hplain) hsw) fun D σ H ⟨tk, H0, F0, F, g, w, o, w', R, ef, q⟩ => by
  obtain ⟨d, w1, e1, ef⟩ := bnd_eq (show bnd (f g w) _ = _ from ef)
  obtain ⟨x0, y0, hg, hf, rfl, rfl⟩ := mutS_eq ef
  obtain ⟨ds, es, rfl, rfl, hlt, rfl⟩ := exD_eq hf
  obtain ⟨a, u, h1, h2, h3, h4, h5, h6⟩ := R.own i _ hO hg
  obtain ⟨xs, rfl, h6⟩ := RepO.lst h6
  refine ⟨.ref a, h1, .inl ⟨rfl, _, .inl (.inl h2)⟩, tk, H0, F0, F, g, w, [.list es], w', R, by simp [cArgs, e1], fun vs H1 F1 R1 x1 r1 => ?_⟩
  match vs, r1 with
  | [], r1 => simp only [RepL] at r1
  | _ :: _ :: _, r1 => simp only [RepL] at r1; exact r1.2.elim
  | [v], r1 =>
    simp only [RepL, Rep] at r1
    obtain ⟨⟨b, zs, rfl, rb, lb⟩, _⟩ := r1
    have k2 := x1.gr.exL h2 h5 rfl
    refine ⟨a, b, xs, zs, rfl, rfl, k2, R1.sub.rdL rb, by rw [← h6.length, ← lb.length]; exact hlt, ?_⟩
    exact q σ _ F1 (R1.mut hO hg h1 (by simp only [RepO]; exact (RepL.same x1.sm _ _ h6).append lb))
/-! ### x[k] = e of an own list -/
def setL : D → D → D → Option D
  | .list xs, .int k, d => (ixN xs.length k).map fun j => .list (xs.set j d)
  | _, _, _ => none
def sPutL (i : Nat) (k e : E) : S := fun g w => bnd (e g w) fun d w1 => bnd (k g w1) fun kd w2 => mutS i (setL · kd d) g w2
theorem putL_read {Kx : PySem.W.Frag} {mx : Str → Option Value} {zf : Bool} {i : Nat} {k e : E} (hO : i ∈ O) : ∀ D σ H, rdS Kx mx zf O O Ol (sPutL i k e) D σ H → tAsg (rd Kx mx zf O e) (gSub (tVar i) (rdB Kx mx zf O k) rSetL) D σ H := fun D σ H ⟨tk, H0, F0, F, g, w, o, w', R, ef, q⟩ => by
  obtain ⟨d, w1, e1, ef⟩ := bnd_eq (show bnd (e g w) _ = _ from ef)
  obtain ⟨kd, w2, e2, ef⟩ := bnd_eq ef
  obtain ⟨x0, y0, hg, hf, rfl, rfl⟩ := mutS_eq ef
  have e6 : ∃ ds n j, x0 = .list ds ∧ kd = .int n ∧ ixN ds.length n = some j ∧ y0 = .list (ds.set j d) := by
    cases x0 <;> cases kd <;> simp only [setL] at hf <;> first | cases hf | skip
    obtain ⟨j, hj, rfl⟩ := Option.map_eq_some_iff.mp hf
    exact ⟨_, _, j, rfl, rfl, hj, rfl⟩
  obtain ⟨ds, n, j, rfl, rfl, hj, rfl⟩ := e6
  obtain ⟨a, u, h1, h2, h3, h4, h5, h6⟩ := R.own i _ hO hg
  obtain ⟨xs, rfl, h6⟩ := RepO.lst h6
  refine ⟨tk, H0, F0, F, g, w, d, w1, R, e1, fun v H1 F1 R1 x1 r1 => ⟨.ref a, h1, tk, H0, F0, F1, g, w1, _, w', R1, e2, fun vk H2 F2 R2 x2 r2 => ?_⟩⟩
  simp only [RepB, Rep] at r2
  subst r2
  have x12 := x1.trans x2
  refine ⟨a, xs, n, j, rfl, rfl, x12.gr.exL h2 h5 rfl, by rw [← h6.length]; exact hj, ?_⟩
  exact q σ _ F2 (R2.mut hO hg h1 (by simp only [RepO]; exact RepL.set (Rep.same x2.sm _ _ r1) j (RepL.same x12.sm _ _ h6)))
theorem ES.putL {x : Str} {px spos pos : Pos} {ke e : Expr} {fk f : E} (i : Nat) (h : EV X zf O e f) (hk : EB X zf O ke fk) (hO : i ∈ O := by decide) (hN : X.N[i]? = some x := by rfl) (hv : Vis X.env.scope x := by first | exact Or.inl rfl | exact Or.inr (Or.inl rfl) | exact Or.inr (Or.inr rfl)) (hd : (x == ("__debug__" : Str)) = false := by decide)
    (hcd : (x == ("__classdict__" : Str)) = false := by decide) (ha : ∀ v, assign (.Subscript (.Name x px) ke spos) X.env v = (do
      let ov ← holding [v] (eval (.Name x px) X.env)
      let iv ← holding [v, ov] (eval ke X.env)
      standAt spos
      holding [v, ov, iv] (setItem ov iv v)
      release [v, ov, iv] []) := by intro _; rfl) (hs : swapsWithSole [.Subscript (.Name x px) ke spos] e pos.line X.env = pure false := by rfl) (hw : swappedStores [.Subscript (.Name x px) ke spos] e X.env = pure none := by rfl)
    (h1 : (assignEach [.Subscript (.Name x px) ke spos] X.env).map (·.2) = [assign (.Subscript (.Name x px) ke spos) X.env] := by rfl) :
    ES X zf O O Ol (.Assign [.Subscript (.Name x px) ke spos] e pos) (sPutL i fk f) := PS.imp (ps_asg h (pg_sub (pe_var (i := i) hN hv hd hcd) hk set_list ha) hs hw h1) (putL_read hO)
end
end Q

set_option Elab.async false
set_option linter.all false
set_option autoImplicit false
set_option maxRecDepth 100000
/-! QS8: a, b = x, y; defs and their calls. -/
namespace Q
open PySem PySem.Spec PyProof.Rows L2
/-! ### several stores at once -/
def setAll (σ : L2.St) : List Nat → List V → L2.St
  | i :: is, v :: vs => setAll (σ.set i (some v)) is vs
  | _, _ => σ
/-- values, some of them new objects of their own -/
def RepM {Kx : PySem.W.Frag} {mx : Str → Option Value} {zf : Bool} (tk : Tk Kx mx zf) (H F' H' : Hp) : List Bool → List D → List V → Prop
  | [], [], [] => True
  | false :: ks, d :: ds, v :: vs => Rep tk F' d v ∧ RepM tk H F' H' ks ds vs
  | true :: ks, d :: ds, v :: vs => (∃ a o, v = .ref a ∧ H' a = some o ∧ F' a = none ∧ H a = none ∧ tk.pw ≠ some a ∧ RepO tk F' d o ∧ ∀ b, (true, V.ref b) ∈ ks.zip vs → b ≠ a) ∧ RepM tk H F' H' ks ds vs
  | _, _, _ => False
def rdM (Kx : PySem.W.Frag) (mx : Str → Option Value) (zf : Bool) (O : List Nat) (ks : List Bool) (f : Es) : TA := fun σ H Q => ∃ tk : Tk Kx mx zf, ∃ H0 F0 F g w ds w', Rel tk H0 F0 O σ H F g w ∧ f g w = some (ds, w') ∧ ∀ vs H' F', Rel tk H0 F0 O σ H' F' g w' → Ex tk F H F' H' → RepM tk H F' H' ks ds vs → Q vs H'
abbrev EM (X : Cx) (zf : Bool) (O : List Nat) (ks : List Bool) (es : List Expr) (f : Es) : Prop := PA X es (rdM X.K X.mg zf O ks f)
theorem RepM.len {Kx : PySem.W.Frag} {mx : Str → Option Value} {zf : Bool} {tk : Tk Kx mx zf} {H F' H' : Hp} : ∀ {ks : List Bool} {ds : List D} {vs : List V}, RepM tk H F' H' ks ds vs → ds.length = ks.length ∧ vs.length = ks.length
  | [], [], [], _ => ⟨rfl, rfl⟩
  | true :: ks, d :: ds, v :: vs, h => by
    simp only [RepM] at h
    obtain ⟨a, b⟩ := RepM.len h.2
    exact ⟨by simp [a], by simp [b]⟩
  | false :: ks, d :: ds, v :: vs, h => by
    simp only [RepM] at h
    obtain ⟨a, b⟩ := RepM.len h.2
    exact ⟨by simp [a], by simp [b]⟩
  | [], _ :: _, _, h => by simp only [RepM] at h
  | [], [], _ :: _, h => by simp only [RepM] at h
  | true :: _, [], _, h => by simp only [RepM] at h
  | false :: _, [], _, h => by simp only [RepM] at h
  | true :: _, _ :: _, [], h => by simp only [RepM] at h
  | false :: _, _ :: _, [], h => by simp only [RepM] at h
/-- from an earlier state on -/
theorem RepM.from {Kx : PySem.W.Frag} {mx : Str → Option Value} {zf : Bool} {tk : Tk Kx mx zf} {Hs H1 F' H' F1 : Hp} (g : Grow tk Hs F1 H1) : ∀ {ks : List Bool} {ds : List D} {vs : List V}, RepM tk H1 F' H' ks ds vs → RepM tk Hs F' H' ks ds vs
  | [], [], [], _ => by simp only [RepM]
  | true :: ks, d :: ds, v :: vs, h => by
    simp only [RepM] at h ⊢
    obtain ⟨⟨a, o, e, h1, h2, h3, h4, h5⟩, r⟩ := h
    refine ⟨⟨a, o, e, h1, h2, ?_, h4, h5⟩, RepM.from g r⟩
    cases q : Hs a with
    | none => rfl
    | some u => exact absurd h3 (g.ne q h4)
  | false :: ks, d :: ds, v :: vs, h => by
    simp only [RepM] at h ⊢
    exact ⟨h.1, RepM.from g h.2⟩
  | [], _ :: _, _, h => by simp only [RepM] at h
  | [], [], _ :: _, h => by simp only [RepM] at h
  | true :: _, [], _, h => by simp only [RepM] at h
  | false :: _, [], _, h => by simp only [RepM] at h
  | true :: _, _ :: _, [], h => by simp only [RepM] at h
  | false :: _, _ :: _, [], h => by simp only [RepM] at h
/-- every own object among the values is new -/
theorem RepM.new {Kx : PySem.W.Frag} {mx : Str → Option Value} {zf : Bool} {tk : Tk Kx mx zf} {Hs F' H' : Hp} : ∀ {ks : List Bool} {ds : List D} {vs : List V}, RepM tk Hs F' H' ks ds vs → ∀ b, (true, V.ref b) ∈ ks.zip vs → Hs b = none
  | [], [], [], _, _, h => by cases h
  | true :: ks, d :: ds, v :: vs, h, b, hb => by
    simp only [RepM] at h
    obtain ⟨⟨a, o, e, h1, h2, h3, h4, h5⟩, r⟩ := h
    rw [List.zip_cons_cons] at hb
    rcases List.mem_cons.mp hb with z | z
    · rw [e] at z; cases z; exact h3
    · exact RepM.new r b z
  | false :: ks, d :: ds, v :: vs, h, b, hb => by
    simp only [RepM] at h
    rw [List.zip_cons_cons] at hb
    rcases List.mem_cons.mp hb with z | z
    · cases z
    · exact RepM.new h.2 b z
  | [], _ :: _, _, h, _, _ => by simp only [RepM] at h
  | [], [], _ :: _, h, _, _ => by simp only [RepM] at h
  | true :: _, [], _, h, _, _ => by simp only [RepM] at h
  | false :: _, [], _, h, _, _ => by simp only [RepM] at h
  | true :: _, _ :: _, [], h, _, _ => by simp only [RepM] at h
  | false :: _, _ :: _, [], h, _, _ => by simp only [RepM] at h
/-- more stands since -/
theorem RepM.ex {Kx : PySem.W.Frag} {mx : Str → Option Value} {zf : Bool} {tk : Tk Kx mx zf} {Hs F' H' F2 H2 : Hp} (x : Ex tk F' H' F2 H2) : ∀ {ks : List Bool} {ds : List D} {vs : List V}, RepM tk Hs F' H' ks ds vs → RepM tk Hs F2 H2 ks ds vs
  | [], [], [], _ => by simp only [RepM]
  | true :: ks, d :: ds, v :: vs, h => by
    simp only [RepM] at h ⊢
    obtain ⟨⟨a, o, e, h1, h2, h3, h4, h5, h6⟩, r⟩ := h
    have h2' := x.nw a h4 (by rw [h1]; exact fun z => nomatch z) h2
    exact ⟨⟨a, o, e, x.gr.ex h1 h4 h2', h2', h3, h4, h5.same x.sm, h6⟩, RepM.ex x r⟩
  | false :: ks, d :: ds, v :: vs, h => by
    simp only [RepM] at h ⊢
    exact ⟨Rep.same x.sm _ _ h.1, RepM.ex x h.2⟩
  | [], _ :: _, _, h => by simp only [RepM] at h
  | [], [], _ :: _, h => by simp only [RepM] at h
  | true :: _, [], _, h => by simp only [RepM] at h
  | false :: _, [], _, h => by simp only [RepM] at h
  | true :: _, _ :: _, [], h => by simp only [RepM] at h
  | false :: _, _ :: _, [], h => by simp only [RepM] at h
section
variable {X : Cx} {zf : Bool} {O : List Nat}
theorem EM.nil : EM X zf O [] [] (cArgs []) := PA.imp pa_nil fun σ H Q ⟨tk, H0, F0, F, g, w, ds, w', R, ef, k⟩ => by
  have ef : some (([] : List D), w) = some (ds, w') := ef
  cases ef
  exact k [] H F R (Ex.refl ..) (by simp only [RepM])
theorem EM.consV {ks : List Bool} {e : Expr} {es : List Expr} {f : E} {fs : List E} (h : EV X zf O e f) (hs : EM X zf O ks es (cArgs fs)) (ho : starEach (e :: es) X.env = (false, eval e X.env) :: starEach es X.env := by rfl) : EM X zf O (false :: ks) (e :: es) (cArgs (f :: fs)) :=
  PA.imp (pa_cons h hs ho) fun σ H Q ⟨tk, H0, F0, F, g, w, ds, w', R, ef, k⟩ => by
  obtain ⟨d, w1, e1, ef⟩ := bnd_eq (show bnd (f g w) _ = _ from ef)
  obtain ⟨ds', w2, e2, ef⟩ := bnd_eq ef
  cases ef
  refine ⟨tk, H0, F0, F, g, w, d, w1, R, e1, fun v H1 F1 R1 x1 r1 => ?_⟩
  refine ⟨tk, H0, F0, F1, g, w1, ds', w', R1, e2, fun vs H2 F2 R2 x2 r2 => ?_⟩
  exact k (v :: vs) H2 F2 R2 (x1.trans x2) (by simp only [RepM]; exact ⟨Rep.same x2.sm _ _ r1, r2.from x1.gr⟩)
theorem EM.consO {ks : List Bool} {e : Expr} {es : List Expr} {f : E} {fs : List E} (h : EO X zf O e f) (hs : EM X zf O ks es (cArgs fs)) (ho : starEach (e :: es) X.env = (false, eval e X.env) :: starEach es X.env := by rfl) : EM X zf O (true :: ks) (e :: es) (cArgs (f :: fs)) :=
  PA.imp (pa_cons h hs ho) fun σ H Q ⟨tk, H0, F0, F, g, w, ds, w', R, ef, k⟩ => by
  obtain ⟨d, w1, e1, ef⟩ := bnd_eq (show bnd (f g w) _ = _ from ef)
  obtain ⟨ds', w2, e2, ef⟩ := bnd_eq ef
  cases ef
  refine ⟨tk, H0, F0, F, g, w, d, w1, R, e1, fun v H1 F1 R1 x1 r1 => ?_⟩
  refine ⟨tk, H0, F0, F1, g, w1, ds', w', R1, e2, fun vs H2 F2 R2 x2 r2 => ?_⟩
  refine k (v :: vs) H2 F2 R2 (x1.trans x2) ?_
  obtain ⟨a, o, rfl, h1, h2, h3, h4, h5⟩ := r1
  simp only [RepM]
  have h2' := x2.nw a h4 (by rw [h1]; exact fun z => nomatch z) h2
  refine ⟨⟨a, o, rfl, x2.gr.ex h1 h4 h2', h2', h3, h4, h5.same x2.sm, fun b hb z => ?_⟩, r2.from x1.gr⟩
  have := r2.new b hb
  rw [z, h1] at this
  cases this
/-- the slots that are own behind it -/
def ownAfter : List Nat → List Nat → List Bool → List Nat
  | O, i :: is, true :: ks => ownAfter (i :: O) is ks
  | O, _ :: is, false :: ks => ownAfter O is ks
  | O, _, _ => O
/-- no slot that gets a plain value is own -/
def parOk : List Nat → List Nat → List Bool → Bool
  | O, i :: is, true :: ks => parOk (i :: O) is ks
  | O, i :: is, false :: ks => !O.contains i && parOk O is ks
  | _, [], [] => true
  | _, _, _ => false
theorem setAll_rel {Kx : PySem.W.Frag} {mx : Str → Option Value} {zf : Bool} {tk : Tk Kx mx zf} {H0 F0 Hs H F : Hp} {w : Wd} (h0 : ∀ a, Hs a = none → tk.pw ≠ some a → H0 a = none) : ∀ {is : List Nat} {ks : List Bool} {ds : List D} {vs : List V} {O : List Nat} {σ : L2.St} {g g' : Env}, Rel tk H0 F0 O σ H F g w → RepM tk Hs F H ks ds vs → parOk O is ks = true →
    (∀ a, (true, V.ref a) ∈ ks.zip vs → ∀ j e, j ∈ O → g[j]? = some (some e) → σ[j]? ≠ some (some (.ref a))) → gList (is.map gName) ds g = some g' → Rel tk H0 F0 (ownAfter O is ks) (setAll σ is vs) H F g' w
  | [], [], [], [], O, σ, g, g', R, _, _, _, e => by
    simp only [List.map_nil, gList] at e
    cases e
    exact R
  | i :: is, true :: ks, d :: ds, v :: vs, O, σ, g, g', R, r, p, no, e => by
    simp only [RepM] at r
    obtain ⟨⟨a, o, rfl, h1, h2, h3, h4, h5, h6⟩, r⟩ := r
    simp only [List.map_cons, gList, gName] at e
    split at e
    · rename_i g1 hg1
      split at hg1 <;> first | cases hg1 | skip
      rename_i hi
      simp only [setAll, ownAfter]
      have R2 := R.setOwn (O' := i :: O) (fun j => List.mem_cons) hi h1 h2 (h0 a h3 h4) h4 h5 (no a (by simp))
      refine setAll_rel h0 R2 r (by simpa only [parOk] using p) (fun b hb j e' hj hg => ?_) e
      by_cases hji : j = i
      · subst hji
        rw [List.getElem?_set_self (by have := R.len; omega)]
        exact fun z => h6 b hb (by cases z; rfl)
      · rw [List.getElem?_set_ne (Ne.symm hji)] at hg ⊢
        exact no b (by rw [List.zip_cons_cons]; exact List.mem_cons_of_mem _ hb) j e' ((List.mem_cons.mp hj).resolve_left hji) hg
    · cases e
  | i :: is, false :: ks, d :: ds, v :: vs, O, σ, g, g', R, r, p, no, e => by
    simp only [RepM] at r
    simp only [parOk, Bool.and_eq_true, Bool.not_eq_true', List.contains_eq_mem, decide_eq_false_iff_not] at p
    simp only [List.map_cons, gList, gName] at e
    split at e
    · rename_i g1 hg1
      split at hg1 <;> first | cases hg1 | skip
      rename_i hi
      simp only [setAll, ownAfter]
      refine setAll_rel h0 (R.set p.1 r.1 hi) r.2 p.2 (fun b hb j e' hj hg => ?_) e
      have hji : j ≠ i := fun z => p.1 (z ▸ hj)
      rw [List.getElem?_set_ne (Ne.symm hji)] at hg ⊢
      exact no b (by rw [List.zip_cons_cons]; exact List.mem_cons_of_mem _ hb) j e' hj hg
    · cases e
  | [], [], _ :: _, _, _, _, _, _, _, r, _, _, _ => by simp only [RepM] at r
  | [], [], [], _ :: _, _, _, _, _, _, r, _, _, _ => by simp only [RepM] at r
  | [], _ :: _, _, _, _, _, _, _, _, _, p, _, _ => by simp only [parOk] at p; cases p
  | _ :: _, [], _, _, _, _, _, _, _, _, p, _, _ => by simp only [parOk] at p; cases p
  | _ :: _, true :: _, [], _, _, _, _, _, _, r, _, _, _ => by simp only [RepM] at r
  | _ :: _, false :: _, [], _, _, _, _, _, _, r, _, _, _ => by simp only [RepM] at r
  | _ :: _, true :: _, _ :: _, [], _, _, _, _, _, r, _, _, _ => by simp only [RepM] at r
  | _ :: _, false :: _, _ :: _, [], _, _, _, _, _, r, _, _, _ => by simp only [RepM] at r
variable {O' Ol : List Nat}
theorem par_read {Kx : PySem.W.Frag} {mx : Str → Option Value} {zf : Bool} {is : List Nat} {ks : List Bool} {fs : List E} (hp : parOk O is ks = true) (hO : sameOff [] (ownAfter O is ks) O' = true) : ∀ D σ H, rdS Kx mx zf O O' Ol (sPar (is.map gName) fs) D σ H →
    rdM Kx mx zf O ks (cArgs fs) σ H fun vs H1 => vs.length = is.length ∧ D.nx (setAll σ is vs) H1 ∧ ∀ p, H1 p = none → D.nx (setAll σ is vs) (upd H1 p (.tup vs)) := fun D σ H ⟨tk, H0, F0, F, g, w, o, w', R, ef, q⟩ => by
  obtain ⟨ds, w1, e1, ef⟩ := bnd_eq (show bnd (cArgs fs g w) _ = _ from ef)
  split at ef
  · rename_i g1 hg1
    cases ef
    refine ⟨tk, H0, F0, F, g, w, ds, w', R, e1, fun vs H1 F1 R1 x1 r1 => ?_⟩
    have hl : vs.length = is.length := by
      have a := r1.len
      have b := gList_len hg1
      simp at b
      omega
    have h0 : ∀ a, H a = none → tk.pw ≠ some a → H0 a = none := fun a h n => by
      cases z : H0 a with
      | none => rfl
      | some u => exact absurd h (R.k0.ne z n)
    have no : ∀ a, (true, V.ref a) ∈ ks.zip vs → ∀ j e, j ∈ O → g[j]? = some (some e) → σ[j]? ≠ some (some (.ref a)) := fun a ha j e hj hg z => by
      obtain ⟨b, u, k1, k2, _⟩ := R.own j e hj hg
      rw [z] at k1
      cases k1
      rw [r1.new a ha] at k2
      cases k2
    refine ⟨hl, q _ H1 F1 ((setAll_rel h0 R1 r1 hp no hg1).own' fun j => sameOff_iff hO j (by simp)), fun p hn => ?_⟩
    obtain ⟨R2, x2⟩ := R1.allocO hn (.tup vs)
    exact q _ _ F1 ((setAll_rel h0 R2 (r1.ex x2) hp no hg1).own' fun j => sameOff_iff hO j (by simp))
  · cases ef
theorem rdM_mono {Kx : PySem.W.Frag} {mx : Str → Option Value} {zf : Bool} {ks : List Bool} {f : Es} {σ : L2.St} {H : Hp} {Q Q' : List V → Hp → Prop} (h : rdM Kx mx zf O ks f σ H Q) (k : ∀ vs H, Q vs H → Q' vs H) : rdM Kx mx zf O ks f σ H Q' := by
  obtain ⟨tk, H0, F0, F, g, w, ds, w', R, ef, q⟩ := h
  exact ⟨tk, H0, F0, F, g, w, ds, w', R, ef, fun vs H' F' R' x r => k vs H' (q vs H' F' R' x r)⟩
theorem ES.par2 {ks : List Bool} {x y : Str} {a b : Expr} {fs : List E} {px py pt pos : Pos} {kt k2 : Nat} {pt2 : Pos} (i j : Nat) (hc : X.calm = true) (hN : X.N.Nodup) (ha : EM X zf O ks [a, b] (cArgs fs))
    (hw : swappedStores [.Tuple [.Name x px, .Name y py] kt pt] (.Tuple [a, b] k2 pt2) X.env = pure (some [x, y]) := by rfl) (hi : X.N[i]? = some x := by rfl) (hj : X.N[j]? = some y := by rfl) (hij : i ≠ j := by decide)
    (hx : X.env.scope.names.lookup x = some .local := by rfl) (hy : X.env.scope.names.lookup y = some .local := by rfl) (hs : swapsWithSole [.Tuple [.Name x px, .Name y py] kt pt] (.Tuple [a, b] k2 pt2) pos.line X.env = pure false := by rfl)
    (hp : parOk O [i, j] ks = true := by rfl) (hO : sameOff [] (ownAfter O [i, j] ks) O' = true := by rfl) :
    ES X zf O O' Ol (.Assign [.Tuple [.Name x px, .Name y py] kt pt] (.Tuple [a, b] k2 pt2) pos) (sPar [gName i, gName j] fs) := PS.imp (ps_par hc hN hi hj hij hx hy ha hw hs) fun D σ H h => by
  refine rdM_mono (par_read (is := [i, j]) hp hO D σ H h) fun vs H1 ⟨hl, q, _⟩ => ?_
  match vs, hl with
  | [v, u], _ => exact ⟨v, u, rfl, q⟩
theorem ES.par3 {ks : List Bool} {x y z : Str} {a b c : Expr} {fs : List E} {px py pz pt pos : Pos} {kt k2 : Nat} {pt2 : Pos} (i j l : Nat) (hc : X.calm = true) (hN : X.N.Nodup) (ha : EM X zf O ks [a, b, c] (cArgs fs))
    (hw : swappedStores [.Tuple [.Name x px, .Name y py, .Name z pz] kt pt] (.Tuple [a, b, c] k2 pt2) X.env = pure (some [x, y, z]) := by rfl) (hi : X.N[i]? = some x := by rfl) (hj : X.N[j]? = some y := by rfl) (hl : X.N[l]? = some z := by rfl) (hij : i ≠ j := by decide) (hil : i ≠ l := by decide) (hjl : j ≠ l := by decide)
    (hx : X.env.scope.names.lookup x = some .local := by rfl) (hy : X.env.scope.names.lookup y = some .local := by rfl) (hz : X.env.scope.names.lookup z = some .local := by rfl) (hs : swapsWithSole [.Tuple [.Name x px, .Name y py, .Name z pz] kt pt] (.Tuple [a, b, c] k2 pt2) pos.line X.env = pure false := by rfl)
    (hp : parOk O [i, j, l] ks = true := by rfl) (hO : sameOff [] (ownAfter O [i, j, l] ks) O' = true := by rfl) :
    ES X zf O O' Ol (.Assign [.Tuple [.Name x px, .Name y py, .Name z pz] kt pt] (.Tuple [a, b, c] k2 pt2) pos) (sPar [gName i, gName j, gName l] fs) := PS.imp (ps_par3 hc hN hi hj hl hij hil hjl hx hy hz ha hw hs) fun D σ H h => by
  refine rdM_mono (par_read (is := [i, j, l]) hp hO D σ H h) fun vs H1 ⟨hl, q, _⟩ => ?_
  match vs, hl with
  | [v, u, t], _ => exact ⟨v, u, t, rfl, q⟩
/-! any number of names, of any kind: by a tuple that is made and opened -/
def gSets (is : List Nat) : TGs := fun vs σ H Q => vs.length = is.length ∧ Q (setAll σ is vs) H
theorem GS.nil : PGs X [] (gSets []) := PGs.imp pgs_nil fun vs σ H Q ⟨hl, q⟩ => by
  match vs, hl with
  | [], _ => exact ⟨rfl, q⟩
theorem GS.cons {is : List Nat} {x : Str} {pos : Pos} {es : List Expr} (i : Nat) (hN : X.N.Nodup) (h : PGs X es (gSets is)) (hi : X.N[i]? = some x := by rfl) (hx : Loc X.env.scope x := by first | exact Or.inl rfl | exact Or.inr rfl) (hf : X.fn x = true ∨ X.env.scope.names.lookup x = some .local := by first | exact .inl rfl | exact .inr rfl)
    (ha : (assignEach (.Name x pos :: es) X.env).map (·.2) = assign (.Name x pos) X.env :: (assignEach es X.env).map (·.2) := by rfl) : PGs X (.Name x pos :: es) (gSets (i :: is)) := PGs.imp (pgs_cons (pg_name hN hi hx hf) h ha) fun vs σ H Q ⟨hl, q⟩ => by
  match vs, hl with
  | v :: vs, hl => exact ⟨v, vs, rfl, by simpa using hl, q⟩
theorem ES.parN {ks : List Bool} {ts es : List Expr} {fs : List E} {pt pos : Pos} {kt k2 : Nat} {pt2 : Pos} (is : List Nat) (hc : X.calm = true) (ha : EM X zf O ks es (cArgs fs)) (hg : PGs X ts (gSets is)) (hn : (assignEach ts X.env).length = is.length := by rfl) (hst : (assignEach ts X.env).findIdx? (·.1) = none := by rfl)
    (hs : swapsWithSole [.Tuple ts kt pt] (.Tuple es k2 pt2) pos.line X.env = pure false := by rfl) (hw : swappedStores [.Tuple ts kt pt] (.Tuple es k2 pt2) X.env = pure none := by rfl) (h1 : (assignEach [.Tuple ts kt pt] X.env).map (·.2) = [assign (.Tuple ts kt pt) X.env] := by rfl)
    (hp : parOk O is ks = true := by rfl) (hO : sameOff [] (ownAfter O is ks) O' = true := by rfl) (hz : is.length ≤ sizeLine := by decide) :
    ES X zf O O' Ol (.Assign [.Tuple ts kt pt] (.Tuple es k2 pt2) pos) (sPar (is.map gName) fs) := PS.imp (ps_asg (pe_tup ha) (pg_tup hc hg hn hst) hs hw h1) fun D σ H h => by
  refine rdM_mono (par_read hp hO D σ H h) fun vs H1 ⟨hl, _, q⟩ => ⟨by rw [hl]; exact hz, fun p hp => ?_⟩
  exact ⟨p, vs, rfl, .of upd_same, hl, hl, q p hp⟩
end
end Q

set_option Elab.async false
set_option linter.all false
set_option autoImplicit false
set_option maxRecDepth 100000
/-! QS9: defs, their calls, the dict of draws. -/
namespace Q
open PySem PySem.Spec PyProof.Rows L2
/-- a def's promise by its function of data -/
def spD (Kx : PySem.W.Frag) (mx : Str → Option Value) (zf : Bool) (n : Nat) (f : Fn) : Sp := fun vs H Q _ => ∃ tk : Tk Kx mx zf, ∃ F ds w r w', vs.length = n ∧ Sub F H ∧ WAt tk H F w ∧ RepL tk F ds vs ∧ f ds w = some (r, w') ∧
  ∀ v H' F', Same F F' → Sub F' H' → Grow tk H F' H' → New tk H F F' → WAt tk H' F' w' → Rep tk F' r v → Q v H'
section
variable {Kx : PySem.W.Frag} {mx : Str → Option Value} {zf : Bool} {tk : Tk Kx mx zf} {H0 F0 : Hp} {O : List Nat} {σ : L2.St} {H F H' F' : Hp} {g : Env} {w w' : Wd}
theorem Rel.after (R : Rel tk H0 F0 O σ H F g w) (x : Ex tk F H F' H') (sb : Sub F' H') (wa : WAt tk H' F' w') : Rel tk H0 F0 O σ H' F' g w' := by
  have fr := R.fw
  refine ⟨R.len, sb, R.f0.trans x.sm, R.k0.trans x.sm x.gr, fun a n e f => ?_, fun i d hi h => ?_, fun i d hi h => ?_, R.sep, wa⟩
  · refine x.nw a n ?_ (R.n0 a n e f)
    cases q : H0 a with
    | none => exact absurd q e
    | some u => exact R.k0.ne q n
  · obtain ⟨v, h1, h2⟩ := R.val i d hi h
    exact ⟨v, h1, Rep.same x.sm _ _ h2⟩
  · obtain ⟨a, o, h1, h2, h3, h4, h5, h6⟩ := R.own i d hi h
    have h3' := x.nw a h5 (by rw [h2]; exact fun z => nomatch z) h3
    exact ⟨a, o, h1, x.gr.ex h2 h5 h3', h3', h4, h5, h6.same x.sm⟩
end
section
variable {X : Cx} {zf : Bool} {O : List Nat}
theorem call_read {n : Nat} {fn : Fn} {fs : List E} (hn : fs.length = n) : ∀ σ H Q, rd X.K X.mg zf O (cCall fn fs) σ H Q → tCall (spD X.K X.mg zf n fn) [] E0 (rdA X.K X.mg zf O (cArgs fs)) σ H Q := fun σ H Q ⟨tk, H0, F0, F, g, w, d, w', R, ef, k⟩ => by
  obtain ⟨ds, w1, e1, ef⟩ := bnd_eq (show bnd (cArgs fs g w) _ = _ from ef)
  refine ⟨tk, H0, F0, F, g, w, ds, w1, R, e1, fun vs H1 F1 R1 x1 r1 => ?_⟩
  refine ⟨tk, F1, ds, w1, d, w', by rw [List.append_nil, ← r1.length, cArgs_len e1, hn], R1.sub, R1.wat, by rw [List.append_nil]; exact r1, ef, fun v H2 F2 s sb gr nw wa rp => ?_⟩
  have x2 : Ex tk F1 H1 F2 H2 := ⟨s, gr, nw⟩
  exact k v H2 F2 (R1.after x2 sb wa) (x1.trans x2) rp
theorem EV.call {f : Addr} {fd : FuncData} {ps : List Str} {x : Str} {p pos : Pos} {e : Expr} {es : List Expr} {k n : Nat} {fn : Fn} {fs : List E} (F : FnOk X.prog X.w X.K X.mg X.base CX0 k f fd ps (spD X.K X.mg zf n fn)) (hr : Room k X.A) (hm : X.mg x = some (.ref f)) (hk : PySem.W.keepIn X.K (.ref f) = true) (hb : Binds X.K fd ps [])
    (ha : EA X zf O (e :: es) (cArgs fs)) (hg : Gl X x := by rfl) (hn : fs.length = n := by rfl) (hdb : (x == ("__debug__" : Str)) = false := by decide) (he : starEach (e :: es) X.env = (false, eval e X.env) :: starEach es X.env := by rfl) (hpl : (backTo pos (starEach es X.env)).any (·.1) = false := by rfl) :
    EV X zf O (.Call (.Name x p) (e :: es) [] pos) (cCall fn fs) := PE.imp (pe_call F hr hg hm hk hb .nil pass0 ha hdb he hpl) (call_read hn)
end
section
variable {P : Program} {w : World} {K : PySem.W.Frag} {mg : Str → Option Value} {base : Heap} {zf : Bool}
theorem start_rel {mx : Str → Option Value} {zf : Bool} {tk : Tk K mx zf} {N : List Str} {vs : List V} {ds : List D} {H F : Hp} {wd : Wd} {nl : Nat} (sb : Sub F H) (wa : WAt tk H F wd) (rl : RepL tk F ds vs) (hn : N.length = vs.length + nl) :
    Rel tk H F [] (L2.start N vs) H F (ds.map some ++ List.replicate nl none) wd := by
  have e : N.length - vs.length = nl := by omega
  unfold L2.start
  rw [e]
  refine ⟨by simp [rl.length], sb, Same.refl F, Grow.refl, fun _ _ _ h => h, fun i d _ h => ?_, fun i d hi _ => absurd hi (by simp), fun i j a d e hi _ _ _ _ _ => absurd hi (by simp), wa⟩
  by_cases hi : i < ds.length
  · rw [List.getElem?_append_left (by simpa using hi), List.getElem?_map] at h
    obtain ⟨d', h1, h2⟩ := Option.map_eq_some_iff.mp h
    cases h2
    obtain ⟨v, h3, h4⟩ := rl.at h1
    refine ⟨v, ?_, h4⟩
    rw [List.getElem?_append_left (by rw [List.length_map, ← rl.length]; exact hi), List.getElem?_map, h3]
    rfl
  · rw [List.getElem?_append_right (by simpa using hi), List.getElem?_replicate] at h
    split at h <;> cases h
/-- THE RULE: a def of the text keeps the promise of its body's function -/
theorem fn_ok {x qual : Str} {st : Stmt} {f : Addr} {fd : FuncData} {N ps : List Str} {k nl : Nat} {fb : S} {O' : List Nat} (F : Fun K x qual st f fd) (S : FnScope N ps (defScope st))
    (hb : ∀ (cdv : Value) (A : Around) (outer : List PySem.Env) (s : Shared) (H : Hp) (E : XK), Room k (A.deeper (envOfC qual (defScope st) s.heap.objs.size f cdv)) → ESs (cxOf CX0 P w K mg base N qual (defScope st) f cdv A outer s H E).nox zf [] O' [] (defBody st) fb)
    (hN : N.length = ps.length + nl := by rfl) : FnOk P w K mg base CX0 (k + 1) f fd ps (spD K mg zf ps.length (bodyFn ps.length nl fb)) :=
  F.ok S (fun vs H Q E ⟨tk, F, ds, w, r, w', h, _⟩ => h) fun cdv A outer s H vs Q E hr ⟨tk, F, ds, wd, r, w', hl, sb, wa, rl, ef, k⟩ => by
  unfold bodyFn at ef
  split at ef
  · obtain ⟨o, w1, e1, ef⟩ := bnd_eq ef
    refine ⟨_, hb cdv A outer s H E hr, tk, H, F, F, _, wd, o, w1, start_rel sb wa rl (by rw [hl]; exact hN), e1, ?_⟩
    cases o with
    | rt d =>
      cases ef
      exact fun v H' F' a1 a2 a3 a4 a5 a6 => k v H' F' a2 a1 a3 a4 a5 a6
    | nx g =>
      cases ef
      exact fun σ' H' F' R => k .non H' F' R.f0 R.sub R.k0 R.n0 R.wat (by simp only [Rep])
    | bk g => cases ef
    | ct g => cases ef
  · cases ef
/-! ### the next draw -/
theorem fnNext_eq {ds : List D} {wd : Wd} {r : D} {w' : Wd} (h : fnNext ds wd = some (r, w')) : ∃ m l, ds = [tokW, .int m] ∧ wd = some l ∧ ((l = [] ∧ r = .int 0 ∧ w' = some []) ∨ ∃ x l', l = x :: l' ∧ m ≠ 0 ∧ r = .int (x.fmod m) ∧ w' = some l') := by
  unfold fnNext at h
  split at h
  · rename_i m l
    split at h
    · cases h
      exact ⟨m, [], rfl, rfl, .inl ⟨rfl, rfl, rfl⟩⟩
    · rename_i x l'
      split at h
      · rename_i hm
        cases h
        exact ⟨m, _, rfl, rfl, .inr ⟨x, l', rfl, hm, rfl, rfl⟩⟩
      · cases h
  · cases h
theorem rep_tokW {mx : Str → Option Value} {zf : Bool} {tk : Tk K mx zf} {F : Hp} {v : V} (h : Rep tk F tokW v) : ∃ a, v = .ref a ∧ tk.pw = some a := by
  simp only [tokW, Rep] at h
  obtain ⟨a, e, h⟩ := h
  refine ⟨a, e, ?_⟩
  rcases h with ⟨es, _, l⟩ | ⟨es, _, l⟩ | ⟨_, z⟩ | ⟨_, z, _⟩ | ⟨ns, z, r⟩
  · cases es with
    | nil => simp only [RepK] at l
    | cons p es =>
      obtain ⟨k', v'⟩ := p
      simp only [RepK] at l
      cases k' <;> cases l.1
  · cases es with
    | nil => simp only [RepT] at l
    | cons p es =>
      obtain ⟨k', v'⟩ := p
      simp only [RepT] at l
      cases l.1
  · exact z
  · cases z
  · cases z
/-- the dict of draws: what lies in it -/
def wKvs (b : Addr) (n : Nat) : List (Key × V) := [(.inr "draws", .ref b), (.inr "at", .int n)]
theorem kne : ¬ (Sum.inr (Str.ofString "draws") : Key) = Sum.inr (Str.ofString "at") := by decide +kernel
theorem wd_draws (b : Addr) (n : Nat) : valV (wKvs b n) (.inr "draws" : Key) = some (.ref b) := by
  unfold wKvs; rw [valV_pos rfl]
theorem wd_at (b : Addr) (n : Nat) : valV (wKvs b n) (.inr "at" : Key) = some (.int n) := by
  unfold wKvs; rw [valV_neg (p := ((Sum.inr (Str.ofString "draws") : Key), V.ref b)) kne, valV_pos rfl]
theorem wd_put (b : Addr) (n : Nat) : putK (wKvs b n) (.inr "at" : Key) (.int (n + 1 : Nat)) = wKvs b (n + 1) := by
  unfold putK
  rw [if_pos (by rw [valV_any, wd_at]; rfl)]
  unfold wKvs
  rw [List.map_cons, List.map_cons, List.map_nil]
  dsimp only
  rw [if_neg kne, if_pos rfl]
theorem len_next {ds : List D} {wd : Wd} {r : D} {w' : Wd} (h : fnNext ds wd = some (r, w')) : ds.length = 2 := by
  obtain ⟨m, l, rfl, _⟩ := fnNext_eq h
  rfl
/-- what _law_next finds and leaves -/
theorem next_facts {mx : Str → Option Value} {zf : Bool} {vs : List V} {H : Hp} {Q : VK} {E : XK} (h : spD K mx zf 2 fnNext vs H Q E) : ∃ (p b : Addr) (m : Int) (n : Nat) (full : List Int), vs = [.ref p, .int m] ∧ H p = some (.dK (wKvs b n)) ∧ Rd H b (.lst (full.map V.int)) ∧ b ≠ p ∧
    ((full.length ≤ n ∧ Q (.int 0) (upd H p (.dK (wKvs b (n + 1))))) ∨ ∃ x, full[n]? = some x ∧ m ≠ 0 ∧ Q (.int (x.fmod m)) (upd H p (.dK (wKvs b (n + 1))))) := by
  obtain ⟨tk, F, ds, wd, r, w', hl, sb, wa, rl, ef, k⟩ := h
  obtain ⟨m, l, rfl, rfl, hh⟩ := fnNext_eq ef
  match vs, rl with
  | [], rl => simp only [RepL] at rl
  | [_], rl => simp only [RepL] at rl; exact rl.2.elim
  | _ :: _ :: _ :: _, rl => simp only [RepL] at rl; exact rl.2.2.elim
  | [v, u], rl =>
    simp only [RepL, Rep] at rl
    obtain ⟨rv, ru, _⟩ := rl
    obtain ⟨p, rfl, hp⟩ := rep_tokW rv
    subst ru
    unfold WAt at wa
    rw [hp] at wa
    obtain ⟨fp, b, n, full, hH, hr, rfl⟩ := wa
    have rb := sb.rdL hr
    have nb : b ≠ p := fun z => by
      rcases hr with hr | ⟨_, hr⟩ <;> rw [z, fp] at hr <;> cases hr
    have key : ∀ (r : Int), Rep tk F (.int r) (.int r) → (∀ l', w' = some l' → l' = full.drop (n + 1)) → (w' ≠ none) → (∀ v H' F', Same F F' → Sub F' H' → Grow tk H F' H' → New tk H F F' → WAt tk H' F' w' → Rep tk F' (.int r) v → Q v H') → Q (.int r) (upd H p (.dK (wKvs b (n + 1)))) := fun r rr hw hn k => by
      refine k _ _ F (Same.refl F) (fun a o e => ?_) (fun a o e ne => ?_) (fun _ _ _ h => h) ?_ rr
      · have ne : a ≠ p := fun z => by rw [z, fp] at e; cases e
        rw [upd_ne ne]; exact sb a o e
      · have ne : a ≠ p := fun z => ne (by rw [hp, z])
        rw [upd_ne ne]; exact .inl e
      · cases hw' : w' with
        | none => exact absurd hw' hn
        | some l' =>
          unfold WAt
          rw [hp]
          exact ⟨fp, b, n + 1, full, upd_same, hr, hw l' hw'⟩
    refine ⟨p, b, m, n, full, rfl, hH, rb, nb, ?_⟩
    rcases hh with ⟨h0, rfl, rfl⟩ | ⟨x, l', h0, hm, rfl, rfl⟩
    · have hle : full.length ≤ n := List.drop_eq_nil_iff.mp h0
      exact .inl ⟨hle, key 0 (by simp only [Rep]) (fun l' e => by cases e; exact (List.drop_eq_nil_iff.mpr (by omega)).symm) (fun z => nomatch z) k⟩
    · have hlt : n < full.length := by
        by_cases hlt : n < full.length
        · exact hlt
        · rw [List.drop_eq_nil_iff.mpr (by omega)] at h0; cases h0
      rw [List.drop_eq_getElem_cons hlt] at h0
      cases h0
      exact .inr ⟨_, List.getElem?_eq_getElem hlt, hm, key _ (by simp only [Rep]) (fun l' e => by cases e; rfl) (fun z => nomatch z) k⟩
end
end Q

set_option Elab.async false
set_option linter.all false
set_option autoImplicit false
set_option maxRecDepth 100000
/-! QS10: dead ways, min and max of data, sorted, isinstance, list. -/
namespace Q
open PySem PySem.Spec PyProof.Rows L2
/-! ### what is never reached -/
def eDead : E := fun _ _ => none
def tDead : T := fun _ _ => none
section
variable {X : Cx} {zf : Bool}
theorem EV.dead {O : List Nat} {e : Expr} : EV X zf O e eDead := ⟨fun pins s σ H Q I ⟨tk, H0, F0, F, g, w, d, w', R, ef, k⟩ => by cases ef⟩
theorem EB.dead {O : List Nat} {e : Expr} : EB X zf O e eDead := ⟨fun pins s σ H Q I ⟨tk, H0, F0, F, g, w, d, w', R, ef, k⟩ => by cases ef⟩
theorem EO.dead {O : List Nat} {e : Expr} : EO X zf O e eDead := ⟨fun pins s σ H Q I ⟨tk, H0, F0, F, g, w, d, w', R, ef, k⟩ => by cases ef⟩
theorem ET.dead {O : List Nat} {e : Expr} : ET X zf O e tDead := ⟨fun pins s σ H Q I ⟨tk, H0, F0, F, g, w, d, w', R, ef, k⟩ => by cases ef⟩
end
/-! ### items -/
section
variable {X : Cx} {zf : Bool} {Kx : PySem.W.Frag} {mx : Str → Option Value} {zf : Bool} {tk : Tk Kx mx zf} {pins : List (Addr × Obj)} {σ : L2.St} {H F : Hp} {s : Shared}
/-- a list or a tuple that stands: its items -/
theorem items_at (I : Inv X pins σ H s) (sb : Sub F H) {d : D} {ds : List D} {v : V} {u : Value} (hd : itemsD d = some ds) (rb : RepB tk F H d v) (ru : RelV v u) :
    ∃ a xs its, u = .ref a ∧ RepL tk F ds xs ∧ Vals xs its ∧ xs.length ≤ sizeLine ∧ (s.heap.IsList a its.toArray ∨ s.heap.IsTuple a its.toArray) := by
  cases d <;> simp only [itemsD] at hd <;> first | cases hd | skip
  · simp only [RepB] at rb
    obtain ⟨a, xs, rfl, _, hr, l⟩ := rb
    cases ru
    obtain ⟨its, rv, pl, z⟩ := I.list (.inl hr)
    exact ⟨a, xs, its, rfl, l, rv, z, .inl pl.isList⟩
  · simp only [RepB, Rep] at rb
    obtain ⟨a, xs, rfl, hr, l⟩ := rb
    cases ru
    obtain ⟨its, rv, pl, z⟩ := I.tuple (sb.tup hr).sq
    exact ⟨a, xs, its, rfl, l, rv, z, .inr pl⟩
theorem plain_items {d : D} {ds : List D} (hd : itemsD d = some ds) (hp : d.plain = true) : PyData.plainAll ds = true := by
  cases d <;> simp only [itemsD] at hd <;> first | cases hd | skip
  all_goals simpa only [PyData.plain] using hp
theorem depth_items {d : D} {ds : List D} (hd : itemsD d = some ds) {n : Nat} (h : d.depth ≤ n) : PyData.depthAll ds ≤ n := by
  cases d <;> simp only [itemsD] at hd <;> first | cases hd | skip
  all_goals (simp only [PyData.depth] at h; omega)
theorem Vals.at {xs : List V} {us : List Value} (r : Vals xs us) {i : Nat} {u : Value} (h : us[i]? = some u) : ∃ x, xs[i]? = some x ∧ RelV x u := by
  induction r generalizing i with
  | nil => simp at h
  | cons r _ ih =>
    cases i with
    | zero => simp at h; subst h; exact ⟨_, rfl, r⟩
    | succ i => exact ih (by simpa using h)
theorem RepL.val {ds : List D} {vs : List V} (h : RepL tk F ds vs) {i : Nat} {v : V} (e : vs[i]? = some v) : ∃ d, ds[i]? = some d ∧ Rep tk F d v := by
  have hl := h.length
  have hi : i < vs.length := (List.getElem?_eq_some_iff.mp e).1
  obtain ⟨v', e', r⟩ := h.at (i := i) (d := ds[i]) (List.getElem?_eq_getElem (by omega))
  rw [e] at e'
  cases e'
  exact ⟨_, List.getElem?_eq_getElem (by omega), r⟩
theorem readsAll_val {h : Heap} {us : List Value} {ds : List D} {as : List Addr} (r : ReadsAll h us ds as) : ∀ {i : Nat} {u : Value}, us[i]? = some u → ∃ d bs, ds[i]? = some d ∧ Reads h u d bs := by
  induction us generalizing ds as with
  | nil => intro i u h; simp at h
  | cons u us ih =>
    intro i v e
    cases r with
    | cons r1 r2 =>
      cases i with
      | zero => simp at e; subst e; exact ⟨_, _, rfl, r1⟩
      | succ i => exact ih r2 (by simpa using e)
theorem plain_at {ds : List D} (h : PyData.plainAll ds = true) : ∀ {i : Nat} {d : D}, ds[i]? = some d → d.plain = true := by
  induction ds with
  | nil => intro i d e; simp at e
  | cons x xs ih =>
    intro i d e
    simp only [PyData.plainAll, Bool.and_eq_true] at h
    cases i with
    | zero => simp at e; subst e; exact h.1
    | succ i => exact ih h.2 (by simpa using e)
end
theorem alikeB_all {xs : List D} (h : alikeB xs = true) (n : noNoneB xs = true) : PySem.W.AlikeAll xs := by
  refine ⟨fun x hx y hy => ?_, fun x hx e => ?_⟩
  · exact List.all_eq_true.mp (List.all_eq_true.mp h x hx) y hy
  · have := List.all_eq_true.mp n x hx
    subst e
    simp [isNoneD] at this
/-! ### min(xs), max(xs) -/
def rMM (Kx : PySem.W.Frag) (mx : Str → Option Value) (zf : Bool) (pick : D → List D → D) : List V → Hp → VK → Prop := fun vs H Q => ∃ (tk : Tk Kx mx zf) (F : Hp) (d : D) (v : V) (x : D) (xs : List D), vs = [v] ∧ Sub F H ∧ RepB tk F H d v ∧ d.plain = true ∧ d.depth ≤ 60 ∧ itemsD d = some (x :: xs) ∧ PySem.W.AlikeAll (x :: xs) ∧ ∀ u, Rep tk F (pick x xs) u → Q u H
theorem fold_mem {α : Type} {c : α → α → Bool} : ∀ (xs : List α) (x : α), xs.foldl (fun a y => if c a y = true then y else a) x ∈ x :: xs
  | [], x => by simp
  | y :: xs, x => by
    have h := fold_mem (c := c) xs (if c x y = true then y else x)
    rw [List.foldl_cons]
    rcases List.mem_cons.mp h with h | h
    · rw [h]
      split
      · simp
      · simp
    · exact List.mem_cons_of_mem _ (List.mem_cons_of_mem _ h)
theorem minD_mem (x : D) (xs : List D) : PySem.W.minD x xs ∈ x :: xs := fold_mem (c := fun a y => PySem.W.dataLt y a) xs x
theorem maxD_mem (x : D) (xs : List D) : PySem.W.maxD x xs ∈ x :: xs := fold_mem (c := fun a y => PySem.W.dataLt a y) xs x
theorem plain_mem {ds : List D} (h : PyData.plainAll ds = true) {d : D} (m : d ∈ ds) : d.plain = true := by
  obtain ⟨i, hi⟩ := List.mem_iff_getElem?.mp m
  exact plain_at h hi
section
variable {X : Cx} {zf : Bool} {k : Nat}
theorem mm_run {pick : D → List D → D} (pm : ∀ x xs, pick x xs ∈ x :: xs) {pins s σ H vs us Q} (I : Inv X pins σ H s) (r : Vals vs us) (h : rMM X.K X.mg zf pick vs H Q) (hr : Room k X.A) :
    ∃ (a : Addr) (its : Array Value) (x : D) (xs : List D) (as : List Addr), us = [.ref a] ∧ (s.heap.IsList a its ∨ s.heap.IsTuple a its) ∧ ReadsAll s.heap its.toList (x :: xs) as ∧ PySem.W.AlikeAll (x :: xs) ∧ X.A.units + 1 + PyData.depthAll (x :: xs) < cLine ∧
      ∀ (i : Nat) v h' tk' bs, its[i]? = some v → Reads h' v (pick x xs) bs → (∀ b o, s.heap.get? b = some o → h'.get? b = some o) → EP X pins σ Q v { s with heap := h', toks := tk' } := by
  obtain ⟨tk, F, d, v, x, xs, rfl, sb, rb, pl, dp, hi, ha, q⟩ := h
  obtain ⟨u, rfl, ru⟩ := vals1 r
  obtain ⟨a, ys, its, rfl, rl, rv, z, ht⟩ := items_at I sb hi rb ru
  obtain ⟨as, ra⟩ := RepL.reads I sb _ _ _ (plain_items hi pl) rl rv
  refine ⟨a, its.toArray, x, xs, as, rfl, ht, by simpa using ra, ha, by have := hr.un; have := depth_items hi dp; omega, fun i v h' tk' bs hv rd hk => ?_⟩
  have hv : its[i]? = some v := by simpa using hv
  obtain ⟨y, hy, rvy⟩ := Vals.at rv hv
  obtain ⟨dy, hdy, rdy⟩ := rl.val hy
  obtain ⟨dz, bs2, hdz, rdz⟩ := readsAll_val ra hv
  rw [hdy] at hdz
  cases hdz
  have e1 := PySem.SeqAt.readOf_plain (plain_at (plain_items hi pl) hdy) (PyProof.Rows.Reads.keeps hk rdz)
  have e2 := PySem.SeqAt.readOf_plain (plain_mem (plain_items hi pl) (pm x xs)) rd
  exact ⟨y, H, I.kept hk, rvy, q y (by rw [← e2, e1]; exact rdy)⟩
theorem cr_min1 (hr : Room k X.A) : CallR X (.builtin "min") (rMM X.K X.mg zf PySem.W.minD) := by
  intro pins s σ H vs us Q I r h
  obtain ⟨a, its, x, xs, as, rfl, ht, ra, ha, hu, fin⟩ := mm_run minD_mem I r h hr
  rcases ht with ht | ht
  · exact PySem.W.min_list_data hr.hd ht ra ha hu fin
  · exact PySem.W.min_tuple_data hr.hd ht ra ha hu fin
theorem cr_max1 (hr : Room k X.A) : CallR X (.builtin "max") (rMM X.K X.mg zf PySem.W.maxD) := by
  intro pins s σ H vs us Q I r h
  obtain ⟨a, its, x, xs, as, rfl, ht, ra, ha, hu, fin⟩ := mm_run maxD_mem I r h hr
  rcases ht with ht | ht
  · exact PySem.W.max_list_data hr.hd ht ra ha hu fin
  · exact PySem.W.max_tuple_data hr.hd ht ra ha hu fin
theorem ok_min1 : Ok1 X.K X.mg zf minD1 (rMM X.K X.mg zf PySem.W.minD) := fun tk H0 F0 O σ F H g w x d vx Q R rx e kk => by
  unfold minD1 at e
  split at e
  · rename_i y ys hi
    split at e
    · rename_i hc
      simp only [Bool.and_eq_true] at hc
      cases e
      exact ⟨tk, F, x, vx, y, ys, rfl, R.sub, rx, hc.1.1.1, by simpa [lowD] using hc.2, hi, alikeB_all hc.1.1.2 hc.1.2, fun u ru => kk u H F R (Ex.refl ..) ru⟩
    · cases e
  · cases e
theorem ok_max1 : Ok1 X.K X.mg zf maxD1 (rMM X.K X.mg zf PySem.W.maxD) := fun tk H0 F0 O σ F H g w x d vx Q R rx e kk => by
  unfold maxD1 at e
  split at e
  · rename_i y ys hi
    split at e
    · rename_i hc
      simp only [Bool.and_eq_true] at hc
      cases e
      exact ⟨tk, F, x, vx, y, ys, rfl, R.sub, rx, hc.1.1.1, by simpa [lowD] using hc.2, hi, alikeB_all hc.1.1.2 hc.1.2, fun u ru => kk u H F R (Ex.refl ..) ru⟩
    · cases e
  · cases e
theorem EV.min1 {O : List Nat} {a : Expr} {fa : E} {p pos : Pos} (hm : X.mg "min" = Option.none) (hr : Room k X.A) (ha : EB X zf O a fa) (hg : Gl X "min" := by rfl) (he : starEach [a] X.env = (false, eval a X.env) :: starEach [] X.env := by rfl) : EV X zf O (.Call (.Name "min" p) [a] [] pos) (cOp1 minD1 fa) :=
  EV.bi1 (cr_min1 hr) ok_min1 hg hm (by decide +kernel) ha (he := he)
theorem EV.max1 {O : List Nat} {a : Expr} {fa : E} {p pos : Pos} (hm : X.mg "max" = Option.none) (hr : Room k X.A) (ha : EB X zf O a fa) (hg : Gl X "max" := by rfl) (he : starEach [a] X.env = (false, eval a X.env) :: starEach [] X.env := by rfl) : EV X zf O (.Call (.Name "max" p) [a] [] pos) (cOp1 maxD1 fa) :=
  EV.bi1 (cr_max1 hr) ok_max1 hg hm (by decide +kernel) ha (he := he)
end
/-! ### isinstance -/
def tyNm : D → String
  | .none => "NoneType"
  | .bool _ => "bool"
  | .int _ => "int"
  | .str _ => "str"
  | .list _ => "list"
  | .tuple _ => "tuple"
  | .dict _ => "dict"
def isTok : D → Bool
  | .dict ((.none, _) :: _) => true
  | _ => false
/-- a built-in type that isinstance is asked for -/
inductive Ty where
  | bool | int | str | list | tuple | dict
def Ty.nm : Ty → String
  | .bool => "bool"
  | .int => "int"
  | .str => "str"
  | .list => "list"
  | .tuple => "tuple"
  | .dict => "dict"
def isTy : Ty → D → Bool
  | .bool, .bool _ => true
  | .int, .bool _ => true
  | .int, .int _ => true
  | .str, .str _ => true
  | .list, .list _ => true
  | .tuple, .tuple _ => true
  | .dict, .dict _ => true
  | _, _ => false
def isaD (T : Ty) (d : D) : Option D := if isTok d = true then none else some (.bool (isTy T d))
theorem kitB_ty (T : Ty) (d : D) : kitB (tyNm d) T.nm = some (isTy T d) := by
  cases T <;> cases d <;> simp only [tyNm, Ty.nm, isTy] <;> decide +kernel
section
variable {X : Cx} {zf : Bool} {k : Nat} {Kx : PySem.W.Frag} {mx : Str → Option Value} {zf : Bool} {tk : Tk Kx mx zf} {pins : List (Addr × Obj)} {σ : L2.St} {H F : Hp} {s : Shared}
theorem dict_at (I : Inv X pins σ H s) {a : Addr} (h : (∃ es, Rd H a (.dK es)) ∨ ∃ es, Rd H a (.dT es)) : ∃ o, s.heap.get? a = some o ∧ o.cls = .type "dict" := by
  have h : (∃ es, ObjOk X.prog X.w H s.heap a (.dK es)) ∨ ∃ es, ObjOk X.prog X.w H s.heap a (.dT es) := by
    rcases h with ⟨es, h⟩ | ⟨es, h⟩
    · rcases h with h | ⟨o, h⟩
      · exact .inl ⟨es, I.hok a _ h⟩
      · exact .inl ⟨es, (I.hok a _ h).2⟩
    · rcases h with h | ⟨o, h⟩
      · exact .inr ⟨es, I.hok a _ h⟩
      · exact .inr ⟨es, (I.hok a _ h).2⟩
  rcases h with ⟨es, h⟩ | ⟨es, h⟩
  · obtain ⟨_, _, vs, _, o, es, ep, h1, h2, _⟩ := h
    exact ⟨o, h1, h2.1⟩
  · obtain ⟨_, _, xs, _, o, es, ep, h1, h2, _⟩ := h
    exact ⟨o, h1, h2.1⟩
theorem kit_rep (I : Inv X pins σ H s) (sb : Sub F H) {d : D} {v : V} {u : Value} (rb : RepB tk F H d v) (r : RelV v u) (nt : isTok d = false) : ∃ P : Heap → Prop, PySem.W.KitX X.K u (.type (tyNm d)) P ∧ P s.heap ∧ u ≠ .builtin "__main__.__loader__#opaque" := by
  cases d with
  | none => simp only [RepB, Rep] at rb; subst rb; cases r; exact ⟨_, PySem.W.kitx_none, True.intro, fun z => nomatch z⟩
  | bool b => simp only [RepB, Rep] at rb; subst rb; cases r; exact ⟨_, PySem.W.kitx_bool, True.intro, fun z => nomatch z⟩
  | int i => simp only [RepB, Rep] at rb; subst rb; obtain ⟨t, rfl⟩ := r; exact ⟨_, PySem.W.kitx_int, True.intro, fun z => nomatch z⟩
  | str x => simp only [RepB, Rep] at rb; subst rb; obtain ⟨t, rfl⟩ := r; exact ⟨_, PySem.W.kitx_str, True.intro, fun z => nomatch z⟩
  | list ds =>
    simp only [RepB] at rb
    obtain ⟨a, xs, rfl, _, hr, l⟩ := rb
    cases r
    obtain ⟨_, its, n, _, _, h1⟩ := lstAt I hr
    exact ⟨_, PySem.W.kitx_list, ⟨_, h1, rfl⟩, fun z => nomatch z⟩
  | tuple ds =>
    simp only [RepB, Rep] at rb
    obtain ⟨a, xs, rfl, hr, l⟩ := rb
    cases r
    obtain ⟨_, _, ⟨o, h1, h2, _⟩, _⟩ := I.tuple (sb.tup hr).sq
    exact ⟨_, PySem.W.kitx_tuple, ⟨o, h1, h2⟩, fun z => nomatch z⟩
  | dict kvs =>
    simp only [RepB] at rb
    obtain ⟨a, rfl, rb⟩ := rb
    cases r
    refine ⟨_, PySem.W.kitx_dict, ?_, fun z => nomatch z⟩
    rcases rb with ⟨_, ⟨es, h, _⟩ | ⟨es, h, _⟩⟩ | ⟨z, _⟩ | ⟨_, z, _⟩ | ⟨ns, z, _⟩
    · exact dict_at I (.inl ⟨es, h⟩)
    · exact dict_at I (.inr ⟨es, h⟩)
    · subst z; cases nt
    · subst z; cases nt
    · subst z; cases nt
def rIsD (Kx : PySem.W.Frag) (mx : Str → Option Value) (zf : Bool) (T : Ty) : List V → Hp → VK → Prop := fun vs H Q => ∃ (tk : Tk Kx mx zf) (F : Hp) (d : D) (v : V), vs = [v, .ty T.nm] ∧ Sub F H ∧ RepB tk F H d v ∧ isTok d = false ∧ Q (.bl (isTy T d)) H
theorem cr_isD (T : Ty) : CallR X (.builtin "isinstance") (rIsD X.K X.mg zf T) := by
  intro pins s σ H vs us Q I r h
  obtain ⟨tk, F, d, v, rfl, sb, rb, nt, q⟩ := h
  obtain ⟨u1, u2, rfl, r1, r2⟩ := vals2 r
  obtain rfl : u2 = Value.type T.nm := r2
  obtain ⟨P, Z, p, hx⟩ := kit_rep I sb rb r1 nt
  exact PySem.W.kia_one Z I.kIn p (kit_ty (kitB_ty T d)) hx fun tk => ⟨.bl (isTy T d), H, I.tok tk, rfl, q⟩
/-- isinstance(a, T) -/
theorem EV.isa {O : List Nat} (T : Ty) {x : Str} {a : Expr} {fa : E} {p p2 pos : Pos} (hm : X.mg "isinstance" = Option.none) (hmT : X.mg x = Option.none) (hv : bootBuiltins x = some (.type T.nm)) (ha : EB X zf O a fa) (hn : x ≠ "__name__" := by decide) (hd : (x == ("__debug__" : Str)) = false := by decide)
    (hg : Gl X "isinstance" := by rfl) (hgT : Gl X x := by rfl) (he : starEach [a, .Name x p2] X.env = (false, eval a X.env) :: starEach [.Name x p2] X.env := by rfl) (he2 : starEach [.Name x p2] X.env = (false, eval (.Name x p2) X.env) :: starEach [] X.env := by rfl)
    (hpl : (backTo pos (starEach [.Name x p2] X.env)).any (·.1) = false := by rfl) : EV X zf O (.Call (.Name "isinstance" p) [a, .Name x p2] [] pos) (cOp1 (isaD T) fa) :=
  PE.imp (pe_callB (cr_isD T) hg hm (by decide +kernel) (pa_cons ha (pa_cons (pe_bltn (v := .ty T.nm) hgT hmT hv rfl hn hd) pa_nil he2) he) (he := he) (hpl := hpl)) fun σ H Q ⟨tk, H0, F0, F, g, w, d, w', R, ef, kk⟩ => by
  obtain ⟨x, w1, e1, ef⟩ := bnd_eq (show bnd (fa g w) _ = _ from ef)
  obtain ⟨e4, e5⟩ := lft_eq ef
  have e5 : w1 = w' := e5
  subst e5
  have nt : isTok x = false := by
    cases hx : isTok x with
    | false => rfl
    | true => unfold isaD at e4; rw [if_pos hx] at e4; cases e4
  have ed : d = .bool (isTy T x) := by
    unfold isaD at e4
    rw [if_neg (by rw [nt]; exact fun z => nomatch z)] at e4
    exact (Option.some.inj e4).symm
  subst ed
  refine ⟨tk, H0, F0, F, g, w, x, w1, R, e1, fun v H1 F1 R1 x1 r1 => ?_⟩
  exact ⟨tk, F1, x, v, rfl, R1.sub, r1, nt, kk _ H1 F1 R1 x1 (by simp only [Rep])⟩
end
end Q

set_option Elab.async false
set_option linter.all false
set_option autoImplicit false
set_option maxRecDepth 100000
/-! QS11: the def of draws; the law's head. -/
namespace Q
open PySem PySem.Spec PyProof.Rows L2
section
variable {P : Program} {w : World} {K : PySem.W.Frag} {mg : Str → Option Value} {base : Heap} {zf : Bool}
theorem at_nat {α : Type} {xs : List α} {n : Nat} {x : α} (h : xs[n]? = some x) : L2.atI xs (((n + 1 : Nat) : Int) - 1) = some x := by
  have e : (((n + 1 : Nat) : Int) - 1) = (n : Int) := by omega
  rw [e]
  have hl := (List.getElem?_eq_some_iff.mp h).1
  unfold L2.atI L2.ixN
  rw [if_pos (Int.natCast_nonneg n), if_pos (by omega)]
  simpa using h
/-- w["at"] += 1; return int(w["draws"][w["at"] - 1]) % many if w["at"] <= len(w["draws"]) else 0 -/
theorem next_ok {st : Stmt} {f : Addr} {fd : FuncData} {k : Nat} {p0 p1 p2 p3 p4 q0 q1 q2 q3 q4 q5 q6 q7 q8 q9 r0 r1 r2 r3 r4 r5 r6 r7 r8 r9 s0 s1 s2 s3 s4 : Pos} {i0 i1 i2 i3 i4 i5 i6 i7 : Nat}
    (F : Fun K "_law_next" "_law_next" st f fd) (S : FnScope ["w", "many"] ["w", "many"] (defScope st)) (mi : mg "int" = none) (ml : mg "len" = none)
    (gi : (defScope st).names.lookup ("int" : Str) = some .globalImplicit) (gl : (defScope st).names.lookup ("len" : Str) = some .globalImplicit) (gw : (defScope st).names.lookup ("w" : Str) = some .local) (gm : (defScope st).names.lookup ("many" : Str) = some .local)
    (hb : defBody st = [.AugAssign (.Subscript (.Name "w" p0) (.Constant (.str "at") i0 p1) p2) .Add (.Constant (.int 1) i1 p3) p4,
      .Return (some (.IfExp (.Compare (.Subscript (.Name "w" q0) (.Constant (.str "at") i2 q1) q2) [.LtE] [.Call (.Name "len" q3) [.Subscript (.Name "w" q4) (.Constant (.str "draws") i3 q5) q6] [] q7] q8)
        (.BinOp (.Call (.Name "int" r0) [.Subscript (.Subscript (.Name "w" r1) (.Constant (.str "draws") i4 r2) r3) (.BinOp (.Subscript (.Name "w" r4) (.Constant (.str "at") i5 r5) r6) .Sub (.Constant (.int 1) i6 r7) r8) r9] [] s0) .Mod (.Name "many" s1) s2)
        (.Constant (.int 0) i7 s3) q9)) s4]) : FnOk P w K mg base CX0 (k + 1) f fd ["w", "many"] (spD K mg zf 2 fnNext) := by
  refine F.ok S (fun vs H Q E h => ?_) fun cdv A outer s H vs Q E hr h => ?_
  · obtain ⟨p, b, m, n, full, rfl, _⟩ := next_facts h
    rfl
  · obtain ⟨p, b, m, n, full, rfl, hp, rb, nb, hh⟩ := next_facts h
    rw [hb]
    have hu := hu_of hr
    refine ⟨_, pss_cons (ps_daug hu (pv 0 (hv := .inl gw)) pe_str pe_int in_add (fun _ _ _ => rfl))
      (pss_one (ps_ret (pe_ifExp (pt_cmpR op_le (pe_dget hu (pv 0 (hv := .inl gw)) pe_str (fun _ _ => rfl)) (pe_callB call_len_seq gl ml PySem.boot_len (pa_cons (pe_dget hu (pv 0 (hv := .inl gw)) pe_str (fun _ _ => rfl)) pa_nil)) (nomark _))
        (pe_op op_modN (pe_callTy call_int1 gi mi (by decide +kernel) (pa_cons (pe_ix ix_list (pe_dget hu (pv 0 (hv := .inl gw)) pe_str (fun _ _ => rfl)) (pe_op op_sub (pe_dget hu (pv 0 (hv := .inl gw)) pe_str (fun _ _ => rfl)) pe_int) (fun _ _ => rfl)) pa_nil)) (pv 1 (hv := .inl gm))) pe_int))), ?_⟩
    have dat : ∀ {H : Hp} {n' : Nat}, H p = some (.dK (wKvs b n')) → DGet H p (.str "at") (some (.int n')) := fun {H n'} h => .inl ⟨_, .inr "at", .inl h, rfl, (wd_at b n').symm⟩
    have ddr : ∀ {H : Hp} {n' : Nat}, H p = some (.dK (wKvs b n')) → DGet H p (.str "draws") (some (.ref b)) := fun {H n'} h => .inl ⟨_, .inr "draws", .inl h, rfl, (wd_draws b n').symm⟩
    have hz : (wKvs b n).length < sizeLine := by show 2 < sizeLine; decide
    refine ⟨.ref p, rfl, p, _, rfl, dat hp, (n : Int), 1, rfl, rfl, upd H p (.dK (wKvs b (n + 1))), .inl ⟨_, .inr "at", hp, rfl, hz, ?_⟩, ?_⟩
    · rw [show ((n : Int) + 1) = ((n + 1 : Nat) : Int) from rfl, ← wd_put] <;> rfl
    generalize hH : upd H p (.dK (wKvs b (n + 1))) = H1 at hh ⊢
    have h1p : H1 p = some (.dK (wKvs b (n + 1))) := by rw [← hH, upd_same]
    have rb' : Rd H1 b (.lst (full.map V.int)) := by
      rcases rb with rb | ⟨o, rb⟩
      · exact .inl (by rw [← hH, upd_ne nb]; exact rb)
      · exact .inr ⟨o, by rw [← hH, upd_ne nb]; exact rb⟩
    refine ⟨.ref p, rfl, p, _, rfl, dat h1p, .ref p, rfl, p, _, rfl, ddr h1p, ⟨b, _, rfl, .inl (.inl rb'), (n + 1 : Nat), (full.map V.int).length, rfl, rfl, _, rfl, ?_⟩⟩
    rw [List.length_map]
    rcases hh with ⟨hl, q⟩ | ⟨x, hx, hm, q⟩
    · rw [decide_eq_false (by omega)]
      exact q
    · have hl := (List.getElem?_eq_some_iff.mp hx).1
      rw [decide_eq_true (by omega)]
      refine ⟨.ref p, rfl, p, _, rfl, ddr h1p, .ref p, rfl, p, _, rfl, dat h1p, _, _, rfl, rfl, ?_⟩
      refine ⟨b, _, _, .int x, rfl, rfl, .inl rb', at_nat (by rw [List.getElem?_map, hx]; rfl), .inl ⟨x, rfl, .int m, rfl, x, m, rfl, rfl, hm, q⟩⟩
end
/-! ### the law's head: w = {"draws": e, "at": 0} -/
mutual
theorem Rep.up {Kx : PySem.W.Frag} {mx : Str → Option Value} {zf : Bool} {tk tk' : Tk Kx mx zf} {F : Hp} (h0 : tk.pw = none) : ∀ (d : D) (v : V), Rep tk F d v → Rep tk' F d v
  | .none, _, h => by simpa only [Rep] using h
  | .bool _, _, h => by simpa only [Rep] using h
  | .int _, _, h => by simpa only [Rep] using h
  | .str _, _, h => by simpa only [Rep] using h
  | .list ds, v, h => by
    simp only [Rep] at h ⊢
    obtain ⟨a, xs, e, r, l⟩ := h
    exact ⟨a, xs, e, r, RepL.up h0 ds xs l⟩
  | .tuple ds, v, h => by
    simp only [Rep] at h ⊢
    obtain ⟨a, xs, e, r, l⟩ := h
    exact ⟨a, xs, e, r, RepL.up h0 ds xs l⟩
  | .dict kvs, v, h => by
    simp only [Rep] at h ⊢
    obtain ⟨a, e, h⟩ := h
    refine ⟨a, e, ?_⟩
    rcases h with ⟨es, r, l⟩ | ⟨es, r, l⟩ | ⟨_, z⟩ | h | h
    · exact .inl ⟨es, r, RepK.up h0 kvs es l⟩
    · exact .inr (.inl ⟨es, r, RepT.up h0 kvs es l⟩)
    · rw [h0] at z; cases z
    · exact .inr (.inr (.inr (.inl h)))
    · exact .inr (.inr (.inr (.inr h)))
theorem RepL.up {Kx : PySem.W.Frag} {mx : Str → Option Value} {zf : Bool} {tk tk' : Tk Kx mx zf} {F : Hp} (h0 : tk.pw = none) : ∀ (ds : List D) (vs : List V), RepL tk F ds vs → RepL tk' F ds vs
  | [], [], _ => by simp only [RepL]
  | [], _ :: _, h => by simp only [RepL] at h
  | _ :: _, [], h => by simp only [RepL] at h
  | d :: ds, v :: vs, h => by
    simp only [RepL] at h ⊢
    exact ⟨Rep.up h0 d v h.1, RepL.up h0 ds vs h.2⟩
theorem RepK.up {Kx : PySem.W.Frag} {mx : Str → Option Value} {zf : Bool} {tk tk' : Tk Kx mx zf} {F : Hp} (h0 : tk.pw = none) : ∀ (kvs : List (D × D)) (es : List (Key × V)), RepK tk F kvs es → RepK tk' F kvs es
  | [], [], _ => by simp only [RepK]
  | [], _ :: _, h => by simp only [RepK] at h
  | _ :: _, [], h => by simp only [RepK] at h
  | (k, d) :: r, (k', v) :: r', h => by
    simp only [RepK] at h ⊢
    exact ⟨h.1, Rep.up h0 d v h.2.1, RepK.up h0 r r' h.2.2⟩
theorem RepT.up {Kx : PySem.W.Frag} {mx : Str → Option Value} {zf : Bool} {tk tk' : Tk Kx mx zf} {F : Hp} (h0 : tk.pw = none) : ∀ (kvs : List (D × D)) (es : List (List Key × V)), RepT tk F kvs es → RepT tk' F kvs es
  | [], [], _ => by simp only [RepT]
  | [], _ :: _, h => by simp only [RepT] at h
  | _ :: _, [], h => by simp only [RepT] at h
  | (k, d) :: r, (k', v) :: r', h => by
    simp only [RepT] at h ⊢
    exact ⟨h.1, Rep.up h0 d v h.2.1, RepT.up h0 r r' h.2.2⟩
end
theorem ints_repL {Kx : PySem.W.Frag} {mx : Str → Option Value} {zf : Bool} {tk : Tk Kx mx zf} {F : Hp} : ∀ (l : List Int) {xs : List V}, RepL tk F (l.map PyData.int) xs → xs = l.map V.int
  | [], [], _ => rfl
  | [], _ :: _, h => by simp only [List.map_nil, RepL] at h
  | _ :: _, [], h => by simp only [List.map_cons, RepL] at h
  | i :: l, x :: xs, h => by
    simp only [List.map_cons, RepL, Rep] at h
    rw [h.1, ints_repL l h.2]
    rfl
/-- the law's promise: True -/
def spLaw (K : PySem.W.Frag) (most : Nat) : Sp := fun vs H Q _ => ∃ (a : Addr) (ns : List Int), vs = [.ref a] ∧ SqL K H a (ns.map V.int) ∧ ns.length ≤ most ∧ ∀ H', Q (.bl true) H'
section
variable {P : Program} {w : World} {K : PySem.W.Frag} {mg : Str → Option Value} {base : Heap} {zf : Bool}
theorem merge_w (b : Addr) : mergeK [] [((.inr "draws" : Key), V.ref b), (.inr "at", .int 0)] = wKvs b 0 := by
  unfold mergeK
  rw [List.foldl_cons, List.foldl_cons, List.foldl_nil]
  dsimp only
  have e1 : putK ([] : List (Key × V)) (.inr "draws") (V.ref b) = [(.inr "draws", .ref b)] := rfl
  rw [e1]
  unfold putK
  rw [if_neg]
  · rfl
  · rw [valV_any, valV_neg (p := ((Sum.inr (Str.ofString "draws") : Key), V.ref b)) kne]
    exact fun z => nomatch z
theorem law_ok {x : Str} {st : Stmt} {f : Addr} {fd : FuncData} {N : List Str} {k nl most : Nat} {fb : S} {fe : E} {O' : List Nat} {p0 p1 p2 p3 p4 p5 : Pos} {i0 i1 i2 : Nat} {e : Expr} {rest : List Stmt} {xs : Str}
    (F : Fun K x x st f fd) (S : FnScope N [xs] (defScope st)) (hb : defBody st = .Assign [.Name "w" p0] (.Dict [some (.Constant (.str "draws") i0 p1), some (.Constant (.str "at") i1 p2)] [e, .Constant (.int 0) i2 p3] p4) p5 :: rest)
    (h1 : N[1]? = some ("w" : Str)) (hw : Loc (defScope st) "w")
    (he : ∀ (cdv : Value) (A : Around) (outer : List PySem.Env) (s : Shared) (H : Hp) (E : XK), Room k (A.deeper (envOfC x (defScope st) s.heap.objs.size f cdv)) → EV (cxOf CX0 P w K mg base N x (defScope st) f cdv A outer s H E).nox zf [] e fe)
    (hr : ∀ (cdv : Value) (A : Around) (outer : List PySem.Env) (s : Shared) (H : Hp) (E : XK), Room k (A.deeper (envOfC x (defScope st) s.heap.objs.size f cdv)) → ESs (cxOf CX0 P w K mg base N x (defScope st) f cdv A outer s H E).nox zf [] O' [] rest fb)
    (hN : N.length = 1 + nl)
    (math : ∀ ns : List Int, ns.length ≤ most → ∃ l w', fe (some (tokS ns) :: List.replicate nl none) none = some (.list (l.map .int), none) ∧ fb ((some (tokS ns) :: List.replicate nl none).set 1 (some tokW)) (some l) = some (.rt (.bool true), w')) : FnOk P w K mg base CX0 (k + 1) f fd [xs] (spLaw K most) := by
  refine F.ok S (fun vs H Q E h => ?_) fun cdv A outer s H vs Q E hrm h => ?_
  · obtain ⟨a, ns, rfl, _⟩ := h
    rfl
  · obtain ⟨a, ns, rfl, hS, hl, q⟩ := h
    obtain ⟨l, w', m1, m2⟩ := math ns hl
    rw [hb]
    refine ⟨_, pss_cons (ps_set (i := 1) S.nd h1 hw (pe_disp (pps_cons pe_str (he cdv A outer s H E hrm) (pps_cons pe_str pe_int pps_nil)) rfl rfl (by simp) (by show 2 ≤ 15; decide)) (by rfl) (.inl rfl)) (hr cdv A outer s H E hrm), ?_⟩
    intro p hp
    -- the frozen part: the script
    obtain ⟨F0, sb0, hF, hp0⟩ : ∃ F0 : Hp, Sub F0 H ∧ SqL K F0 a (ns.map V.int) ∧ F0 p = none := by
      refine ⟨fun b => if b = a then H b else none, fun b o e => ?_, ?_, ?_⟩
      · dsimp only at e
        split at e
        · exact .inl e
        · cases e
      · rcases hS with (h | ⟨o, h⟩) | h
        · exact .inl (.inl (by dsimp only; rw [if_pos rfl]; exact h))
        · exact .inl (.inr ⟨o, by dsimp only; rw [if_pos rfl]; exact h⟩)
        · exact .inr h
      · dsimp only
        split
        · exact hp
        · rfl
    have rs : RepL (⟨none⟩ : Tk K mg zf) F0 [tokS ns] [V.ref a] := by
      simp only [RepL, tokS, Rep]
      exact ⟨⟨a, rfl, .inr (.inr (.inr (.inr ⟨ns, rfl, hF⟩)))⟩, trivial⟩
    have R0 := start_rel (tk := (⟨none⟩ : Tk K mg zf)) (N := N) (vs := [V.ref a]) (wd := none) (nl := nl) sb0 (by unfold WAt; trivial) rs hN
    obtain ⟨R1, x1⟩ := R0.allocO hp (.dK [])
    refine ⟨(⟨none⟩ : Tk K mg zf), H, F0, F0, _, none, _, none, R1, m1, fun v H2 F2 R2 x2 r2 => ?_⟩
    have hF2 : F2 p = none := x2.nw p (fun z => nomatch z) (by rw [upd_same]; exact fun z => nomatch z) hp0
    have hH2 : H2 p = some (.dK []) := x2.gr.ex upd_same (fun z => nomatch z) hF2
    simp only [Rep] at r2
    obtain ⟨b, xs', rfl, rb, rl⟩ := r2
    have ex := ints_repL l rl
    subst ex
    refine ⟨hH2, [(.inr "draws", .ref b), (.inr "at", .int 0)], rfl, by show 2 ≤ 15; decide, ?_⟩
    rw [merge_w]
    have fr2 : ∀ c o, F2 c = some o → c ≠ p := fun c o e z => by rw [z, hF2] at e; cases e
    have sub2 : Sub F2 (upd H2 p (.dK (wKvs b 0))) := fun c o e => by rw [upd_ne (fr2 c o e)]; exact R2.sub c o e
    have hg1 : 1 < ((some (tokS ns) :: List.replicate nl none : Env)).length := by
      have := (List.getElem?_eq_some_iff.mp h1).1
      simp only [List.length_cons, List.length_replicate]; omega
    refine ⟨(⟨some p⟩ : Tk K mg zf), H, F0, F2, _, some l, _, w', ⟨?_, sub2, R2.f0, fun c u e n => ?_, fun c n e f => ?_, fun i d hi h => ?_, fun i d hi h => by simp at hi, fun i j a d e hi _ _ _ _ _ => by simp at hi, ?_⟩, m2, ?_⟩
    · have := R2.len
      simp only [L2.gName, List.length_set]
      simp only [List.map_cons, List.map_nil, List.singleton_append] at this
      simpa using this
    · have ne : c ≠ p := fun z => n (by rw [z])
      rw [upd_ne ne]
      exact R2.k0 c u e (fun z => nomatch z)
    · have ne : c ≠ p := fun z => by rw [z] at e; exact e hp
      exact R2.n0 c (fun z => nomatch z) e f
    · by_cases h1i : i = 1
      · subst h1i
        rw [List.getElem?_set_self hg1] at h
        cases h
        refine ⟨.ref p, ?_, ?_⟩
        · have hl1 : 1 < (L2.start N [V.ref a]).length := by rw [← R2.len]; simpa using hg1
          exact List.getElem?_set_self hl1
        · simp only [tokW, Rep]
          exact ⟨p, rfl, .inr (.inr (.inl (by simp)))⟩
      · rw [List.getElem?_set_ne (by omega)] at h
        obtain ⟨v', h3, h4⟩ := R2.val i d (by simp) (by simpa using h)
        exact ⟨v', by show (List.set _ 1 _)[i]? = _; rw [List.getElem?_set_ne (by omega)]; exact h3, Rep.up rfl _ _ h4⟩
    · unfold WAt
      exact ⟨hF2, b, 0, l, upd_same, rb, rfl⟩
    · exact fun v H' F' _ _ _ _ _ r => by
        simp only [Rep] at r
        subst r
        exact q H'
end
end Q

set_option Elab.async false
set_option linter.all false
set_option autoImplicit false
set_option maxRecDepth 100000
/-! QS12: defs in a bundle; dead statements; new lists by +; len(set(..)). -/
namespace Q
open PySem PySem.Spec PyProof.Rows L2
/-- a def of the text, as the head tells it -/
structure Df (K : PySem.W.Frag) (mg : Str → Option Value) (x : Str) (st : Stmt) (ps : List Str) : Prop where
  ex : ∃ f fd, mg x = some (.ref f) ∧ Fun K x x st f fd ∧ Binds K fd ps []
/-- a def that keeps the promise of a function of data -/
structure Ok (K : PySem.W.Frag) (mg : Str → Option Value) (zf : Bool) (P : Program) (w : World) (base : Heap) (k : Nat) (x : Str) (ps : List Str) (n : Nat) (fn : Fn) : Prop where
  ex : ∃ f fd, mg x = some (.ref f) ∧ PySem.W.keepIn K (.ref f) = true ∧ Binds K fd ps [] ∧ FnOk P w K mg base CX0 k f fd ps (spD K mg zf n fn)
section
variable {P : Program} {w : World} {K : PySem.W.Frag} {mg : Str → Option Value} {base : Heap} {zf : Bool}
theorem df_mk {h : Heap} {x : Str} {st : Stmt} {ps : List Str} {f : Addr} {od an : Option Addr} {sl : Array (Option Value)} {oc kV dc pm cd ct : Value} (X : K.In h) (G : h.Ns mainGlobals mg)
    (a : PySem.W.nsIn K mainGlobals x = some (some (.ref f))) (l : K.lookup f = some ⟨oc, od, .func (PySem.W.fnOf x x (defArgs st) (defBody st) (defScope st) .none kV dc pm an cd ct), sl⟩) (c : PySem.W.codeIn K cd x = true) (k : PySem.W.keepIn K (.ref f) = true)
    (b : ∀ (kV doc pm : Value) (an : Option Addr) (cdv ct : Value) (us : List Value), us.length = ps.length → bindArgs (PySem.W.fnOf x x (defArgs st) (defBody st) (defScope st) .none kV doc pm an cdv ct) ⟨us, []⟩ = pure (ps.zip us)) : Df K mg x st ps := by
  have F := fun_mk (st := st) l c k
  exact ⟨_, _, PySem.W.mg_of X G a, F, F.binds b⟩
theorem ok_of {x : Str} {st : Stmt} {N ps : List Str} {k nl : Nat} {fb : S} {O' : List Nat} (D : Df K mg x st ps) (S : FnScope N ps (defScope st))
    (hb : ∀ (f : Addr) (cdv : Value) (A : Around) (outer : List PySem.Env) (s : Shared) (H : Hp) (E : XK), Room k (A.deeper (envOfC x (defScope st) s.heap.objs.size f cdv)) → ESs (cxOf CX0 P w K mg base N x (defScope st) f cdv A outer s H E).nox zf [] O' [] (defBody st) fb)
    (hN : N.length = ps.length + nl := by rfl) : Ok K mg zf P w base (k + 1) x ps ps.length (bodyFn ps.length nl fb) := by
  obtain ⟨f, fd, h1, F, h2⟩ := D.ex
  exact ⟨f, fd, h1, F.kp, h2, fn_ok F S (hb f) hN⟩
end
section
variable {P : Program} {w : World} {K : PySem.W.Frag} {mg : Str → Option Value} {base : Heap} {zf : Bool}
theorem next_ok' {st : Stmt} {p0 p1 p2 p3 p4 q0 q1 q2 q3 q4 q5 q6 q7 q8 q9 r0 r1 r2 r3 r4 r5 r6 r7 r8 r9 s0 s1 s2 s3 s4 : Pos} {i0 i1 i2 i3 i4 i5 i6 i7 : Nat}
    (D : Df K mg "_law_next" st ["w", "many"]) (S : FnScope ["w", "many"] ["w", "many"] (defScope st)) (mi : mg "int" = none) (ml : mg "len" = none)
    (gi : (defScope st).names.lookup ("int" : Str) = some .globalImplicit) (gl : (defScope st).names.lookup ("len" : Str) = some .globalImplicit) (gw : (defScope st).names.lookup ("w" : Str) = some .local) (gm : (defScope st).names.lookup ("many" : Str) = some .local)
    (hb : defBody st = [.AugAssign (.Subscript (.Name "w" p0) (.Constant (.str "at") i0 p1) p2) .Add (.Constant (.int 1) i1 p3) p4,
      .Return (some (.IfExp (.Compare (.Subscript (.Name "w" q0) (.Constant (.str "at") i2 q1) q2) [.LtE] [.Call (.Name "len" q3) [.Subscript (.Name "w" q4) (.Constant (.str "draws") i3 q5) q6] [] q7] q8)
        (.BinOp (.Call (.Name "int" r0) [.Subscript (.Subscript (.Name "w" r1) (.Constant (.str "draws") i4 r2) r3) (.BinOp (.Subscript (.Name "w" r4) (.Constant (.str "at") i5 r5) r6) .Sub (.Constant (.int 1) i6 r7) r8) r9] [] s0) .Mod (.Name "many" s1) s2)
        (.Constant (.int 0) i7 s3) q9)) s4]) : Ok K mg zf P w base 1 "_law_next" ["w", "many"] 2 fnNext := by
  obtain ⟨f, fd, h1, F, h2⟩ := D.ex
  exact ⟨f, fd, h1, F.kp, h2, next_ok F S mi ml gi gl gw gm hb⟩
end
section
variable {X : Cx} {zf : Bool} {O : List Nat}
theorem EV.callO {x : Str} {ps : List Str} {p pos : Pos} {e : Expr} {es : List Expr} {k n : Nat} {fn : Fn} {fs : List E} (F : Ok X.K X.mg zf X.prog X.w X.base k x ps n fn) (hr : Room k X.A)
    (ha : EA X zf O (e :: es) (cArgs fs)) (hg : Gl X x := by rfl) (hn : fs.length = n := by rfl) (hdb : (x == ("__debug__" : Str)) = false := by decide) (he : starEach (e :: es) X.env = (false, eval e X.env) :: starEach es X.env := by rfl) (hpl : (backTo pos (starEach es X.env)).any (·.1) = false := by rfl) :
    EV X zf O (.Call (.Name x p) (e :: es) [] pos) (cCall fn fs) := by
  obtain ⟨f, fd, h1, h2, h3, h4⟩ := F.ex
  exact EV.call h4 hr h1 h2 h3 ha hg hn hdb he hpl
def sDead : S := fun _ _ => none
variable {O' Ol : List Nat}
theorem ES.dead {st : Stmt} : ES X zf O O' Ol st sDead := ⟨fun pins s σ H D I ⟨tk, H0, F0, F, g, w, o, w', R, ef, q⟩ => by cases ef⟩
theorem ESs.dead {st : List Stmt} : ESs X zf O O' Ol st sDead := ⟨fun pins s σ H D I ⟨tk, H0, F0, F, g, w, o, w', R, ef, q⟩ => by cases ef⟩
/-- xs + ys of lists: a new object -/
def catD : D → D → Option D
  | .list xs, .list ys => if xs.length + ys.length ≤ sizeLine then some (.list (xs ++ ys)) else none
  | _, _ => none
theorem EO.cat {a b : Expr} {fa fb : E} {pos : Pos} (ha : EB X zf O a fa) (hb : EB X zf O b fb) : EO X zf O (.BinOp a .Add b pos) (cOp2 catD fa fb) :=
  PE.imp (pe_op op_catR ha hb) fun σ H Q ⟨tk, H0, F0, F, g, w, d, w', R, ef, k⟩ => by
  obtain ⟨x, w1, e1, ef⟩ := bnd_eq (show bnd (fa g w) _ = _ from ef)
  obtain ⟨y, w2, e2, ef⟩ := bnd_eq ef
  obtain ⟨e3, e4⟩ := lft_eq ef
  have e4 : w2 = w' := e4
  subst e4
  refine ⟨tk, H0, F0, F, g, w, x, w1, R, e1, fun vx H1 F1 R1 x1 r1 => ?_⟩
  refine ⟨tk, H0, F0, F1, g, w1, y, w2, R1, e2, fun vy H2 F2 R2 x2 r2 => ?_⟩
  replace r1 := r1.ex x2
  obtain ⟨us, vs, rfl, rfl⟩ : ∃ us vs, x = .list us ∧ y = .list vs := by
    cases x <;> cases y <;> simp only [catD] at e3 <;> first | cases e3 | exact ⟨_, _, rfl, rfl⟩
  simp only [catD] at e3
  simp only [RepB] at r1 r2
  obtain ⟨l1, xs, rfl, na, ra, la⟩ := r1
  obtain ⟨l2, ys, rfl, nb, rb, lb⟩ := r2
  by_cases h : us.length + vs.length ≤ sizeLine
  case neg => rw [if_neg h] at e3; cases e3
  rw [if_pos h] at e3
  cases e3
  rw [la.length, lb.length] at h
  refine ⟨l1, l2, xs, ys, rfl, rfl, ra, rb, h, fun p hp => ?_⟩
  obtain ⟨R3, x3⟩ := R2.allocO hp (.lst (xs ++ ys))
  have x13 := (x1.trans x2).trans x3
  refine k _ _ _ R3 x13 ⟨p, _, rfl, upd_same, R2.sub.none hp, ?_, fun z => ?_, ?_⟩
  · cases hz : H p with
    | none => rfl
    | some o =>
      have npw : tk.pw ≠ some p := fun z => (R2.wat.free p z).2 hp
      exact absurd hp ((x1.trans x2).gr.ne hz npw)
  · exact (R2.wat.free p z).2 hp
  · simp only [RepO]
    exact la.append lb
/-- how many different ints -/
def dedupI (ns : List Int) : List Int := ns.foldl step_dedup []
def lenSetD : D → Option D
  | .list ds => (intsOf ds).bind fun ns => if ns.length + 1 < scanBound then some (.int (dedupI ns).length) else none
  | _ => none
theorem firstMet_all (ns : List Int) : firstMet (fun i => ns.getD i 0) ns.length = dedupI ns := by
  unfold firstMet dedupI
  congr 1
  refine List.ext_getElem (by simp) fun i h1 h2 => ?_
  simp [List.getD_eq_getElem?_getD, List.getElem?_eq_getElem h2]
theorem dedup_le (ns : List Int) : (dedupI ns).length ≤ ns.length := by
  rw [← firstMet_all]
  exact firstMet_length_le _ _
theorem EV.lenSet {a : Expr} {fa : E} {p p2 q pos : Pos} (hr : ∃ k, Room k X.A) (hm : X.mg "len" = none) (hm2 : X.mg "set" = none) (ha : EB X zf O a fa) (hg : Gl X "len" := by rfl) (hg2 : Gl X "set" := by rfl)
    (na : starEach [a] X.env = (false, eval a X.env) :: starEach [] X.env := by rfl) : EV X zf O (.Call (.Name "len" p) [.Call (.Name "set" p2) [a] [] q] [] pos) (cOp1 lenSetD fa) := by
  obtain ⟨k, hr⟩ := hr
  refine ⟨fun pins s σ H Q I ⟨tk, H0, F0, F, g, w, d, w', R, ef, kk⟩ => ?_⟩
  obtain ⟨x, w1, e1, ef⟩ := bnd_eq (show bnd (fa g w) _ = _ from ef)
  obtain ⟨e4, e5⟩ := lft_eq ef
  have e5 : w1 = w' := e5
  subst e5
  refine Call_ (ld_blt I hg hm PySem.boot_len ?_)
  refine PyProof.Rows.callWith_builtin1 (PyProof.Rows.args_cons ?_ rfl) rfl rfl
  refine Call_ (ld_blt I hg2 hm2 PyProof.Rows.boot_set ?_)
  refine PyProof.Rows.callWith_type1 (PyProof.Rows.args_cons (thn (ha.run pins s σ H (fun v H1 => ∃ (l : Addr) (ns : List Int), v = V.ref l ∧ Rd H1 l (.lst (ns.map V.int)) ∧ ns.length + 1 < scanBound ∧ Q (.int (dedupI ns).length) H1) I ⟨tk, H0, F0, F, g, w, x, w1, R, e1, fun v H1 F1 R1 x1 r1 => ?_⟩) fun v s1 ⟨x, H1, I1, r1, q1⟩ => PyProof.Rows.args_nil ?_) na) na rfl
  · cases x <;> simp only [lenSetD] at e4 <;> first | cases e4 | skip
    rename_i ds
    obtain ⟨ns, h1, h2⟩ := Option.bind_eq_some_iff.mp e4
    by_cases hz : ns.length + 1 < scanBound
    case neg => rw [if_neg hz] at h2; cases h2
    rw [if_pos hz] at h2
    cases h2
    simp only [RepB] at r1
    obtain ⟨l, xs, rfl, _, hr1, rl⟩ := r1
    have := ints_rep h1 rl
    subst this
    exact ⟨l, ns, rfl, hr1, hz, kk _ H1 F1 R1 x1 (by simp only [Rep])⟩
  · obtain ⟨l, ns, rfl, hq, h1, q1⟩ := q1
    cases r1
    obtain ⟨its, r, pl, hz⟩ := I1.list (.inl hq)
    have hl : its.toArray.size = ns.length := by rw [List.size_toArray, ← r.length, List.length_map]
    refine call_set_list hr.hd pl.isList (ns := ns) (by simpa using r.ints) (by rw [hl]; exact h1) fun h' tk hS hk => ?_
    rw [hl, firstMet_all] at hS
    refine PyProof.Rows.args_nil ?_
    obtain ⟨o, es, ep, t, ho, hex, hd, _, _, _, hf, hn⟩ := hS
    have I2 : Inv X pins σ H1 { s1 with heap := h', toks := tk } := I1.kept fun b o e => hk b o (Heap.lt_size e) e
    refine call_len_set ho hex hd hf (by rw [hn]; have := dedup_le ns; unfold scanBound at h1; omega) ⟨.int (dedupI ns).length, H1, I2.tok _, ⟨_, by rw [hn]⟩, q1⟩
end
end Q

set_option Elab.async false
set_option linter.all false
set_option autoImplicit false
set_option maxRecDepth 100000
/-! QS13: index, count, list, sorted. -/
namespace Q
open PySem PySem.Spec PyProof.Rows L2
section
variable {X : Cx} {zf : Bool} {k : Nat}
theorem PE.or {e : Expr} {t t' : TE} (h : PE X e t) (h' : PE X e t') : PE X e (fun σ H Q => t σ H Q ∨ t' σ H Q) := ⟨fun pins s σ H Q I hw => hw.elim (h.run pins s σ H Q I) (h'.run pins s σ H Q I)⟩
/-- list(a): a new list -/
def lst1D : D → Option D
  | .list xs => some (.list xs)
  | .tuple xs => some (.list xs)
  | _ => none
theorem EO.list {O : List Nat} {a : Expr} {fa : E} {p pos : Pos} (hm : X.mg "list" = none) (ha : EB X zf O a fa) (hg : Gl X "list" := by rfl) (he : starEach [a] X.env = (false, eval a X.env) :: starEach [] X.env := by rfl) (hpl : (backTo pos (starEach [] X.env)).any (·.1) = false := by rfl) :
    EO X zf O (.Call (.Name "list" p) [a] [] pos) (cOp1 lst1D fa) :=
  PE.imp (pe_callTy call_list_of hg hm (by decide +kernel) (EAB.cons ha EAB.nil he) (he := he) (hpl := hpl)) fun σ H Q ⟨tk, H0, F0, F, g, w, d, w', R, ef, kk⟩ => by
  obtain ⟨x, w1, e1, ef⟩ := bnd_eq (show bnd (fa g w) _ = _ from ef)
  obtain ⟨e4, e5⟩ := lft_eq ef
  have e5 : w1 = w' := e5
  subst e5
  refine ⟨tk, H0, F0, F, g, w, [x], w1, R, by simp [cArgs, e1], fun vs H1 F1 R1 x1 r1 => ?_⟩
  match vs, r1 with
  | [], r1 => simp only [RepBL] at r1
  | _ :: _ :: _, r1 => simp only [RepBL] at r1; exact r1.2.elim
  | [v], r1 =>
    simp only [RepBL] at r1
    obtain ⟨ds, e6, hx⟩ : ∃ ds, d = .list ds ∧ (x = .list ds ∨ x = .tuple ds) := by
      clear ef kk r1 e1
      revert e4
      cases x <;> intro e4 <;> simp only [lst1D] at e4
      all_goals first | (cases e4; done) | (exact ⟨_, (Option.some.inj e4).symm, .inl rfl⟩) | (exact ⟨_, (Option.some.inj e4).symm, .inr rfl⟩)
    subst e6
    have key : ∃ a xs, v = .ref a ∧ (SqL X.K H1 a xs ∨ SqT X.K H1 a xs) ∧ RepL tk F1 ds xs := by
      rcases hx with rfl | rfl
      · have r := r1.1
        simp only [RepB] at r
        obtain ⟨a, xs, e, _, hr, l⟩ := r
        exact ⟨a, xs, e, .inl (.inl hr), l⟩
      · have r := r1.1
        simp only [RepB, Rep] at r
        obtain ⟨a, xs, e, hr, l⟩ := r
        exact ⟨a, xs, e, .inr ((R1.sub.tup hr).sq), l⟩
    obtain ⟨a, xs, rfl, hs, l⟩ := key
    refine ⟨a, xs, rfl, hs, fun p hp => ?_⟩
    obtain ⟨R3, x3⟩ := R1.allocO hp (.lst xs)
    refine kk _ _ _ R3 (x1.trans x3) ⟨p, _, rfl, upd_same, R1.sub.none hp, ?_, fun z => ?_, ?_⟩
    · cases hz : H p with
      | none => rfl
      | some o =>
        have npw : tk.pw ≠ some p := fun z => (R1.wat.free p z).2 hp
        exact absurd hp (x1.gr.ne hz npw)
    · exact (R1.wat.free p z).2 hp
    · simp only [RepO]
      exact l
theorem own_new {Kx : PySem.W.Frag} {mx : Str → Option Value} {zf : Bool} {tk : Tk Kx mx zf} {H0 F0 : Hp} {O : List Nat} {σ : L2.St} {H F H1 F1 : Hp} {g : Env} {w : Wd} {p : Addr} {o : HO} {d : D} (R1 : Rel tk H0 F0 O σ H1 F1 g w) (x1 : Ex tk F H F1 H1) (hp : H1 p = none) (ro : RepO tk F1 d o) :
    Rel tk H0 F0 O σ (upd H1 p o) F1 g w ∧ Ex tk F H F1 (upd H1 p o) ∧ IsOwn tk H F1 (upd H1 p o) d (.ref p) := by
  obtain ⟨R3, x3⟩ := R1.allocO hp o
  refine ⟨R3, x1.trans x3, p, _, rfl, upd_same, R1.sub.none hp, ?_, fun z => ?_, ro⟩
  · cases hz : H p with
    | none => rfl
    | some o =>
      have npw : tk.pw ≠ some p := fun z => (R1.wat.free p z).2 hp
      exact absurd hp (x1.gr.ne hz npw)
  · exact (R1.wat.free p z).2 hp
/-! ### sorted(xs), xs a list -/
theorem sortable_of {xs : List D} (h : sortableB xs = true) : PySem.W.Sortable xs := by
  unfold sortableB at h
  rw [Bool.or_eq_true] at h
  rcases h with h | h
  · refine .inl fun d hd => ?_
    have := List.all_eq_true.mp h d hd
    cases d with
    | tuple ys =>
      cases ys with
      | nil => simp at this
      | cons y ys => exact ⟨y, ys, rfl⟩
    | _ => simp at this
  · refine .inr fun d hd => ?_
    have := List.all_eq_true.mp h d hd
    cases d <;> simp at this ⊢
def sortLD : D → Option D
  | .list xs => sortD (.list xs)
  | _ => none
theorem each_rep {Kx : PySem.W.Frag} {mx : Str → Option Value} {zf : Bool} {tk : Tk Kx mx zf} {F : Hp} : ∀ {ds : List D} {xs : List V} {us : List Value}, RepL tk F ds xs → Vals xs us → PySem.W.EachIs (fun (v : Value) (d : D) => ∃ y : V, RelV y v ∧ Rep tk F d y) us ds
  | [], [], us, _, r => by cases r; exact .nil
  | [], _ :: _, us, h, r => by simp only [RepL] at h
  | _ :: _, [], us, h, r => by simp only [RepL] at h
  | d :: ds, v :: vs, us, h, r => by
    simp only [RepL] at h
    cases r with
    | cons r1 r2 => exact .cons ⟨v, r1, h.1⟩ (each_rep h.2 r2)
theorem rep_each {Kx : PySem.W.Frag} {mx : Str → Option Value} {zf : Bool} {tk : Tk Kx mx zf} {F : Hp} {ds : List D} {us : List Value} (h : PySem.W.EachIs (fun (v : Value) (d : D) => ∃ y : V, RelV y v ∧ Rep tk F d y) us ds) : ∃ ys : List V, RepL tk F ds ys ∧ Vals ys us := by
  induction h with
  | nil => exact ⟨[], by simp only [RepL], .nil⟩
  | cons h _ ih =>
    obtain ⟨y, r, p⟩ := h
    obtain ⟨ys, q, t⟩ := ih
    exact ⟨y :: ys, by simp only [RepL]; exact ⟨p, q⟩, .cons r t⟩
def rSortD (Kx : PySem.W.Frag) (mx : Str → Option Value) (zf : Bool) : List V → Hp → VK → Prop := fun vs H Q => ∃ (tk : Tk Kx mx zf) (F : Hp) (ds : List D) (v : V), vs = [v] ∧ Sub F H ∧ RepB tk F H (.list ds) v ∧ PyData.plainAll ds = true ∧ PyData.depthAll ds ≤ 60 ∧ alikeB ds = true ∧ sortableB ds = true ∧ ds.length ≤ sizeLine ∧
  ∀ ys p, RepL tk F (ds.mergeSort (PySem.W.dataLe false id)) ys → H p = none → Q (.ref p) (upd H p (.lst ys))
theorem each_reads {h : Heap} : ∀ {us : List Value} {ds : List D} {as : List Addr}, ReadsAll h us ds as → PySem.W.EachIs (fun v b => ∃ as, Reads h v (id b) as) us ds
  | [], [], _, _ => .nil
  | [], _ :: _, _, r => by cases r
  | _ :: _, [], _, r => by cases r
  | _ :: _, _ :: _, _, r => by
    cases r with
    | cons r1 r2 => exact .cons ⟨_, r1⟩ (each_reads r2)
theorem cr_sortD (hr : Room k X.A) : CallR X (.builtin "sorted") (rSortD X.K X.mg zf) := by
  intro pins s σ H vs us Q I r h
  obtain ⟨tk, F, ds, v, rfl, sb, rb, pl, dp, hal, hso, hz, q⟩ := h
  obtain ⟨u, rfl, ru⟩ := vals1 r
  simp only [RepB] at rb
  obtain ⟨a, xs, rfl, _, hrd, rl⟩ := rb
  cases ru
  obtain ⟨its, rv, plist, _⟩ := I.list (.inl hrd)
  obtain ⟨as, ra⟩ := RepL.reads I sb ds xs its pl rl rv
  refine PySem.W.sorted_data (enc := id) plist.isList (each_rep rl rv) (each_reads ra) (by
      rw [List.map_id]
      exact fun x hx y hy => List.all_eq_true.mp (List.all_eq_true.mp hal x hx) y hy) (by rw [List.map_id]; exact sortable_of hso) hz (fun b hb => ?_) fun out ho eo => ?_
  · have := hr.un
    have hd : b.depth ≤ PyData.depthAll ds := by
      clear rl ra hal hso hz q dp pl
      induction ds with
      | nil => simp at hb
      | cons x xs ih =>
        simp only [PyData.depthAll]
        rcases List.mem_cons.mp hb with rfl | hb
        · omega
        · have := ih hb
          omega
    show X.A.units + 2 + b.depth < cLine
    omega
  · obtain ⟨ys, r1, r2⟩ := rep_each eo
    obtain ⟨ep, he'⟩ := PyProof.Rows.sortedAll_at s.heap its out.toArray
    have hlen : ys.length ≤ sizeLine := by rw [← r1.length, List.length_mergeSort]; exact hz
    exact ⟨.ref _, upd H (s.heap.objs.size + 1) (.lst ys), I.laid (t' := s.toks) (fun _ _ => PyProof.Rows.sortedAll_old) (Nat.le_succ _) ⟨hlen, out, ep, r2, he'⟩, rfl, q ys _ r1 (I.hok.fresh (Nat.le_succ _))⟩
theorem EO.sorted {O : List Nat} {a : Expr} {fa : E} {p pos : Pos} (hm : X.mg "sorted" = none) (hr : Room k X.A) (ha : EB X zf O a fa) (hg : Gl X "sorted" := by rfl) (he : starEach [a] X.env = (false, eval a X.env) :: starEach [] X.env := by rfl) (hpl : (backTo pos (starEach [] X.env)).any (·.1) = false := by rfl) :
    EO X zf O (.Call (.Name "sorted" p) [a] [] pos) (cOp1 sortLD fa) :=
  PE.imp (pe_callB (cr_sortD hr) hg hm (by decide +kernel) (EAB.cons ha EAB.nil he) (he := he) (hpl := hpl)) fun σ H Q ⟨tk, H0, F0, F, g, w, d, w', R, ef, kk⟩ => by
  obtain ⟨x, w1, e1, ef2⟩ := bnd_eq (show bnd (fa g w) _ = _ from ef)
  obtain ⟨e4, e5⟩ := lft_eq ef2
  have e5 : w1 = w' := e5
  subst e5
  refine ⟨tk, H0, F0, F, g, w, [x], w1, R, by simp [cArgs, e1], fun vs H1 F1 R1 x1 r1 => ?_⟩
  match vs, r1 with
  | [], r1 => simp only [RepBL] at r1
  | _ :: _ :: _, r1 => simp only [RepBL] at r1; exact r1.2.elim
  | [v], r1 =>
    simp only [RepBL] at r1
    obtain ⟨ds, rfl⟩ : ∃ ds, x = .list ds := by
      clear ef ef2 kk r1 e1
      revert e4
      cases x <;> intro e4 <;> simp only [sortLD] at e4
      all_goals first | (cases e4; done) | exact ⟨_, rfl⟩
    have e4 : sortD (.list ds) = some d := e4
    unfold sortD at e4
    dsimp only [itemsD] at e4
    by_cases hc : (PyData.plain (.list ds) && alikeB ds && sortableB ds && lowD (.list ds) && decide (ds.length ≤ sizeLine)) = true
    case neg => rw [if_neg hc] at e4; cases e4
    rw [if_pos hc] at e4
    have hd := (Option.some.inj e4).symm
    subst hd
    simp only [Bool.and_eq_true, decide_eq_true_eq] at hc
    obtain ⟨⟨⟨⟨c1, c2⟩, c3⟩, c4⟩, c5⟩ := hc
    have c4 : (PyData.list ds).depth ≤ 60 := by simpa [lowD] using c4
    simp only [PyData.depth] at c4
    refine ⟨tk, F1, ds, v, rfl, R1.sub, r1.1, by simpa only [PyData.plain] using c1, by omega, c2, c3, c5, fun ys p rl hp => ?_⟩
    obtain ⟨R3, x3, io⟩ := own_new (d := .list (ds.mergeSort (PySem.W.dataLe false id))) (o := .lst ys) R1 x1 hp (by simp only [RepO]; exact rl)
    exact kk _ _ _ R3 x3 io
end
end Q

set_option Elab.async false
set_option linter.all false
set_option autoImplicit false
set_option maxRecDepth 100000
/-! QS14: a.index(b), a.count(b) of lists and tuples. -/
namespace Q
open PySem PySem.Spec PyProof.Rows L2
section
variable {X : Cx} {k : Nat} {pins : List (Addr × Obj)} {σ : L2.St} {s : Shared} {H F : Hp} {tk : Tk X.K X.mg true}
/-- the object behind a list or a tuple: its type, no dict of its own -/
theorem seq_obj (I : Inv X pins σ H s) (sb : Sub F H) {d : D} {ds : List D} {v : V} {u : Value} (hd : itemsD d = some ds) (rb : RepB tk F H d v) (ru : RelV v u) :
    ∃ a xs its, u = .ref a ∧ RepL tk F ds xs ∧ Vals xs its ∧ xs.length ≤ sizeLine ∧ (∀ a', u = .ref a' → ∃ ob, s.heap.get? a' = some ob ∧ ob.dict = none) ∧ ((s.TypeIs u "list" ∧ s.heap.IsList a its.toArray) ∨ (s.TypeIs u "tuple" ∧ s.heap.IsTuple a its.toArray)) := by
  cases d <;> simp only [itemsD] at hd <;> first | cases hd | skip
  · simp only [RepB] at rb
    obtain ⟨a, xs, rfl, _, hr, l⟩ := rb
    cases ru
    obtain ⟨its, rv, pl, z⟩ := I.list (.inl hr)
    refine ⟨a, xs, its, rfl, l, rv, z, fun a' e => ?_, .inl ⟨pl.isList.typeIs, pl.isList⟩⟩
    cases e
    obtain ⟨o, n, e, c, hd, _⟩ := pl
    exact ⟨o, e, hd⟩
  · simp only [RepB, Rep] at rb
    obtain ⟨a, xs, rfl, hr, l⟩ := rb
    cases ru
    have ht := sb.tup hr
    obtain ⟨its, rv, pl, z⟩ := I.tuple ht.sq
    refine ⟨a, xs, its, rfl, l, rv, z, fun a' e => ?_, .inr ⟨?_, pl⟩⟩
    · cases e
      obtain ⟨ob, h1, h2⟩ := ht
      have h3 := I.hok a _ h1
      exact ⟨ob, h3.1, h2⟩
    · obtain ⟨o, h1, h2, _⟩ := pl
      exact ⟨o, h1, h2⟩
theorem eqv_places {ds : List D} {its : List Value} {as : List Addr} {x : Value} {d : D} {bs : List Addr} (ra : ReadsAll s.heap its ds as) (rx : Reads s.heap x d bs) (hp : PyData.plainAll ds = true) (hd : d.plain = true) (hu : X.A.units + 1 + min (PyData.depthAll ds) d.depth < cLine) :
    its.length = ds.length ∧ ∀ j (hj : j < its.toArray.size), SeqAt.EqAt X.A.in1 s its.toArray[j] x (PyData.eqv (ds.getD j .none) d) := by
  have hl : its.length = ds.length := SeqAt.len_at (vs := its.toArray) (by simpa using ra)
  refine ⟨hl, fun j hj => ?_⟩
  have h1 := SeqAt.items_plain (A := X.A) (vs := its.toArray) (by simpa using ra) rx hp hd hu _ (Array.getElem_mem hj)
  obtain ⟨h2, h3⟩ := SeqAt.readOf_at (vs := its.toArray) (by simpa using ra) hp j hj
  rw [h3] at h1
  simpa [List.getD_eq_getElem?_getD, List.getElem?_eq_getElem h2] using h1
end
section
variable {X : Cx} {k : Nat}
theorem find_eqv {ds : List D} {d : D} {j : Nat} (h : ds.findIdx? (fun y => PyData.eqv y d) = some j) : j < ds.length ∧ PyData.eqv (ds.getD j .none) d = true ∧ ∀ m, m < j → PyData.eqv (ds.getD m .none) d = false := by
  obtain ⟨h1, h2, h3⟩ := List.findIdx?_eq_some_iff_getElem.mp h
  refine ⟨h1, by simpa [List.getD_eq_getElem?_getD, List.getElem?_eq_getElem h1] using h2, fun m hm => ?_⟩
  have := h3 m hm
  have hml : m < ds.length := by omega
  simpa [List.getD_eq_getElem?_getD, List.getElem?_eq_getElem hml] using this
/-- the call o.m(b) of a built-in method, o at hand -/
theorem bm_run {O : List Nat} {b : Expr} {fb : E} {T name : Str} {id : String} {cpos : Pos} : True := trivial
theorem ev_seqM {O : List Nat} {a b : Expr} {fa fb : E} {name : Str} {il it : String} {f : D → D → Option D} {apos cpos : Pos}
    (sl : Slot "list" name il) (st : Slot "tuple" name it) (tl : typeOf (.builtin il) = pure (.type "method_descriptor")) (tt : typeOf (.builtin it) = pure (.type "method_descriptor"))
    (hf : ∀ x y d, f x y = some d → ∃ ds, itemsD x = some ds ∧ PyData.plainAll ds = true)
    (run : ∀ (pins : List (Addr × Obj)) (σ : L2.St) (s : Shared) (H F : Hp) (tk : Tk X.K X.mg true) (x y d : D) (ds : List D) (a : Addr) (its : List Value) (u : Value) (vy : V) (Q : VK) (as : List Addr), f x y = some d → itemsD x = some ds → Inv X pins σ H s → Sub F H → PyData.plainAll ds = true → ReadsAll s.heap its ds as → its.length ≤ sizeLine → RepB tk F H y vy → RelV vy u →
      (∀ v, Rep tk F d v → Q v H) →
      (s.heap.IsList a its.toArray → wpAny (model X.prog X.w) X.A (call (.builtin il) [.ref a, u]) (EP X pins σ Q) X.xe s) ∧ (s.heap.IsTuple a its.toArray → wpAny (model X.prog X.w) X.A (call (.builtin it) [.ref a, u]) (EP X pins σ Q) X.xe s))
    (ha : EB X true O a fa) (hb : EB X true O b fb)
    (hbase : attributeBase a name X.env (eval a X.env) = eval a X.env := by rfl)
    (hfew : ((backTo cpos (starEach [b] X.env)).all (fun x => !x.1) && (backToKw cpos (keywordEach [] X.env)).all (fun x => x.1.isSome)
      && decide (([b] : List Expr).length + ([] : List Keyword).length + (if ([] : List Keyword).isEmpty then 0 else 1) < 30)) = true := by rfl)
    (hline : (apos.endLine == cpos.line) = true := by rfl) (hs : starEach [b] X.env = (false, eval b X.env) :: starEach [] X.env := by rfl) (hplain : (backTo cpos (starEach [] X.env)).any (·.1) = false := by rfl) :
    EV X true O (.Call (.Attribute a name apos) [b] [] cpos) (cOp2 f fa fb) := by
  refine ⟨fun pins s σ H Q I ⟨tk, H0, F0, F, g, w, d, w', R, ef, k⟩ => ?_⟩
  obtain ⟨x, w1, e1, ef⟩ := bnd_eq (show bnd (fa g w) _ = _ from ef)
  obtain ⟨y, w2, e2, ef⟩ := bnd_eq ef
  obtain ⟨e3, e4⟩ := lft_eq ef
  have e4 : w2 = w' := e4
  subst e4
  have e3 : f x y = some d := e3
  obtain ⟨ds, hds, hp⟩ := hf x y d e3
  have hA := fun (s1 : Shared) (H1 F1 : Hp) (I1 : Inv X pins σ H1 s1) (R1 : Rel tk H0 F0 O σ H1 F1 g w1) => (EAB.cons hb EAB.nil hs).run cpos pins s1 σ H1 (fun vs H2 => ∃ F2, Rel tk H0 F0 O σ H2 F2 g w2 ∧ Ex tk F1 H1 F2 H2 ∧ RepBL tk F2 H2 [y] vs) I1 ⟨tk, H0, F0, F1, g, w1, [y], w2, R1, by simp [cArgs, e2], fun vs H2 F2 R2 x2 r2 => ⟨F2, R2, x2, r2⟩⟩
  refine wpAny_Call_method_late hbase hfew hline rfl (thn (ha.run pins s σ H (fun v H1 => ∃ F1, Rel tk H0 F0 O σ H1 F1 g w1 ∧ Ex tk F H F1 H1 ∧ RepB tk F1 H1 x v) I ⟨tk, H0, F0, F, g, w, x, w1, R, e1, fun v H1 F1 R1 x1 r1 => ⟨F1, R1, x1, r1⟩⟩) fun v s1 ⟨vx, H1, I1, r1, F1, R1, x1, rb⟩ => ?_)
  obtain ⟨a1, xs, its, rfl, _, _, _, hob, _⟩ := seq_obj I1 R1.sub hds rb r1
  have hA := hA s1 H1 F1 I1 R1
  cases x <;> simp only [itemsD] at hds <;> first | cases hds | skip
  · have t1 : s1.TypeIs (.ref a1) "list" := by
      simp only [RepB] at rb
      obtain ⟨a, xs, e, _, hr, l⟩ := rb
      subst e
      cases r1
      obtain ⟨_, _, pl, _⟩ := I1.list (.inl hr)
      exact pl.isList.typeIs
    refine ⟨"list", il, PySem.F.plainAttrs_list, sl, tl, t1, hob, ?_⟩
    rw [hs] at hA ⊢
    refine Calls.callWith_builtin (by show (false || (backTo cpos (starEach [] X.env)).any (·.1)) = false; rw [hplain] <;> rfl) (Calls.evalArgs_plain ?_)
    refine thn hA fun us s2 ⟨vs, H2, I2, r2, F2, R2, x2, rb2⟩ => ?_
    match vs, rb2 with
    | [], rb2 => simp only [RepBL] at rb2
    | _ :: _ :: _, rb2 => simp only [RepBL] at rb2; exact rb2.2.elim
    | [vy], rb2 =>
    simp only [RepBL] at rb2
    replace rb2 := rb2.1
    obtain ⟨u, rfl, r2v⟩ := r2.one
    have rbx := rb.ex x2
    simp only [RepB] at rbx
    obtain ⟨a, xs2, e, _, hr, l⟩ := rbx
    subst e
    cases r1
    obtain ⟨its2, rv2, pl, z2⟩ := I2.list (.inl hr)
    obtain ⟨as, ra⟩ := RepL.reads I2 R2.sub ds xs2 its2 hp l rv2
    exact (run pins σ s2 H2 F2 tk (.list ds) y d ds _ its2 u vy Q as e3 rfl I2 R2.sub hp ra (by rw [← rv2.length]; exact z2) rb2 r2v fun v rv => k v H2 F2 R2 (x1.trans x2) rv).1 pl.isList
  · have t1 : s1.TypeIs (.ref a1) "tuple" := by
      simp only [RepB, Rep] at rb
      obtain ⟨a, xs, e, hr, l⟩ := rb
      subst e
      cases r1
      obtain ⟨_, _, ⟨o, h1, h2, _⟩, _⟩ := I1.tuple (R1.sub.tup hr).sq
      exact ⟨o, h1, h2⟩
    refine ⟨"tuple", it, PySem.F.plainAttrs_tuple, st, tt, t1, hob, ?_⟩
    rw [hs] at hA ⊢
    refine Calls.callWith_builtin (by show (false || (backTo cpos (starEach [] X.env)).any (·.1)) = false; rw [hplain] <;> rfl) (Calls.evalArgs_plain ?_)
    refine thn hA fun us s2 ⟨vs, H2, I2, r2, F2, R2, x2, rb2⟩ => ?_
    match vs, rb2 with
    | [], rb2 => simp only [RepBL] at rb2
    | _ :: _ :: _, rb2 => simp only [RepBL] at rb2; exact rb2.2.elim
    | [vy], rb2 =>
    simp only [RepBL] at rb2
    replace rb2 := rb2.1
    obtain ⟨u, rfl, r2v⟩ := r2.one
    have rbx := rb.ex x2
    simp only [RepB, Rep] at rbx
    obtain ⟨a, xs2, e, hr, l⟩ := rbx
    subst e
    cases r1
    obtain ⟨its2, rv2, pl, z2⟩ := I2.tuple (R2.sub.tup hr).sq
    obtain ⟨as, ra⟩ := RepL.reads I2 R2.sub ds xs2 its2 hp l rv2
    exact (run pins σ s2 H2 F2 tk (.tuple ds) y d ds _ its2 u vy Q as e3 rfl I2 R2.sub hp ra (by rw [← rv2.length]; exact z2) rb2 r2v fun v rv => k v H2 F2 R2 (x1.trans x2) rv).2 pl
theorem depth_ds {c : D} {ds : List D} (hi : itemsD c = some ds) (h : lowD c = true) : PyData.depthAll ds ≤ 60 := depth_items hi (by simpa [lowD] using h)
theorem EV.index {O : List Nat} {a b : Expr} {fa fb : E} {apos cpos : Pos} (hr : Room k X.A) (ha : EB X true O a fa) (hb : EB X true O b fb)
    (hbase : attributeBase a "index" X.env (eval a X.env) = eval a X.env := by rfl)
    (hfew : ((backTo cpos (starEach [b] X.env)).all (fun x => !x.1) && (backToKw cpos (keywordEach [] X.env)).all (fun x => x.1.isSome)
      && decide (([b] : List Expr).length + ([] : List Keyword).length + (if ([] : List Keyword).isEmpty then 0 else 1) < 30)) = true := by rfl)
    (hline : (apos.endLine == cpos.line) = true := by rfl) (hs : starEach [b] X.env = (false, eval b X.env) :: starEach [] X.env := by rfl) (hplain : (backTo cpos (starEach [] X.env)).any (·.1) = false := by rfl) :
    EV X true O (.Call (.Attribute a "index" apos) [b] [] cpos) (cOp2 indexD fa fb) := by
  refine ev_seqM PySem.F.slot_list_index PySem.F.slot_tuple_index PySem.F.type_list_index PySem.F.type_tuple_index (fun x y d e => ?_) (fun pins σ s H F tk x y d ds a its u vy Q as e hi I sb hp ra hz rb ru q => ?_) ha hb hbase hfew hline hs hplain
  · simp only [indexD] at e
    split at e <;> first | cases e | skip
    rename_i ys hys
    split at e <;> first | cases e | skip
    rename_i h
    simp only [Bool.and_eq_true] at h
    exact ⟨ys, hys, h.1.1.1⟩
  · simp only [indexD, hi] at e
    split at e <;> first | cases e | skip
    rename_i h
    simp only [Bool.and_eq_true] at h
    obtain ⟨j, hj, rfl⟩ := Option.map_eq_some_iff.mp e
    obtain ⟨bs, rx⟩ := RepB.reads I sb h.1.1.2 rb ru
    have := hr.un
    have hdp := depth_ds hi h.2
    obtain ⟨hl, he⟩ := eqv_places (X := X) ra rx hp h.1.1.2 (by omega)
    obtain ⟨h1, h2, h3⟩ := find_eqv hj
    have hsl := sizeLine_eq
    have hj' : j < its.toArray.size := by simp; omega
    constructor
    · rintro ⟨⟨cls, dd, data, sls⟩, ho, hc, n, hd⟩
      simp only at hc hd
      subst hc hd
      exact call_meets PySem.F.slot_list_index ⟨_, ho, rfl⟩ PySem.F.entry_list_index (PySem.F.args_list_index_2 _ _)
        (SeqAt.list_index2_found a its.toArray n dd sls u (fun j => PyData.eqv (ds.getD j .none) y) j hj' (by omega) (by omega) h2 fun m _ _ hm => h3 m hm) ⟨ho, he, ⟨.int (j : Nat), H, I.tok _, ⟨_, rfl⟩, q _ (by simp only [Rep])⟩⟩
    · rintro ⟨⟨cls, dd, data, sls⟩, ho, hc, n, hd⟩
      simp only at hc hd
      subst hc hd
      exact call_meets PySem.F.slot_tuple_index ⟨_, ho, rfl⟩ PySem.F.entry_tuple_index (PySem.F.args_tuple_index_2 _ _)
        (SeqAt.tuple_index2_found a its.toArray n dd sls u (fun j => PyData.eqv (ds.getD j .none) y) j hj' (by omega) hj' h2 fun m _ _ hm => h3 m hm) ⟨ho, he, ⟨.int (j : Nat), H, I.tok _, ⟨_, rfl⟩, q _ (by simp only [Rep])⟩⟩
theorem EV.count {O : List Nat} {a b : Expr} {fa fb : E} {apos cpos : Pos} (hr : Room k X.A) (ha : EB X true O a fa) (hb : EB X true O b fb)
    (hbase : attributeBase a "count" X.env (eval a X.env) = eval a X.env := by rfl)
    (hfew : ((backTo cpos (starEach [b] X.env)).all (fun x => !x.1) && (backToKw cpos (keywordEach [] X.env)).all (fun x => x.1.isSome)
      && decide (([b] : List Expr).length + ([] : List Keyword).length + (if ([] : List Keyword).isEmpty then 0 else 1) < 30)) = true := by rfl)
    (hline : (apos.endLine == cpos.line) = true := by rfl) (hs : starEach [b] X.env = (false, eval b X.env) :: starEach [] X.env := by rfl) (hplain : (backTo cpos (starEach [] X.env)).any (·.1) = false := by rfl) :
    EV X true O (.Call (.Attribute a "count" apos) [b] [] cpos) (cOp2 countD fa fb) := by
  refine ev_seqM PySem.F.slot_list_count PySem.F.slot_tuple_count PySem.F.type_list_count PySem.F.type_tuple_count (fun x y d e => ?_) (fun pins σ s H F tk x y d ds a its u vy Q as e hi I sb hp ra hz rb ru q => ?_) ha hb hbase hfew hline hs hplain
  · simp only [countD] at e
    split at e <;> first | cases e | skip
    rename_i ys hys
    split at e <;> first | cases e | skip
    rename_i h
    simp only [Bool.and_eq_true] at h
    exact ⟨ys, hys, h.1.1.1⟩
  · simp only [countD, hi] at e
    split at e <;> first | (cases e; done) | skip
    rename_i h
    simp only [Bool.and_eq_true] at h
    have hd := Option.some.inj e
    subst hd
    obtain ⟨bs, rx⟩ := RepB.reads I sb h.1.1.2 rb ru
    have := hr.un
    have hdp := depth_ds hi h.2
    have q := q (.int (ds.countP fun z => PyData.eqv z y : Nat)) (by simp only [Rep])
    exact ⟨fun hl => SeqAt.count_list_data hl (by simpa using ra) rx hp h.1.1.2 (by omega) ⟨.int _, H, I.tok _, ⟨_, rfl⟩, q⟩, fun hl => SeqAt.count_tuple_data hl (by simpa using ra) rx hp h.1.1.2 (by omega) ⟨.int _, H, I.tok _, ⟨_, rfl⟩, q⟩⟩
end
end Q

set_option Elab.async false
set_option linter.all false
set_option autoImplicit false
set_option maxRecDepth 100000
/-! QS15: sorted(set(xs)) of ints. -/
namespace Q
open PySem PySem.Spec PyProof.Rows L2
/-- a fresh set -/
abbrev emS (w : World) : Obj := { cls := .type "set", dict := none, data := .set #[] 0 (.fresh 0 0 (!w.params.followText "set-order")) }
section
variable {P : Program} {w : World} {A : Around} {E : Value → Shared → Prop} {s : Shared}
set_option maxHeartbeats 3200000 in
theorem set_of_ints {l : Addr} {its : Array Value} (ns : List Int) {Q : Value → Shared → Prop} (hh : A.handled = none) (hl : s.heap.IsList l its) (hit : IntsAre its.toList ns) (hb : ns.length + 1 < scanBound)
    (fin : ∀ (h' : Heap) (tk c : Nat), SetR w h' s.heap.objs.size (fun j => decide (j ∈ ns)) c → c ≤ ns.length → (∀ b o, s.heap.get? b = some o → h'.get? b = some o) → Q (.ref s.heap.objs.size) { s with heap := h', toks := tk }) :
    wpAny (model P w) A (call (.type "set") [.ref l]) Q E s := by
  have hz : its.size = ns.length := (Array.length_toList (xs := its)).symm.trans (IntsAre.length hit)
  obtain ⟨c, tl, hmro⟩ := F.called_set.mro; have hmade := F.called_set.made; have hsub := F.called_set.sub
  refine wpAny_call (codeAny_of_tree ?_); show wpAny _ _ (callAny (.type "set") _) _ _ _
  refine wpAny_pure ⟨Code.quiet_builtin _ (by decide +kernel), codeAny_builtin F.entry_type_call ?_⟩; rw [Around.under_plain (weight_type_call_type "set" [.ref l] []) rfl]
  have h1 := F.called_set.notType; have h2 := F.called_set.canCreate; have hct := F.typeCall_set_1 (.ref l)
  repeat (any_goals first | assumption | wp_step)
  refine codeAny_mono (code_set_led1 (w := w) (.ref l) (E := E) (Q₁ := fun obj s₁ => obj = .ref s.heap.objs.size ∧ s₁ = { s with heap := s.heap.push (emS w) }) ⟨rfl, rfl⟩) fun r s₁ hr => ?_
  match r, hr with
  | .error e, hr => exact hr
  | .ok (.ret obj), hr =>
    obtain ⟨rfl, rfl⟩ := hr
    have hS : (s.heap.push (emS w)).get? s.heap.objs.size = some (emS w) := Heap.get?_push_size _ rfl
    have hT : Shared.TypeIs { s with heap := s.heap.push (emS w) } (.ref s.heap.objs.size) "set" := ⟨_, hS, rfl⟩
    have hli := F.called_set.init.lookup; have hbi := F.called_set.init.bind (.ref s.heap.objs.size)
    repeat (any_goals first | assumption | wp_step)
    refine codeAny_mono (codeAny_call_builtin (R := wants (fun r s₂ => r = .none ∧ ∃ h' tk c, s₂ = { s with heap := h', toks := tk } ∧ SetR w h' s.heap.objs.size (fun j => decide (j ∈ ns)) c ∧ c ≤ ns.length ∧ (∀ b o, s.heap.get? b = some o → h'.get? b = some o)) E) F.called_set.init.plain F.entry_set_init (check_set_init_1 hT ?_)) fun r₂ s₂ hr₂ => ?_
    · obtain ⟨⟨ocls, odict, odata, oslots⟩, hol, hcl, nl, hdl⟩ := hl
      simp only at hcl hdl
      subst hcl hdl
      have hol' : (s.heap.push (emS w)).get? l = some { cls := .type "list", dict := odict, data := .seq its nl, slots := oslots } := Heap.get?_push_of_some _ hol
      have hsls := F.sub_list_set; have hslf := F.sub_list_frozenset; have hne : (Value.type "list" == Value.type "dict") = false := by decide
      have hl1 : (s.heap.push (emS w)).IsList l its := ⟨_, hol', rfl, nl, rfl⟩
      unfold Builtin.«set.__init__» noKeywords Builtin.Frozenset.updateFrom
      generalize hPI : pyIter = PI
      wp_walk
      subst hPI
      refine wpAny_pyIter_list hl1 ?_; refine wpAny_bind (wpAny_runValue ?_)
      have hlS : l < s.heap.objs.size := Heap.lt_size hol
      have hh3 : A.in1.in1.in1.handled = none := by simp [hh]
      have sz : (s.heap.push (emS w)).objs.size = s.heap.objs.size + 1 := Heap.size_push ..
      have hneI : l ≠ (s.heap.push (emS w)).objs.size := by rw [sz]; exact Nat.ne_of_lt (Nat.lt_succ_of_lt hlS)
      have hSf : s.heap.objs.size ∉ [(s.heap.push (emS w)).objs.size, l] := by
        rw [sz]; simp only [List.mem_cons, List.not_mem_nil, or_false, not_or]
        exact ⟨Nat.ne_of_lt (Nat.lt_succ_self _), Nat.ne_of_gt hlS⟩
      have hval : ∀ (i : Nat) (v : Value), its[i]? = some v → ∃ k t, ns[i]? = some k ∧ v = .int k t := fun i v hv => by
        have hi : i < ns.length := hz ▸ (Array.getElem?_eq_some_iff.mp hv).1
        obtain ⟨t, e⟩ := PyProof.Rows.IntsAre.int_at hit i v (by rw [Array.getElem?_toList]; exact hv)
        exact ⟨ns[i], t, List.getElem?_eq_getElem hi, by rw [e, List.getD_eq_getElem?_getD, List.getElem?_eq_getElem hi]; rfl⟩
      refine set_update_ints ((Walks.list hh3 _ l hneI its).toS) s.heap.objs.size hSf ns hz hb hval (its.size - 0) 0 _ (by omega) (Nat.zero_le _) ⟨⟨_, Heap.get?_push_size _ rfl, rfl, rfl⟩, (hl1.push _)⟩ ⟨0, Nat.le_refl 0, setR_new_at (Heap.get?_push_of_some _ hS)⟩ fun s' c' hm hc' hS' => ?_
      obtain ⟨h', g2, d', tk', os'⟩ := s'
      obtain rfl : g2 = s.gens := hm.gens
      obtain rfl : d' = s.drawn := hm.drawn
      obtain rfl : os' = s.os := hm.os
      show wpAny _ _ _ _ _ _
      refine wpAny_pure ?_; show wpAny _ _ (ret Value.none) _ _ _; rw [hz] at hc'
      refine wpAny_pure ⟨rfl, h', tk', c', rfl, hS', hc', fun b o e => ?_⟩
      have hb0 : b < s.heap.objs.size := Heap.lt_size e
      refine hm.heap b o ?_ (Heap.get?_push_of_some _ (Heap.get?_push_of_some _ e))
      simp only [List.mem_cons, List.not_mem_nil, or_false, not_or]
      exact ⟨Nat.ne_of_lt hb0, by rw [sz]; exact Nat.ne_of_lt (Nat.lt_succ_of_lt hb0)⟩
    · match r₂, hr₂ with
      | .error e, hr₂ => exact hr₂
      | .ok (.ret r), hr₂ =>
        obtain ⟨rfl, h', tk, c', rfl, hS', hc', hk'⟩ := hr₂
        repeat (any_goals first | assumption | wp_step)
        exact fin _ _ _ hS' hc' hk'
end
end Q

set_option Elab.async false
set_option linter.all false
set_option autoImplicit false
set_option maxRecDepth 100000
/-! QS15: sorted(set(xs)) of ints. -/
namespace Q
open PySem PySem.Spec PyProof.Rows L2
/-- the different ints, in order -/
def sortSetI (ns : List Int) : List Int := (dedupI ns).mergeSort fun a b => decide (a ≤ b)
theorem mem_step (acc : List Int) (x k : Int) : k ∈ step_dedup acc x ↔ k ∈ acc ∨ k = x := by
  unfold step_dedup
  split
  · rename_i h
    constructor
    · exact .inl
    · rintro (h1 | rfl)
      · exact h1
      · simpa using h
  · simp
theorem mem_dedupF : ∀ (ns acc : List Int) (k : Int), k ∈ ns.foldl step_dedup acc ↔ k ∈ acc ∨ k ∈ ns
  | [], acc, k => by simp
  | x :: ns, acc, k => by
    rw [List.foldl_cons, mem_dedupF ns, mem_step, List.mem_cons, or_assoc]
theorem mem_dedupI (ns : List Int) (k : Int) : k ∈ dedupI ns ↔ k ∈ ns := by unfold dedupI; rw [mem_dedupF]; simp
theorem nodup_dedupF : ∀ (ns acc : List Int), acc.Nodup → (ns.foldl step_dedup acc).Nodup
  | [], acc, h => h
  | x :: ns, acc, h => by
    rw [List.foldl_cons]
    refine nodup_dedupF ns _ ?_
    unfold step_dedup
    split
    · exact h
    · rename_i hx
      exact List.nodup_append.mpr ⟨h, by simp, fun a ha b hb => by
        simp at hb
        subst hb
        exact fun z => hx (by simpa using z ▸ ha)⟩
theorem nodup_dedupI (ns : List Int) : (dedupI ns).Nodup := nodup_dedupF ns [] (by simp)
theorem mem_sortSetI (ns : List Int) (k : Int) : k ∈ sortSetI ns ↔ k ∈ ns := by
  unfold sortSetI
  rw [List.mem_mergeSort]
  exact mem_dedupI ns k
theorem sorted_sortSetI (ns : List Int) : (sortSetI ns).Pairwise (· < ·) := by
  have h1 : (sortSetI ns).Pairwise fun a b => decide (a ≤ b) = true := List.pairwise_mergeSort (fun a b c h k => by simp at *; omega) (fun a b => by simp; omega) _
  have h2 : (sortSetI ns).Nodup := (List.mergeSort_perm _ _).nodup_iff.mpr (nodup_dedupI ns)
  refine (h1.and h2).imp ?_
  rintro a b ⟨h, k⟩
  have : a ≠ b := k
  simp at h
  omega
theorem strict_eq : ∀ {a b : List Int}, a.Pairwise (· < ·) → b.Pairwise (· < ·) → (∀ k, k ∈ a ↔ k ∈ b) → a = b
  | [], [], _, _, _ => rfl
  | [], y :: ys, _, _, h => by have := (h y).mpr (by simp); simp at this
  | x :: xs, [], _, _, h => by have := (h x).mp (by simp); simp at this
  | x :: xs, y :: ys, ha, hb, h => by
    obtain ⟨a1, a2⟩ := List.pairwise_cons.mp ha
    obtain ⟨b1, b2⟩ := List.pairwise_cons.mp hb
    have exy : x = y := by
      rcases List.mem_cons.mp ((h x).mp (by simp)) with q | q
      · exact q
      · rcases List.mem_cons.mp ((h y).mpr (by simp)) with p | p
        · exact p.symm
        · have := b1 x q
          have := a1 y p
          omega
    subst exy
    rw [strict_eq a2 b2 fun k => ?_]
    constructor
    · intro hk
      rcases List.mem_cons.mp ((h k).mp (List.mem_cons_of_mem _ hk)) with q | q
      · have := a1 k hk; omega
      · exact q
    · intro hk
      rcases List.mem_cons.mp ((h k).mpr (List.mem_cons_of_mem _ hk)) with q | q
      · have := b1 k hk; omega
      · exact q
def sortSetD : D → Option D
  | .list ds => (intsOf ds).bind fun ns => if ns.length < 60 then some (.list ((sortSetI ns).map .int)) else none
  | .tuple ds => (intsOf ds).bind fun ns => if ns.length < 60 then some (.list ((sortSetI ns).map .int)) else none
  | _ => none
theorem repL_ints {Kx : PySem.W.Frag} {mx : Str → Option Value} {zf : Bool} {tk : Tk Kx mx zf} {F : Hp} : ∀ (l : List Int), RepL tk F (l.map PyData.int) (l.map V.int)
  | [] => by simp only [List.map_nil, RepL]
  | x :: l => by simp only [List.map_cons, RepL, Rep]; exact ⟨trivial, repL_ints l⟩
section
variable {X : Cx} {zf : Bool} {O : List Nat}
theorem EO.sortSet {a : Expr} {fa : E} {p p2 q pos : Pos} (hr : ∃ k, Room k X.A) (hm : X.mg "sorted" = none) (hm2 : X.mg "set" = none) (ha : EB X zf O a fa) (hg : Gl X "sorted" := by rfl) (hg2 : Gl X "set" := by rfl)
    (na : starEach [a] X.env = (false, eval a X.env) :: starEach [] X.env := by rfl) : EO X zf O (.Call (.Name "sorted" p) [.Call (.Name "set" p2) [a] [] q] [] pos) (cOp1 sortSetD fa) := by
  obtain ⟨k, hr⟩ := hr
  refine ⟨fun pins s σ H Q I ⟨tk, H0, F0, F, g, w, d, w', R, ef, kk⟩ => ?_⟩
  obtain ⟨x, w1, e1, ef⟩ := bnd_eq (show bnd (fa g w) _ = _ from ef)
  obtain ⟨e4, e5⟩ := lft_eq ef
  have e5 : w1 = w' := e5
  subst e5
  refine Call_ (ld_blt I hg hm (show bootBuiltins "sorted" = some (.builtin "sorted") from by decide +kernel) ?_)
  refine PyProof.Rows.callWith_builtin1 (PyProof.Rows.args_cons ?_ rfl) rfl rfl
  refine Call_ (ld_blt I hg2 hm2 PyProof.Rows.boot_set ?_)
  refine PyProof.Rows.callWith_type1 (PyProof.Rows.args_cons (thn (ha.run pins s σ H (fun v H1 => ∃ (l : Addr) (ns : List Int) (F1 : Hp), v = V.ref l ∧ (SqL X.K H1 l (ns.map V.int) ∨ SqT X.K H1 l (ns.map V.int)) ∧ ns.length < 60 ∧ d = .list ((sortSetI ns).map .int) ∧ Rel tk H0 F0 O σ H1 F1 g w1 ∧ Ex tk F H F1 H1) I ⟨tk, H0, F0, F, g, w, x, w1, R, e1, fun v H1 F1 R1 x1 r1 => ?_⟩) fun v s1 ⟨x, H1, I1, r1, q1⟩ => PyProof.Rows.args_nil ?_) na) na rfl
  · have e4 : sortSetD x = some d := e4
    cases x <;> simp only [sortSetD] at e4 <;> first | (cases e4; done) | skip
    · rename_i ds
      obtain ⟨ns, h1, h2⟩ := Option.bind_eq_some_iff.mp e4
      by_cases hz : ns.length < 60
      case neg => rw [if_neg hz] at h2; cases h2
      rw [if_pos hz] at h2
      have hd := (Option.some.inj h2).symm
      simp only [RepB] at r1
      obtain ⟨l, xs, rfl, _, hr1, rl⟩ := r1
      have := ints_rep h1 rl
      subst this
      exact ⟨l, ns, F1, rfl, .inl (.inl hr1), hz, hd, R1, x1⟩
    · rename_i ds
      obtain ⟨ns, h1, h2⟩ := Option.bind_eq_some_iff.mp e4
      by_cases hz : ns.length < 60
      case neg => rw [if_neg hz] at h2; cases h2
      rw [if_pos hz] at h2
      have hd := (Option.some.inj h2).symm
      simp only [RepB, Rep] at r1
      obtain ⟨l, xs, rfl, hr1, rl⟩ := r1
      have := ints_rep h1 rl
      subst this
      exact ⟨l, ns, F1, rfl, .inr (R1.sub.tup hr1).sq, hz, hd, R1, x1⟩
  · obtain ⟨l, ns, F1, rfl, hq, hz, rfl, R1, x1⟩ := q1
    cases r1
    have hb : ns.length + 1 < scanBound := by unfold scanBound; omega
    have step : ∀ (h' : Heap) (tk2 c : Nat), SetR X.w h' s1.heap.objs.size (fun j => decide (j ∈ ns)) c → c ≤ ns.length → (∀ b o, s1.heap.get? b = some o → h'.get? b = some o) → wpAny (model X.prog X.w) X.A (call (.builtin "sorted") [.ref s1.heap.objs.size]) (EP X pins σ Q) X.xe { s1 with heap := h', toks := tk2 } := fun h' tk2 c hS hc hk => by
      have I2 : Inv X pins σ H1 { s1 with heap := h', toks := tk2 } := I1.kept hk
      have hS2 : SetR X.w ({ s1 with heap := h', toks := tk2 } : Shared).heap s1.heap.objs.size (fun j => decide (j ∈ ns)) c := hS
      refine L2.sorted_set hS2 hr.hd (by omega) fun s' p out cc ms ks gs os hp hg2 hi hs hmm hl => ?_
      have hms : ms = sortSetI ns := strict_eq hs (sorted_sortSetI ns) fun k => by rw [hmm, mem_sortSetI]; simp
      subst hms
      have hlen : ((sortSetI ns).map V.int).length ≤ sizeLine := by rw [List.length_map, hl, sizeLine_eq]; omega
      have hn : H1 p = none := I2.hok.fresh hp
      have ks' : ∀ b o, s1.heap.get? b = some o → s'.heap.get? b = some o := fun b o e => ks b o (hk b o e)
      have hp' : s1.heap.objs.size ≤ p := Nat.le_trans (Nat.le_of_lt hS.lt) hp
      have J : Inv X pins σ (upd H1 p (.lst ((sortSetI ns).map V.int))) { s1 with heap := s'.heap, gens := s'.gens, drawn := s'.drawn, toks := s'.toks } :=
        I1.call (ch := []) (Un.laid ks' hp' hn) (I1.hok.laid ks' hp' ⟨hlen, out.toList, cc, vals_of_ints hi, hg2⟩) (by rw [gs]; exact I1.bare) (fun _ z => nomatch z)
      obtain ⟨R3, x3, io⟩ := own_new (d := .list ((sortSetI ns).map .int)) (o := .lst ((sortSetI ns).map V.int)) R1 x1 hn (by simp only [RepO]; exact repL_ints _)
      have e : s' = { s1 with heap := s'.heap, gens := s'.gens, drawn := s'.drawn, toks := s'.toks } := by
        cases s'
        cases s1
        cases os
        rfl
      rw [e]
      exact ⟨.ref p, _, J, rfl, kk _ _ _ R3 x3 io⟩
    rcases hq with hq | hq
    · obtain ⟨its, r, pl, hz2⟩ := I1.list hq
      exact set_of_ints ns hr.hd pl.isList (by simpa using r.ints) hb fun h' tk2 c hS hc hk => PyProof.Rows.args_nil (step h' tk2 c hS hc hk)
    · obtain ⟨its, r, pl, hz2⟩ := I1.tuple hq
      exact call_set_tupI ns hr.hd pl (by simpa using r.ints) hb fun h' tk2 c hS hc hk => PyProof.Rows.args_nil (step h' tk2 c hS hc hk)
end
end Q

set_option Elab.async false
set_option linter.all false
set_option autoImplicit false
set_option maxRecDepth 100000
/-! QS16: dicts whose keys are ints or texts. -/
namespace Q
open PySem PySem.Spec PyProof.Rows L2
theorem beq_dec {α : Type} [DecidableEq α] (a b : α) : (a == b) = decide (a = b) := by by_cases h : a = b <;> simp [h]
def keyN : D → Option Key
  | .int i => some (.inl i)
  | .str x => some (.inr x)
  | _ => none
theorem keyN_of {d : D} {k : Key} (h : keyN d = some k) : d = keyOf k := by
  cases d <;> simp only [keyN] at h <;> first | (cases h; done) | skip
  all_goals
    have := Option.some.inj h
    subst this
    rfl
theorem eqv_key (a b : Key) : PyData.eqv (keyOf a) (keyOf b) = decide (a = b) := by
  cases a <;> cases b <;> simp only [keyOf, PyData.eqv]
  · rw [beq_dec]; exact decide_eq_decide.mpr (by rw [Sum.inl.injEq])
  · simp
  · simp
  · rw [beq_dec]; exact decide_eq_decide.mpr (by rw [Sum.inr.injEq])
theorem eqv_tupkey (ks : List Key) (b : Key) : PyData.eqv (.tuple (ks.map keyOf)) (keyOf b) = false := by cases b <;> simp [keyOf, PyData.eqv]
section
variable {Kx : PySem.W.Frag} {mx : Str → Option Value} {zf : Bool} {tk : Tk Kx mx zf} {F H : Hp}
theorem rep_key {k : Key} {v : V} (h : Rep tk F (keyOf k) v) : v = kV k := by
  cases k <;> simp only [keyOf, Rep] at h <;> exact h
theorem repB_key {k : Key} {v : V} (h : RepB tk F H (keyOf k) v) : v = kV k := by
  cases k <;> simp only [keyOf, RepB, Rep] at h <;> exact h
theorem rep_keyV (k : Key) : Rep tk F (keyOf k) (kV k) := by
  cases k <;> simp only [keyOf, Rep] <;> rfl
theorem RepK.look (k : Key) : ∀ {kvs : List (D × D)} {es : List (Key × V)}, RepK tk F kvs es → (∀ d, lookD kvs (keyOf k) = some d → ∃ v, valV es k = some v ∧ Rep tk F d v) ∧ (lookD kvs (keyOf k) = none → valV es k = none)
  | [], [], _ => ⟨fun d h => by simp [lookD] at h, fun _ => rfl⟩
  | [], _ :: _, h => by simp only [RepK] at h
  | _ :: _, [], h => by simp only [RepK] at h
  | (a, d) :: r, (b, v) :: r', h => by
    simp only [RepK] at h
    obtain ⟨rfl, h1, h2⟩ := h
    have ih := RepK.look k h2
    unfold lookD at ih ⊢
    rw [List.find?_cons]
    by_cases e : b = k
    · subst e
      simp only [eqv_key, decide_true, Option.map_some]
      exact ⟨fun d' h => ⟨v, valV_pos rfl, (Option.some.inj h) ▸ h1⟩, fun h => by cases h⟩
    · simp only [eqv_key, decide_eq_false e]
      rw [valV_neg (p := (b, v)) e]
      exact ih
theorem RepK.some_iff (k : Key) {kvs : List (D × D)} {es : List (Key × V)} (h : RepK tk F kvs es) : (valV es k).isSome = (lookD kvs (keyOf k)).isSome := by
  obtain ⟨h1, h2⟩ := h.look k
  cases e : lookD kvs (keyOf k) with
  | none => rw [h2 e]; rfl
  | some d =>
    obtain ⟨v, e2, _⟩ := h1 d e
    rw [e2]; rfl
theorem RepT.look (k : Key) : ∀ {kvs : List (D × D)} {es : List (List Key × V)}, RepT tk F kvs es → lookD kvs (keyOf k) = none
  | [], [], _ => rfl
  | [], _ :: _, h => by simp only [RepT] at h
  | _ :: _, [], h => by simp only [RepT] at h
  | (a, d) :: r, (b, v) :: r', h => by
    simp only [RepT] at h
    obtain ⟨rfl, h1, h2⟩ := h
    have ih := RepT.look k h2
    unfold lookD at ih ⊢
    rw [List.find?_cons]
    simp only [eqv_tupkey]
    exact ih
theorem RepK.mapP (k : Key) {d : D} {v : V} (rd : Rep tk F d v) : ∀ {kvs : List (D × D)} {es : List (Key × V)}, RepK tk F kvs es → RepK tk F (kvs.map fun p => if PyData.eqv p.1 (keyOf k) = true then (p.1, d) else p) (es.map fun kv => if kv.1 = k then (kv.1, v) else kv)
  | [], [], _ => by simp only [List.map_nil, RepK]
  | [], _ :: _, h => by simp only [RepK] at h
  | _ :: _, [], h => by simp only [RepK] at h
  | (a, e) :: r, (b, u) :: r', h => by
    simp only [RepK] at h
    obtain ⟨rfl, h1, h2⟩ := h
    simp only [List.map_cons, eqv_key]
    by_cases q : b = k
    · rw [if_pos (decide_eq_true q), if_pos q]
      simp only [RepK]
      exact ⟨trivial, rd, RepK.mapP k rd h2⟩
    · rw [if_neg (by simpa using q), if_neg q]
      simp only [RepK]
      exact ⟨trivial, h1, RepK.mapP k rd h2⟩
theorem RepK.app : ∀ {kvs more : List (D × D)} {es ms : List (Key × V)}, RepK tk F kvs es → RepK tk F more ms → RepK tk F (kvs ++ more) (es ++ ms)
  | [], _, [], _, _, h => h
  | [], _, _ :: _, _, h, _ => by simp only [RepK] at h
  | _ :: _, _, [], _, h, _ => by simp only [RepK] at h
  | (a, e) :: r, _, (b, u) :: r', _, h, k => by
    simp only [RepK] at h
    simp only [List.cons_append, RepK]
    exact ⟨h.1, h.2.1, RepK.app h.2.2 k⟩
theorem RepK.put (k : Key) {d : D} {v : V} (rd : Rep tk F d v) {kvs : List (D × D)} {es : List (Key × V)} (h : RepK tk F kvs es) : RepK tk F (putD kvs (keyOf k) d) (putK es k v) := by
  unfold putD putK
  rw [valV_any, RepK.some_iff k h]
  by_cases q : (lookD kvs (keyOf k)).isSome = true
  · rw [if_pos q, if_pos q]
    exact RepK.mapP k rd h
  · rw [if_neg q, if_neg q]
    refine RepK.app h ?_
    simp only [RepK]
    exact ⟨trivial, rd, trivial⟩
theorem RepK.length : ∀ {kvs : List (D × D)} {es : List (Key × V)}, RepK tk F kvs es → kvs.length = es.length
  | [], [], _ => rfl
  | [], _ :: _, h => by simp only [RepK] at h
  | _ :: _, [], h => by simp only [RepK] at h
  | (a, e) :: r, (b, u) :: r', h => by
    simp only [RepK] at h
    simp [RepK.length h.2.2]
theorem RepT.length : ∀ {kvs : List (D × D)} {es : List (List Key × V)}, RepT tk F kvs es → kvs.length = es.length
  | [], [], _ => rfl
  | [], _ :: _, h => by simp only [RepT] at h
  | _ :: _, [], h => by simp only [RepT] at h
  | (a, e) :: r, (b, u) :: r', h => by
    simp only [RepT] at h
    simp [RepT.length h.2.2]
theorem RepB.dict {kvs : List (D × D)} {v : V} (h : RepB tk F H (.dict kvs) v) (nt : isTok (.dict kvs) = false) : ∃ a, v = .ref a ∧ tk.pw ≠ some a ∧ ((∃ es, Rd H a (.dK es) ∧ RepK tk F kvs es) ∨ ∃ es, Rd H a (.dT es) ∧ RepT tk F kvs es) := by
  simp only [RepB] at h
  obtain ⟨a, e, h⟩ := h
  rcases h with ⟨n, h⟩ | ⟨z, _⟩ | ⟨x, z, _⟩ | ⟨ns, z, _⟩
  · exact ⟨a, e, n, h⟩
  · subst z; cases nt
  · subst z; cases nt
  · subst z; cases nt
theorem tok_nil : isTok (.dict []) = false := rfl
end
/-! ### d[k] -/
def ixAD (c i : D) : Option D := match c with
  | .dict kvs => if isTok c = true then ixD c i else (keyN i).bind fun k => lookD kvs (keyOf k)
  | _ => ixD c i
def keysOk (kvs : List (D × D)) : Bool := kvs.all fun p => (keyN p.1).isSome
def inAD (x c : D) : Option Bool := match c with
  | .dict kvs => if (isTok c || !keysOk kvs) = true then none else (keyN x).map fun k => (lookD kvs (keyOf k)).isSome
  | _ => inD x c
def notInAD (x c : D) : Option Bool := (inAD x c).map (!·)
def lenAD (c : D) : Option D := match c with
  | .dict kvs => if isTok c = true then lenD c else some (.int kvs.length)
  | _ => lenD c
theorem _root_.L2.Room.un1 {k : Nat} {A : Around} (h : Room k A) : A.units + 1 < cLine := by have := h.units; omega
section
variable {X : Cx} {zf : Bool} {tk : Tk X.K X.mg zf} {pins : List (Addr × Obj)} {σ : L2.St} {H F : Hp} {s : Shared}
/-- what a dict of ints and texts is to the library -/
theorem kd_facts (I : Inv X pins σ H s) {kvs : List (D × D)} {a : Addr} (hk : (∃ es, Rd H a (.dK es) ∧ RepK tk F kvs es) ∨ ∃ es, Rd H a (.dT es) ∧ RepT tk F kvs es) (hn : keysOk kvs = true) :
    ∃ es, RepK tk F kvs es ∧ es.length ≤ sizeLine ∧ (a == sysModules) = false ∧ ∃ vs, KV es vs ∧ s.heap.DictOf (mixKind X.prog X.w) a vs := by
  rcases hk with ⟨es, hrd, rk⟩ | ⟨es, hrd, rt⟩
  · obtain ⟨z, hd, vs, rel, dd⟩ := dk_rd I.hok hrd
    exact ⟨es, rk, z, hd, vs, rel, dd⟩
  · have h0 : kvs = [] ∧ es = [] := by
      cases kvs with
      | nil =>
        have := rt.length
        exact ⟨rfl, List.eq_nil_of_length_eq_zero this.symm⟩
      | cons p kvs =>
        cases es with
        | nil => simp only [RepT] at rt
        | cons q es =>
          obtain ⟨a, d⟩ := p
          obtain ⟨b, v⟩ := q
          simp only [RepT] at rt
          obtain ⟨rfl, _⟩ := rt
          simp [keysOk, keyN] at hn
    obtain ⟨rfl, rfl⟩ := h0
    obtain ⟨z, hd, xs, rel, o, es, ep, e1, e2, e3, e4, e5⟩ := dt_rd I.hok hrd
    cases rel
    have e6 : es.toList = [] := by rw [e4]; rfl
    exact ⟨[], by simp only [RepK], Nat.zero_le _, hd, [], .nil, o, es, ep, e1, e2, e3, fun x hx => (by
      have : x ∈ es.toList := by simpa using hx
      rw [e6] at this; simp at this), by rw [e6]; exact .nil, List.nodup_nil⟩
end
section
variable {X : Cx} {zf : Bool} {O : List Nat} {k : Nat}
theorem EV.ixA {a b : Expr} {fa fb : E} {pos : Pos} (hr : Room k X.A) (ha : EB X zf O a fa) (hb : EB X zf O b fb) (hs : PlainIx b := by intro _ _; rfl) (hs2 : NoSl b := by intro _ _; rfl) : EV X zf O (.Subscript a b pos) (cOp2 ixAD fa fb) :=
  PE.imp (PE.or (EV.ix ha hb hs) (pe_dget hr.un1 ha hb hs2)) fun σ H Q ⟨tk, H0, F0, F, g, w, d, w', R, ef, kk⟩ => by
  obtain ⟨x, w1, e1, ef1⟩ := bnd_eq (show bnd (fa g w) _ = _ from ef)
  obtain ⟨y, w2, e2, ef2⟩ := bnd_eq ef1
  obtain ⟨e3, e4⟩ := lft_eq ef2
  have e4 : w2 = w' := e4
  subst e4
  have e3 : ixAD x y = some d := e3
  by_cases hd : ∃ kvs, x = .dict kvs ∧ isTok x = false
  · obtain ⟨kvs, rfl, nt⟩ := hd
    unfold ixAD at e3
    simp only [nt, Bool.false_eq_true, if_false] at e3
    obtain ⟨ky, h1, h2⟩ := Option.bind_eq_some_iff.mp e3
    have := keyN_of h1
    subst this
    refine .inr ⟨tk, H0, F0, F, g, w, _, w1, R, e1, fun vx H1 F1 R1 x1 r1 => ⟨tk, H0, F0, F1, g, w1, _, w2, R1, e2, fun vy H2 F2 R2 x2 r2 => ?_⟩⟩
    obtain ⟨a, rfl, na, hk⟩ := RepB.dict (r1.ex x2) nt
    have := repB_key r2
    subst this
    rcases hk with ⟨es, hrd, rk⟩ | ⟨es, hrd, rt⟩
    · obtain ⟨v, e5, e6⟩ := (rk.look ky).1 _ h2
      exact ⟨a, v, rfl, .inl ⟨es, ky, hrd, rfl, e5.symm⟩, kk _ _ _ R2 (x1.trans x2) e6⟩
    · rw [rt.look] at h2; cases h2
  · have e5 : ixD x y = some d := by
      cases x with
      | dict kvs =>
        have nt : isTok (.dict kvs) = true := by
          cases q : isTok (.dict kvs) with
          | true => rfl
          | false => exact absurd ⟨kvs, rfl, q⟩ hd
        unfold ixAD at e3
        simpa only [nt, if_true] using e3
      | _ => exact e3
    exact .inl ⟨tk, H0, F0, F, g, w, d, w2, R, by
      show bnd (fa g w) _ = _
      rw [e1, bnd_some, e2, bnd_some, e5]; rfl, kk⟩
/-! in, not in -/
theorem in_cases {X : Cx} {zf : Bool} {tk : Tk X.K X.mg zf} {pins : List (Addr × Obj)} {σ : L2.St} {H F : Hp} {s : Shared} {kvs : List (D × D)} {x : D} {vx vy : V} {v u : Value} {b : Bool} (I : Inv X pins σ H s) (hx : RepB tk F H x vx) (hy : RepB tk F H (.dict kvs) vy) (rx : RelV vx v) (ry : RelV vy u) (e : inAD x (.dict kvs) = some b) :
    ∃ (a : Addr) (ky : Key) (vs : List (Key × Value)), u = .ref a ∧ vx = kV ky ∧ (a == sysModules) = false ∧ s.heap.DictOf (mixKind X.prog X.w) a vs ∧ (valueAt vs ky).isSome = b := by
  unfold inAD at e
  by_cases h : (isTok (.dict kvs) || !keysOk kvs) = true
  · simp only [h, if_true] at e; cases e
  · simp only [h, if_false] at e
    have h' : isTok (.dict kvs) = false ∧ keysOk kvs = true := by simpa using h
    obtain ⟨ky, h1, rfl⟩ := Option.map_eq_some_iff.mp e
    have := keyN_of h1
    subst this
    obtain ⟨a, rfl, na, hk⟩ := RepB.dict hy h'.1
    cases ry
    obtain ⟨es, rk, z, hd, vs, rel, dd⟩ := kd_facts I hk h'.2
    exact ⟨a, ky, vs, rfl, repB_key hx, hd, dd, by rw [← (rel.val ky).isSome_eq, rk.some_iff]⟩
theorem ok_inA (hr : Room k X.A) : OkC (zf := zf) X .In inAD := fun pins s σ H F tk x y vx vy v u b Q I sb hx hy rx ry e q => by
  cases y with
  | dict kvs =>
    obtain ⟨a, ky, vs, rfl, rfl, hd, dd, rfl⟩ := in_cases I hx hy rx ry e
    exact wpAny_in_of (kV_is rx) hd dd.mapOf (q _ (I.tok _))
  | _ => exact ok_in hr pins s σ H F tk x _ vx vy v u b Q I sb hx hy rx ry e q
theorem ok_notInA (hr : Room k X.A) : OkC (zf := zf) X .NotIn notInAD := fun pins s σ H F tk x y vx vy v u b Q I sb hx hy rx ry e q => by
  cases y with
  | dict kvs =>
    obtain ⟨b2, e2, rfl⟩ := Option.map_eq_some_iff.mp (show (inAD x (.dict kvs)).map (!·) = some b from e)
    obtain ⟨a, ky, vs, rfl, rfl, hd, dd, rfl⟩ := in_cases I hx hy rx ry e2
    exact wpAny_notIn_of (kV_is rx) hd dd.mapOf (q _ (I.tok _))
  | _ => exact ok_notIn hr pins s σ H F tk x _ vx vy v u b Q I sb hx hy rx ry e q
end
end Q

set_option Elab.async false
set_option linter.all false
set_option autoImplicit false
set_option maxRecDepth 100000
/-! QS17: a new dict, d[k] = v, x[::-1], range with a step, texts walked, xs.append((ys.pop(k), e)). -/
namespace Q
open PySem PySem.Spec PyProof.Rows L2
section
variable {X : Cx} {zf : Bool} {O : List Nat} {k : Nat}
theorem EO.dict0 {pos : Pos} : EO X zf O (.Dict [] [] pos) (cK (.dict [])) := PE.imp pe_dnewK fun σ H Q ⟨tk, H0, F0, F, g, w, d, w', R, ef, kk⟩ => by
  cases ef
  intro p hp
  obtain ⟨R3, x3, io⟩ := own_new (d := .dict []) (o := .dK []) R (Ex.refl ..) hp (by simp only [RepO, RepK])
  exact kk _ _ _ R3 x3 io
/-! x[::-1] -/
def revD : D → Option D
  | .list xs => some (.list xs.reverse)
  | _ => none
theorem RepL.reverse {Kx : PySem.W.Frag} {mx : Str → Option Value} {zf : Bool} {tk : Tk Kx mx zf} {F : Hp} : ∀ {ds : List D} {vs : List V}, RepL tk F ds vs → RepL tk F ds.reverse vs.reverse
  | [], [], h => by simpa using h
  | [], _ :: _, h => by simp only [RepL] at h
  | _ :: _, [], h => by simp only [RepL] at h
  | d :: ds, v :: vs, h => by
    simp only [RepL] at h
    rw [List.reverse_cons, List.reverse_cons]
    exact (RepL.reverse h.2).snoc h.1
theorem EO.rev {a : Expr} {fa : E} {n : Nat} {p1 p2 p3 pos : Pos} (ha : EB X zf O a fa) : EO X zf O (.Subscript a (.Slice none none (some (.UnaryOp .USub (.Constant (.int 1) n p1) p2)) p3) pos) (cOp1 revD fa) := PE.imp (pe_revL ha) fun σ H Q ⟨tk, H0, F0, F, g, w, d, w', R, ef, kk⟩ => by
  obtain ⟨x, w1, e1, ef⟩ := bnd_eq (show bnd (fa g w) _ = _ from ef)
  obtain ⟨e4, e5⟩ := lft_eq ef
  have e5 : w1 = w' := e5
  subst e5
  have e4 : revD x = some d := e4
  cases x <;> simp only [revD] at e4 <;> first | (cases e4; done) | skip
  rename_i ds _e
  have hd := Option.some.inj e4
  subst hd
  refine ⟨tk, H0, F0, F, g, w, _, w1, R, e1, fun v H1 F1 R1 x1 r1 => ?_⟩
  simp only [RepB] at r1
  obtain ⟨a, xs, rfl, na, hr, l⟩ := r1
  refine ⟨a, xs, rfl, .inl hr, fun p hp => ?_⟩
  obtain ⟨R3, x3, io⟩ := own_new (d := .list ds.reverse) (o := .lst xs.reverse) R1 x1 hp (by simp only [RepO]; exact RepL.reverse l)
  exact kk _ _ _ R3 x3 io
/-! range(i, j, -1) -/
def rangeD (hi : Int) (n : Nat) : List D := (List.range n).map fun i => .int (hi - (i : Nat))
def range3 : D → D → D → Option (List D)
  | .int i, .int j, .int c => if (small62 i && small62 j && decide (c = -1)) = true then some (rangeD i (i - j).toNat) else none
  | _, _, _ => none
def itR3 (a b c : E) : Es := fun g w => bnd (a g w) fun x w1 => bnd (b g w1) fun y w2 => bnd (c g w2) fun z w3 => lft (range3 x y z) w3
theorem itOk_rangeD {wk : Bool} {Kx : PySem.W.Frag} {mx : Str → Option Value} {zf : Bool} {tk : Tk Kx mx zf} {F : Hp} (lo : Int) (n : Nat) : ItOk wk tk (Itc lo (-1) n) (rangeD lo n) F := fun F2 H2 s sb i => by
  refine ⟨fun d hd => ?_, fun h => (by
    show n ≤ i
    simpa [rangeD] using h)⟩
  have hi : i < n := by
    have := (List.getElem?_eq_some_iff.mp hd).1
    simpa [rangeD] using this
  refine ⟨hi, fun x H3 y => .inl ⟨y.1, ?_⟩⟩
  have e : (rangeD lo n)[i]? = some (.int (lo - (i : Nat))) := by simp [rangeD, hi]
  rw [e] at hd
  cases hd
  rw [y.2]
  have e2 : lo + (i : Nat) * (-1 : Int) = lo - (i : Nat) := by omega
  rw [e2]
  exact .inl (by simp only [Rep])
theorem EI.r3 {tg a b c : Expr} {fa fb fc : E} {p pos : Pos} (hm : X.mg "range" = none) (ha : EB X zf O a fa) (hb : EB X zf O b fb) (hc : EB X zf O c fc) (hg : Gl X "range" := by rfl)
    (hs : starEach [a, b, c] X.env = (false, eval a X.env) :: starEach [b, c] X.env := by rfl) (hs2 : starEach [b, c] X.env = (false, eval b X.env) :: starEach [c] X.env := by rfl) (hs3 : starEach [c] X.env = (false, eval c X.env) :: starEach [] X.env := by rfl)
    (hpl : (backTo pos (starEach [b, c] X.env)).any (·.1) = false := by rfl) :
    EI X zf O tg (.Call (.Name "range" p) [a, b, c] [] pos) (itR3 fa fb fc) :=
  PI.imp (pi_range3 hg hm (EAB.cons ha (EAB.cons hb (EAB.cons hc EAB.nil hs3) hs2) hs) hs hpl) fun σ H Q ⟨tk, H0, F0, F, g, w, ds, w', R, ef, kk⟩ => by
  obtain ⟨x, w1, e1, ef⟩ := bnd_eq (show bnd (fa g w) _ = _ from ef)
  obtain ⟨y, w2, e2, ef⟩ := bnd_eq ef
  obtain ⟨z, w3, e3, ef⟩ := bnd_eq ef
  obtain ⟨e4, e5⟩ := lft_eq ef
  have e5 : w3 = w' := e5
  subst e5
  have e4 : range3 x y z = some ds := e4
  refine ⟨tk, H0, F0, F, g, w, [x, y, z], w3, R, by simp [cArgs, e1, e2, e3], fun vs H1 F1 R1 x1 r1 => ?_⟩
  have e6 : ∃ n m, x = .int n ∧ y = .int m ∧ z = .int (-1) ∧ small62 n = true ∧ small62 m = true ∧ ds = rangeD n (n - m).toNat := by
    cases x <;> cases y <;> cases z <;> simp only [range3] at e4 <;> first | (cases e4; done) | skip
    split at e4
    · rename_i h
      simp only [Bool.and_eq_true, decide_eq_true_eq] at h
      exact ⟨_, _, rfl, rfl, by rw [h.2], h.1.1, h.1.2, (Option.some.inj e4).symm⟩
    · cases e4
  obtain ⟨n, m, rfl, rfl, rfl, h1, h2, rfl⟩ := e6
  match vs, r1 with
  | [], r1 => simp only [RepBL] at r1
  | [v], r1 => simp only [RepBL] at r1; exact r1.2.elim
  | [v, u], r1 => simp only [RepBL] at r1; exact r1.2.2.elim
  | [v, u, t], r1 =>
    simp only [RepBL, RepB, Rep] at r1
    rw [r1.1, r1.2.1, r1.2.2.1]
    have h1 := small62_iff h1
    have h2 := small62_iff h2
    exact ⟨_, _, _, _, rfl, RgC.neg h1.1 h1.2 h2.1 h2.2, kk _ H1 F1 R1 x1 (itOk_rangeD _ _)⟩
  | _ :: _ :: _ :: _ :: _, r1 => simp only [RepBL] at r1; exact r1.2.2.2.elim
/-! a text walked -/
def chrsD : D → Option (List D)
  | .str z => some (z.cps.toList.map fun c => .str ⟨#[c]⟩)
  | _ => none
def itStr (a : E) : Es := fun g w => bnd (a g w) fun x w1 => lft (chrsD x) w1
theorem EI.str {tg a : Expr} {fa : E} (ha : EB X zf O a fa) : EI X zf O tg a (itStr fa) := PI.imp (pi_str ha) fun σ H Q ⟨tk, H0, F0, F, g, w, ds, w', R, ef, kk⟩ => by
  obtain ⟨x, w1, e1, ef⟩ := bnd_eq (show bnd (fa g w) _ = _ from ef)
  obtain ⟨e4, e5⟩ := lft_eq ef
  have e5 : w1 = w' := e5
  subst e5
  have e4 : chrsD x = some ds := e4
  cases x <;> simp only [chrsD] at e4 <;> first | (cases e4; done) | skip
  rename_i z _e
  have hd := Option.some.inj e4
  subst hd
  refine ⟨tk, H0, F0, F, g, w, _, w1, R, e1, fun v H1 F1 R1 x1 r1 => ?_⟩
  simp only [RepB, Rep] at r1
  refine ⟨z, r1, kk _ H1 F1 R1 x1 fun F2 H2 s sb i => ⟨fun d hd => ?_, fun h => (by
    show z.cps.size ≤ i
    simpa using h)⟩⟩
  have hi : i < z.cps.size := by
    have := (List.getElem?_eq_some_iff.mp hd).1
    simpa using this
  refine ⟨hi, fun x H3 y => .inl ⟨y.1, ?_⟩⟩
  obtain ⟨_, c, hc, rfl⟩ := y
  have e : d = .str ⟨#[c]⟩ := by
    simp only [List.getElem?_map, Array.getElem?_toList, hc, Option.map_some] at hd
    exact (Option.some.inj hd).symm
  subst e
  exact .inl (by simp only [Rep])
/-! d[k] = v -/
def putKD : D → D → D → Option D
  | .dict kvs, k, d => if (keysOk kvs && (keyN k).isSome && decide (kvs.length < sizeLine)) = true then some (.dict (putD kvs k d)) else none
  | _, _, _ => none
def sPutK (i : Nat) (k e : E) : S := fun g w => bnd (e g w) fun d w1 => bnd (k g w1) fun kd w2 => mutS i (putKD · kd d) g w2
theorem dT_dK {pins : List (Addr × Obj)} {σ : L2.St} {H : Hp} {s : Shared} {a : Addr} (I : Inv X pins σ H s) (h : H a = some (.dT [])) : Inv X pins σ (upd H a (.dK [])) s := by
  obtain ⟨z, hd, xs, rel, o, es, ep, e1, e2, e3, e4, e5⟩ := dt_rd I.hok (.inl h : Rd H a (.dT []))
  cases rel
  have e6 : es.toList = [] := by rw [e4]; rfl
  have dd : s.heap.DictOf (mixKind X.prog X.w) a [] := ⟨o, es, ep, e1, e2, e3, fun x hx => (by
      have : x ∈ es.toList := by simpa using hx
      rw [e6] at this; simp at this), by rw [e6]; exact .nil, List.nodup_nil⟩
  exact I.write (x := a) (e := a) (h' := s.heap) (t' := s.toks) (by rw [h]; trivial) (.inl rfl) (fun b q hb z => z) ⟨_, e1⟩ (dk_new (Nat.zero_le _) hd .nil dd)
def sDPutA (td ty tv : TE) : TS := fun D σ H => tv σ H fun v H1 => td σ H1 fun x H2 => ty σ H2 fun y H3 => ∃ a H4, x = .ref a ∧ (DPut H3 a y v H4 ∨ (H3 a = some (.dT []) ∧ DPut (upd H3 a (.dK [])) a y v H4)) ∧ D.nx σ H4
theorem ps_dputA {o i value : Expr} {pos pos' : Pos} {td ty tv : TE} (hu : X.A.units + 1 < cLine) (ho : PE X o td) (hi : PE X i ty) (hv : PE X value tv) (hs : swapsWith value (some (.Subscript o i pos')) pos.line X.env = pure false) :
    PS X (.Assign [.Subscript o i pos'] value pos) (sDPutA td ty tv) := by
  refine ⟨fun pins s σ H D I h => ?_⟩
  refine wpAny_Assign_Subscript (thn (hv.run pins s σ H _ I h) fun r s1 ⟨v, H1, I1, rv, q1⟩ => thn (ho.run pins s1 σ H1 _ I1 q1) fun u s2 ⟨x, H2, I2, rx, q2⟩ => thn (hi.run pins s2 σ H2 _ I2 q2) fun iv s3 ⟨y, H3, I3, ry, a, H4, ex, g, q3⟩ => ?_) hs
  subst ex
  obtain rfl : u = Value.ref a := rx
  rcases g with g | ⟨hT, g⟩
  · exact d_setItem hu I3 g ry rv fun s4 I4 => ⟨σ, H4, I4, q3⟩
  · exact d_setItem hu (dT_dK I3 hT) g ry rv fun s4 I4 => ⟨σ, H4, I4, q3⟩
theorem keysOk_T {Kx : PySem.W.Frag} {mx : Str → Option Value} {zf : Bool} {tk : Tk Kx mx zf} {F : Hp} {kvs : List (D × D)} {es : List (List Key × V)} (hn : keysOk kvs = true) (rt : RepT tk F kvs es) : kvs = [] ∧ es = [] := by
  cases kvs with
  | nil =>
    have := rt.length
    exact ⟨rfl, List.eq_nil_of_length_eq_zero this.symm⟩
  | cons p kvs =>
    cases es with
    | nil => simp only [RepT] at rt
    | cons q es =>
      obtain ⟨a, d⟩ := p
      obtain ⟨b, v⟩ := q
      simp only [RepT] at rt
      obtain ⟨rfl, _⟩ := rt
      simp [keysOk, keyN] at hn
theorem ES.putKd {Ol : List Nat} {x : Str} {px spos pos : Pos} {ke e : Expr} {fk f : E} (i : Nat) (hr : Room k X.A) (h : EV X zf O e f) (hk : EB X zf O ke fk) (hO : i ∈ O := by decide) (hN : X.N[i]? = some x := by rfl) (hv : Vis X.env.scope x := by first | exact Or.inl rfl | exact Or.inr (Or.inl rfl) | exact Or.inr (Or.inr rfl)) (hd : (x == ("__debug__" : Str)) = false := by decide)
    (hcd : (x == ("__classdict__" : Str)) = false := by decide) (hs : swapsWith e (some (.Subscript (.Name x px) ke spos)) pos.line X.env = pure false := by rfl) :
    ES X zf O O Ol (.Assign [.Subscript (.Name x px) ke spos] e pos) (sPutK i fk f) := PS.imp (ps_dputA hr.un1 (pe_var (i := i) hN hv hd hcd) hk h hs) fun D σ H ⟨tk, H0, F0, F, g, w, o, w', R, ef, q⟩ => by
  obtain ⟨d, w1, e1, ef⟩ := bnd_eq (show bnd (f g w) _ = _ from ef)
  obtain ⟨kd, w2, e2, ef⟩ := bnd_eq ef
  obtain ⟨x0, y0, hg, hf, rfl, rfl⟩ := mutS_eq ef
  have e6 : ∃ kvs ky, x0 = .dict kvs ∧ kd = keyOf ky ∧ keysOk kvs = true ∧ kvs.length < sizeLine ∧ y0 = .dict (putD kvs kd d) := by
    cases x0 <;> simp only [putKD] at hf <;> first | (cases hf; done) | skip
    split at hf
    · rename_i hh
      simp only [Bool.and_eq_true, decide_eq_true_eq] at hh
      obtain ⟨ky, hky⟩ := Option.isSome_iff_exists.mp hh.1.2
      exact ⟨_, ky, rfl, keyN_of hky, hh.1.1, hh.2, (Option.some.inj hf).symm⟩
    · cases hf
  obtain ⟨kvs, ky, rfl, rfl, hn, hl, rfl⟩ := e6
  obtain ⟨a, u, h1, h2, h3, h4, h5, h6⟩ := R.own i _ hO hg
  refine ⟨tk, H0, F0, F, g, w, d, w1, R, e1, fun v H1 F1 R1 x1 r1 => ⟨.ref a, h1, tk, H0, F0, F1, g, w1, _, w', R1, e2, fun vk H2 F2 R2 x2 r2 => ?_⟩⟩
  have := repB_key r2
  subst this
  obtain ⟨a2, u2, k1, k2, k3, k4, k5, k6⟩ := R2.own i _ hO hg
  rw [h1] at k1
  cases k1
  have r1' := Rep.same x2.sm _ _ r1
  cases u2 <;> simp only [RepO] at k6 <;> first | (exact k6.elim; done) | skip
  · rename_i es
    refine ⟨a, _, rfl, .inl (DPut.k k2 (by rw [← k6.length]; exact hl)), ?_⟩
    exact q σ _ F2 (R2.mut hO hg h1 (by simp only [RepO]; exact k6.put ky r1'))
  · rename_i es
    obtain ⟨rfl, rfl⟩ := keysOk_T hn k6
    refine ⟨a, _, rfl, .inr ⟨k2, DPut.k upd_same (by simp [sizeLine_eq])⟩, ?_⟩
    have e9 : upd (upd H2 a (.dK [])) a (.dK (L2.putK [] ky v)) = upd H2 a (.dK (L2.putK [] ky v)) := by
      funext b
      unfold upd
      split <;> rfl
    rw [e9]
    exact q σ _ F2 (R2.mut hO hg h1 (by simp only [RepO]; exact RepK.put ky r1' (by simp only [RepK])))
/-! xs.append((ys.pop(k), e)) -/
def popD : D → D → Option (D × D)
  | .list xs, .int n => if small62 n = true then (ixN xs.length n).bind fun j => (xs[j]?).map fun d => (d, .list (xs.eraseIdx j)) else none
  | _, _ => none
def sAppPop (i j : Nat) (k e : E) : S := fun g w => bnd (k g w) fun kd w1 => match (g[j]?).join with
  | some x => match popD x kd with
    | some (d, y) => bnd (e (g.set j (some y)) w1) fun d2 w2 => mutS i (apD · (.tuple [d, d2])) (g.set j (some y)) w2
    | none => none
  | none => none
theorem RepL.erase {Kx : PySem.W.Frag} {mx : Str → Option Value} {zf : Bool} {tk : Tk Kx mx zf} {F : Hp} : ∀ {ds : List D} {vs : List V} (n : Nat), RepL tk F ds vs → RepL tk F (ds.eraseIdx n) (vs.eraseIdx n)
  | [], [], _, h => by simpa using h
  | [], _ :: _, _, h => by simp only [RepL] at h
  | _ :: _, [], _, h => by simp only [RepL] at h
  | d :: ds, v :: vs, 0, h => by simp only [RepL] at h; exact h.2
  | d :: ds, v :: vs, n + 1, h => by
    simp only [RepL] at h
    simp only [List.eraseIdx_cons_succ, RepL]
    exact ⟨h.1, RepL.erase n h.2⟩
theorem ES.appPop {Ol : List Nat} {x y : Str} {px py apos cpos spos apos2 cpos2 tpos : Pos} {tk1 : Nat} {ke e : Expr} {fk f : E} (i j : Nat) (hk : EB X zf O ke fk) (h : EV X zf O e f) (hO : i ∈ O := by decide) (hO2 : j ∈ O := by decide) (hij : i ≠ j := by decide) (hN : X.N[i]? = some x := by rfl) (hN2 : X.N[j]? = some y := by rfl)
    (hv : Vis X.env.scope x := by first | exact Or.inl rfl | exact Or.inr (Or.inl rfl) | exact Or.inr (Or.inr rfl)) (hv2 : Vis X.env.scope y := by first | exact Or.inl rfl | exact Or.inr (Or.inl rfl) | exact Or.inr (Or.inr rfl))
    (hd : (x == ("__debug__" : Str)) = false := by decide) (hcd : (x == ("__classdict__" : Str)) = false := by decide) (hd2 : (y == ("__debug__" : Str)) = false := by decide) (hcd2 : (y == ("__classdict__" : Str)) = false := by decide)
    (hs : starEach [ke] X.env = (false, eval ke X.env) :: starEach [] X.env := by rfl)
    (hbase : attributeBase (.Name y py) "pop" X.env (eval (.Name y py) X.env) = eval (.Name y py) X.env := by rfl)
    (hfew : ((backTo cpos2 (starEach [ke] X.env)).all (fun x => !x.1) && (backToKw cpos2 (keywordEach [] X.env)).all (fun x => x.1.isSome)
      && decide (([ke] : List Expr).length + ([] : List Keyword).length + (if ([] : List Keyword).isEmpty then 0 else 1) < 30)) = true := by rfl)
    (hline : (apos2.endLine == cpos2.line) = true := by rfl) (hplain : (backTo cpos2 (starEach [] X.env)).any (·.1) = false := by rfl)
    (hs1 : starEach [.Call (.Attribute (.Name y py) "pop" apos2) [ke] [] cpos2, e] X.env = (false, eval (.Call (.Attribute (.Name y py) "pop" apos2) [ke] [] cpos2) X.env) :: starEach [e] X.env := by rfl)
    (hs2 : starEach [e] X.env = (false, eval e X.env) :: starEach [] X.env := by rfl)
    (hs3 : starEach [.Tuple [.Call (.Attribute (.Name y py) "pop" apos2) [ke] [] cpos2, e] tk1 tpos] X.env = (false, eval (.Tuple [.Call (.Attribute (.Name y py) "pop" apos2) [ke] [] cpos2, e] tk1 tpos) X.env) :: starEach [] X.env := by rfl)
    (hbase2 : attributeBase (.Name x px) "append" X.env (eval (.Name x px) X.env) = eval (.Name x px) X.env := by rfl)
    (hfew2 : ((backTo cpos (starEach [.Tuple [.Call (.Attribute (.Name y py) "pop" apos2) [ke] [] cpos2, e] tk1 tpos] X.env)).all (fun x => !x.1) && (backToKw cpos (keywordEach [] X.env)).all (fun x => x.1.isSome)
      && decide (([.Tuple [.Call (.Attribute (.Name y py) "pop" apos2) [ke] [] cpos2, e] tk1 tpos] : List Expr).length + ([] : List Keyword).length + (if ([] : List Keyword).isEmpty then 0 else 1) < 30)) = true := by rfl)
    (hline2 : (apos.endLine == cpos.line) = true := by rfl) (hplain2 : (backTo cpos (starEach [] X.env)).any (·.1) = false := by rfl)
    (hsw : swapsWith (.Call (.Attribute (.Name x px) "append" apos) [.Tuple [.Call (.Attribute (.Name y py) "pop" apos2) [ke] [] cpos2, e] tk1 tpos] [] cpos) none spos.line X.env = pure false := by rfl) :
    ES X zf O O Ol (.Expr (.Call (.Attribute (.Name x px) "append" apos) [.Tuple [.Call (.Attribute (.Name y py) "pop" apos2) [ke] [] cpos2, e] tk1 tpos] [] cpos) spos) (sAppPop i j fk f) :=
  PS.imp (ps_expr (pe_bm PySem.F.plainAttrs_list PySem.F.slot_list_append PySem.F.type_list_append mt_append (pe_var (i := i) hN hv hd hcd)
    (pa_cons (pe_tupZ (zf := zf) (pa_cons (pe_bm PySem.F.plainAttrs_list PySem.F.slot_list_pop PySem.F.type_list_pop mt_popAt (pe_var (i := j) hN2 hv2 hd2 hcd2) (EAB.cons hk EAB.nil hs) hbase hfew hline hs hplain) (pa_cons h pa_nil hs2) hs1)) pa_nil hs3) hbase2 hfew2 hline2 hs3 hplain2) hsw) fun D σ H ⟨tk, H0, F0, F, g, w, o, w', R, ef, q⟩ => by
  obtain ⟨kd, w1, e1, ef⟩ := bnd_eq (show bnd (fk g w) _ = _ from ef)
  have hx : ∃ x0, g[j]? = some (some x0) := by
    cases hh : (g[j]?).join with
    | none => simp only [hh] at ef; cases ef
    | some x0 =>
      cases hq : g[j]? with
      | none => rw [hq] at hh; cases hh
      | some z => rw [hq] at hh; cases z with
        | none => cases hh
        | some z => exact ⟨z, rfl⟩
  obtain ⟨x0, hg⟩ := hx
  simp only [hg, Option.join_some] at ef
  cases hp : popD x0 kd with
  | none => simp only [hp] at ef; cases ef
  | some pr =>
  obtain ⟨d, y0⟩ := pr
  simp only [hp] at ef
  obtain ⟨d2, w2, e2, ef⟩ := bnd_eq ef
  have e6 : ∃ ds n jj, x0 = .list ds ∧ kd = .int n ∧ small62 n = true ∧ ixN ds.length n = some jj ∧ ds[jj]? = some d ∧ y0 = .list (ds.eraseIdx jj) := by
    cases x0 <;> cases kd <;> simp only [popD] at hp <;> first | (cases hp; done) | skip
    split at hp
    · rename_i hh
      obtain ⟨jj, hj, hp⟩ := Option.bind_eq_some_iff.mp hp
      obtain ⟨d', hd', hp⟩ := Option.map_eq_some_iff.mp hp
      cases hp
      exact ⟨_, _, jj, rfl, rfl, hh, hj, hd', rfl⟩
    · cases hp
  obtain ⟨ds, n, jj, rfl, rfl, hsm, hjj, hdj, rfl⟩ := e6
  obtain ⟨x1, y1, hgi, hf, rfl, rfl⟩ := mutS_eq ef
  obtain ⟨es, rfl, hlt, rfl⟩ := apD_eq hf
  have hgi0 : g[i]? = some (some (.list es)) := by
    rw [List.getElem?_set_ne (Ne.symm hij)] at hgi
    exact hgi
  obtain ⟨ai, ui, i1, i2, i3, i4, i5, i6⟩ := R.own i _ hO hgi0
  obtain ⟨xi, rfl, i6⟩ := RepO.lst i6
  refine ⟨.ref ai, i1, .inl ⟨rfl, _, .inl (.inl i2)⟩, ?_⟩
  obtain ⟨a, u, h1, h2, h3, h4, h5, h6⟩ := R.own j _ hO2 hg
  obtain ⟨xs, rfl, h6⟩ := RepO.lst h6
  refine ⟨.ref a, h1, .inl ⟨rfl, _, .inl (.inl h2)⟩, tk, H0, F0, F, g, w, [.int n], w1, R, by simp [cArgs, e1], fun vs H1 F1 R1 q1 r1 => ?_⟩
  match vs, r1 with
  | [], r1 => simp only [RepBL] at r1
  | _ :: _ :: _, r1 => simp only [RepBL] at r1; exact r1.2.elim
  | [v], r1 =>
    simp only [RepBL, RepB, Rep] at r1
    obtain ⟨rfl, _⟩ := r1
    obtain ⟨a2, u2, k1, k2, k3, k4, k5, k6⟩ := R1.own j _ hO2 hg
    rw [h1] at k1
    cases k1
    obtain ⟨xs2, rfl, k6⟩ := RepO.lst k6
    obtain ⟨v0, hv0, rv0⟩ := k6.at hdj
    have hsm := small62_iff hsm
    refine ⟨a, xs2, n, jj, v0, rfl, rfl, k2, by omega, by omega, ?_, hv0, ?_⟩
    · rw [k6.length] at hjj
      exact (ixN_seq hjj).1
    have R2 := R1.mut hO2 hg h1 (d' := .list (ds.eraseIdx jj)) (o' := .lst (xs2.eraseIdx jj)) (by simp only [RepO]; exact RepL.erase jj k6)
    refine ⟨tk, H0, F0, F1, g.set j (some (.list (ds.eraseIdx jj))), w1, d2, w', R2, e2, fun v2 H2 F2 R3 q2 r2 => ?_⟩
    refine ⟨by simp [sizeLine_eq], fun p ob hp hob => ?_⟩
    obtain ⟨R4, q3⟩ := R3.alloc hp (tupO zf ob [v0, v2])
    obtain ⟨aj, uj, j1, j2, j3, j4, j5, j6⟩ := R4.own i _ hO hgi
    rw [i1] at j1
    cases j1
    obtain ⟨xj, rfl, j6⟩ := RepO.lst j6
    refine ⟨ai, xj, .ref p, rfl, rfl, j2, by rw [← j6.length]; exact hlt, ?_⟩
    refine q σ _ _ (R4.mut hO hgi i1 (d' := .list (es ++ [.tuple [d, d2]])) (o' := .lst (xj ++ [.ref p])) (by
      simp only [RepO]
      refine j6.snoc ?_
      simp only [Rep, RepL]
      exact ⟨p, [v0, v2], rfl, ⟨ob, upd_same, hob⟩, Rep.same (q2.sm.trans q3.sm) _ _ rv0, Rep.same q3.sm _ _ r2, trivial⟩))
end
end Q

set_option Elab.async false
set_option linter.all false
set_option autoImplicit false
set_option maxRecDepth 100000
/-! QS18: the second text of the def of draws. -/
namespace Q
open PySem PySem.Spec PyProof.Rows L2
section
variable {P : Program} {w : World} {K : PySem.W.Frag} {mg : Str → Option Value} {base : Heap} {zf : Bool}
/-- w["at"] += 1; if w["at"] > len(w["draws"]): return 0; return int(w["draws"][w["at"] - 1]) % many -/
theorem next_ok2 {st : Stmt} {f : Addr} {fd : FuncData} {k : Nat} {p0 p1 p2 p3 p4 q0 q1 q2 q3 q4 q5 q6 q7 q8 q9 r0 r1 r2 r3 r4 r5 r6 r7 r8 r9 s0 s1 s2 s3 s4 s5 : Pos} {i0 i1 i2 i3 i4 i5 i6 i7 : Nat}
    (F : Fun K "_law_next" "_law_next" st f fd) (S : FnScope ["w", "many"] ["w", "many"] (defScope st)) (mi : mg "int" = none) (ml : mg "len" = none)
    (gi : (defScope st).names.lookup ("int" : Str) = some .globalImplicit) (gl : (defScope st).names.lookup ("len" : Str) = some .globalImplicit) (gw : (defScope st).names.lookup ("w" : Str) = some .local) (gm : (defScope st).names.lookup ("many" : Str) = some .local)
    (hb : defBody st = [.AugAssign (.Subscript (.Name "w" p0) (.Constant (.str "at") i0 p1) p2) .Add (.Constant (.int 1) i1 p3) p4,
      .If (.Compare (.Subscript (.Name "w" q0) (.Constant (.str "at") i2 q1) q2) [.Gt] [.Call (.Name "len" q3) [.Subscript (.Name "w" q4) (.Constant (.str "draws") i3 q5) q6] [] q7] q8) [.Return (some (.Constant (.int 0) i7 s3)) s4] [] s5,
      .Return (some (.BinOp (.Call (.Name "int" r0) [.Subscript (.Subscript (.Name "w" r1) (.Constant (.str "draws") i4 r2) r3) (.BinOp (.Subscript (.Name "w" r4) (.Constant (.str "at") i5 r5) r6) .Sub (.Constant (.int 1) i6 r7) r8) r9] [] s0) .Mod (.Name "many" s1) s2)) q9]) : FnOk P w K mg base CX0 (k + 1) f fd ["w", "many"] (spD K mg zf 2 fnNext) := by
  refine F.ok S (fun vs H Q E h => ?_) fun cdv A outer s H vs Q E hr h => ?_
  · obtain ⟨p, b, m, n, full, rfl, _⟩ := next_facts h
    rfl
  · obtain ⟨p, b, m, n, full, rfl, hp, rb, nb, hh⟩ := next_facts h
    rw [hb]
    have hu := hu_of hr
    refine ⟨_, pss_cons (ps_daug hu (pv 0 (hv := .inl gw)) pe_str pe_int in_add (fun _ _ _ => rfl))
      (pss_cons (ps_if (pt_cmpR op_gt (pe_dget hu (pv 0 (hv := .inl gw)) pe_str (fun _ _ => rfl)) (pe_callB call_len_seq gl ml PySem.boot_len (pa_cons (pe_dget hu (pv 0 (hv := .inl gw)) pe_str (fun _ _ => rfl)) pa_nil)) (nomark _)) (pss_one (ps_ret pe_int)) pss_nil)
      (pss_one (ps_ret 
        (pe_op op_modN (pe_callTy call_int1 gi mi (by decide +kernel) (pa_cons (pe_ix ix_list (pe_dget hu (pv 0 (hv := .inl gw)) pe_str (fun _ _ => rfl)) (pe_op op_sub (pe_dget hu (pv 0 (hv := .inl gw)) pe_str (fun _ _ => rfl)) pe_int) (fun _ _ => rfl)) pa_nil)) (pv 1 (hv := .inl gm)))))), ?_⟩
    have dat : ∀ {H : Hp} {n' : Nat}, H p = some (.dK (wKvs b n')) → DGet H p (.str "at") (some (.int n')) := fun {H n'} h => .inl ⟨_, .inr "at", .inl h, rfl, (wd_at b n').symm⟩
    have ddr : ∀ {H : Hp} {n' : Nat}, H p = some (.dK (wKvs b n')) → DGet H p (.str "draws") (some (.ref b)) := fun {H n'} h => .inl ⟨_, .inr "draws", .inl h, rfl, (wd_draws b n').symm⟩
    have hz : (wKvs b n).length < sizeLine := by show 2 < sizeLine; decide
    refine ⟨.ref p, rfl, p, _, rfl, dat hp, (n : Int), 1, rfl, rfl, upd H p (.dK (wKvs b (n + 1))), .inl ⟨_, .inr "at", hp, rfl, hz, ?_⟩, ?_⟩
    · rw [show ((n : Int) + 1) = ((n + 1 : Nat) : Int) from rfl, ← wd_put] <;> rfl
    generalize hH : upd H p (.dK (wKvs b (n + 1))) = H1 at hh ⊢
    have h1p : H1 p = some (.dK (wKvs b (n + 1))) := by rw [← hH, upd_same]
    have rb' : Rd H1 b (.lst (full.map V.int)) := by
      rcases rb with rb | ⟨o, rb⟩
      · exact .inl (by rw [← hH, upd_ne nb]; exact rb)
      · exact .inr ⟨o, by rw [← hH, upd_ne nb]; exact rb⟩
    refine ⟨.ref p, rfl, p, _, rfl, dat h1p, .ref p, rfl, p, _, rfl, ddr h1p, ⟨b, _, rfl, .inl (.inl rb'), (n + 1 : Nat), (full.map V.int).length, rfl, rfl, _, rfl, ?_⟩⟩
    rw [List.length_map]
    rcases hh with ⟨hl, q⟩ | ⟨x, hx, hm, q⟩
    · rw [decide_eq_true (by omega)]
      exact q
    · have hl := (List.getElem?_eq_some_iff.mp hx).1
      rw [decide_eq_false (by omega)]
      refine ⟨.ref p, rfl, p, _, rfl, ddr h1p, .ref p, rfl, p, _, rfl, dat h1p, _, _, rfl, rfl, ?_⟩
      refine ⟨b, _, _, .int x, rfl, rfl, .inl rb', at_nat (by rw [List.getElem?_map, hx]; rfl), .inl ⟨x, rfl, .int m, rfl, x, m, rfl, rfl, hm, q⟩⟩
theorem next_ok2' {st : Stmt} {p0 p1 p2 p3 p4 q0 q1 q2 q3 q4 q5 q6 q7 q8 q9 r0 r1 r2 r3 r4 r5 r6 r7 r8 r9 s0 s1 s2 s3 s4 s5 : Pos} {i0 i1 i2 i3 i4 i5 i6 i7 : Nat}
    (D : Df K mg "_law_next" st ["w", "many"]) (S : FnScope ["w", "many"] ["w", "many"] (defScope st)) (mi : mg "int" = none) (ml : mg "len" = none)
    (gi : (defScope st).names.lookup ("int" : Str) = some .globalImplicit) (gl : (defScope st).names.lookup ("len" : Str) = some .globalImplicit) (gw : (defScope st).names.lookup ("w" : Str) = some .local) (gm : (defScope st).names.lookup ("many" : Str) = some .local)
    (hb : defBody st = [.AugAssign (.Subscript (.Name "w" p0) (.Constant (.str "at") i0 p1) p2) .Add (.Constant (.int 1) i1 p3) p4,
      .If (.Compare (.Subscript (.Name "w" q0) (.Constant (.str "at") i2 q1) q2) [.Gt] [.Call (.Name "len" q3) [.Subscript (.Name "w" q4) (.Constant (.str "draws") i3 q5) q6] [] q7] q8) [.Return (some (.Constant (.int 0) i7 s3)) s4] [] s5,
      .Return (some (.BinOp (.Call (.Name "int" r0) [.Subscript (.Subscript (.Name "w" r1) (.Constant (.str "draws") i4 r2) r3) (.BinOp (.Subscript (.Name "w" r4) (.Constant (.str "at") i5 r5) r6) .Sub (.Constant (.int 1) i6 r7) r8) r9] [] s0) .Mod (.Name "many" s1) s2)) q9]) : Ok K mg zf P w base 1 "_law_next" ["w", "many"] 2 fnNext := by
  obtain ⟨f, fd, h1, F, h2⟩ := D.ex
  exact ⟨f, fd, h1, F.kp, h2, next_ok2 F S mi ml gi gl gw gm hb⟩
end
end Q

set_option Elab.async false
set_option linter.all false
set_option autoImplicit false
set_option maxRecDepth 100000
/-! QSL: the last of the framework. -/
namespace Q
open PySem PySem.Spec PyProof.Rows L2
section
variable {X : Cx} {zf : Bool} {k : Nat}
theorem ET.or1 {O : List Nat} {a : Expr} {fa : T} {pos : Pos} (h : ET X zf O a fa) : PW X (.BoolOp .Or [a] pos) (rdT X.K X.mg zf O fa) := pw_or1 h
end
end Q

set_option Elab.async false
set_option linter.all false
set_option autoImplicit false
set_option maxRecDepth 100000
/-! QM: plain laws of the combinators: what a body computes. -/
namespace Q
open PySem PySem.W
/-- x ends well, with P -/
structure wp {α : Type} (x : Option (α × Wd)) (P : α → Wd → Prop) : Prop where
  ex : ∃ a w, x = some (a, w) ∧ P a w
theorem wp_eq {α : Type} {x : Option (α × Wd)} {P : α → Wd → Prop} (h : wp x P) : ∃ a w, x = some (a, w) ∧ P a w := h.ex
@[simp] theorem wp_some {α : Type} (a : α) (w : Wd) (P : α → Wd → Prop) : wp (some (a, w)) P = P a w := propext ⟨fun ⟨a', w', e, h⟩ => by cases e; exact h, fun h => ⟨a, w, rfl, h⟩⟩
@[simp] theorem wp_none {α : Type} (P : α → Wd → Prop) : wp none P = False := propext ⟨fun ⟨a', w', e, h⟩ => by (cases e), fun h => h.elim⟩
@[simp] theorem wp_bnd {α β : Type} (x : Option (α × Wd)) (f : α → Wd → Option (β × Wd)) (P : β → Wd → Prop) : wp (bnd x f) P = wp x (fun a w => wp (f a w) P) := by
  cases x with
  | none => simp
  | some p => obtain ⟨a, w⟩ := p; simp
theorem wp_mono {α : Type} {x : Option (α × Wd)} {P P' : α → Wd → Prop} (h : wp x P) (k : ∀ a w, P a w → P' a w) : wp x P' := by
  obtain ⟨a, w, e, p⟩ := h
  exact ⟨a, w, e, k _ _ p⟩
theorem wp_of {α : Type} {x : Option (α × Wd)} {P : α → Wd → Prop} {a : α} {w : Wd} (h : x = some (a, w)) (p : P a w) : wp x P := ⟨a, w, h, p⟩
theorem wp_ite {α : Type} {c : Prop} [Decidable c] {x y : Option (α × Wd)} {P : α → Wd → Prop} (h : c → wp x P) (k : ¬ c → wp y P) : wp (if c then x else y) P := by
  by_cases hc : c
  · rw [if_pos hc]; exact h hc
  · rw [if_neg hc]; exact k hc
section
variable (g : Env) (w : Wd)
@[simp] theorem s_cVar (i : Nat) : cVar i g w = lft (g[i]?).join w := Eq.trans rfl rfl
@[simp] theorem s_cK (d : D) : cK d g w = some (d, w) := Eq.trans rfl rfl
@[simp] theorem s_cArgs0 : cArgs [] g w = some ([], w) := Eq.trans rfl rfl
@[simp] theorem s_cArgs1 (e : E) (es : List E) : cArgs (e :: es) g w = bnd (e g w) fun d w1 => bnd (cArgs es g w1) fun ds w2 => some (d :: ds, w2) := Eq.trans rfl rfl
@[simp] theorem s_cTup (es : List E) : cTup es g w = bnd (cArgs es g w) fun ds w1 => some (.tuple ds, w1) := Eq.trans rfl rfl
@[simp] theorem s_cLst (es : List E) : cLst es g w = bnd (cArgs es g w) fun ds w1 => some (.list ds, w1) := Eq.trans rfl rfl
@[simp] theorem s_cOp1 (f : D → Option D) (a : E) : cOp1 f a g w = bnd (a g w) fun x w1 => lft (f x) w1 := Eq.trans rfl rfl
@[simp] theorem s_cOp2 (f : D → D → Option D) (a b : E) : cOp2 f a b g w = bnd (a g w) fun x w1 => bnd (b g w1) fun y w2 => lft (f x y) w2 := Eq.trans rfl rfl
@[simp] theorem s_cIf (c : T) (a b : E) : cIf c a b g w = bnd (c g w) fun k w1 => if k = true then a g w1 else b g w1 := Eq.trans rfl rfl
@[simp] theorem s_cCall (f : Fn) (es : List E) : cCall f es g w = bnd (cArgs es g w) fun ds w1 => f ds w1 := Eq.trans rfl rfl
@[simp] theorem s_tVal (a : E) : tVal a g w = bnd (a g w) fun x w1 => lft (boolD x) w1 := Eq.trans rfl rfl
@[simp] theorem s_tCmp (f : D → D → Option Bool) (a b : E) : tCmp f a b g w = bnd (a g w) fun x w1 => bnd (b g w1) fun y w2 => lft (f x y) w2 := Eq.trans rfl rfl
@[simp] theorem s_tNot (a : T) : tNot a g w = bnd (a g w) fun k w1 => some (!k, w1) := Eq.trans rfl rfl
@[simp] theorem s_tAnd (a b : T) : tAnd a b g w = bnd (a g w) fun k w1 => if k = true then b g w1 else some (false, w1) := Eq.trans rfl rfl
@[simp] theorem s_tOr (a b : T) : tOr a b g w = bnd (a g w) fun k w1 => if k = true then some (true, w1) else b g w1 := Eq.trans rfl rfl
@[simp] theorem s_tYes : tYes g w = some (true, w) := Eq.trans rfl rfl
@[simp] theorem s_cT (t : T) : cT t g w = bnd (t g w) fun k w1 => some (.bool k, w1) := Eq.trans rfl rfl
@[simp] theorem s_cAnd (a b : E) : cAnd a b g w = bnd (a g w) fun x w1 => bnd (lft (boolD x) w1) fun k w2 => if k = true then b g w2 else some (.bool false, w2) := Eq.trans rfl rfl
@[simp] theorem s_cOr (a b : E) : cOr a b g w = bnd (a g w) fun x w1 => bnd (lft (boolD x) w1) fun k w2 => if k = true then some (.bool true, w2) else b g w2 := Eq.trans rfl rfl
@[simp] theorem s_cNot (a : E) : cNot a g w = bnd (a g w) fun x w1 => bnd (lft (boolD x) w1) fun k w2 => some (.bool (!k), w2) := Eq.trans rfl rfl
@[simp] theorem s_cCut (a : E) (lo hi : Option E) : cCut a lo hi g w = bnd (a g w) fun x w1 => bnd (optE lo g w1) fun l w2 => bnd (optE hi g w2) fun h w3 => lft (cutD x l h) w3 := Eq.trans rfl rfl
@[simp] theorem s_optE0 : optE none g w = some (none, w) := Eq.trans rfl rfl
@[simp] theorem s_optE1 (e : E) : optE (some e) g w = bnd (e g w) fun d w1 => match d with
  | .int i => some (some i, w1)
  | _ => none := Eq.trans rfl rfl
@[simp] theorem s_itSeq (a : E) : itSeq a g w = bnd (a g w) fun x w1 => lft (itemsD x) w1 := Eq.trans rfl rfl
@[simp] theorem s_itR1 (a : E) : itR1 a g w = bnd (a g w) fun x w1 => lft (range1 x) w1 := Eq.trans rfl rfl
@[simp] theorem s_itR2 (a b : E) : itR2 a b g w = bnd (a g w) fun x w1 => bnd (b g w1) fun y w2 => lft (range2 x y) w2 := Eq.trans rfl rfl
@[simp] theorem s_itZip (a b : E) : itZip a b g w = bnd (a g w) fun x w1 => bnd (b g w1) fun y w2 => lft (zipD x y) w2 := Eq.trans rfl rfl
@[simp] theorem s_cLc (it : Es) (t : G) (c : T) (e : E) (vs : List Nat) : cLc it t c e vs g w = bnd (it g w) fun xs w1 => bnd (lcLoop t c e (wipeE g vs) xs w1) fun ds w2 => if xs.length ≤ sizeLine then some (.list ds, w2) else none := Eq.trans rfl rfl
@[simp] theorem s_sPass : sPass g w = some (.nx g, w) := Eq.trans rfl rfl
@[simp] theorem s_sSet (t : G) (e : E) : sSet t e g w = bnd (e g w) fun d w1 => match t d g with
  | some g1 => some (.nx g1, w1)
  | none => none := Eq.trans rfl rfl
@[simp] theorem s_sPar (ts : List G) (es : List E) : sPar ts es g w = bnd (cArgs es g w) fun ds w1 => match gList ts ds g with
  | some g1 => some (.nx g1, w1)
  | none => none := Eq.trans rfl rfl
@[simp] theorem s_sRet (e : E) : sRet e g w = bnd (e g w) fun d w1 => some (.rt d, w1) := Eq.trans rfl rfl
@[simp] theorem s_sIf (c : T) (a b : S) : sIf c a b g w = bnd (c g w) fun k w1 => if k = true then a g w1 else b g w1 := Eq.trans rfl rfl
@[simp] theorem s_sBreak : sBreak g w = some (.bk g, w) := Eq.trans rfl rfl
@[simp] theorem s_sCont : sCont g w = some (.ct g, w) := Eq.trans rfl rfl
@[simp] theorem s_sApp (i : Nat) (e : E) : sApp i e g w = bnd (e g w) fun d w1 => mutS i (apD · d) g w1 := Eq.trans rfl rfl
@[simp] theorem s_sExt (i : Nat) (e : E) : sExt i e g w = bnd (e g w) fun d w1 => mutS i (exD · d) g w1 := Eq.trans rfl rfl
@[simp] theorem s_mutS (i : Nat) (f : D → Option D) : mutS i f g w = match (g[i]?).join with
  | some x => match f x with
    | some y => some (.nx (g.set i (some y)), w)
    | none => none
  | none => none := Eq.trans rfl rfl
@[simp] theorem s_sAugN (i : Nat) (f : D → D → Option D) (e : E) : sAugN i f e g w = match (g[i]?).join with
  | some x => bnd (e g w) fun d w1 => match f x d with
    | some y => some (.nx (g.set i (some y)), w1)
    | none => none
  | none => none := Eq.trans rfl rfl
@[simp] theorem s_sFor (it : Es) (t : G) (b : S) (vs : List Nat) : sFor it t b vs g w = bnd (it g w) fun xs w1 => loopS t b vs xs g w1 := Eq.trans rfl rfl
@[simp] theorem s_sWhile (c : T) (b : S) (vs : List Nat) (n : Nat) : sWhile c b vs n g w = whileS c b vs n g w := Eq.trans rfl rfl
end
theorem s_sSeq (a b : S) (g : Env) (w : Wd) : sSeq a b g w = bnd (a g w) fun o w1 => match o with
  | .nx g1 => b g1 w1
  | .rt d => some (.rt d, w1)
  | .bk g1 => some (.bk g1, w1)
  | .ct g1 => some (.ct g1, w1) := rfl
@[simp] theorem s_gName (i : Nat) (d : D) (g : Env) : gName i d g = if i < g.length then some (g.set i (some d)) else none := Eq.trans rfl rfl
@[simp] theorem s_gList0 (g : Env) : gList [] [] g = some g := Eq.trans rfl rfl
@[simp] theorem s_gList1 (t : G) (ts : List G) (d : D) (ds : List D) (g : Env) : gList (t :: ts) (d :: ds) g = match t d g with
  | some g1 => gList ts ds g1
  | none => none := Eq.trans rfl rfl
@[simp] theorem s_gTup (ts : List G) (ds : List D) (g : Env) : gTup ts (.tuple ds) g = gList ts ds g := Eq.trans rfl rfl
@[simp] theorem s_wipe0 (g : Env) : wipeE g [] = g := Eq.trans rfl rfl
@[simp] theorem s_wipe1 (x : Option D) (g : Env) (v : Nat) (vs : List Nat) : wipeE (x :: g) (v :: vs) = (wipeE (x :: g) vs).set v none := Eq.trans rfl rfl
/-- the statements' wp -/
def thenS (P : Out → Wd → Prop) (b : S) : Out → Wd → Prop
  | .nx g, w => wp (b g w) P
  | o, w => P o w
@[simp] theorem thenS_nx (P : Out → Wd → Prop) (b : S) (g : Env) (w : Wd) : thenS P b (.nx g) w = wp (b g w) P := Eq.trans rfl rfl
@[simp] theorem thenS_rt (P : Out → Wd → Prop) (b : S) (d : D) (w : Wd) : thenS P b (.rt d) w = P (.rt d) w := Eq.trans rfl rfl
@[simp] theorem thenS_bk (P : Out → Wd → Prop) (b : S) (g : Env) (w : Wd) : thenS P b (.bk g) w = P (.bk g) w := Eq.trans rfl rfl
@[simp] theorem thenS_ct (P : Out → Wd → Prop) (b : S) (g : Env) (w : Wd) : thenS P b (.ct g) w = P (.ct g) w := Eq.trans rfl rfl
@[simp] theorem wp_seq {a b : S} {g : Env} {w : Wd} {P : Out → Wd → Prop} : wp (sSeq a b g w) P = wp (a g w) (thenS P b) := by
  rw [s_sSeq, wp_bnd]
  congr 1
  funext o w1
  cases o
  · rfl
  all_goals exact wp_some _ _ _
/-- a turn of a loop -/
def turn (t : G) (b : S) (vs : List Nat) (x : D) (g : Env) (w : Wd) : Option (Out × Wd) := match t x (wipeE g vs) with
  | some g1 => b g1 w
  | none => none
theorem turn_wipe {t : G} {b : S} {vs : List Nat} {x : D} {g g' : Env} {w : Wd} (h : wipeE g vs = wipeE g' vs) : turn t b vs x g w = turn t b vs x g' w := by unfold turn; rw [h]
def aftS (P : Nat → Env → Wd → Prop) (Q : Out → Wd → Prop) (vs : List Nat) (i : Nat) : Out → Wd → Prop
  | .nx g, w => P (i + 1) g w
  | .ct g, w => P (i + 1) g w
  | .bk g, w => Q (.nx (wipeE g vs)) w
  | .rt d, w => Q (.rt d) w
theorem loop_at {t : G} {b : S} {vs : List Nat} {P : Nat → Env → Wd → Prop} {Q : Out → Wd → Prop} {all : List D} (hb : ∀ i x g w, all[i]? = some x → P i g w → wp (turn t b vs x g w) (aftS P Q vs i)) (he : ∀ g w, P all.length g w → Q (.nx (wipeE g vs)) w) :
    ∀ (xs : List D) (i : Nat), all.drop i = xs → i ≤ all.length → ∀ g w, P i g w → wp (loopS t b vs xs g w) Q
  | [], i, e, hi, g, w, p => by
    have : i = all.length := by have := List.drop_eq_nil_iff.mp e; omega
    subst this
    exact wp_of (show loopS t b vs [] g w = some (.nx (wipeE g vs), w) from rfl) (he g w p)
  | x :: xs, i, e, hi, g, w, p => by
    have hx : all[i]? = some x := by rw [← List.head?_drop, e]; rfl
    have hlt : i < all.length := (List.getElem?_eq_some_iff.mp hx).1
    have hn : all.drop (i + 1) = xs := by rw [← List.tail_drop, e]; rfl
    have h := hb i x g w hx p
    unfold turn at h
    unfold loopS
    cases ht : t x (wipeE g vs) with
    | none => rw [ht] at h; simp at h
    | some g1 =>
      rw [ht] at h
      dsimp only at h ⊢
      rw [wp_bnd]
      refine wp_mono h fun o w1 ho => ?_
      cases o with
      | nx g2 => exact loop_at hb he xs (i + 1) hn hlt g2 w1 ho
      | ct g2 => exact loop_at hb he xs (i + 1) hn hlt g2 w1 ho
      | bk g2 => exact wp_of rfl ho
      | rt d => exact wp_of rfl ho
theorem wp_loop {t : G} {b : S} {vs : List Nat} {xs : List D} {g : Env} {w : Wd} {Q : Out → Wd → Prop} (P : Nat → Env → Wd → Prop) (h0 : P 0 g w) (hb : ∀ i x g w, xs[i]? = some x → P i g w → wp (turn t b vs x g w) (aftS P Q vs i)) (he : ∀ g w, P xs.length g w → Q (.nx (wipeE g vs)) w) :
    wp (loopS t b vs xs g w) Q := loop_at hb he xs 0 rfl (Nat.zero_le _) g w h0
theorem rangeL_get (lo : Int) (n i : Nat) (x : D) (h : (rangeL lo n)[i]? = some x) : i < n ∧ x = .int (lo + i) := by
  unfold rangeL at h
  rw [List.getElem?_map] at h
  by_cases hi : i < n
  · rw [List.getElem?_range hi] at h
    exact ⟨hi, (Option.some.inj h).symm⟩
  · rw [List.getElem?_eq_none (by simpa using hi)] at h
    cases h
@[simp] theorem rangeL_len (lo : Int) (n : Nat) : (rangeL lo n).length = n := by simp [rangeL]
theorem wp_range {t : G} {b : S} {vs : List Nat} {lo : Int} {n : Nat} {g : Env} {w : Wd} {Q : Out → Wd → Prop} (P : Nat → Env → Wd → Prop) (h0 : P 0 g w) (hb : ∀ i g w, i < n → P i g w → wp (turn t b vs (.int (lo + i)) g w) (aftS P Q vs i)) (he : ∀ g w, P n g w → Q (.nx (wipeE g vs)) w) :
    wp (loopS t b vs (rangeL lo n) g w) Q := wp_loop P h0 (fun i x g w hx p => by
      obtain ⟨hi, rfl⟩ := rangeL_get _ _ _ _ hx
      exact hb i g w hi p) (by rw [rangeL_len]; exact he)
/-- a loop that only computes: env by env -/
theorem loop_eq {t : G} {b : S} {vs : List Nat} {lo : Int} {n : Nat} {w : Wd} (Gs : Nat → Env) (hb : ∀ i, i < n → ∃ g', turn t b vs (.int (lo + i)) (Gs i) w = some (.nx g', w) ∧ wipeE g' vs = wipeE (Gs (i + 1)) vs) :
    loopS t b vs (rangeL lo n) (Gs 0) w = some (.nx (wipeE (Gs n) vs), w) := by
  have h := wp_range (t := t) (b := b) (vs := vs) (lo := lo) (n := n) (g := Gs 0) (w := w) (Q := fun o w' => o = .nx (wipeE (Gs n) vs) ∧ w' = w) (fun i g w' => wipeE g vs = wipeE (Gs i) vs ∧ w' = w) ⟨rfl, rfl⟩
    (fun i g w' hi ⟨e, e2⟩ => by
      subst e2
      obtain ⟨g', h1, h2⟩ := hb i hi
      have e3 : turn t b vs (.int (lo + i)) g w' = turn t b vs (.int (lo + i)) (Gs i) w' := by unfold turn; rw [e]
      rw [e3, h1, wp_some]
      exact ⟨h2, rfl⟩) (fun g w' ⟨e, e2⟩ => ⟨by rw [e], e2⟩)
  obtain ⟨a, w', e, rfl, rfl⟩ := wp_eq h
  exact e
/-! ### comprehensions -/
def turnE (t : G) (c : T) (e : E) (x : D) (g : Env) (w : Wd) : Option (Option D × Wd) := match t x g with
  | some g1 => bnd (c g1 w) fun k w1 => if k = true then bnd (e g1 w1) fun d w2 => some (some d, w2) else some (none, w1)
  | none => none
theorem lc_cons (t : G) (c : T) (e : E) (g : Env) (x : D) (xs : List D) (w : Wd) : lcLoop t c e g (x :: xs) w = bnd (turnE t c e x g w) fun r w1 => bnd (lcLoop t c e g xs w1) fun ds w2 => some ((match r with
  | some d => d :: ds
  | none => ds), w2) := by
  unfold turnE
  rw [lcLoop]
  cases t x g with
  | none => rfl
  | some g1 =>
    dsimp only
    cases c g1 w with
    | none => rfl
    | some p =>
      simp only [bnd]
      split
      · cases e g1 p.2 with
        | none => rfl
        | some q => rfl
      · cases h : lcLoop t c e g xs p.2 <;> simp only [h]
theorem lc_eq {t : G} {c : T} {e : E} {g : Env} {w : Wd} (f : D → Option D) : ∀ (xs : List D), (∀ x ∈ xs, turnE t c e x g w = some (f x, w)) → lcLoop t c e g xs w = some (xs.filterMap f, w)
  | [], _ => rfl
  | x :: xs, h => by
    rw [lc_cons, h x List.mem_cons_self, bnd_some, lc_eq f xs fun y hy => h y (List.mem_cons_of_mem _ hy), bnd_some, List.filterMap_cons]
    cases f x <;> rfl
theorem lc_range {t : G} {c : T} {e : E} {g : Env} {w : Wd} {lo : Int} {n : Nat} (f : Nat → Option D) (h : ∀ i, i < n → turnE t c e (.int (lo + i)) g w = some (f i, w)) : lcLoop t c e g (rangeL lo n) w = some ((List.range n).filterMap f, w) := by
  have : ∀ (l : List Nat), (∀ i ∈ l, i < n) → lcLoop t c e g (l.map fun i => (.int (lo + (i : Nat)) : D)) w = some (l.filterMap f, w) := by
    intro l
    induction l with
    | nil => intro _; rfl
    | cons i l ih =>
      intro hl
      rw [List.map_cons, lc_cons, h i (hl i List.mem_cons_self), bnd_some, ih fun j hj => hl j (List.mem_cons_of_mem _ hj), bnd_some, List.filterMap_cons]
      cases f i <;> rfl
  exact this _ fun i hi => List.mem_range.mp hi
/-- two lists, item by item -/
inductive All2 {α β : Type} (R : α → β → Prop) : List α → List β → Prop
  | nil : All2 R [] []
  | cons {a b as bs} (h : R a b) (t : All2 R as bs) : All2 R (a :: as) (b :: bs)
/-- with draws: each turn gives an item -/
theorem lc_wp {t : G} {c : T} {e : E} {g : Env} {R : D → D → Prop} {I : Wd → Prop} : ∀ (xs : List D) (w : Wd), I w → (∀ x ∈ xs, ∀ w, I w → wp (turnE t c e x g w) fun r w' => I w' ∧ ∃ d, r = some d ∧ R x d) → wp (lcLoop t c e g xs w) fun ds w' => I w' ∧ All2 R xs ds
  | [], w, hw, _ => wp_of (show lcLoop t c e g [] w = some ([], w) from rfl) ⟨hw, .nil⟩
  | x :: xs, w, hw, h => by
    rw [lc_cons, wp_bnd]
    refine wp_mono (h x List.mem_cons_self w hw) fun r w1 ⟨i1, d, e, rd⟩ => ?_
    subst e
    rw [wp_bnd]
    refine wp_mono (lc_wp xs w1 i1 fun y hy => h y (List.mem_cons_of_mem _ hy)) fun ds w2 ⟨i2, f⟩ => ?_
    rw [wp_some]
    exact ⟨i2, .cons rd f⟩
/-! ### the draws -/
theorem next_wp {m : Int} (hm : 0 < m) (l : List Int) : ∃ v l', fnNext [tokW, .int m] (some l) = some (.int v, some l') ∧ 0 ≤ v ∧ v < m := by
  cases l with
  | nil => exact ⟨0, [], rfl, Int.le_refl _, hm⟩
  | cons x r =>
    refine ⟨x.fmod m, r, ?_, Int.fmod_nonneg_of_pos _ hm, Int.fmod_lt_of_pos _ hm⟩
    show (if m ≠ 0 then some (.int (x.fmod m), some r) else none : Option (D × Wd)) = _
    rw [if_pos (by omega)]
/-- a draw, anywhere -/
theorem wp_next {m : Int} (hm : 0 < m) {l : List Int} {P : D → Wd → Prop} (h : ∀ v l', 0 ≤ v → v < m → P (.int v) (some l')) : wp (fnNext [tokW, .int m] (some l)) P := by
  obtain ⟨v, l', e, h1, h2⟩ := next_wp hm l
  exact wp_of e (h v l' h1 h2)
theorem wp_fn {n k : Nat} {b : S} {ds : List D} {w : Wd} {P : D → Wd → Prop} (hn : ds.length = n) (h : wp (b (ds.map some ++ List.replicate k none) w) fun o w' => ∃ d, o = .rt d ∧ P d w') : wp (bodyFn n k b ds w) P := by
  unfold bodyFn
  rw [if_pos hn, wp_bnd]
  refine wp_mono h fun o w' ⟨d, e, p⟩ => ?_
  subst e
  exact wp_of rfl p
/-- a def that only computes -/
theorem fn_eq {n k : Nat} {b : S} {ds : List D} {w : Wd} {r : D} (hn : ds.length = n) (h : b (ds.map some ++ List.replicate k none) w = some (.rt r, w)) : bodyFn n k b ds w = some (r, w) := by
  unfold bodyFn
  rw [if_pos hn, h]
  rfl
end Q

set_option Elab.async false
set_option linter.all false
set_option autoImplicit false
set_option maxRecDepth 100000
/-! QMO: the operators at known kinds. -/
namespace Q
open PySem PySem.W
theorem size_eq : sizeLine = 16777216 := sizeLine_eq
section
variable (i j : Int) (xs ys : List D) (d : D)
@[simp] theorem addD_i : addD (.int i) (.int j) = some (.int (i + j)) := Eq.trans rfl rfl
@[simp] theorem addI_i : addI (.int i) (.int j) = some (.int (i + j)) := Eq.trans rfl rfl
@[simp] theorem subD_i : subD (.int i) (.int j) = some (.int (i - j)) := Eq.trans rfl rfl
@[simp] theorem negD_i : negD (.int i) = some (.int (-i)) := Eq.trans rfl rfl
@[simp] theorem intD_i : intD (.int i) = some (.int i) := Eq.trans rfl rfl
@[simp] theorem intD_b (b : Bool) : intD (.bool b) = some (.int (if b then 1 else 0)) := Eq.trans rfl rfl
@[simp] theorem absD_i : absD (.int i) = some (.int (if i < 0 then -i else i)) := Eq.trans rfl rfl
theorem mulI_i : mulI (.int i) (.int j) = if (small64 i || small64 j) = true then some (.int (i * j)) else none := rfl
theorem pow1018 : powD (.int 10) (.int 18) = some (.int 1000000000000000000) := rfl
theorem small_of {i : Int} (h : -1000000 ≤ i) (h2 : i ≤ 1000000) : small64 i = true := by unfold small64; simp; omega
theorem mulI_l {i j : Int} (h : small64 i = true) : mulI (.int i) (.int j) = some (.int (i * j)) := by rw [mulI_i, h]; rfl
theorem mulI_r {i j : Int} (h : small64 j = true) : mulI (.int i) (.int j) = some (.int (i * j)) := by rw [mulI_i, h, Bool.or_true]; rfl
theorem divD_i {i j : Int} (h : j ≠ 0) (h2 : j.natAbs < 1073741824) : divD (.int i) (.int j) = some (.int (i.fdiv j)) := by
  exact if_pos ⟨h, h2⟩
theorem modD_i {i j : Int} (h : j ≠ 0) : modD (.int i) (.int j) = some (.int (i.fmod j)) := by
  exact if_pos h
@[simp] theorem max2D_i : max2D (.int i) (.int j) = some (.int (if j > i then j else i)) := Eq.trans rfl rfl
@[simp] theorem min2D_i : min2D (.int i) (.int j) = some (.int (if j < i then j else i)) := Eq.trans rfl rfl
@[simp] theorem lenD_l : lenD (.list xs) = some (.int xs.length) := Eq.trans rfl rfl
@[simp] theorem lenD_t : lenD (.tuple xs) = some (.int xs.length) := Eq.trans rfl rfl
@[simp] theorem lenD_s (ns : List Int) : lenD (tokS ns) = some (.int ns.length) := by simp [lenD, tokS, scrOf]
@[simp] theorem tupD_l : tupD (.list xs) = some (.tuple xs) := Eq.trans rfl rfl
@[simp] theorem tupD_t : tupD (.tuple xs) = some (.tuple xs) := Eq.trans rfl rfl
@[simp] theorem itemsD_l : itemsD (.list xs) = some xs := Eq.trans rfl rfl
@[simp] theorem itemsD_t : itemsD (.tuple xs) = some xs := Eq.trans rfl rfl
@[simp] theorem ixD_l : ixD (.list xs) (.int i) = L2.atI xs i := Eq.trans rfl rfl
@[simp] theorem ixD_t : ixD (.tuple xs) (.int i) = L2.atI xs i := Eq.trans rfl rfl
@[simp] theorem ixD_s (ns : List Int) : ixD (tokS ns) (.int i) = L2.atI (ns.map .int) i := Eq.trans rfl rfl
@[simp] theorem zipD_l : zipD (.list xs) (.list ys) = some ((xs.zip ys).map fun p => .tuple [p.1, p.2]) := Eq.trans rfl rfl
@[simp] theorem zipD_t : zipD (.tuple xs) (.tuple ys) = some ((xs.zip ys).map fun p => .tuple [p.1, p.2]) := Eq.trans rfl rfl
@[simp] theorem cutD_l (lo hi : Option Int) : cutD (.list xs) lo hi = some (.list (cutL xs lo hi)) := Eq.trans rfl rfl
@[simp] theorem cutD_t (lo hi : Option Int) : cutD (.tuple xs) lo hi = some (.tuple (cutL xs lo hi)) := Eq.trans rfl rfl
@[simp] theorem isND_n : isND d .none = some (isNoneD d) := Eq.trans rfl rfl
@[simp] theorem isNotND_n : isNotND d .none = some (!isNoneD d) := Eq.trans rfl rfl
@[simp] theorem isNone_n : isNoneD .none = true := Eq.trans rfl rfl
@[simp] theorem isNone_i : isNoneD (.int i) = false := Eq.trans rfl rfl
@[simp] theorem isNone_b (b : Bool) : isNoneD (.bool b) = false := Eq.trans rfl rfl
@[simp] theorem isNone_s (s : Str) : isNoneD (.str s) = false := Eq.trans rfl rfl
@[simp] theorem isNone_l : isNoneD (.list xs) = false := Eq.trans rfl rfl
@[simp] theorem isNone_t : isNoneD (.tuple xs) = false := Eq.trans rfl rfl
@[simp] theorem boolD_b (b : Bool) : boolD (.bool b) = some b := Eq.trans rfl rfl
theorem apD_l {xs : List D} {d : D} (h : xs.length < sizeLine) : apD (.list xs) d = some (.list (xs ++ [d])) := if_pos h
theorem exD_l {xs ys : List D} (h : xs.length + ys.length ≤ sizeLine) : exD (.list xs) (.list ys) = some (.list (xs ++ ys)) := if_pos h
theorem catD_l {xs ys : List D} (h : xs.length + ys.length ≤ sizeLine) : catD (.list xs) (.list ys) = some (.list (xs ++ ys)) := if_pos h
end
theorem range1_i (n : Int) : range1 (.int n) = if small62 n = true then some (rangeL 0 n.toNat) else none := rfl
theorem range2_i (m n : Int) : range2 (.int m) (.int n) = if (small62 m && small62 n) = true then some (rangeL m (n - m).toNat) else none := rfl
theorem small62_of {n : Int} (h : -100000000 ≤ n) (h2 : n ≤ 100000000) : small62 n = true := by unfold small62; simp; omega
theorem r1_nat {n : Nat} (h : n ≤ sizeLine) : range1 (.int (n : Int)) = some (rangeL 0 n) := by
  rw [size_eq] at h
  rw [range1_i, if_pos (small62_of (by omega) (by omega)), Int.toNat_natCast]
theorem r1_int {n : Int} (h0 : 0 ≤ n) (h : n ≤ 1000000) : range1 (.int n) = some (rangeL 0 n.toNat) := by
  rw [range1_i, if_pos (small62_of (by omega) (by omega))]
theorem r2_nat {m n : Nat} (h : n ≤ sizeLine) (h2 : m ≤ sizeLine) : range2 (.int (m : Int)) (.int (n : Int)) = some (rangeL m (n - m)) := by
  rw [size_eq] at h h2
  have e : ((n : Int) - (m : Int)).toNat = n - m := by omega
  rw [range2_i, small62_of (by omega) (by omega), small62_of (by omega) (by omega), if_pos (by rfl), e]
theorem atI_get {α : Type} {xs : List α} {k : Nat} {x : α} (h : xs[k]? = some x) : L2.atI xs (k : Int) = some x := by
  have hl := (List.getElem?_eq_some_iff.mp h).1
  unfold L2.atI L2.ixN
  rw [if_pos (Int.natCast_nonneg k), if_pos (by omega)]
  simpa using h
theorem atI_lt {α : Type} (xs : List α) {k : Nat} (h : k < xs.length) : L2.atI xs (k : Int) = some xs[k] := atI_get (List.getElem?_eq_getElem h)
theorem atI_neg1 {α : Type} {xs : List α} {x : α} (h : xs.getLast? = some x) : L2.atI xs (-1) = some x := by
  have hne : xs ≠ [] := fun z => by subst z; simp at h
  have hl : 0 < xs.length := List.length_pos_iff.mpr hne
  unfold L2.atI L2.ixN
  rw [if_neg (by omega), if_pos (by omega)]
  have e : (-1 + (xs.length : Int)).toNat = xs.length - 1 := by omega
  rw [e]
  rw [List.getLast?_eq_getElem?] at h
  exact h
/-! comparisons -/
@[simp] theorem eqD_i (i j : Int) : eqD (.int i) (.int j) = some (decide (i = j)) := by
  unfold eqD
  rw [if_pos (by rfl)]
  simp only [PyData.eqv]
  rw [beq_decide]
@[simp] theorem neD_i (i j : Int) : neD (.int i) (.int j) = some (!decide (i = j)) := by unfold neD; rw [eqD_i]; rfl
@[simp] theorem ltD_i (i j : Int) : ltD (.int i) (.int j) = some (decide (i < j)) := by
  unfold ltD; rw [if_pos (by rfl), dataLt_int]
@[simp] theorem gtD_i (i j : Int) : gtD (.int i) (.int j) = some (decide (j < i)) := by
  unfold gtD; rw [if_pos (by rfl), dataLt_int]
@[simp] theorem leD_i (i j : Int) : leD (.int i) (.int j) = some (decide (i ≤ j)) := by
  unfold leD; rw [if_pos (by rfl), dataLt_int]
  congr 1
  by_cases h : j < i
  · rw [decide_eq_true h, decide_eq_false (by omega)]; rfl
  · rw [decide_eq_false h, decide_eq_true (by omega)]; rfl
@[simp] theorem geD_i (i j : Int) : geD (.int i) (.int j) = some (decide (j ≤ i)) := by
  unfold geD; rw [if_pos (by rfl), dataLt_int]
  congr 1
  by_cases h : i < j
  · rw [decide_eq_true h, decide_eq_false (by omega)]; rfl
  · rw [decide_eq_false h, decide_eq_true (by omega)]; rfl
theorem eqD_of {α : Type} [DecidableEq α] [Datum α] (x y : α) (h : Datum.depth α ≤ 60) : eqD (Datum.toD x) (Datum.toD y) = some (decide (x = y)) := by
  unfold eqD lowD
  have h1 := Datum.depth_le x
  have h2 := Datum.depth_le y
  rw [if_pos (by simp [Datum.plain]; omega), Datum.eqv]
theorem neD_of {α : Type} [DecidableEq α] [Datum α] (x y : α) (h : Datum.depth α ≤ 60) : neD (Datum.toD x) (Datum.toD y) = some (!decide (x = y)) := by
  unfold neD; rw [eqD_of x y h]; rfl
/-- a plain thing beside an empty list or tuple -/
theorem depth_mem {xs : List D} {n : Nat} (h : ∀ x ∈ xs, x.depth ≤ n) : PyData.depthAll xs ≤ n := by
  induction xs with
  | nil => simp [PyData.depthAll]
  | cons x xs ih =>
    simp only [PyData.depthAll]
    have := h x List.mem_cons_self
    have := ih fun y hy => h y (List.mem_cons_of_mem _ hy)
    omega
theorem plain_all {xs : List D} (h : ∀ x ∈ xs, x.plain = true) : PyData.plainAll xs = true := by
  induction xs with
  | nil => rfl
  | cons x xs ih =>
    simp only [PyData.plainAll, Bool.and_eq_true]
    exact ⟨h x List.mem_cons_self, ih fun y hy => h y (List.mem_cons_of_mem _ hy)⟩
/-- data that compares at once: plain and low -/
def Low (n : Nat) (d : D) : Prop := d.plain = true ∧ d.depth ≤ n
theorem Low.i (n : Nat) (i : Int) : Low n (.int i) := ⟨rfl, Nat.zero_le _⟩
theorem Low.t {n : Nat} {xs : List D} (h : ∀ x ∈ xs, Low n x) : Low (n + 1) (.tuple xs) := by
  refine ⟨?_, ?_⟩
  · simp only [PyData.plain]; exact plain_all fun x hx => (h x hx).1
  · simp only [PyData.depth]; have := depth_mem fun x hx => (h x hx).2; omega
theorem Low.l {n : Nat} {xs : List D} (h : ∀ x ∈ xs, Low n x) : Low (n + 1) (.list xs) := by
  refine ⟨?_, ?_⟩
  · simp only [PyData.plain]; exact plain_all fun x hx => (h x hx).1
  · simp only [PyData.depth]; have := depth_mem fun x hx => (h x hx).2; omega
theorem Low.mono {m n : Nat} {d : D} (h : Low m d) (k : m ≤ n) : Low n d := ⟨h.1, Nat.le_trans h.2 k⟩
theorem eqD_low {x y : D} (hx : Low 60 x) (hy : Low 60 y) : eqD x y = some (PyData.eqv x y) := by
  unfold eqD lowD
  rw [if_pos (by simp [hx.1, hy.1, hx.2, hy.2])]
theorem neD_low {x y : D} (hx : Low 60 x) (hy : Low 60 y) : neD x y = some (!PyData.eqv x y) := by
  unfold neD; rw [eqD_low hx hy]; rfl
theorem eqv_l0 (xs : List D) : PyData.eqv (.list xs) (.list []) = xs.isEmpty := by cases xs <;> simp [PyData.eqv, PyData.eqvAll]
theorem eqv_t0 (xs : List D) : PyData.eqv (.tuple xs) (.tuple []) = xs.isEmpty := by cases xs <;> simp [PyData.eqv, PyData.eqvAll]
/-- if at the leaves -/
@[simp] theorem ite_some {α : Type} {c : Prop} [Decidable c] (a b : α) : (if c then some a else some b) = some (if c then a else b) := by split <;> rfl
@[simp] theorem ite_pairW {α : Type} {c : Prop} [Decidable c] (a b : α) (w : Wd) : (if c then (a, w) else (b, w)) = (if c then a else b, w) := by split <;> rfl
@[simp] theorem ite_int {c : Prop} [Decidable c] (a b : Int) : (if c then (.int a : D) else .int b) = .int (if c then a else b) := by split <;> rfl
@[simp] theorem ite_nx {c : Prop} [Decidable c] (a b : Env) : (if c then Out.nx a else .nx b) = .nx (if c then a else b) := by split <;> rfl
@[simp] theorem ite_consE {c : Prop} [Decidable c] (a b : Option D) (xs ys : Env) : (if c then a :: xs else b :: ys) = (if c then a else b) :: (if c then xs else ys) := by split <;> rfl
/-! comprehensions over mapped lists -/
theorem lc_map {α : Type} {t : G} {c : T} {e : E} {g : Env} {w : Wd} (enc : α → D) (f : α → D) : ∀ (l : List α), (∀ a ∈ l, turnE t c e (enc a) g w = some (some (f a), w)) → lcLoop t c e g (l.map enc) w = some (l.map f, w)
  | [], _ => rfl
  | a :: l, h => by
    rw [List.map_cons, lc_cons, h a List.mem_cons_self, bnd_some, lc_map enc f l fun y hy => h y (List.mem_cons_of_mem _ hy), bnd_some, List.map_cons]
theorem lc_rmap {t : G} {c : T} {e : E} {g : Env} {w : Wd} {lo : Int} {n : Nat} (f : Nat → D) (h : ∀ i, i < n → turnE t c e (.int (lo + i)) g w = some (some (f i), w)) : lcLoop t c e g (rangeL lo n) w = some ((List.range n).map f, w) := by
  rw [lc_range (fun i => some (f i)) h]
  congr 2
  exact congrFun List.filterMap_eq_map _
theorem lc_rfilter {t : G} {c : T} {e : E} {g : Env} {w : Wd} {lo : Int} {n : Nat} (p : Nat → Bool) (f : Nat → D) (h : ∀ i, i < n → turnE t c e (.int (lo + i)) g w = some (if p i = true then some (f i) else none, w)) : lcLoop t c e g (rangeL lo n) w = some (((List.range n).filter p).map f, w) := by
  rw [lc_range (fun i => if p i = true then some (f i) else none) h]
  congr 2
  induction List.range n with
  | nil => rfl
  | cons x xs ih =>
    rw [List.filterMap_cons, List.filter_cons]
    cases p x with
    | true => simp [ih]
    | false => simp [ih]
@[simp] theorem cutL_1 {α : Type} (xs : List α) : cutL xs (some 1) none = xs.drop 1 := by
  unfold cutL
  rw [show HT.sIx xs.length 0 (some 1) = min 1 xs.length from HT.sIx_nat xs.length 0 1, HT.sIx_none]
  cases xs with
  | nil => rfl
  | cons x r =>
    rw [show min 1 (x :: r).length = 1 by
      rw [List.length_cons]
      omega]
    show (List.take ((x :: r).length - 1) r) = r
    rw [List.length_cons, Nat.add_sub_cancel]
    exact List.take_length
/-! min and max -/
theorem mm_plain {d : D} {x : D} {xs : List D} (hi : itemsD d = some (x :: xs)) (hl : Low 60 d) (ha : alikeB (x :: xs) = true) (hn : noNoneB (x :: xs) = true) : minD1 d = some (minD x xs) ∧ maxD1 d = some (maxD x xs) := by
  unfold minD1 maxD1
  rw [hi]
  dsimp only
  rw [if_pos (by simp [hl.1, ha, hn, lowD, hl.2]), if_pos (by simp [hl.1, ha, hn, lowD, hl.2])]
  exact ⟨rfl, rfl⟩
theorem alike_intsB (l : List Int) : alikeB (l.map PyData.int) = true ∧ noNoneB (l.map PyData.int) = true := by
  constructor
  · unfold alikeB
    simp [alike]
  · unfold noNoneB
    simp
theorem mm_ints {l : List Int} (h : l ≠ []) : ∃ a b : Int, minD1 (.tuple (l.map .int)) = some (.int a) ∧ maxD1 (.tuple (l.map .int)) = some (.int b) := by
  cases l with
  | nil => exact absurd rfl h
  | cons x xs =>
    obtain ⟨h1, h2⟩ := alike_intsB (x :: xs)
    have hl : Low 60 (.tuple ((x :: xs).map PyData.int)) := (Low.t (n := 1) fun y hy => by
      obtain ⟨i, _, rfl⟩ := List.mem_map.mp hy
      exact Low.i 1 i).mono (by omega)
    obtain ⟨h3, h4⟩ := mm_plain (x := .int x) (xs := xs.map .int) rfl hl h1 h2
    have m1 := minD_mem (.int x) (xs.map .int)
    have m2 := maxD_mem (.int x) (xs.map .int)
    obtain ⟨a, _, ha⟩ := List.mem_map.mp (show minD (.int x) (xs.map .int) ∈ (x :: xs).map PyData.int from m1)
    obtain ⟨b, _, hb⟩ := List.mem_map.mp (show maxD (.int x) (xs.map .int) ∈ (x :: xs).map PyData.int from m2)
    exact ⟨a, b, by rw [h3, ha], by rw [h4, hb]⟩
theorem seq_det {a b : S} {g g' : Env} {w w' : Wd} {P : Out → Wd → Prop} (h : a g w = some (.nx g', w')) (k : wp (b g' w') P) : wp (sSeq a b g w) P := by
  rw [wp_seq, h, wp_some]; exact k
theorem seq_wp {a b : S} {g : Env} {w : Wd} {P : Out → Wd → Prop} {R : Out → Wd → Prop} (h : wp (a g w) R) (k : ∀ o w', R o w' → thenS P b o w') : wp (sSeq a b g w) P := by
  rw [wp_seq]; exact wp_mono h k
/-- a list of draws -/
theorem lc_draw {i : Nat} {e : E} {g : Env} {P : Int → Prop} (hi : i < g.length) (he : ∀ x l, wp (e (g.set i (some x)) (some l)) fun d w' => ∃ v l', d = .int v ∧ w' = some l' ∧ P v) :
    ∀ (xs : List D) (l : List Int), wp (lcLoop (gName i) tYes e g xs (some l)) fun ds w' => ∃ vs : List Int, ∃ l', ds = vs.map .int ∧ w' = some l' ∧ vs.length = xs.length ∧ ∀ v ∈ vs, P v
  | [], l => wp_of (show lcLoop (gName i) tYes e g [] (some l) = some ([], some l) from rfl) ⟨[], l, rfl, rfl, rfl, fun v hv => by simp at hv⟩
  | x :: xs, l => by
    rw [lc_cons, wp_bnd]
    have h1 : turnE (gName i) tYes e x g (some l) = bnd (e (g.set i (some x)) (some l)) fun d w2 => some (some d, w2) := by
      unfold turnE
      rw [s_gName, if_pos hi]
      rfl
    rw [h1, wp_bnd]
    refine wp_mono (he x l) fun d w' ⟨v, l', hd, hw, hv⟩ => ?_
    subst hd hw
    rw [wp_some, wp_bnd]
    refine wp_mono (lc_draw hi he xs l') fun ds w2 ⟨vs, l2, h1, h2, h3, h4⟩ => ?_
    subst h1 h2
    rw [wp_some]
    exact ⟨v :: vs, l2, rfl, rfl, by simp [h3], fun u hu => by
      rcases List.mem_cons.mp hu with rfl | hu
      · exact hv
      · exact h4 u hu⟩
end Q

set_option Elab.async false
set_option linter.all false
set_option autoImplicit false
set_option maxRecDepth 100000
/-! QMD: the two defs that the laws share: the draws, alike. -/
namespace Q
open PySem PySem.W
def bDraws_0 : S :=
    sIf (tCmp gtD (cVar 6) (cK (.int 0))) (sSeq (sApp 2 (cOp2 modD (cOp1 intD (cVar 6)) (cK (.int 997))))
    (sSet (gName 6) (cOp2 divD (cVar 6) (cK (.int 997))))) (sPass)
def bDraws_1 : S :=
    sSeq (sSet (gName 5) (cOp1 absD (cOp1 intD (cOp2 ixD (cVar 0) (cVar 4)))))
    (sSeq (sSet (gName 3) (cOp2 modD (cOp1 intD (cOp2 addD (cOp2 addD (cOp2 mulI (cVar 3) (cK (.int 48271))) (cOp2 modD (cVar 5) (cK (.int 1000003)))) (cVar 4))) (cK (.int 65537))))
    (sSeq (sSet (gName 6) (cIf (tCmp geD (cVar 5) (cOp2 powD (cK (.int 10)) (cK (.int 18)))) (cVar 5) (cK (.int 0))))
    (sSeq (sSet (gName 2) (cOp2 catD (cVar 2) (cIf (tCmp eqD (cVar 6) (cK (.int 0))) (cLst [cOp2 modD (cOp1 intD (cVar 5)) (cK (.int 997)), cOp2 modD (cOp2 modD (cOp1 intD (cOp2 addD (cOp2 mulI (cVar 3) (cK (.int 69621))) (cK (.int 5)))) (cK (.int 65521))) (cK (.int 997))]) (cLst []))))
    (sFor (itR1 (cK (.int 60))) (gName 7) (bDraws_0) [7]))))
def bDraws_2 : S :=
    sSeq (sSet (gName 3) (cOp2 modD (cOp1 intD (cOp2 addD (cOp2 addD (cOp2 mulI (cVar 3) (cK (.int 16807))) (cVar 4)) (cK (.int 1)))) (cK (.int 65537))))
    (sApp 2 (cOp2 modD (cOp1 intD (cVar 3)) (cK (.int 997))))
def bDraws : S :=
    sSeq (sPar [gName 2, gName 3] [cLst [], cK (.int 7)])
    (sSeq (sFor (itR1 (cOp1 lenD (cVar 0))) (gName 4) (bDraws_1) [4, 5, 6, 7])
    (sSeq (sFor (itR1 (cVar 1)) (gName 4) (bDraws_2) [4])
    (sRet (cCut (cVar 2) none (some (cVar 1))))))
def bAlike (self : Fn) : S :=
    sSeq (sIf (tVal (cOp1 (isaD .dict) (cVar 1))) (sDead) (sPass))
    (sSeq (sIf (tOr (tVal (cOp1 (isaD .tuple) (cVar 1))) (tVal (cOp1 (isaD .list) (cVar 1)))) (sSeq (sSet (gName 2) (cIf (tVal (cOp1 (isaD .tuple) (cVar 1))) (cOp1 (isaD .tuple) (cVar 0)) (cOp1 (isaD .list) (cVar 0))))
    (sRet (cAnd (cVar 2) (cAnd (cT (tCmp eqD (cOp1 lenD (cVar 0)) (cOp1 lenD (cVar 1)))) (cT (tCmp eqD (cLc (itR1 (cOp1 lenD (cVar 1))) (gName 4) (tNot (tVal (cCall self [cOp2 ixD (cVar 0) (cVar 4), cOp2 ixD (cVar 1) (cVar 4)]))) (cVar 4) [4]) (cLst []))))))) (sPass))
    (sSeq (sIf (tOr (tCmp isND (cVar 1) (cK .none)) (tVal (cOp1 (isaD .str) (cVar 1)))) (sRet (cIf (tCmp isND (cVar 1) (cK .none)) (cT (tCmp isND (cVar 0) (cK .none))) (cAnd (cOp1 (isaD .str) (cVar 0)) (cT (tCmp eqD (cVar 0) (cVar 1)))))) (sPass))
    (sRet (cAnd (cOp1 (isaD .int) (cVar 0)) (cAnd (cT (tCmp eqD (cOp1 (isaD .bool) (cVar 0)) (cOp1 (isaD .bool) (cVar 1)))) (cT (tCmp eqD (cVar 0) (cVar 1))))))))
def eDr (sc : D) (M : Int) (l : List Int) (m : Int) : Env := [some sc, some (.int M), some (.list (l.map .int)), some (.int m), none, none, none, none]
theorem eDr_w (sc : D) (M : Int) (l : List Int) (m : Int) : wipeE (eDr sc M l m) [4, 5, 6, 7] = eDr sc M l m := rfl
theorem eDr_w4 (sc : D) (M : Int) (l : List Int) (m : Int) : wipeE (eDr sc M l m) [4] = eDr sc M l m := rfl
theorem app_int {l : List Int} {v : Int} (h : l.length < sizeLine) : apD (.list (l.map .int)) (.int v) = some (.list ((l ++ [v]).map .int)) := by
  rw [apD_l (by simpa using h), List.map_append]; rfl
theorem cat_int {l m : List Int} (h : l.length + m.length ≤ sizeLine) : catD (.list (l.map .int)) (.list (m.map .int)) = some (.list ((l ++ m).map .int)) := by
  rw [catD_l (by simpa using h), List.map_append]
@[simp] theorem isI_some (i : Int) : ∃ j, (PyData.int i) = .int j := ⟨i, rfl⟩

theorem digits_loop (ns : List Int) (M : Int) (l : List Int) (m k c r : Int) (hz : l.length ≤ 100000) (w : Wd) (Q : Out → Wd → Prop) (h : ∀ (l' : List Int) (r' : Int), l'.length ≤ l.length + 60 → Q (.nx [some (tokS ns), some (.int M), some (.list (l'.map .int)), some (.int m), some (.int k), some (.int c), some (.int r'), none]) w) :
    wp (loopS (gName 7) bDraws_0 [7] (rangeL 0 60) [some (tokS ns), some (.int M), some (.list (l.map .int)), some (.int m), some (.int k), some (.int c), some (.int r), none] w) Q := by
  refine wp_range (fun i g w' => w' = w ∧ ∃ (l' : List Int) (r' : Int), wipeE g [7] = [some (tokS ns), some (.int M), some (.list (l'.map .int)), some (.int m), some (.int k), some (.int c), some (.int r'), none] ∧ l'.length ≤ l.length + i) ⟨rfl, l, r, rfl, by omega⟩ (fun i g w' hi ⟨e, l', r', hg, hl⟩ => ?_) fun g w' ⟨e, l', r', hg, hl⟩ => ?_
  · subst e
    generalize hR : aftS _ Q [7] i = R
    unfold turn bDraws_0
    rw [hg]
    by_cases hr : 0 < r'
    · simp -implicitDefEqProofs [hr, modD_i, divD_i]
      rw [app_int (by rw [size_eq]; omega)]
      simp -implicitDefEqProofs [modD_i, divD_i]
      subst hR
      exact ⟨rfl, l' ++ [r'.fmod 997], r'.fdiv 997, by simp, by simp; omega⟩
    · simp -implicitDefEqProofs [hr]
      subst hR
      exact ⟨rfl, _, _, rfl, by omega⟩
  · subst e
    rw [hg]
    exact h l' r' hl
theorem draws_turn (ns : List Int) (M : Int) (l : List Int) (m : Int) (k : Nat) (hk : k < ns.length) (hk2 : k ≤ 1000) (hz : l.length ≤ 10000) (w : Wd) : wp (turn (gName 4) bDraws_1 [4, 5, 6, 7] (.int (k : Int)) (eDr (tokS ns) M l m) w) fun o w' => w' = w ∧ ∃ (g : Env) (l' : List Int) (m' : Int), o = .nx g ∧ wipeE g [4, 5, 6, 7] = eDr (tokS ns) M l' m' ∧ l'.length ≤ l.length + 62 := by
  have hs : ∀ i : Int, i = 48271 ∨ i = 69621 ∨ i = 16807 → small64 i = true := by
    rintro i (rfl | rfl | rfl) <;> decide
  have hx : L2.atI (ns.map PyData.int) (k : Int) = some (.int ns[k]) := by rw [atI_lt _ (by simpa using hk)]; simp
  have h60 : range1 (.int 60) = some (rangeL 0 60) := r1_int (by omega) (by omega)
  generalize hR : (fun (o : Out) (w' : Wd) => w' = w ∧ ∃ (g : Env) (l' : List Int) (m' : Int), o = .nx g ∧ wipeE g [4, 5, 6, 7] = eDr (tokS ns) M l' m' ∧ l'.length ≤ l.length + 62) = R
  unfold turn bDraws_1 eDr
  simp -implicitDefEqProofs [hx, mulI_r (hs 48271 (.inl rfl)), mulI_r (hs 69621 (.inr (.inl rfl))), modD_i, pow1018, h60]
  generalize (if ns[k] < 0 then -ns[k] else ns[k]) = c
  generalize (m * 48271 + c.fmod 1000003 + (k : Int)).fmod 65537 = m'
  have fin : ∀ (l1 : List Int) (r : Int), l1.length ≤ l.length + 2 → wp (loopS (gName 7) bDraws_0 [7] (rangeL 0 60) [some (tokS ns), some (.int M), some (.list (l1.map .int)), some (.int m'), some (.int k), some (.int c), some (.int r), none] w) R := fun l1 r h1 => by
    refine digits_loop ns M l1 m' k c r (by omega) w R fun l' r' hl => ?_
    subst hR
    exact ⟨rfl, _, l', m', rfl, by simp -implicitDefEqProofs [eDr], by omega⟩
  have e1 : PyData.list ((l ++ [c.fmod 997, ((m' * 69621 + 5).fmod 65521).fmod 997]).map .int) = PyData.list (l.map .int ++ [.int (c.fmod 997), .int (((m' * 69621 + 5).fmod 65521).fmod 997)]) := by simp
  by_cases h1 : 1000000000000000000 ≤ c
  · have h2 : ¬ c = 0 := by omega
    have h3 : ¬ c < 1000000000000000000 := by omega
    simp -implicitDefEqProofs [h1, h2, h3]
    rw [catD_l (by rw [size_eq]; simp; omega)]
    simp -implicitDefEqProofs
    exact fin l c (by omega)
  · have h3 : c < 1000000000000000000 := by omega
    simp -implicitDefEqProofs [h1, h3]
    rw [catD_l (by rw [size_eq]; simp; omega), ← e1]
    simp only [lft_some, wp_some]
    exact fin _ 0 (by simp)
theorem tail_turn (sc : D) (M : Int) (l : List Int) (m : Int) (k : Nat) (hk2 : k ≤ 100000) (hz : l.length ≤ 1000000) (w : Wd) : wp (turn (gName 4) bDraws_2 [4] (.int (k : Int)) (eDr sc M l m) w) fun o w' => w' = w ∧ ∃ (g : Env) (l' : List Int) (m' : Int), o = .nx g ∧ wipeE g [4] = eDr sc M l' m' ∧ l'.length ≤ l.length + 1 := by
  have hs : small64 16807 = true := by decide
  generalize hR : (fun (o : Out) (w' : Wd) => w' = w ∧ ∃ (g : Env) (l' : List Int) (m' : Int), o = .nx g ∧ wipeE g [4] = eDr sc M l' m' ∧ l'.length ≤ l.length + 1) = R
  unfold turn bDraws_2 eDr
  simp -implicitDefEqProofs [mulI_r hs, modD_i]
  rw [app_int (by rw [size_eq]; omega)]
  simp -implicitDefEqProofs
  subst hR
  exact ⟨rfl, _, l ++ [((m * 16807 + k + 1).fmod 65537).fmod 997], (m * 16807 + k + 1).fmod 65537, rfl, by simp -implicitDefEqProofs [eDr], by simp⟩
theorem draws_ok (ns : List Int) (M : Int) (hM : 0 ≤ M) (hM2 : M ≤ 100000) (hn : ns.length ≤ 63) (w : Wd) : ∃ l : List Int, bodyFn 2 6 bDraws [tokS ns, .int M] w = some (.list (l.map .int), w) := by
  suffices h : wp (bodyFn 2 6 bDraws [tokS ns, .int M] w) fun d w' => ∃ l : List Int, d = .list (l.map .int) ∧ w' = w by
    obtain ⟨d, w', e, l, rfl, rfl⟩ := wp_eq h
    exact ⟨l, e⟩
  have hz : ns.length ≤ sizeLine := by rw [size_eq]; omega
  refine wp_fn rfl ?_
  generalize hR : (fun (o : Out) (w' : Wd) => ∃ d, o = .rt d ∧ ∃ l : List Int, d = .list (l.map .int) ∧ w' = w) = R
  unfold bDraws
  simp -implicitDefEqProofs [r1_nat hz]
  refine wp_range (fun i g w' => w' = w ∧ ∃ (l : List Int) (m : Int), wipeE g [4, 5, 6, 7] = eDr (tokS ns) M l m ∧ l.length ≤ i * 62) ⟨rfl, [], 7, rfl, by simp⟩ (fun i g w' hi ⟨e, l, m, hg, hl⟩ => ?_) fun g w' ⟨e, l, m, hg, hl⟩ => ?_
  · subst e
    have h := draws_turn ns M l m i hi (by omega) (by omega) w'
    rw [Int.zero_add, turn_wipe (g' := eDr (tokS ns) M l m) (hg.trans (eDr_w ..).symm)]
    refine wp_mono h fun o w2 ⟨e, g', l', m', ho, hg', hl'⟩ => ?_
    subst ho
    exact ⟨e, l', m', hg', by omega⟩
  · subst e
    rw [hg]
    unfold eDr
    simp -implicitDefEqProofs [r1_int hM (by omega : M ≤ 1000000)]
    refine wp_range (fun i g w2 => w2 = w' ∧ ∃ (l : List Int) (m : Int), wipeE g [4] = eDr (tokS ns) M l m ∧ l.length ≤ 63 * 62 + i) ⟨rfl, l, m, rfl, by omega⟩ (fun i g w2 hi ⟨e, l, m, hg, hl⟩ => ?_) fun g w2 ⟨e, l, m, hg, hl⟩ => ?_
    · subst e
      have h := tail_turn (tokS ns) M l m i (by omega) (by omega) w2
      rw [Int.zero_add, turn_wipe (g' := eDr (tokS ns) M l m) (hg.trans (eDr_w4 ..).symm)]
      refine wp_mono h fun o w3 ⟨e, g', l', m', ho, hg', hl'⟩ => ?_
      subst ho
      exact ⟨e, l', m', hg', by omega⟩
    · subst e
      rw [hg]
      unfold eDr
      simp -implicitDefEqProofs
      subst hR
      refine ⟨_, rfl, cutL l none (some M), ?_, rfl⟩
      unfold cutL
      simp -implicitDefEqProofs
end Q

set_option Elab.async false
set_option linter.all false
set_option autoImplicit false
set_option maxRecDepth 100000
/-! QMA: alike says True of a thing and itself. -/
namespace Q
open PySem PySem.W
def fAl : Nat → Fn
  | 0 => bodyFn 2 3 sDead
  | n + 1 => bodyFn 2 3 (bAlike (fAl n))
/-- data that alike walks: no dict, n deep -/
def Alk : Nat → D → Prop
  | 0, _ => False
  | n + 1, .list xs => xs.length ≤ 1000000 ∧ ∀ x ∈ xs, Alk n x
  | n + 1, .tuple xs => xs.length ≤ 1000000 ∧ ∀ x ∈ xs, Alk n x
  | _ + 1, .dict _ => False
  | _ + 1, _ => True
theorem Alk.i {n : Nat} {i : Int} : Alk (n + 1) (.int i) := by unfold Alk; trivial
theorem Alk.b {n : Nat} {i : Bool} : Alk (n + 1) (.bool i) := by unfold Alk; trivial
theorem Alk.s {n : Nat} {i : Str} : Alk (n + 1) (.str i) := by unfold Alk; trivial
theorem Alk.n {n : Nat} : Alk (n + 1) .none := by unfold Alk; trivial
theorem Alk.t {n : Nat} {xs : List D} (h : xs.length ≤ 1000000) (k : ∀ x ∈ xs, Alk n x) : Alk (n + 1) (.tuple xs) := by unfold Alk; exact ⟨h, k⟩
theorem Alk.l {n : Nat} {xs : List D} (h : xs.length ≤ 1000000) (k : ∀ x ∈ xs, Alk n x) : Alk (n + 1) (.list xs) := by unfold Alk; exact ⟨h, k⟩
theorem isaD_l (T : Ty) (xs : List D) : isaD T (.list xs) = some (.bool (isTy T (.list xs))) := rfl
theorem isaD_t (T : Ty) (xs : List D) : isaD T (.tuple xs) = some (.bool (isTy T (.tuple xs))) := rfl
theorem isaD_i (T : Ty) (i : Int) : isaD T (.int i) = some (.bool (isTy T (.int i))) := rfl
theorem isaD_b (T : Ty) (i : Bool) : isaD T (.bool i) = some (.bool (isTy T (.bool i))) := rfl
theorem isaD_s (T : Ty) (i : Str) : isaD T (.str i) = some (.bool (isTy T (.str i))) := rfl
theorem isaD_n (T : Ty) : isaD T .none = some (.bool (isTy T .none)) := rfl
theorem eqD_b (i j : Bool) : eqD (.bool i) (.bool j) = some (i == j) := by
  unfold eqD
  rw [if_pos (by rfl)]
  simp only [PyData.eqv]
theorem eqD_s (i : Str) : eqD (.str i) (.str i) = some true := by
  unfold eqD
  rw [if_pos (by rfl)]
  simp only [PyData.eqv, beq_self_eq_true]
theorem eqD_00 : eqD (.list []) (.list []) = some true := rfl
theorem lc_none {t : G} {c : T} {e : E} {g : Env} {w : Wd} {lo : Int} {n : Nat} (h : ∀ i, i < n → turnE t c e (.int (lo + i)) g w = some (none, w)) : lcLoop t c e g (rangeL lo n) w = some ([], w) := by
  rw [lc_range (fun _ => none) h]
  congr 2
  exact List.filterMap_eq_nil_iff.mpr fun _ _ => rfl
theorem alike_seq {n : Nat} {xs : List D} (hz : xs.length ≤ 1000000) (ih : ∀ x ∈ xs, ∀ w, fAl n [x, x] w = some (.bool true, w)) (c : List D → D) (hc : c = .list ∨ c = .tuple) (w : Wd) : fAl (n + 1) [c xs, c xs] w = some (.bool true, w) := by
  have hr : range1 (.int (xs.length : Int)) = some (rangeL 0 xs.length) := r1_nat (by rw [size_eq]; omega)
  have hz2 : xs.length ≤ sizeLine := by rw [size_eq]; omega
  have key : ∀ (k : D), (c = .list ∨ c = .tuple) → lcLoop (gName 4) (tNot (tVal (cCall (fAl n) [cOp2 ixD (cVar 0) (cVar 4), cOp2 ixD (cVar 1) (cVar 4)]))) (cVar 4) [some (c xs), some (c xs), some k, none, none] (rangeL 0 xs.length) w = some ([], w) := fun k hc => by
    refine lc_none fun i hi => ?_
    have hx : L2.atI xs (i : Int) = some xs[i] := atI_lt xs hi
    have hi2 := ih xs[i] (List.getElem_mem hi) w
    unfold turnE
    rcases hc with rfl | rfl
    · simp -implicitDefEqProofs [hx, hi2]
    · simp -implicitDefEqProofs [hx, hi2]
  refine fn_eq rfl ?_
  unfold bAlike
  rcases hc with rfl | rfl
  · simp -implicitDefEqProofs [s_sSeq, isaD_l, isTy, hr, key _ (.inl rfl), hz2, eqD_00]
  · simp -implicitDefEqProofs [s_sSeq, isaD_t, isTy, hr, key _ (.inr rfl), hz2, eqD_00]
theorem alike_refl : ∀ (n : Nat) (d : D), Alk n d → ∀ w, fAl n [d, d] w = some (.bool true, w)
  | 0, _, h, _ => by unfold Alk at h; exact h.elim
  | n + 1, .list xs, h, w => by
    unfold Alk at h
    exact alike_seq h.1 (fun x hx w => alike_refl n x (h.2 x hx) w) .list (.inl rfl) w
  | n + 1, .tuple xs, h, w => by
    unfold Alk at h
    exact alike_seq h.1 (fun x hx w => alike_refl n x (h.2 x hx) w) .tuple (.inr rfl) w
  | n + 1, .dict _, h, _ => by unfold Alk at h; exact h.elim
  | n + 1, .none, _, w => by
    refine fn_eq rfl ?_
    unfold bAlike
    simp -implicitDefEqProofs [s_sSeq, isaD_n, isTy]
  | n + 1, .int i, _, w => by
    refine fn_eq rfl ?_
    unfold bAlike
    simp -implicitDefEqProofs [s_sSeq, isaD_i, isTy, eqD_b]
  | n + 1, .bool i, _, w => by
    refine fn_eq rfl ?_
    unfold bAlike
    simp -implicitDefEqProofs [s_sSeq, isaD_b, isTy, eqD_b]
  | n + 1, .str i, _, w => by
    refine fn_eq rfl ?_
    unfold bAlike
    simp -implicitDefEqProofs [s_sSeq, isaD_s, isTy, eqD_s]
theorem Alk.up : ∀ {n : Nat} {d : D}, Alk n d → Alk (n + 1) d
  | 0, d, h => by unfold Alk at h; exact h.elim
  | n + 1, .list xs, h => by
    unfold Alk at h ⊢
    exact ⟨h.1, fun x hx => (h.2 x hx).up⟩
  | n + 1, .tuple xs, h => by
    unfold Alk at h ⊢
    exact ⟨h.1, fun x hx => (h.2 x hx).up⟩
  | n + 1, .dict _, h => by unfold Alk at h; exact h.elim
  | n + 1, .none, h => Alk.n
  | n + 1, .int _, h => Alk.i
  | n + 1, .bool _, h => Alk.b
  | n + 1, .str _, h => Alk.s
theorem Alk.ge {m n : Nat} {d : D} (h : Alk m d) (k : m ≤ n) : Alk n d := by
  induction k with
  | refl => exact h
  | step _ ih => exact ih.up
end Q

set_option Elab.async false
set_option linter.all false
set_option autoImplicit false
set_option maxRecDepth 100000
/-! TY: typed readings of the combinators: what a body computes, said with Lean's own types. -/
namespace Q
open PySem PySem.W
abbrev St := List Int
/-- what is known of an environment -/
inductive LE : Env → Env → Prop
  | nil : LE [] []
  | same {x : Option D} {G g : Env} (h : LE G g) : LE (x :: G) (x :: g)
  | skip {d : Option D} {G g : Env} (h : LE G g) : LE (none :: G) (d :: g)
theorem LE.rfl' : ∀ G, LE G G
  | [] => .nil
  | _ :: G => .same (LE.rfl' G)
theorem LE.trans : ∀ {A B C : Env}, LE A B → LE B C → LE A C
  | _, _, _, .nil, h => h
  | _, _, _, .same h, .same k => .same (h.trans k)
  | _, _, _, .same h, .skip k => .skip (h.trans k)
  | _, _, _, .skip h, .same k => .skip (h.trans k)
  | _, _, _, .skip h, .skip k => .skip (h.trans k)
theorem LE.get : ∀ {G g : Env} {i : Nat} {d : D}, LE G g → G[i]? = some (some d) → g[i]? = some (some d)
  | _, _, _, _, .nil, h => h
  | _, _, 0, _, .same _, h => h
  | _, _, i + 1, _, .same k, h => LE.get (i := i) k h
  | _, _, 0, _, .skip _, h => by simp at h
  | _, _, i + 1, _, .skip k, h => LE.get (i := i) k h
theorem LE.len : ∀ {G g : Env}, LE G g → G.length = g.length
  | _, _, .nil => rfl
  | _, _, .same h => by simp [h.len]
  | _, _, .skip h => by simp [h.len]
theorem LE.set : ∀ {G g : Env} (i : Nat) (x : Option D), LE G g → LE (G.set i x) (g.set i x)
  | _, _, _, _, .nil => .nil
  | _, _, 0, _, .same h => .same h
  | _, _, i + 1, x, .same h => .same (h.set i x)
  | _, _, 0, _, .skip h => .same h
  | _, _, i + 1, x, .skip h => .skip (h.set i x)
theorem LE.wipe {G g : Env} (h : LE G g) : ∀ vs : List Nat, LE (wipeE G vs) (wipeE g vs)
  | [] => h
  | v :: vs => by
    unfold wipeE
    exact (h.wipe vs).set v none
/-! judgements -/
structure X (G : Env) (e : E) (w : Wd) (d : D) (w' : Wd) : Prop where
  run : ∀ g, LE G g → e g w = some (d, w')
structure XT (G : Env) (e : T) (w : Wd) (b : Bool) (w' : Wd) : Prop where
  run : ∀ g, LE G g → e g w = some (b, w')
structure XA (G : Env) (e : Es) (w : Wd) (ds : List D) (w' : Wd) : Prop where
  run : ∀ g, LE G g → e g w = some (ds, w')
structure XO (G : Env) (e : Option E) (w : Wd) (i : Option Int) (w' : Wd) : Prop where
  run : ∀ g, LE G g → optE e g w = some (i, w')
structure TG (G : Env) (t : Q.G) (d : D) (G' : Env) : Prop where
  run : ∀ g, LE G g → ∃ g', t d g = some g' ∧ LE G' g'
structure TGs (G : Env) (t : List Q.G) (d : List D) (G' : Env) : Prop where
  run : ∀ g, LE G g → ∃ g', gList t d g = some g' ∧ LE G' g'
inductive OLE : Out → Out → Prop
  | nx {G g : Env} (h : LE G g) : OLE (.nx G) (.nx g)
  | bk {G g : Env} (h : LE G g) : OLE (.bk G) (.bk g)
  | rt {d : D} : OLE (.rt d) (.rt d)
structure XS (G : Env) (s : S) (w : Wd) (o : Out) (w' : Wd) : Prop where
  run : ∀ g, LE G g → ∃ o', s g w = some (o', w') ∧ OLE o o'
/-- with draws, the stream behind it left open -/
structure XL (G : Env) (s : S) (l : St) (o : Out) : Prop where
  run : ∀ g, LE G g → ∃ o' l', s g (some l) = some (o', some l') ∧ OLE o o'
section
variable {G G' G1 G2 : Env} {w w1 w2 w3 w4 : Wd}
theorem X.var (i : Nat) {d : D} (h : G[i]? = some (some d) := by rfl) : X G (cVar i) w d w := ⟨fun g hg => by rw [s_cVar, hg.get h]; rfl⟩
theorem X.k (d : D) : X G (cK d) w d w := ⟨fun g hg => rfl⟩
theorem XA.nil : XA G (cArgs []) w [] w := ⟨fun g hg => rfl⟩
theorem XA.cons {e : E} {es : List E} {d : D} {ds : List D} (h : X G e w d w1) (hs : XA G (cArgs es) w1 ds w2) : XA G (cArgs (e :: es)) w (d :: ds) w2 := ⟨fun g hg => by rw [s_cArgs1, h.run g hg, bnd_some, hs.run g hg]; rfl⟩
theorem X.tup {es : List E} {ds : List D} (h : XA G (cArgs es) w ds w1) : X G (cTup es) w (.tuple ds) w1 := ⟨fun g hg => by rw [s_cTup, h.run g hg]; rfl⟩
theorem X.lst {es : List E} {ds : List D} (h : XA G (cArgs es) w ds w1) : X G (cLst es) w (.list ds) w1 := ⟨fun g hg => by rw [s_cLst, h.run g hg]; rfl⟩
theorem X.op1 {f : D → Option D} {a : E} {x d : D} (ha : X G a w x w1) (hf : f x = some d) : X G (cOp1 f a) w d w1 := ⟨fun g hg => by rw [s_cOp1, ha.run g hg, bnd_some, hf]; rfl⟩
theorem X.op2 {f : D → D → Option D} {a b : E} {x y d : D} (ha : X G a w x w1) (hb : X G b w1 y w2) (hf : f x y = some d) : X G (cOp2 f a b) w d w2 := ⟨fun g hg => by rw [s_cOp2, ha.run g hg, bnd_some, hb.run g hg, bnd_some, hf]; rfl⟩
theorem X.if {α : Type} {c : T} {a b : E} {k : Bool} (e : α → D) {u v : α} (hc : XT G c w k w1) (ha : k = true → X G a w1 (e u) w2) (hb : k = false → X G b w1 (e v) w2) : X G (cIf c a b) w (e (if k = true then u else v)) w2 := ⟨fun g hg => by
  rw [s_cIf, hc.run g hg, bnd_some]
  cases k with
  | true => rw [if_pos rfl, if_pos rfl]; exact (ha rfl).run g hg
  | false => rw [if_neg Bool.false_ne_true, if_neg Bool.false_ne_true]; exact (hb rfl).run g hg⟩
/-- with draws in the branches -/
theorem X.ifW {α : Type} {c : T} {a b : E} {k : Bool} (e : α → D) {u v : α × St} (hc : XT G c w k w1) (ha : k = true → X G a w1 (e u.1) (some u.2)) (hb : k = false → X G b w1 (e v.1) (some v.2)) : X G (cIf c a b) w (e (if k = true then u else v).1) (some (if k = true then u else v).2) := ⟨fun g hg => by
  rw [s_cIf, hc.run g hg, bnd_some]
  cases k with
  | true => rw [if_pos rfl, if_pos rfl]; exact (ha rfl).run g hg
  | false => rw [if_neg Bool.false_ne_true, if_neg Bool.false_ne_true]; exact (hb rfl).run g hg⟩
theorem X.call {f : Fn} {es : List E} {ds : List D} {d : D} (ha : XA G (cArgs es) w ds w1) (hf : f ds w1 = some (d, w2)) : X G (cCall f es) w d w2 := ⟨fun g hg => by rw [s_cCall, ha.run g hg, bnd_some, hf]⟩
theorem X.cT {t : T} {b : Bool} (h : XT G t w b w1) : X G (cT t) w (.bool b) w1 := ⟨fun g hg => by rw [s_cT, h.run g hg]; rfl⟩
theorem X.and {a b : E} {x y : Bool} (ha : X G a w (.bool x) w1) (hb : x = true → X G b w1 (.bool y) w1) : X G (cAnd a b) w (.bool (x && y)) w1 := ⟨fun g hg => by
  rw [s_cAnd, ha.run g hg, bnd_some]
  cases x with
  | true => exact (hb rfl).run g hg
  | false => rfl⟩
theorem X.or {a b : E} {x y : Bool} (ha : X G a w (.bool x) w1) (hb : x = false → X G b w1 (.bool y) w1) : X G (cOr a b) w (.bool (x || y)) w1 := ⟨fun g hg => by
  rw [s_cOr, ha.run g hg, bnd_some]
  cases x with
  | true => rfl
  | false => exact (hb rfl).run g hg⟩
theorem X.not {a : E} {x : Bool} (ha : X G a w (.bool x) w1) : X G (cNot a) w (.bool (!x)) w1 := ⟨fun g hg => by rw [s_cNot, ha.run g hg]; rfl⟩
theorem XO.none : XO G none w none w := ⟨fun g hg => rfl⟩
theorem XO.some {e : E} {i : Int} (h : X G e w (.int i) w1) : XO G (some e) w (some i) w1 := ⟨fun g hg => by rw [s_optE1, h.run g hg]; rfl⟩
theorem X.cut {a : E} {lo hi : Option E} {x d : D} {l h : Option Int} (ha : X G a w x w1) (hl : XO G lo w1 l w2) (hh : XO G hi w2 h w3) (hf : cutD x l h = some d) : X G (cCut a lo hi) w d w3 := ⟨fun g hg => by rw [s_cCut, ha.run g hg, bnd_some, hl.run g hg, bnd_some, hh.run g hg, bnd_some, hf]; rfl⟩
/-! tests -/
theorem XT.val {a : E} {b : Bool} (h : X G a w (.bool b) w1) : XT G (tVal a) w b w1 := ⟨fun g hg => by rw [s_tVal, h.run g hg]; rfl⟩
theorem XT.cmp {f : D → D → Option Bool} {a b : E} {x y : D} {k : Bool} (ha : X G a w x w1) (hb : X G b w1 y w2) (hf : f x y = some k) : XT G (tCmp f a b) w k w2 := ⟨fun g hg => by rw [s_tCmp, ha.run g hg, bnd_some, hb.run g hg, bnd_some, hf]; rfl⟩
theorem XT.not {t : T} {b : Bool} (h : XT G t w b w1) : XT G (tNot t) w (!b) w1 := ⟨fun g hg => by rw [s_tNot, h.run g hg]; rfl⟩
theorem XT.and {a b : T} {x y : Bool} (ha : XT G a w x w1) (hb : x = true → XT G b w1 y w1) : XT G (tAnd a b) w (x && y) w1 := ⟨fun g hg => by
  rw [s_tAnd, ha.run g hg, bnd_some]
  cases x with
  | true => exact (hb rfl).run g hg
  | false => rfl⟩
theorem XT.or {a b : T} {x y : Bool} (ha : XT G a w x w1) (hb : x = false → XT G b w1 y w1) : XT G (tOr a b) w (x || y) w1 := ⟨fun g hg => by
  rw [s_tOr, ha.run g hg, bnd_some]
  cases x with
  | true => rfl
  | false => exact (hb rfl).run g hg⟩
/-- the first is false at any rate; draws in the second -/
theorem XT.orF {a b : T} {y : Bool} (ha : XT G a w false w1) (hb : XT G b w1 y w2) : XT G (tOr a b) w y w2 := ⟨fun g hg => by
  rw [s_tOr, ha.run g hg, bnd_some]
  exact hb.run g hg⟩
theorem XT.andT {a b : T} {y : Bool} (ha : XT G a w true w1) (hb : XT G b w1 y w2) : XT G (tAnd a b) w y w2 := ⟨fun g hg => by
  rw [s_tAnd, ha.run g hg, bnd_some]
  exact hb.run g hg⟩
theorem XT.chain {f f' : D → D → Option Bool} {a b c : E} {x y z : D} {k k' : Bool} (ha : X G a w x w1) (hb : X G b w1 y w2) (hf : f x y = some k) (hc : k = true → X G c w2 z w2) (hf' : k = true → f' y z = some k') : XT G (tChain f f' a b c) w (k && k') w2 := ⟨fun g hg => by
  show bnd (a g w) _ = _
  rw [ha.run g hg, bnd_some, hb.run g hg, bnd_some, hf, lft_some, bnd_some]
  cases k with
  | true =>
    rw [if_pos rfl, (hc rfl).run g hg, bnd_some, hf' rfl]
    rfl
  | false => rfl⟩
theorem XT.yes : XT G tYes w true w := ⟨fun g hg => rfl⟩
theorem XT.eq {t : T} {b b' : Bool} (h : XT G t w b w1) (e : b = b') : XT G t w b' w1 := e ▸ h
theorem X.eq {e : E} {d d' : D} (h : X G e w d w1) (k : d = d') : X G e w d' w1 := k ▸ h
/-! targets -/
theorem TG.name (i : Nat) {d : D} (h : G.set i (some d) = G' := by rfl) (hi : i < G.length := by exact Nat.le_of_ble_eq_true rfl) : TG G (gName i) d G' := ⟨fun g hg => by
  refine ⟨g.set i (some d), ?_, h ▸ hg.set i _⟩
  rw [s_gName, if_pos (by rw [← hg.len]; exact hi)]⟩
theorem TGs.nil : TGs G [] [] G := ⟨fun g hg => ⟨g, rfl, hg⟩⟩
theorem TGs.cons {t : Q.G} {ts : List Q.G} {d : D} {ds : List D} (h : TG G t d G1) (hs : TGs G1 ts ds G2) : TGs G (t :: ts) (d :: ds) G2 := ⟨fun g hg => by
  obtain ⟨g1, e1, h1⟩ := h.run g hg
  obtain ⟨g2, e2, h2⟩ := hs.run g1 h1
  exact ⟨g2, by rw [s_gList1, e1]; exact e2, h2⟩⟩
theorem TG.tup {ts : List Q.G} {ds : List D} (h : TGs G ts ds G') : TG G (gTup ts) (.tuple ds) G' := ⟨fun g hg => h.run g hg⟩
/-! statements -/
theorem XS.set {t : Q.G} {e : E} {d : D} (h : X G e w d w1) (ht : TG G t d G') : XS G (sSet t e) w (.nx G') w1 := ⟨fun g hg => by
  obtain ⟨g1, e1, h1⟩ := ht.run g hg
  exact ⟨.nx g1, by rw [s_sSet, h.run g hg, bnd_some, e1], .nx h1⟩⟩
theorem XS.par {ts : List Q.G} {es : List E} {ds : List D} (h : XA G (cArgs es) w ds w1) (ht : TGs G ts ds G') : XS G (sPar ts es) w (.nx G') w1 := ⟨fun g hg => by
  obtain ⟨g1, e1, h1⟩ := ht.run g hg
  exact ⟨.nx g1, by rw [s_sPar, h.run g hg, bnd_some, e1], .nx h1⟩⟩
theorem XS.ret {e : E} {d : D} (h : X G e w d w1) : XS G (sRet e) w (.rt d) w1 := ⟨fun g hg => ⟨.rt d, by rw [s_sRet, h.run g hg]; rfl, .rt⟩⟩
theorem XS.pass : XS G sPass w (.nx G) w := ⟨fun g hg => ⟨.nx g, rfl, .nx hg⟩⟩
theorem XS.brk : XS G sBreak w (.bk G) w := ⟨fun g hg => ⟨.bk g, rfl, .bk hg⟩⟩
theorem XS.mut {i : Nat} {f : D → Option D} {x y : D} (hg : G[i]? = some (some x)) (hf : f x = some y) (g : Env) (h : LE G g) : mutS i f g w = some (.nx (g.set i (some y)), w) ∧ OLE (.nx (G.set i (some y))) (.nx (g.set i (some y))) := by
  refine ⟨?_, .nx (h.set i _)⟩
  rw [s_mutS, h.get hg]
  show (match f x with
    | some y => some (Out.nx (g.set i (some y)), w)
    | none => none) = _
  rw [hf]
theorem XS.app {α : Type} (i : Nat) (e : α → D) {xs : List α} {v : α} {a : E} (ha : X G a w (e v) w1) (hz : xs.length < sizeLine) (hg : G[i]? = some (some (.list (xs.map e))) := by rfl) (hG : G.set i (some (.list ((xs ++ [v]).map e))) = G' := by rfl) : XS G (sApp i a) w (.nx G') w1 := ⟨fun g h => by
  have hf : apD (.list (xs.map e)) (e v) = some (.list ((xs ++ [v]).map e)) := by rw [apD_l (by simpa using hz), List.map_append]; rfl
  obtain ⟨h1, h2⟩ := XS.mut (w := w1) (f := (apD · (e v))) hg hf g h
  rw [hG] at h2
  exact ⟨_, by rw [s_sApp, ha.run g h]; exact h1, h2⟩⟩
theorem XS.ext {α : Type} (i : Nat) (e : α → D) {xs ys : List α} {a : E} (ha : X G a w (.list (ys.map e)) w1) (hz : xs.length + ys.length ≤ sizeLine) (hg : G[i]? = some (some (.list (xs.map e))) := by rfl) (hG : G.set i (some (.list ((xs ++ ys).map e))) = G' := by rfl) : XS G (sExt i a) w (.nx G') w1 := ⟨fun g h => by
  have hf : exD (.list (xs.map e)) (.list (ys.map e)) = some (.list ((xs ++ ys).map e)) := by rw [exD_l (by simpa using hz), List.map_append]
  obtain ⟨h1, h2⟩ := XS.mut (w := w1) (f := (exD · (.list (ys.map e)))) hg hf g h
  rw [hG] at h2
  exact ⟨_, by rw [s_sExt, ha.run g h]; exact h1, h2⟩⟩
theorem XS.aug (i : Nat) {f : D → D → Option D} {x y d : D} {a : E} (ha : X G a w y w1) (hf : f x y = some d) (hg : G[i]? = some (some x) := by rfl) (hG : G.set i (some d) = G' := by rfl) : XS G (sAugN i f a) w (.nx G') w1 := ⟨fun g h => by
  refine ⟨.nx (g.set i (some d)), ?_, hG ▸ .nx (h.set i _)⟩
  rw [s_sAugN, h.get hg]
  show bnd (a g w) _ = _
  rw [ha.run g h, bnd_some, hf]⟩
theorem XS.seqd {a b : S} {o : Out} (ha : XS G a w (.nx G1) w1) (hb : XS G1 b w1 o w2) : XS G (sSeq a b) w o w2 := ⟨fun g h => by
  obtain ⟨o1, e1, l1⟩ := ha.run g h
  cases l1 with
  | nx h1 =>
    obtain ⟨o2, e2, l2⟩ := hb.run _ h1
    exact ⟨o2, by rw [s_sSeq, e1]; exact e2, l2⟩⟩
theorem XS.weak {a : S} (h : XS G a w (.nx G1) w1) (l : LE G2 G1) : XS G a w (.nx G2) w1 := ⟨fun g k => by
  obtain ⟨o1, e1, l1⟩ := h.run g k
  cases l1 with
  | nx h1 => exact ⟨_, e1, .nx (l.trans h1)⟩⟩
theorem XS.wbk (l : LE G2 G) : XS G sBreak w (.bk G2) w := ⟨fun g hg => ⟨.bk g, rfl, .bk (l.trans hg)⟩⟩
theorem XS.wpass (l : LE G2 G) : XS G sPass w (.nx G2) w := XS.weak XS.pass l
theorem XS.seqPass {a : S} {o : Out} (h : XS G (sSeq a sPass) w o w1) : XS G a w o w1 := ⟨fun g hg => by
  obtain ⟨o1, e1, l1⟩ := h.run g hg
  refine ⟨o1, ?_, l1⟩
  rw [s_sSeq] at e1
  cases q : a g w with
  | none => rw [q] at e1; cases e1
  | some p =>
    obtain ⟨o2, w2⟩ := p
    rw [q, bnd_some] at e1
    cases o2 <;> exact e1⟩
theorem XS.passSeq {b : S} {o : Out} (h : XS G b w o w1) : XS G (sSeq sPass b) w o w1 := ⟨fun g hg => by
  obtain ⟨o1, e1, l1⟩ := h.run g hg
  exact ⟨o1, by rw [s_sSeq]; exact e1, l1⟩⟩
theorem XS.exitR {a b : S} {d : D} (h : XS G a w (.rt d) w1) : XS G (sSeq a b) w (.rt d) w1 := ⟨fun g hg => by
  obtain ⟨o1, e1, l1⟩ := h.run g hg
  cases l1
  exact ⟨.rt d, by rw [s_sSeq, e1]; rfl, .rt⟩⟩
theorem XS.exitB {a b : S} (h : XS G a w (.bk G1) w1) : XS G (sSeq a b) w (.bk G1) w1 := ⟨fun g hg => by
  obtain ⟨o1, e1, l1⟩ := h.run g hg
  cases l1 with
  | bk h1 => exact ⟨_, by rw [s_sSeq, e1]; rfl, .bk h1⟩⟩
theorem seq_assoc (a b c : S) (g : Env) (w : Wd) : sSeq (sSeq a b) c g w = sSeq a (sSeq b c) g w := by
  rw [s_sSeq, s_sSeq, s_sSeq]
  cases a g w with
  | none => rfl
  | some p =>
    obtain ⟨o, w1⟩ := p
    rw [bnd_some, bnd_some]
    cases o with
    | nx g1 =>
      show bnd (b g1 w1) _ = sSeq b c g1 w1
      rw [s_sSeq]
    | _ => rfl
theorem XS.assoc {a b c : S} {o : Out} (h : XS G (sSeq a (sSeq b c)) w o w1) : XS G (sSeq (sSeq a b) c) w o w1 := ⟨fun g hg => by rw [seq_assoc]; exact h.run g hg⟩
theorem seq_if (t : T) (a b c : S) (g : Env) (w : Wd) : sSeq (sIf t a b) c g w = sIf t (sSeq a c) (sSeq b c) g w := by
  rw [s_sSeq, s_sIf, s_sIf]
  cases t g w with
  | none => rfl
  | some p =>
    obtain ⟨k, w1⟩ := p
    rw [bnd_some, bnd_some]
    cases k with
    | true => rw [if_pos rfl, if_pos rfl, s_sSeq]
    | false => rw [if_neg Bool.false_ne_true, if_neg Bool.false_ne_true, s_sSeq]
theorem XS.dist {t : T} {a b c : S} {o : Out} (h : XS G (sIf t (sSeq a c) (sSeq b c)) w o w1) : XS G (sSeq (sIf t a b) c) w o w1 := ⟨fun g hg => by rw [seq_if]; exact h.run g hg⟩
theorem XS.if {ρ : Type} {c : T} {a b : S} {k : Bool} (K : ρ → Out) {u v : ρ} (hc : XT G c w k w1) (ha : k = true → XS G a w1 (K u) w2) (hb : k = false → XS G b w1 (K v) w2) : XS G (sIf c a b) w (K (if k = true then u else v)) w2 := ⟨fun g hg => by
  rw [s_sIf, hc.run g hg, bnd_some]
  cases k with
  | true => rw [if_pos rfl, if_pos rfl]; exact (ha rfl).run g hg
  | false => rw [if_neg Bool.false_ne_true, if_neg Bool.false_ne_true]; exact (hb rfl).run g hg⟩
/-- with draws in the branches -/
theorem XS.ifW {ρ : Type} {c : T} {a b : S} {k : Bool} (K : ρ → Out) {u v : ρ × St} (hc : XT G c w k w1) (ha : k = true → XS G a w1 (K u.1) (some u.2)) (hb : k = false → XS G b w1 (K v.1) (some v.2)) : XS G (sIf c a b) w (K (if k = true then u else v).1) (some (if k = true then u else v).2) := ⟨fun g hg => by
  rw [s_sIf, hc.run g hg, bnd_some]
  cases k with
  | true => rw [if_pos rfl, if_pos rfl]; exact (ha rfl).run g hg
  | false => rw [if_neg Bool.false_ne_true, if_neg Bool.false_ne_true]; exact (hb rfl).run g hg⟩
theorem XS.ifF {c : T} {a b : S} {o : Out} (hc : XT G c w false w1) (hb : XS G b w1 o w2) : XS G (sIf c a b) w o w2 := ⟨fun g hg => by
  rw [s_sIf, hc.run g hg, bnd_some]
  exact hb.run g hg⟩
theorem XS.ifT {c : T} {a b : S} {o : Out} (hc : XT G c w true w1) (ha : XS G a w1 o w2) : XS G (sIf c a b) w o w2 := ⟨fun g hg => by
  rw [s_sIf, hc.run g hg, bnd_some]
  exact ha.run g hg⟩
/-- one value bound -/
theorem XS.seq1 {α : Type} {a b : S} (v : α) (Gv : α → Env) (Wv : α → Wd) (o : α → Out) (w2 : α → Wd) (ha : XS G a w (.nx (Gv v)) (Wv v)) (hb : ∀ x, x = v → XS (Gv x) b (Wv x) (o x) (w2 x)) : XS G (sSeq a b) w (o v) (w2 v) := XS.seqd ha (hb v rfl)
theorem XS.seq2 {α β : Type} {a b : S} (v : α) (u : β) (Gv : α → β → Env) (Wv : α → β → Wd) (o : α → β → Out) (w2 : α → β → Wd) (ha : XS G a w (.nx (Gv v u)) (Wv v u)) (hb : ∀ x, x = v → ∀ y, y = u → XS (Gv x y) b (Wv x y) (o x y) (w2 x y)) : XS G (sSeq a b) w (o v u) (w2 v u) := XS.seqd ha (hb v rfl u rfl)
theorem XS.seq3 {α β γ : Type} {a b : S} (v : α) (u : β) (t : γ) (Gv : α → β → γ → Env) (Wv : α → β → γ → Wd) (o : α → β → γ → Out) (w2 : α → β → γ → Wd) (ha : XS G a w (.nx (Gv v u t)) (Wv v u t)) (hb : ∀ x, x = v → ∀ y, y = u → ∀ z, z = t → XS (Gv x y z) b (Wv x y z) (o x y z) (w2 x y z)) : XS G (sSeq a b) w (o v u t) (w2 v u t) := XS.seqd ha (hb v rfl u rfl t rfl)
theorem XS.seq4 {α β γ δ : Type} {a b : S} (v : α) (u : β) (t : γ) (r : δ) (Gv : α → β → γ → δ → Env) (Wv : α → β → γ → δ → Wd) (o : α → β → γ → δ → Out) (w2 : α → β → γ → δ → Wd) (ha : XS G a w (.nx (Gv v u t r)) (Wv v u t r)) (hb : ∀ x, x = v → ∀ y, y = u → ∀ z, z = t → ∀ q, q = r → XS (Gv x y z q) b (Wv x y z q) (o x y z q) (w2 x y z q)) : XS G (sSeq a b) w (o v u t r) (w2 v u t r) := XS.seqd ha (hb v rfl u rfl t rfl r rfl)
theorem XS.seq5 {α β γ δ ε : Type} {a b : S} (v : α) (u : β) (t : γ) (r : δ) (s : ε) (Gv : α → β → γ → δ → ε → Env) (Wv : α → β → γ → δ → ε → Wd) (o : α → β → γ → δ → ε → Out) (w2 : α → β → γ → δ → ε → Wd) (ha : XS G a w (.nx (Gv v u t r s)) (Wv v u t r s)) (hb : ∀ x, x = v → ∀ y, y = u → ∀ z, z = t → ∀ q, q = r → ∀ p, p = s → XS (Gv x y z q p) b (Wv x y z q p) (o x y z q p) (w2 x y z q p)) : XS G (sSeq a b) w (o v u t r s) (w2 v u t r s) := XS.seqd ha (hb v rfl u rfl t rfl r rfl s rfl)
/-! the same where the stream behind is left open -/
theorem XL.done (h : LE G2 G) (l : St) : XL G sPass l (.nx G2) := ⟨fun g hg => ⟨.nx g, l, rfl, .nx (h.trans hg)⟩⟩
theorem XL.of {s : S} {l l' : St} {o : Out} (h : XS G s (some l) o (some l')) : XL G s l o := ⟨fun g hg => by
  obtain ⟨o', e, k⟩ := h.run g hg
  exact ⟨o', l', e, k⟩⟩
theorem XL.seqd {a b : S} {o : Out} {l l1 : St} (ha : XS G a (some l) (.nx G1) (some l1)) (hb : XL G1 b l1 o) : XL G (sSeq a b) l o := ⟨fun g h => by
  obtain ⟨o1, e1, k1⟩ := ha.run g h
  cases k1 with
  | nx h1 =>
    obtain ⟨o2, l2, e2, k2⟩ := hb.run _ h1
    exact ⟨o2, l2, by rw [s_sSeq, e1]; exact e2, k2⟩⟩
theorem XL.seqL {a b : S} {o : Out} {l : St} (ha : XL G a l (.nx G1)) (hb : ∀ l1, XL G1 b l1 o) : XL G (sSeq a b) l o := ⟨fun g h => by
  obtain ⟨o1, l1, e1, k1⟩ := ha.run g h
  cases k1 with
  | nx h1 =>
    obtain ⟨o2, l2, e2, k2⟩ := (hb l1).run _ h1
    exact ⟨o2, l2, by rw [s_sSeq, e1]; exact e2, k2⟩⟩
theorem XL.seqPass {a : S} {o : Out} {l : St} (h : XL G (sSeq a sPass) l o) : XL G a l o := ⟨fun g hg => by
  obtain ⟨o1, l1, e1, k1⟩ := h.run g hg
  refine ⟨o1, l1, ?_, k1⟩
  rw [s_sSeq] at e1
  cases q : a g (some l) with
  | none => rw [q] at e1; cases e1
  | some p =>
    obtain ⟨o2, w2⟩ := p
    rw [q, bnd_some] at e1
    cases o2 <;> exact e1⟩
theorem XL.seq1 {α : Type} {a b : S} {l : St} {o : Out} (v : α) (l1 : St) (Gv : α → Env) (ha : XS G a (some l) (.nx (Gv v)) (some l1)) (hb : ∀ x, x = v → ∀ k, k = l1 → XL (Gv x) b k o) : XL G (sSeq a b) l o := XL.seqd ha (hb v rfl l1 rfl)
theorem XL.seq2 {α β : Type} {a b : S} {l : St} {o : Out} (v : α) (u : β) (l1 : St) (Gv : α → β → Env) (ha : XS G a (some l) (.nx (Gv v u)) (some l1)) (hb : ∀ x, x = v → ∀ y, y = u → ∀ k, k = l1 → XL (Gv x y) b k o) : XL G (sSeq a b) l o := XL.seqd ha (hb v rfl u rfl l1 rfl)
theorem XL.seq3 {α β γ : Type} {a b : S} {l : St} {o : Out} (v : α) (u : β) (t : γ) (l1 : St) (Gv : α → β → γ → Env) (ha : XS G a (some l) (.nx (Gv v u t)) (some l1)) (hb : ∀ x, x = v → ∀ y, y = u → ∀ z, z = t → ∀ k, k = l1 → XL (Gv x y z) b k o) : XL G (sSeq a b) l o := XL.seqd ha (hb v rfl u rfl t rfl l1 rfl)
theorem XL.seq4 {α β γ δ : Type} {a b : S} {l : St} {o : Out} (v : α) (u : β) (t : γ) (r : δ) (l1 : St) (Gv : α → β → γ → δ → Env) (ha : XS G a (some l) (.nx (Gv v u t r)) (some l1)) (hb : ∀ x, x = v → ∀ y, y = u → ∀ z, z = t → ∀ q, q = r → ∀ k, k = l1 → XL (Gv x y z q) b k o) : XL G (sSeq a b) l o := XL.seqd ha (hb v rfl u rfl t rfl r rfl l1 rfl)
theorem XL.seq5 {α β γ δ ε : Type} {a b : S} {l : St} {o : Out} (v : α) (u : β) (t : γ) (r : δ) (s : ε) (l1 : St) (Gv : α → β → γ → δ → ε → Env) (ha : XS G a (some l) (.nx (Gv v u t r s)) (some l1)) (hb : ∀ x, x = v → ∀ y, y = u → ∀ z, z = t → ∀ q, q = r → ∀ p, p = s → ∀ k, k = l1 → XL (Gv x y z q p) b k o) : XL G (sSeq a b) l o := XL.seqd ha (hb v rfl u rfl t rfl r rfl s rfl l1 rfl)
theorem XL.seqp1 {α : Type} {a b : S} {l : St} {o : Out} (v : α) (Gv : α → Env) (ha : XS G a (some l) (.nx (Gv v)) (some l)) (hb : ∀ x, x = v → XL (Gv x) b l o) : XL G (sSeq a b) l o := XL.seqd ha (hb v rfl)
theorem XL.seqp2 {α β : Type} {a b : S} {l : St} {o : Out} (v : α) (u : β) (Gv : α → β → Env) (ha : XS G a (some l) (.nx (Gv v u)) (some l)) (hb : ∀ x, x = v → ∀ y, y = u → XL (Gv x y) b l o) : XL G (sSeq a b) l o := XL.seqd ha (hb v rfl u rfl)
theorem XL.seqp3 {α β γ : Type} {a b : S} {l : St} {o : Out} (v : α) (u : β) (t : γ) (Gv : α → β → γ → Env) (ha : XS G a (some l) (.nx (Gv v u t)) (some l)) (hb : ∀ x, x = v → ∀ y, y = u → ∀ z, z = t → XL (Gv x y z) b l o) : XL G (sSeq a b) l o := XL.seqd ha (hb v rfl u rfl t rfl)
theorem XL.seqp4 {α β γ δ : Type} {a b : S} {l : St} {o : Out} (v : α) (u : β) (t : γ) (r : δ) (Gv : α → β → γ → δ → Env) (ha : XS G a (some l) (.nx (Gv v u t r)) (some l)) (hb : ∀ x, x = v → ∀ y, y = u → ∀ z, z = t → ∀ q, q = r → XL (Gv x y z q) b l o) : XL G (sSeq a b) l o := XL.seqd ha (hb v rfl u rfl t rfl r rfl)
theorem XL.seqp5 {α β γ δ ε : Type} {a b : S} {l : St} {o : Out} (v : α) (u : β) (t : γ) (r : δ) (s : ε) (Gv : α → β → γ → δ → ε → Env) (ha : XS G a (some l) (.nx (Gv v u t r s)) (some l)) (hb : ∀ x, x = v → ∀ y, y = u → ∀ z, z = t → ∀ q, q = r → ∀ p, p = s → XL (Gv x y z q p) b l o) : XL G (sSeq a b) l o := XL.seqd ha (hb v rfl u rfl t rfl r rfl s rfl)
/-- a test that does not hold: what is behind it is never reached -/
theorem XL.ifF {c : T} {a b : S} {l l1 : St} {o : Out} (hc : XT G c (some l) false (some l1)) (hb : XL G b l1 o) : XL G (sIf c a b) l o := ⟨fun g hg => by
  rw [s_sIf, hc.run g hg, bnd_some]
  exact hb.run g hg⟩
theorem XL.dist {t : T} {a b c : S} {l : St} {o : Out} (h : XL G (sIf t (sSeq a c) (sSeq b c)) l o) : XL G (sSeq (sIf t a b) c) l o := ⟨fun g hg => by rw [seq_if]; exact h.run g hg⟩
theorem XL.passSeq {b : S} {l : St} {o : Out} (h : XL G b l o) : XL G (sSeq sPass b) l o := ⟨fun g hg => by
  obtain ⟨o1, l1, e1, k⟩ := h.run g hg
  exact ⟨o1, l1, by rw [s_sSeq]; exact e1, k⟩⟩
theorem XL.if {c : T} {a b : S} {l l1 : St} {k : Bool} {o : Out} (hc : XT G c (some l) k (some l1)) (ha : k = true → XL G a l1 o) (hb : k = false → XL G b l1 o) : XL G (sIf c a b) l o := ⟨fun g hg => by
  rw [s_sIf, hc.run g hg, bnd_some]
  cases k with
  | true => exact (ha rfl).run g hg
  | false => exact (hb rfl).run g hg⟩
theorem XL.ret {e : E} {l l1 : St} {d : D} (h : X G e (some l) d (some l1)) : XL G (sRet e) l (.rt d) := XL.of (XS.ret h)
end
/-! ### walks -/
def rangeI (lo hi : Int) : List Int := (List.range (hi - lo).toNat).map fun i => lo + (i : Nat)
theorem mem_rangeI {lo hi x : Int} : x ∈ rangeI lo hi ↔ lo ≤ x ∧ x < hi := by
  unfold rangeI
  simp only [List.mem_map, List.mem_range]
  constructor
  · rintro ⟨i, hi, rfl⟩; omega
  · rintro ⟨h1, h2⟩; exact ⟨(x - lo).toNat, by omega, by omega⟩
theorem len_rangeI (lo hi : Int) : (rangeI lo hi).length = (hi - lo).toNat := by simp [rangeI]
theorem rangeL_map (lo hi : Int) : rangeL lo (hi - lo).toNat = (rangeI lo hi).map PyData.int := by
  unfold rangeL rangeI
  rw [List.map_map]
  rfl
def I62 (n : Int) : Prop := -(2 ^ 62) ≤ n ∧ n < 2 ^ 62
theorem small62_I {n : Int} (h : I62 n) : small62 n = true := by
  unfold small62 I62 at *
  simp only [Bool.and_eq_true, decide_eq_true_eq]
  exact h
section
variable {G G' G1 G2 : Env} {w w1 w2 w3 w4 : Wd}
theorem XA.seqL {a : E} {ds : List D} (h : X G a w (.list ds) w1) : XA G (itSeq a) w ds w1 := ⟨fun g hg => by rw [s_itSeq, h.run g hg]; rfl⟩
theorem XA.seqT {a : E} {ds : List D} (h : X G a w (.tuple ds) w1) : XA G (itSeq a) w ds w1 := ⟨fun g hg => by rw [s_itSeq, h.run g hg]; rfl⟩
theorem XA.r1 {a : E} {n : Int} (h : X G a w (.int n) w1) (hn : I62 n) : XA G (itR1 a) w ((rangeI 0 n).map PyData.int) w1 := ⟨fun g hg => by
  rw [s_itR1, h.run g hg, bnd_some, range1_i, if_pos (small62_I hn), ← rangeL_map, Int.sub_zero]; rfl⟩
theorem XA.r2 {a b : E} {m n : Int} (ha : X G a w (.int m) w1) (hb : X G b w1 (.int n) w2) (hm : I62 m) (hn : I62 n) : XA G (itR2 a b) w ((rangeI m n).map PyData.int) w2 := ⟨fun g hg => by
  rw [s_itR2, ha.run g hg, bnd_some, hb.run g hg, bnd_some, range2_i, small62_I hm, small62_I hn, if_pos (by rfl), ← rangeL_map]; rfl⟩
abbrev eP2 {α β : Type} (a : α → D) (b : β → D) : α × β → D := fun p => .tuple [a p.1, b p.2]
abbrev eP1 {α : Type} (a : α → D) : α → D := fun p => .tuple [a p]
abbrev eP3 {α β γ : Type} (a : α → D) (b : β → D) (c : γ → D) : α × β × γ → D := fun p => .tuple [a p.1, b p.2.1, c p.2.2]
abbrev eP4 {α β γ δ : Type} (a : α → D) (b : β → D) (c : γ → D) (d : δ → D) : α × β × γ × δ → D := fun p => .tuple [a p.1, b p.2.1, c p.2.2.1, d p.2.2.2]
abbrev eP5 {α β γ δ ε : Type} (a : α → D) (b : β → D) (c : γ → D) (d : δ → D) (e : ε → D) : α × β × γ × δ × ε → D := fun p => .tuple [a p.1, b p.2.1, c p.2.2.1, d p.2.2.2.1, e p.2.2.2.2]
abbrev eP6 {α β γ δ ε ζ : Type} (a : α → D) (b : β → D) (c : γ → D) (d : δ → D) (e : ε → D) (f : ζ → D) : α × β × γ × δ × ε × ζ → D := fun p => .tuple [a p.1, b p.2.1, c p.2.2.1, d p.2.2.2.1, e p.2.2.2.2.1, f p.2.2.2.2.2]
abbrev eP7 {α β γ δ ε ζ η : Type} (a : α → D) (b : β → D) (c : γ → D) (d : δ → D) (e : ε → D) (f : ζ → D) (h : η → D) : α × β × γ × δ × ε × ζ × η → D := fun p => .tuple [a p.1, b p.2.1, c p.2.2.1, d p.2.2.2.1, e p.2.2.2.2.1, f p.2.2.2.2.2.1, h p.2.2.2.2.2.2]
abbrev eL {α : Type} (e : α → D) : List α → D := fun l => .list (l.map e)
abbrev eT {α : Type} (e : α → D) : List α → D := fun l => .tuple (l.map e)
def eO {α : Type} (e : α → D) : Option α → D
  | none => .none
  | some v => e v
abbrev eU : Unit → D := fun _ => .none
theorem XA.zipL {α β : Type} {a b : E} {ea : α → D} {eb : β → D} {xs : List α} {ys : List β} (ha : X G a w (.list (xs.map ea)) w1) (hb : X G b w1 (.list (ys.map eb)) w2) : XA G (itZip a b) w ((xs.zip ys).map (eP2 ea eb)) w2 := ⟨fun g hg => by
  rw [s_itZip, ha.run g hg, bnd_some, hb.run g hg, bnd_some, zipD_l, List.zip_map, List.map_map]; rfl⟩
theorem XA.zipT {α β : Type} {a b : E} {ea : α → D} {eb : β → D} {xs : List α} {ys : List β} (ha : X G a w (.tuple (xs.map ea)) w1) (hb : X G b w1 (.tuple (ys.map eb)) w2) : XA G (itZip a b) w ((xs.zip ys).map (eP2 ea eb)) w2 := ⟨fun g hg => by
  rw [s_itZip, ha.run g hg, bnd_some, hb.run g hg, bnd_some, zipD_t, List.zip_map, List.map_map]; rfl⟩
/-! ### comprehensions -/
theorem lcM_run {α β : Type} {t : Q.G} {e : E} {ex : α → D} {ey : β → D} {Gw : Env} {Gb : α → Env} {f : α → β} {g : Env} (hg : LE Gw g) (ht : ∀ x, TG Gw t (ex x) (Gb x)) : ∀ (xs : List α), (∀ x, x ∈ xs → X (Gb x) e w (ey (f x)) w) → lcLoop t tYes e g (xs.map ex) w = some ((xs.map f).map ey, w)
  | [], _ => rfl
  | x :: xs, h => by
    rw [List.map_cons, List.map_cons, List.map_cons, lcLoop]
    obtain ⟨g1, e1, h1⟩ := (ht x).run g hg
    rw [e1]
    dsimp only
    rw [s_tYes, bnd_some, if_pos rfl, (h x List.mem_cons_self).run g1 h1, bnd_some, lcM_run hg ht xs fun y hy => h y (List.mem_cons_of_mem _ hy), bnd_some]
theorem X.lcM {α β : Type} {it : Es} {t : Q.G} {e : E} {vs : List Nat} (ex : α → D) (ey : β → D) {xs : List α} (Gw : Env) (Gb : α → Env) (f : α → β) (hi : XA G it w (xs.map ex) w1) (ht : ∀ x, TG Gw t (ex x) (Gb x)) (hz : xs.length ≤ sizeLine) (he : ∀ x, x ∈ xs → X (Gb x) e w1 (ey (f x)) w1) (hw : wipeE G vs = Gw := by rfl) :
    X G (cLc it t tYes e vs) w (.list ((xs.map f).map ey)) w1 := ⟨fun g hg => by
  rw [s_cLc, hi.run g hg, bnd_some, lcM_run (f := f) (hw ▸ hg.wipe vs) ht xs he, bnd_some, if_pos (by simpa using hz)]⟩
theorem lcF_run {α β : Type} {t : Q.G} {c : T} {e : E} {ex : α → D} {ey : β → D} {Gw : Env} {Gb : α → Env} {p : α → Bool} {f : α → β} {g : Env} (hg : LE Gw g) (ht : ∀ x, TG Gw t (ex x) (Gb x)) : ∀ (xs : List α), (∀ x, x ∈ xs → XT (Gb x) c w (p x) w) → (∀ x, x ∈ xs → p x = true → X (Gb x) e w (ey (f x)) w) → lcLoop t c e g (xs.map ex) w = some (((xs.filter p).map f).map ey, w)
  | [], _, _ => rfl
  | x :: xs, hc, h => by
    rw [List.map_cons, lcLoop]
    obtain ⟨g1, e1, h1⟩ := (ht x).run g hg
    rw [e1]
    dsimp only
    rw [(hc x List.mem_cons_self).run g1 h1, bnd_some, List.filter_cons]
    have ih := lcF_run (e := e) (ey := ey) (f := f) hg ht xs (fun y hy => hc y (List.mem_cons_of_mem _ hy)) (fun y hy => h y (List.mem_cons_of_mem _ hy))
    cases hp : p x with
    | true => rw [if_pos rfl, if_pos rfl, (h x List.mem_cons_self hp).run g1 h1, bnd_some, ih, bnd_some]; rfl
    | false => rw [if_neg Bool.false_ne_true, if_neg Bool.false_ne_true, ih]
theorem X.lcF {α β : Type} {it : Es} {t : Q.G} {c : T} {e : E} {vs : List Nat} (ex : α → D) (ey : β → D) {xs : List α} (Gw : Env) (Gb : α → Env) (p : α → Bool) (f : α → β) (hi : XA G it w (xs.map ex) w1) (ht : ∀ x, TG Gw t (ex x) (Gb x)) (hz : xs.length ≤ sizeLine) (hc : ∀ x, x ∈ xs → XT (Gb x) c w1 (p x) w1) (he : ∀ x, x ∈ xs → p x = true → X (Gb x) e w1 (ey (f x)) w1) (hw : wipeE G vs = Gw := by rfl) :
    X G (cLc it t c e vs) w (.list (((xs.filter p).map f).map ey)) w1 := ⟨fun g hg => by
  rw [s_cLc, hi.run g hg, bnd_some, lcF_run (f := f) (hw ▸ hg.wipe vs) ht xs hc he, bnd_some, if_pos (by simpa using hz)]⟩
/-- only items that fit -/
theorem X.lcS {α : Type} {it : Es} {t : Q.G} {c : T} {e : E} {vs : List Nat} (ex : α → D) {xs : List α} (Gw : Env) (Gb : α → Env) (p : α → Bool) (hi : XA G it w (xs.map ex) w1) (ht : ∀ x, TG Gw t (ex x) (Gb x)) (hz : xs.length ≤ sizeLine) (hc : ∀ x, x ∈ xs → XT (Gb x) c w1 (p x) w1) (he : ∀ x, x ∈ xs → p x = true → X (Gb x) e w1 (ex x) w1) (hw : wipeE G vs = Gw := by rfl) :
    X G (cLc it t c e vs) w (.list ((xs.filter p).map ex)) w1 := by
  have h := X.lcF ex ex Gw Gb p (fun x => x) hi ht hz hc he hw
  rwa [List.map_id'] at h
/-- with draws -/
def mapW {α β : Type} (f : α → St → β × St) : List α → St → List β × St
  | [], l => ([], l)
  | x :: xs, l => ((f x l).1 :: (mapW f xs (f x l).2).1, (mapW f xs (f x l).2).2)
theorem lcW_run {α β : Type} {t : Q.G} {e : E} {ex : α → D} {ey : β → D} {Gw : Env} {Gb : α → Env} {f : α → St → β × St} {g : Env} (hg : LE Gw g) (ht : ∀ x, TG Gw t (ex x) (Gb x)) : ∀ (xs : List α) (l : St), (∀ x, x ∈ xs → ∀ l, X (Gb x) e (some l) (ey (f x l).1) (some (f x l).2)) → lcLoop t tYes e g (xs.map ex) (some l) = some ((mapW f xs l).1.map ey, some (mapW f xs l).2)
  | [], _, _ => rfl
  | x :: xs, l, h => by
    rw [List.map_cons, lcLoop]
    obtain ⟨g1, e1, h1⟩ := (ht x).run g hg
    rw [e1]
    dsimp only
    rw [s_tYes, bnd_some, if_pos rfl, (h x List.mem_cons_self l).run g1 h1, bnd_some, lcW_run hg ht xs _ fun y hy => h y (List.mem_cons_of_mem _ hy), bnd_some]
    rfl
theorem X.lcW {α β : Type} {it : Es} {t : Q.G} {e : E} {vs : List Nat} {l : St} (ex : α → D) (ey : β → D) {xs : List α} (Gw : Env) (Gb : α → Env) (f : α → St → β × St) (hi : XA G it w (xs.map ex) (some l)) (ht : ∀ x, TG Gw t (ex x) (Gb x)) (hz : xs.length ≤ sizeLine) (he : ∀ x, x ∈ xs → ∀ l, X (Gb x) e (some l) (ey (f x l).1) (some (f x l).2)) (hw : wipeE G vs = Gw := by rfl) :
    X G (cLc it t tYes e vs) w (.list ((mapW f xs l).1.map ey)) (some (mapW f xs l).2) := ⟨fun g hg => by
  rw [s_cLc, hi.run g hg, bnd_some, lcW_run (f := f) (hw ▸ hg.wipe vs) ht xs l he, bnd_some, if_pos (by simpa using hz)]⟩
/-- draws in the test -/
def filterW {α : Type} (f : α → St → Bool × St) : List α → St → List α × St
  | [], l => ([], l)
  | x :: xs, l => if (f x l).1 = true then (x :: (filterW f xs (f x l).2).1, (filterW f xs (f x l).2).2) else filterW f xs (f x l).2
theorem lcSW_run {α : Type} {t : Q.G} {c : T} {e : E} {ex : α → D} {Gw : Env} {Gb : α → Env} {f : α → St → Bool × St} {g : Env} (hg : LE Gw g) (ht : ∀ x, TG Gw t (ex x) (Gb x)) (he : ∀ x l, X (Gb x) e (some l) (ex x) (some l)) : ∀ (xs : List α) (l : St), (∀ x, x ∈ xs → ∀ l, XT (Gb x) c (some l) (f x l).1 (some (f x l).2)) → lcLoop t c e g (xs.map ex) (some l) = some ((filterW f xs l).1.map ex, some (filterW f xs l).2)
  | [], _, _ => rfl
  | x :: xs, l, h => by
    rw [List.map_cons, lcLoop]
    obtain ⟨g1, e1, h1⟩ := (ht x).run g hg
    rw [e1]
    dsimp only
    rw [(h x List.mem_cons_self l).run g1 h1, bnd_some, filterW]
    have ih := lcSW_run hg ht he xs (f x l).2 fun y hy => h y (List.mem_cons_of_mem _ hy)
    cases hp : (f x l).1 with
    | true => rw [if_pos rfl, if_pos rfl, (he x _).run g1 h1, bnd_some, ih, bnd_some]; rfl
    | false => rw [if_neg Bool.false_ne_true, if_neg Bool.false_ne_true, ih]
theorem X.lcSW {α : Type} {it : Es} {t : Q.G} {c : T} {e : E} {vs : List Nat} {l : St} (ex : α → D) {xs : List α} (Gw : Env) (Gb : α → Env) (f : α → St → Bool × St) (hi : XA G it w (xs.map ex) (some l)) (ht : ∀ x, TG Gw t (ex x) (Gb x)) (hz : xs.length ≤ sizeLine) (hc : ∀ x, x ∈ xs → ∀ l, XT (Gb x) c (some l) (f x l).1 (some (f x l).2)) (he : ∀ x l, X (Gb x) e (some l) (ex x) (some l)) (hw : wipeE G vs = Gw := by rfl) :
    X G (cLc it t c e vs) w (.list ((filterW f xs l).1.map ex)) (some (filterW f xs l).2) := ⟨fun g hg => by
  rw [s_cLc, hi.run g hg, bnd_some, lcSW_run (hw ▸ hg.wipe vs) ht he xs l hc, bnd_some, if_pos (by simpa using hz)]⟩
end
/-! ### loops -/
/-- ok at each turn -/
def OkF {α σ : Type} (ok : σ → α → Prop) (step : σ → α → σ) : σ → List α → Prop
  | _, [] => True
  | s, x :: xs => ok s x ∧ OkF ok step (step s x) xs
theorem OkF.all {α σ : Type} {ok : σ → α → Prop} {step : σ → α → σ} : ∀ {xs : List α} {s : σ}, (∀ s x, x ∈ xs → ok s x) → OkF ok step s xs
  | [], _, _ => trivial
  | x :: _, s, h => ⟨h s x List.mem_cons_self, OkF.all fun s y hy => h s y (List.mem_cons_of_mem _ hy)⟩
/-- by an invariant -/
theorem OkF.inv {α σ : Type} {ok : σ → α → Prop} {step : σ → α → σ} (I : σ → Prop) : ∀ {xs : List α} {s : σ}, I s → (∀ s x, x ∈ xs → I s → ok s x ∧ I (step s x)) → OkF ok step s xs
  | [], _, _, _ => trivial
  | x :: _, s, hI, h => ⟨(h s x List.mem_cons_self hI).1, OkF.inv I (h s x List.mem_cons_self hI).2 fun s y hy => h s y (List.mem_cons_of_mem _ hy)⟩
/-- by an invariant that counts the turns -/
theorem OkF.invN {α σ : Type} {ok : σ → α → Prop} {step : σ → α → σ} (I : Nat → σ → Prop) : ∀ {xs : List α} {s : σ} (n : Nat), I n s → (∀ i s x, x ∈ xs → i < n + xs.length → I i s → ok s x ∧ I (i + 1) (step s x)) → OkF ok step s xs
  | [], _, _, _, _ => trivial
  | x :: xs, s, n, hI, h => ⟨(h n s x List.mem_cons_self (by simp) hI).1, OkF.invN I (n + 1) (h n s x List.mem_cons_self (by simp) hI).2 fun i s y hy hi => h i s y (List.mem_cons_of_mem _ hy) (by simp only [List.length_cons]; omega)⟩
/-- what a turn may end in -/
inductive Stp (ρ σ : Type) where
  | ret (r : ρ)
  | nx (s : σ)
  | bk (s : σ)
def loopT {ρ α σ : Type} (step : σ → α → Stp ρ σ) : σ → List α → Stp ρ σ
  | s, [] => .nx s
  | s, x :: xs => match step s x with
    | .ret r => .ret r
    | .nx s' => loopT step s' xs
    | .bk s' => .nx s'
def OkL {ρ α σ : Type} (ok : σ → α → Prop) (step : σ → α → Stp ρ σ) : σ → List α → Prop
  | _, [] => True
  | s, x :: xs => ok s x ∧ ∀ s', step s x = .nx s' → OkL ok step s' xs
theorem OkL.all {ρ α σ : Type} {ok : σ → α → Prop} {step : σ → α → Stp ρ σ} : ∀ {xs : List α} {s : σ}, (∀ s x, x ∈ xs → ok s x) → OkL ok step s xs
  | [], _, _ => trivial
  | x :: _, s, h => ⟨h s x List.mem_cons_self, fun s' _ => OkL.all fun s y hy => h s y (List.mem_cons_of_mem _ hy)⟩
theorem OkL.inv {ρ α σ : Type} {ok : σ → α → Prop} {step : σ → α → Stp ρ σ} (I : σ → Prop) : ∀ {xs : List α} {s : σ}, I s → (∀ s x, x ∈ xs → I s → ok s x ∧ ∀ s', step s x = .nx s' → I s') → OkL ok step s xs
  | [], _, _, _ => trivial
  | x :: _, s, hI, h => ⟨(h s x List.mem_cons_self hI).1, fun s' e => OkL.inv I ((h s x List.mem_cons_self hI).2 s' e) fun s y hy => h s y (List.mem_cons_of_mem _ hy)⟩
def outS {ρ σ : Type} (er : ρ → D) (Gs : σ → Env) : Stp ρ σ → Out
  | .ret r => .rt (er r)
  | .nx s => .nx (Gs s)
  | .bk s => .bk (Gs s)
section
variable {G G' G1 G2 : Env} {w w1 w2 w3 w4 : Wd}
theorem for_run {α σ : Type} {t : Q.G} {b : S} {vs : List Nat} {ex : α → D} {Gs : σ → Env} {Ws : σ → Wd} {Gb : σ → α → Env} {step : σ → α → σ} {ok : σ → α → Prop} (hw : ∀ s, wipeE (Gs s) vs = Gs s) (ht : ∀ s x, TG (Gs s) t (ex x) (Gb s x)) : ∀ (xs : List α) (s : σ), (∀ s x, x ∈ xs → ok s x → XS (Gb s x) b (Ws s) (.nx (Gs (step s x))) (Ws (step s x))) → OkF ok step s xs → ∀ g, LE (Gs s) g → ∃ g', loopS t b vs (xs.map ex) g (Ws s) = some (.nx g', Ws (xs.foldl step s)) ∧ LE (Gs (xs.foldl step s)) g'
  | [], s, _, _, g, hg => ⟨wipeE g vs, rfl, hw s ▸ hg.wipe vs⟩
  | x :: xs, s, hb, hok, g, hg => by
    obtain ⟨g1, e1, h1⟩ := (ht s x).run _ (hw s ▸ hg.wipe vs)
    obtain ⟨o, e2, l2⟩ := (hb s x List.mem_cons_self hok.1).run g1 h1
    cases l2 with
    | nx h2 =>
      obtain ⟨g3, e3, h3⟩ := for_run hw ht xs (step s x) (fun s y hy => hb s y (List.mem_cons_of_mem _ hy)) hok.2 _ h2
      refine ⟨g3, ?_, h3⟩
      rw [List.map_cons, loopS, e1]
      dsimp only
      rw [e2, bnd_some]
      exact e3
theorem XS.for {α σ : Type} {it : Es} {t : Q.G} {b : S} {vs : List Nat} (ex : α → D) {xs : List α} (s0 : σ) (Gs : σ → Env) (Ws : σ → Wd) (Gb : σ → α → Env) (step : σ → α → σ) (ok : σ → α → Prop) (hi : XA G it w (xs.map ex) (Ws s0)) (h0 : LE (Gs s0) G) (ht : ∀ s x, TG (Gs s) t (ex x) (Gb s x))
    (hb : ∀ s x, x ∈ xs → ok s x → XS (Gb s x) b (Ws s) (.nx (Gs (step s x))) (Ws (step s x))) (hok : OkF ok step s0 xs) (hw : ∀ s, wipeE (Gs s) vs = Gs s := by intro _; rfl) : XS G (sFor it t b vs) w (.nx (Gs (xs.foldl step s0))) (Ws (xs.foldl step s0)) := ⟨fun g hg => by
  obtain ⟨g', e, h⟩ := for_run hw ht xs s0 hb hok g (h0.trans hg)
  exact ⟨.nx g', by rw [s_sFor, hi.run g hg, bnd_some]; exact e, .nx h⟩⟩
/-- a loop that changes nothing -/
theorem XS.forU {α : Type} {it : Es} {t : Q.G} {b : S} {vs : List Nat} (ex : α → D) {xs : List α} (Gs : Env) (Gb : α → Env) (hi : XA G it w (xs.map ex) w1) (h0 : LE Gs G) (ht : ∀ x, TG Gs t (ex x) (Gb x)) (hb : ∀ x, x ∈ xs → XS (Gb x) b w1 (.nx Gs) w1) (hw : wipeE Gs vs = Gs := by rfl) : XS G (sFor it t b vs) w (.nx Gs) w1 := ⟨fun g hg => by
  obtain ⟨g', e, h⟩ := for_run (σ := Unit) (Gs := fun _ => Gs) (Ws := fun _ => w1) (Gb := fun _ => Gb) (step := fun _ _ => ()) (ok := fun _ _ => True) (fun _ => hw) (fun _ => ht) xs () (fun s x hx _ => hb x hx) (OkF.all fun _ _ _ => trivial) g (h0.trans hg)
  exact ⟨.nx g', by rw [s_sFor, hi.run g hg, bnd_some]; exact e, .nx h⟩⟩
/-- .. with draws -/
theorem XL.forU {α : Type} {it : Es} {t : Q.G} {b : S} {vs : List Nat} {l l1 : St} (ex : α → D) {xs : List α} (Gs : Env) (Gb : α → Env) (hi : XA G it (some l) (xs.map ex) (some l1)) (h0 : LE Gs G) (ht : ∀ x, TG Gs t (ex x) (Gb x)) (hb : ∀ x, x ∈ xs → ∀ l, XL (Gb x) b l (.nx Gs)) (hw : wipeE Gs vs = Gs := by rfl) : XL G (sFor it t b vs) l (.nx Gs) := ⟨fun g hg => by
  have key : ∀ (xs : List α) (l : St) (g : Env), LE Gs g → (∀ x, x ∈ xs → ∀ l, XL (Gb x) b l (.nx Gs)) → ∃ g' l', loopS t b vs (xs.map ex) g (some l) = some (.nx g', some l') ∧ LE Gs g' := by
    intro xs
    induction xs with
    | nil => exact fun l g hg _ => ⟨wipeE g vs, l, rfl, hw ▸ hg.wipe vs⟩
    | cons x xs ih =>
      intro l g hg hb
      obtain ⟨g1, e1, h1⟩ := (ht x).run _ (hw ▸ hg.wipe vs)
      obtain ⟨o, l1, e2, l2⟩ := (hb x List.mem_cons_self l).run g1 h1
      cases l2 with
      | nx h2 =>
        obtain ⟨g3, l3, e3, h3⟩ := ih l1 _ h2 fun y hy => hb y (List.mem_cons_of_mem _ hy)
        refine ⟨g3, l3, ?_, h3⟩
        rw [List.map_cons, loopS, e1]
        dsimp only
        rw [e2, bnd_some]
        exact e3
  obtain ⟨g', l', e, h⟩ := key xs l1 g (h0.trans hg) hb
  exact ⟨.nx g', l', by rw [s_sFor, hi.run g hg, bnd_some]; exact e, .nx h⟩⟩
theorem forR_run {ρ α σ : Type} {t : Q.G} {b : S} {vs : List Nat} {ex : α → D} {er : ρ → D} {Gs : σ → Env} {Gb : σ → α → Env} {step : σ → α → Stp ρ σ} {ok : σ → α → Prop} (hw : ∀ s, wipeE (Gs s) vs = Gs s) (ht : ∀ s x, TG (Gs s) t (ex x) (Gb s x)) : ∀ (xs : List α) (s : σ), (∀ s x, x ∈ xs → ok s x → XS (Gb s x) b w (outS er Gs (step s x)) w) → OkL ok step s xs → ∀ g, LE (Gs s) g → ∃ o', loopS t b vs (xs.map ex) g w = some (o', w) ∧ OLE (outS er Gs (loopT step s xs)) o'
  | [], s, _, _, g, hg => ⟨.nx (wipeE g vs), rfl, .nx (hw s ▸ hg.wipe vs)⟩
  | x :: xs, s, hb, hok, g, hg => by
    obtain ⟨g1, e1, h1⟩ := (ht s x).run _ (hw s ▸ hg.wipe vs)
    obtain ⟨o, e2, l2⟩ := (hb s x List.mem_cons_self hok.1).run g1 h1
    rw [List.map_cons, loopS, e1, loopT]
    dsimp only
    rw [e2, bnd_some]
    cases hs : step s x with
    | ret r =>
      rw [hs] at l2
      cases l2
      exact ⟨_, rfl, .rt⟩
    | nx s' =>
      rw [hs] at l2
      cases l2 with
      | nx h2 => exact forR_run hw ht xs s' (fun s y hy => hb s y (List.mem_cons_of_mem _ hy)) (hok.2 s' hs) _ h2
    | bk s' =>
      rw [hs] at l2
      cases l2 with
      | bk h2 => exact ⟨_, rfl, .nx (hw s' ▸ h2.wipe vs)⟩
theorem XS.forR {ρ α σ : Type} {it : Es} {t : Q.G} {b : S} {vs : List Nat} (ex : α → D) (er : ρ → D) {xs : List α} (s0 : σ) (Gs : σ → Env) (Gb : σ → α → Env) (step : σ → α → Stp ρ σ) (ok : σ → α → Prop) (hi : XA G it w (xs.map ex) w1) (h0 : LE (Gs s0) G) (ht : ∀ s x, TG (Gs s) t (ex x) (Gb s x))
    (hb : ∀ s x, x ∈ xs → ok s x → XS (Gb s x) b w1 (outS er Gs (step s x)) w1) (hok : OkL ok step s0 xs) (hw : ∀ s, wipeE (Gs s) vs = Gs s := by intro _; rfl) : XS G (sFor it t b vs) w (outS er Gs (loopT step s0 xs)) w1 := ⟨fun g hg => by
  obtain ⟨o, e, h⟩ := forR_run (er := er) hw ht xs s0 hb hok g (h0.trans hg)
  exact ⟨o, by rw [s_sFor, hi.run g hg, bnd_some]; exact e, h⟩⟩
def Stp.el {ρ σ τ : Type} (r : Stp ρ σ) (f : ρ → τ) (k : σ → τ) : τ := match r with
  | .ret r => f r
  | .nx s => k s
  | .bk s => k s
/-- behind a loop that may return -/
theorem XS.seqR {ρ σ τ : Type} {a b : S} (er : ρ → D) (Gs : σ → Env) (r : Stp ρ σ) (K : τ → Out) (f : ρ → τ) (k : σ → τ) (ha : XS G a w (outS er Gs r) w1) (hr : ∀ v, K (f v) = .rt (er v)) (hn : ∀ s, r ≠ .bk s) (hb : ∀ s, r = .nx s → XS (Gs s) b w1 (K (k s)) w1) : XS G (sSeq a b) w (K (r.el f k)) w1 := ⟨fun g hg => by
  obtain ⟨o, e, h⟩ := ha.run g hg
  cases r with
  | ret v =>
    cases h
    refine ⟨_, by rw [s_sSeq, e]; rfl, ?_⟩
    show OLE (K (f v)) _
    rw [hr]
    exact .rt
  | bk s => exact absurd rfl (hn s)
  | nx s =>
    cases h with
    | nx h2 =>
      obtain ⟨o2, e2, l2⟩ := (hb s rfl).run _ h2
      exact ⟨o2, by rw [s_sSeq, e]; exact e2, l2⟩⟩
theorem loopT_bk {ρ α σ : Type} (step : σ → α → Stp ρ σ) : ∀ (xs : List α) (s : σ) (s' : σ), loopT step s xs ≠ .bk s'
  | [], s, s' => by unfold loopT; exact fun z => nomatch z
  | x :: xs, s, s' => by
    unfold loopT
    cases step s x with
    | ret r => exact fun z => nomatch z
    | nx s2 => exact loopT_bk step xs s2 s'
    | bk s2 => exact fun z => nomatch z
/-! whiles, by fuel -/
def whileT {σ : Type} (c : σ → Bool) (f : σ → σ) : Nat → σ → σ
  | 0, s => s
  | n + 1, s => if c s = true then whileT c f n (f s) else s
/-- ends within n turns -/
def OkW {σ : Type} (okc : σ → Prop) (c : σ → Bool) (ok : σ → Prop) (f : σ → σ) : Nat → σ → Prop
  | 0, _ => False
  | n + 1, s => okc s ∧ (c s = true → ok s ∧ OkW okc c ok f n (f s))
theorem while_run {σ : Type} {t : T} {b : S} {vs : List Nat} {Gs : σ → Env} {c : σ → Bool} {f : σ → σ} {okc ok : σ → Prop} (hw : ∀ s, wipeE (Gs s) vs = Gs s) (hc : ∀ s, okc s → XT (Gs s) t w (c s) w) (hb : ∀ s, ok s → c s = true → XS (Gs s) b w (.nx (Gs (f s))) w) : ∀ (n : Nat) (s : σ), OkW okc c ok f n s → ∀ g, LE (Gs s) g → ∃ g', whileS t b vs n g w = some (.nx g', w) ∧ LE (Gs (whileT c f n s)) g'
  | 0, s, h, g, hg => h.elim
  | n + 1, s, h, g, hg => by
    have hg' := hw s ▸ hg.wipe vs
    rw [whileS, (hc s h.1).run _ hg', bnd_some, whileT]
    cases hk : c s with
    | false => rw [if_neg Bool.false_ne_true, if_neg Bool.false_ne_true]; exact ⟨_, rfl, hg'⟩
    | true =>
      rw [if_pos rfl, if_pos rfl]
      obtain ⟨o, e2, l2⟩ := (hb s (h.2 hk).1 hk).run _ hg'
      rw [e2, bnd_some]
      cases l2 with
      | nx h2 => exact while_run hw hc hb n (f s) (h.2 hk).2 _ h2
theorem XS.while {σ : Type} {t : T} {b : S} {vs : List Nat} (n : Nat) (s0 : σ) (Gs : σ → Env) (c : σ → Bool) (f : σ → σ) (okc ok : σ → Prop) (h0 : LE (Gs s0) G) (hc : ∀ s, okc s → XT (Gs s) t w (c s) w) (hb : ∀ s, ok s → c s = true → XS (Gs s) b w (.nx (Gs (f s))) w) (hok : OkW okc c ok f n s0) (hw : ∀ s, wipeE (Gs s) vs = Gs s := by intro _; rfl) :
    XS G (sWhile t b vs n) w (.nx (Gs (whileT c f n s0))) w := ⟨fun g hg => by
  obtain ⟨g', e, h⟩ := while_run hw hc hb n s0 hok g (h0.trans hg)
  exact ⟨.nx g', by rw [s_sWhile]; exact e, .nx h⟩⟩
/-! ### defs -/
theorem fn_tie {n nl : Nat} {b : S} {ds : List D} {d : D} (h : XS (ds.map some ++ List.replicate nl none) b w (.rt d) w1) (hn : ds.length = n := by rfl) : bodyFn n nl b ds w = some (d, w1) := by
  obtain ⟨o, e, l⟩ := h.run _ (LE.rfl' _)
  cases l
  unfold bodyFn
  rw [if_pos hn, e]
  rfl
theorem fn_tieN {n nl : Nat} {b : S} {ds : List D} (h : XS (ds.map some ++ List.replicate nl none) b w (.nx G) w1) (hn : ds.length = n := by rfl) : bodyFn n nl b ds w = some (.none, w1) := by
  obtain ⟨o, e, l⟩ := h.run _ (LE.rfl' _)
  cases l
  unfold bodyFn
  rw [if_pos hn, e]
  rfl
/-! draws -/
def nextT (l : St) (m : Int) : Int × St := match l with
  | [] => (0, [])
  | x :: r => (x.fmod m, r)
theorem next_tie {l : St} {m : Int} (h : m ≠ 0) : fnNext [tokW, .int m] (some l) = some (.int (nextT l m).1, some (nextT l m).2) := by
  cases l with
  | nil => rfl
  | cons x r =>
    show (if m ≠ 0 then some (.int (x.fmod m), some r) else none : Option (D × Wd)) = _
    rw [if_pos h]
    rfl
theorem nextT_bnd (l : St) {m : Int} (h : 0 < m) : 0 ≤ (nextT l m).1 ∧ (nextT l m).1 < m := by
  cases l with
  | nil => exact ⟨Int.le_refl _, h⟩
  | cons x r => exact ⟨Int.fmod_nonneg_of_pos _ h, Int.fmod_lt_of_pos _ h⟩
theorem mapW_len {α β : Type} (f : α → St → β × St) : ∀ (xs : List α) (l : St), (mapW f xs l).1.length = xs.length
  | [], _ => rfl
  | x :: xs, l => by simp [mapW, mapW_len f xs]
theorem mapW_all {α β : Type} {f : α → St → β × St} {P : β → Prop} : ∀ {xs : List α} {l : St}, (∀ x, x ∈ xs → ∀ l, P (f x l).1) → ∀ y ∈ (mapW f xs l).1, P y
  | [], _, _, y, hy => by simp [mapW] at hy
  | x :: xs, l, h, y, hy => by
    simp only [mapW, List.mem_cons] at hy
    rcases hy with rfl | hy
    · exact h x List.mem_cons_self l
    · exact mapW_all (fun z hz => h z (List.mem_cons_of_mem _ hz)) y hy
theorem filterW_sub {α : Type} (f : α → St → Bool × St) : ∀ (xs : List α) (l : St), (filterW f xs l).1.Sublist xs
  | [], _ => List.Sublist.slnil
  | x :: xs, l => by
    unfold filterW
    split
    · exact (filterW_sub f xs _).cons_cons x
    · exact (filterW_sub f xs _).cons x
end
end Q

set_option Elab.async false
set_option linter.all false
set_option autoImplicit false
set_option maxRecDepth 100000
/-! TYO: the operators at Lean's own types. -/
namespace Q
open PySem PySem.W PyProof.Rows
/-! ### equality -/
structure EqE {α : Type} [DecidableEq α] (e : α → D) (n : Nat) : Prop where
  plain : ∀ a, (e a).plain = true
  depth : ∀ a, (e a).depth ≤ n
  eqv : ∀ a b, PyData.eqv (e a) (e b) = decide (a = b)
theorem EqI : EqE PyData.int 0 := ⟨fun _ => rfl, fun _ => Nat.le_refl _, fun a b => by simp only [PyData.eqv]; rw [beq_decide]⟩
theorem EqB : EqE PyData.bool 0 := ⟨fun _ => rfl, fun _ => Nat.le_refl _, fun a b => by cases a <;> cases b <;> rfl⟩
theorem EqS : EqE PyData.str 0 := ⟨fun _ => rfl, fun _ => Nat.le_refl _, fun a b => by simp only [PyData.eqv]; rw [beq_decide]⟩
theorem EqU : EqE eU 0 := ⟨fun _ => rfl, fun _ => Nat.le_refl _, fun a b => by simp [eU, PyData.eqv]⟩
theorem EqE.up {α : Type} [DecidableEq α] {e : α → D} {n m : Nat} (h : EqE e n) (k : n ≤ m) : EqE e m := ⟨h.plain, fun a => Nat.le_trans (h.depth a) k, h.eqv⟩
/-- a row of items -/
structure EqR {α : Type} [DecidableEq α] (r : α → List D) (n : Nat) : Prop where
  plain : ∀ a, PyData.plainAll (r a) = true
  depth : ∀ a, PyData.depthAll (r a) ≤ n
  eqv : ∀ a b, PyData.eqvAll (r a) (r b) = decide (a = b)
section
variable {α β : Type} [DecidableEq α] [DecidableEq β]
theorem EqR.one {e : α → D} {n : Nat} (h : EqE e n) : EqR (fun a => [e a]) n := ⟨fun a => by simp [PyData.plainAll, h.plain], fun a => by simp [PyData.depthAll, h.depth], fun a b => by simp [PyData.eqvAll, h.eqv]⟩
theorem EqR.cons {e : α → D} {r : β → List D} {n m : Nat} (h : EqE e n) (k : EqR r m) : EqR (fun p : α × β => e p.1 :: r p.2) (max n m) := ⟨fun a => by simp [PyData.plainAll, h.plain, k.plain], fun a => by
  simp only [PyData.depthAll]
  have := h.depth a.1
  have := k.depth a.2
  omega, fun a b => by
  simp only [PyData.eqvAll, h.eqv, k.eqv]
  rw [← Bool.decide_and]
  exact decide_eq_decide.mpr (by rw [Prod.ext_iff])⟩
theorem EqR.map {e : α → D} {n : Nat} (h : EqE e n) : EqR (fun l : List α => l.map e) n := ⟨fun l => by
  induction l with
  | nil => rfl
  | cons x xs ih => simp only [List.map_cons, PyData.plainAll, h.plain, ih, Bool.and_self], fun l => by
  induction l with
  | nil => simp [PyData.depthAll]
  | cons x xs ih =>
    simp only [List.map_cons, PyData.depthAll]
    have := h.depth x
    omega, fun a => by
  induction a with
  | nil => intro b; cases b <;> simp [PyData.eqvAll]
  | cons x xs ih =>
    intro b
    cases b with
    | nil => simp [PyData.eqvAll]
    | cons y ys =>
      simp only [List.map_cons, PyData.eqvAll, h.eqv, ih]
      rw [← Bool.decide_and]
      exact decide_eq_decide.mpr (by rw [List.cons.injEq])⟩
theorem EqR.tup {r : α → List D} {n : Nat} (h : EqR r n) : EqE (fun a => PyData.tuple (r a)) (n + 1) := ⟨fun a => by simp only [PyData.plain]; exact h.plain a, fun a => by
  simp only [PyData.depth]
  have := h.depth a
  omega, fun a b => by simp only [PyData.eqv]; exact h.eqv a b⟩
theorem EqR.lst {r : α → List D} {n : Nat} (h : EqR r n) : EqE (fun a => PyData.list (r a)) (n + 1) := ⟨fun a => by simp only [PyData.plain]; exact h.plain a, fun a => by
  simp only [PyData.depth]
  have := h.depth a
  omega, fun a b => by simp only [PyData.eqv]; exact h.eqv a b⟩
theorem EqL {e : α → D} {n : Nat} (h : EqE e n) : EqE (eL e) (n + 1) := (EqR.map h).lst
theorem EqT {e : α → D} {n : Nat} (h : EqE e n) : EqE (eT e) (n + 1) := (EqR.map h).tup
end
/-- never None -/
def NN {α : Type} (e : α → D) : Prop := ∀ a, e a ≠ .none
theorem EqO {α : Type} [DecidableEq α] {e : α → D} {n : Nat} (h : EqE e n) (k : NN e) : EqE (eO e) n := ⟨fun a => by cases a <;> simp [eO, PyData.plain, h.plain], fun a => by
  cases a with
  | none => simp [eO, PyData.depth]
  | some a => exact h.depth a, fun a b => by
  cases a with
  | none =>
    cases b with
    | none => rfl
    | some b =>
      have := k b
      show PyData.eqv .none (e b) = _
      cases hb : e b <;> simp_all [PyData.eqv]
  | some a =>
    cases b with
    | none =>
      have := k a
      show PyData.eqv (e a) .none = _
      cases hb : e a <;> simp_all [PyData.eqv]
    | some b => simp [eO, h.eqv]⟩
theorem eqE {α : Type} [DecidableEq α] {e : α → D} {n : Nat} (h : EqE e n) (hn : n ≤ 60) (a b : α) : eqD (e a) (e b) = some (decide (a = b)) := by
  unfold eqD lowD
  have := h.depth a
  have := h.depth b
  rw [if_pos (by simp only [h.plain, Bool.true_and, Bool.and_eq_true, decide_eq_true_eq]; omega), h.eqv]
theorem neE {α : Type} [DecidableEq α] {e : α → D} {n : Nat} (h : EqE e n) (hn : n ≤ 60) (a b : α) : neD (e a) (e b) = some (!decide (a = b)) := by
  unfold neD; rw [eqE h hn]; rfl
theorem any_dec {α : Type} [DecidableEq α] {e : α → D} {n : Nat} (h : EqE e n) (a : α) (xs : List α) : ((xs.map e).any fun y => PyData.eqv y (e a)) = decide (a ∈ xs) := by
  rw [List.any_map]
  induction xs with
  | nil => simp
  | cons x xs ih =>
    rw [List.any_cons, ih]
    simp only [Function.comp, h.eqv, List.mem_cons]
    by_cases h1 : x = a
    · simp [h1]
    · have h2 : a ≠ x := fun z => h1 z.symm
      simp [h1, h2]
theorem low_map {α : Type} [DecidableEq α] {e : α → D} {n : Nat} (h : EqE e n) (hn : n + 1 ≤ 60) (xs : List α) : lowD (.list (xs.map e)) = true ∧ lowD (.tuple (xs.map e)) = true := by
  unfold lowD
  have h1 : (PyData.list (xs.map e)).depth ≤ n + 1 := (EqL h).depth xs
  have h2 : (PyData.tuple (xs.map e)).depth ≤ n + 1 := (EqT h).depth xs
  constructor
  · simp only [decide_eq_true_eq]; omega
  · simp only [decide_eq_true_eq]; omega
theorem inE {α : Type} [DecidableEq α] {e : α → D} {n : Nat} (h : EqE e n) (hn : n + 1 ≤ 60) (a : α) (xs : List α) : inD (e a) (.list (xs.map e)) = some (decide (a ∈ xs)) ∧ inD (e a) (.tuple (xs.map e)) = some (decide (a ∈ xs)) := by
  have h1 := low_map h hn xs
  have h2 : lowD (e a) = true := by unfold lowD; have := h.depth a; simp only [decide_eq_true_eq]; omega
  have h3 := (EqR.map h).plain xs
  constructor
  · show (if _ then _ else none) = _
    rw [if_pos (by simp only [h1.1, h2, h3, h.plain, Bool.and_self]), any_dec h]
  · show (if _ then _ else none) = _
    rw [if_pos (by simp only [h1.2, h2, h3, h.plain, Bool.and_self]), any_dec h]
theorem inL {α : Type} [DecidableEq α] {e : α → D} {n : Nat} (h : EqE e n) (hn : n + 1 ≤ 60) (a : α) (xs : List α) : inD (e a) (.list (xs.map e)) = some (decide (a ∈ xs)) := (inE h hn a xs).1
theorem inT {α : Type} [DecidableEq α] {e : α → D} {n : Nat} (h : EqE e n) (hn : n + 1 ≤ 60) (a : α) (xs : List α) : inD (e a) (.tuple (xs.map e)) = some (decide (a ∈ xs)) := (inE h hn a xs).2
theorem notInL {α : Type} [DecidableEq α] {e : α → D} {n : Nat} (h : EqE e n) (hn : n + 1 ≤ 60) (a : α) (xs : List α) : notInD (e a) (.list (xs.map e)) = some (!decide (a ∈ xs)) := by unfold notInD; rw [inL h hn]; rfl
theorem notInT {α : Type} [DecidableEq α] {e : α → D} {n : Nat} (h : EqE e n) (hn : n + 1 ≤ 60) (a : α) (xs : List α) : notInD (e a) (.tuple (xs.map e)) = some (!decide (a ∈ xs)) := by unfold notInD; rw [inT h hn]; rfl
theorem isND_O {α : Type} {e : α → D} (k : NN e) (a : Option α) : isND (eO e a) .none = some a.isNone := by
  cases a with
  | none => rfl
  | some a =>
    have := k a
    show some (isNoneD (e a)) = _
    cases hb : e a <;> simp_all [isNoneD]
theorem isNotND_O {α : Type} {e : α → D} (k : NN e) (a : Option α) : isNotND (eO e a) .none = some a.isSome := by
  cases a with
  | none => rfl
  | some a =>
    have := k a
    show some (!isNoneD (e a)) = _
    cases hb : e a <;> simp_all [isNoneD]
theorem NN.i : NN PyData.int := fun _ z => nomatch z
theorem NN.b : NN PyData.bool := fun _ z => nomatch z
theorem NN.s : NN PyData.str := fun _ z => nomatch z
theorem NN.l {α : Type} {e : α → D} : NN (eL e) := fun _ z => nomatch z
theorem NN.l' {α : Type} {r : α → List D} : NN (fun a => PyData.list (r a)) := fun _ z => nomatch z
theorem NN.t {α : Type} {r : α → List D} : NN (fun a => PyData.tuple (r a)) := fun _ z => nomatch z
/-! ### order -/
structure OrE {α : Type} [DecidableEq α] (e : α → D) (n : Nat) (lt : α → α → Bool) : Prop extends EqE e n where
  alike : ∀ a b, PySem.W.alike (e a) (e b) = true
  nn : NN e
  lt_eq : ∀ a b, PySem.W.dataLt (e a) (e b) = lt a b
structure OrR {α : Type} [DecidableEq α] (r : α → List D) (n : Nat) (lt : α → α → Bool) : Prop extends EqR r n where
  alike : ∀ a b, PySem.W.alikeAll (r a) (r b) = true
  lt_eq : ∀ a b, rowLt (r a) (r b) = lt a b
def ltI (a b : Int) : Bool := decide (a < b)
def ltS (a b : Str) : Bool := decide (a.cps.toList < b.cps.toList)
def lt2 {α β : Type} [DecidableEq α] (la : α → α → Bool) (lb : β → β → Bool) (p q : α × β) : Bool := if p.1 = q.1 then lb p.2 q.2 else la p.1 q.1
def ltL {α : Type} [DecidableEq α] (la : α → α → Bool) : List α → List α → Bool
  | _, [] => false
  | [], _ :: _ => true
  | x :: xs, y :: ys => if x = y then ltL la xs ys else la x y
theorem OrI : OrE PyData.int 0 ltI := ⟨EqI, fun _ _ => by simp [PySem.W.alike], NN.i, fun a b => dataLt_int a b⟩
theorem OrS : OrE PyData.str 0 ltS := ⟨EqS, fun _ _ => by simp [PySem.W.alike], NN.s, fun a b => dataLt_str a b⟩
section
variable {α β : Type} [DecidableEq α] [DecidableEq β]
theorem row_nil : rowLt [] [] = false := by unfold rowLt; exact lex_irrefl _
theorem OrR.nil : OrR (fun _ : Unit => []) 0 (fun _ _ => false) := ⟨⟨fun _ => rfl, fun _ => Nat.le_refl _, fun _ _ => by simp [PyData.eqvAll]⟩, fun _ _ => by simp [PySem.W.alikeAll], fun _ _ => row_nil⟩
theorem OrR.one {e : α → D} {n : Nat} {lt : α → α → Bool} (h : OrE e n lt) : OrR (fun a => [e a]) n lt := ⟨EqR.one h.toEqE, fun a b => by simp [PySem.W.alikeAll, h.alike], fun a b => by
  unfold rowLt
  rw [dataLt_cons (h.alike a b), h.eqv]
  by_cases hab : a = b
  · subst hab
    rw [if_pos (by simp), ← h.lt_eq]
    exact row_nil.trans (dataLt_self _).symm
  · rw [if_neg (by simpa using hab), h.lt_eq]⟩
theorem OrR.cons {e : α → D} {r : β → List D} {n m : Nat} {la : α → α → Bool} {lb : β → β → Bool} (h : OrE e n la) (k : OrR r m lb) : OrR (fun p : α × β => e p.1 :: r p.2) (max n m) (lt2 la lb) := ⟨EqR.cons h.toEqE k.toEqR, fun a b => by simp [PySem.W.alikeAll, h.alike, k.alike], fun a b => by
  unfold rowLt lt2
  rw [dataLt_cons (h.alike a.1 b.1), h.eqv]
  by_cases hab : a.1 = b.1
  · rw [if_pos (by simpa using hab), if_pos hab]
    exact k.lt_eq a.2 b.2
  · rw [if_neg (by simpa using hab), if_neg hab, h.lt_eq]⟩
theorem row_nc (y : D) (ys : List D) : rowLt [] (y :: ys) = true := by
  unfold rowLt
  rw [toks_all_cons]
  simp only [keyToksAll]
  rw [lex_diff (O := itemOrd) (by simp)]
  rfl
theorem row_cn (y : D) (ys : List D) : rowLt (y :: ys) [] = false := by
  unfold rowLt
  rw [toks_all_cons]
  simp only [keyToksAll]
  rw [lex_diff (O := itemOrd) (by simp)]
  rfl
theorem OrR.map {e : α → D} {n : Nat} {lt : α → α → Bool} (h : OrE e n lt) : OrR (fun l : List α => l.map e) n (ltL lt) := ⟨EqR.map h.toEqE, fun a => by
  induction a with
  | nil => intro b; cases b <;> simp [PySem.W.alikeAll]
  | cons x xs ih =>
    intro b
    cases b with
    | nil => simp [PySem.W.alikeAll]
    | cons y ys => simp only [List.map_cons, PySem.W.alikeAll, h.alike, ih, Bool.and_self], fun a => by
  induction a with
  | nil =>
    intro b
    cases b with
    | nil => exact row_nil
    | cons y ys => exact row_nc _ _
  | cons x xs ih =>
    intro b
    cases b with
    | nil => exact row_cn _ _
    | cons y ys =>
      have ih := ih ys
      unfold rowLt at ih ⊢
      rw [List.map_cons, List.map_cons, dataLt_cons (h.alike x y), h.eqv, ltL]
      by_cases hab : x = y
      · rw [if_pos (by simpa using hab), if_pos hab, ih]
      · rw [if_neg (by simpa using hab), if_neg hab, h.lt_eq]⟩
theorem OrR.tup {r : α → List D} {n : Nat} {lt : α → α → Bool} (h : OrR r n lt) : OrE (fun a => PyData.tuple (r a)) (n + 1) lt := ⟨h.toEqR.tup, fun a b => by simp only [PySem.W.alike]; exact h.alike a b, NN.t, fun a b => by rw [dataLt_tuple]; exact h.lt_eq a b⟩
theorem OrR.lst {r : α → List D} {n : Nat} {lt : α → α → Bool} (h : OrR r n lt) : OrE (fun a => PyData.list (r a)) (n + 1) lt := ⟨h.toEqR.lst, fun a b => by simp only [PySem.W.alike]; exact h.alike a b, NN.l', fun a b => by rw [dataLt_list]; exact h.lt_eq a b⟩
theorem OrT {e : α → D} {n : Nat} {lt : α → α → Bool} (h : OrE e n lt) : OrE (eT e) (n + 1) (ltL lt) := (OrR.map h).tup
theorem OrL {e : α → D} {n : Nat} {lt : α → α → Bool} (h : OrE e n lt) : OrE (eL e) (n + 1) (ltL lt) := (OrR.map h).lst
end
/-! strict linear orders -/
structure Lin {α : Type} (lt : α → α → Bool) : Prop where
  irr : ∀ a, lt a a = false
  tr : ∀ a b c, lt a b = true → lt b c = true → lt a c = true
  tot : ∀ a b, lt a b = false → lt b a = false → a = b
theorem Lin.i : Lin ltI := ⟨fun a => by simp [ltI], fun a b c h k => by simp only [ltI, decide_eq_true_eq] at *; omega, fun a b h k => by simp only [ltI, decide_eq_false_iff_not] at *; omega⟩
theorem Lin.e {α : Type} [DecidableEq α] {e : α → D} {n : Nat} {lt : α → α → Bool} (h : OrE e n lt) : Lin lt := ⟨fun a => by rw [← h.lt_eq]; exact dataLt_self _, fun a b c h1 h2 => by
  rw [← h.lt_eq] at *
  exact lex_trans _ _ _ h1 h2, fun a b h1 h2 => by
  rw [← h.lt_eq] at h1 h2
  have h3 := (toks_eqv (e a) (e b) (h.alike a b))
  have h4 := lex_total _ _ h1 h2
  have h5 := h.eqv a b
  cases hb : PyData.eqv (e a) (e b) with
  | true => rw [hb] at h5; simpa using h5.symm
  | false =>
    have h6 := h3.2 hb [.inl 0] [.inl 1]
    rw [h4, lex_pre, lex_irrefl] at h6
    exact absurd (h6.symm.trans (show lexLt itemOrd [Sum.inl 0] [Sum.inl 1] = true from by decide +kernel)) Bool.false_ne_true⟩
end Q

set_option Elab.async false
set_option linter.all false
set_option autoImplicit false
set_option maxRecDepth 100000
/-! TYP: the operators at Lean's own types, further. -/
namespace Q
open PySem PySem.W PyProof.Rows
/-! numbers -/
def M64 (i j : Int) : Prop := (-18446744073709551616 < i ∧ i < 18446744073709551616) ∨ (-18446744073709551616 < j ∧ j < 18446744073709551616)
theorem mulI_ok {i j : Int} (h : M64 i j) : mulI (.int i) (.int j) = some (.int (i * j)) := by
  rw [mulI_i]
  refine if_pos ?_
  unfold small64
  simp only [Bool.or_eq_true, Bool.and_eq_true, decide_eq_true_eq]
  unfold M64 at h
  exact h
theorem mulI_kl {j : Int} (k : Int) (h : small64 k = true := by decide) : mulI (.int k) (.int j) = some (.int (k * j)) := mulI_l h
theorem mulI_kr {i : Int} (k : Int) (h : small64 k = true := by decide) : mulI (.int i) (.int k) = some (.int (i * k)) := mulI_r h
def D30 (j : Int) : Prop := j ≠ 0 ∧ -1073741824 < j ∧ j < 1073741824
theorem divD_ok {i j : Int} (h : D30 j) : divD (.int i) (.int j) = some (.int (i.fdiv j)) := divD_i h.1 (by have := h.2; omega)
theorem divD_k {i : Int} (k : Int) (h : 0 ≤ k ∧ k ≠ 0 ∧ k.natAbs < 1073741824 := by decide) : divD (.int i) (.int k) = some (.int (i / k)) := by
  rw [divD_i h.2.1 h.2.2, Int.fdiv_eq_ediv_of_nonneg _ h.1]
theorem modD_k {i : Int} (k : Int) (h : 0 ≤ k ∧ k ≠ 0 := by decide) : modD (.int i) (.int k) = some (.int (i % k)) := by
  rw [modD_i h.2, Int.fmod_eq_emod_of_nonneg _ h.1]
def absI (i : Int) : Int := if i < 0 then -i else i
theorem absD_I (i : Int) : absD (.int i) = some (.int (absI i)) := rfl
def b2n (b : Bool) : Int := if b then 1 else 0
theorem intD_B (b : Bool) : intD (.bool b) = some (.int (b2n b)) := rfl
def maxI (i j : Int) : Int := if j > i then j else i
def minI (i j : Int) : Int := if j < i then j else i
theorem max2_I (i j : Int) : max2D (.int i) (.int j) = some (.int (maxI i j)) := rfl
theorem min2_I (i j : Int) : min2D (.int i) (.int j) = some (.int (minI i j)) := rfl
theorem maxI_eq (i j : Int) : maxI i j = max i j := by unfold maxI; split <;> omega
theorem minI_eq (i j : Int) : minI i j = min i j := by unfold minI; split <;> omega
/-! sequences -/
theorem addD_L {α : Type} (e : α → D) (xs ys : List α) (h : xs.length + ys.length ≤ sizeLine) : addD (.list (xs.map e)) (.list (ys.map e)) = some (.list ((xs ++ ys).map e)) := by
  rw [List.map_append]; exact if_pos (by simpa using h)
theorem addD_T {α : Type} (e : α → D) (xs ys : List α) (h : xs.length + ys.length ≤ sizeLine) : addD (.tuple (xs.map e)) (.tuple (ys.map e)) = some (.tuple ((xs ++ ys).map e)) := by
  rw [List.map_append]; exact if_pos (by simpa using h)
theorem addD_P (xs ys : List D) (h : decide (xs.length + ys.length ≤ 16777216) = true := by rfl) : addD (.tuple xs) (.tuple ys) = some (.tuple (xs ++ ys)) := if_pos (by rw [size_eq]; exact of_decide_eq_true h)
theorem catD_L {α : Type} (e : α → D) (xs ys : List α) (h : xs.length + ys.length ≤ sizeLine) : catD (.list (xs.map e)) (.list (ys.map e)) = some (.list ((xs ++ ys).map e)) := by
  rw [List.map_append]; exact if_pos (by simpa using h)
theorem addD_S (x y : Str) (h : x.length + y.length ≤ sizeLine) : addD (.str x) (.str y) = some (.str (x ++ y)) := if_pos h
theorem lenD_L {α : Type} (e : α → D) (xs : List α) : lenD (.list (xs.map e)) = some (.int xs.length) := by rw [lenD_l, List.length_map]
theorem lenD_T {α : Type} (e : α → D) (xs : List α) : lenD (.tuple (xs.map e)) = some (.int xs.length) := by rw [lenD_t, List.length_map]
theorem lenD_P (xs : List D) {n : Int} (h : (xs.length : Int) = n := by rfl) : lenD (.tuple xs) = some (.int n) := by rw [lenD_t, h]
def InR {α : Type} (xs : List α) (i : Int) : Prop := -(xs.length : Int) ≤ i ∧ i < xs.length
def ixN' (n : Nat) (i : Int) : Nat := if 0 ≤ i then i.toNat else (n + i).toNat
def idx {α : Type} [Inhabited α] (xs : List α) (i : Int) : α := xs.getD (ixN' xs.length i) default
theorem ixN_some {n : Nat} {i : Int} (h : -(n : Int) ≤ i ∧ i < n) : L2.ixN n i = some (ixN' n i) ∧ ixN' n i < n := by
  unfold L2.ixN ixN'
  by_cases h0 : 0 ≤ i
  · rw [if_pos h0, if_pos h0, if_pos (by omega)]
    exact ⟨rfl, by omega⟩
  · rw [if_neg h0, if_neg h0, if_pos (by omega)]
    refine ⟨congrArg some (by omega), by omega⟩
theorem atI_idx {α : Type} [Inhabited α] {xs : List α} {i : Int} (h : InR xs i) : L2.atI xs i = some (idx xs i) := by
  obtain ⟨h1, h2⟩ := ixN_some h
  unfold L2.atI idx
  rw [h1]
  show xs[ixN' xs.length i]? = _
  rw [List.getElem?_eq_getElem h2, List.getD_eq_getElem?_getD, List.getElem?_eq_getElem h2]
  rfl
theorem idx_mem {α : Type} [Inhabited α] {xs : List α} {i : Int} (h : InR xs i) : idx xs i ∈ xs := by
  obtain ⟨h1, h2⟩ := ixN_some h
  unfold idx
  rw [List.getD_eq_getElem?_getD, List.getElem?_eq_getElem h2]
  exact List.getElem_mem h2
theorem idx_nat {α : Type} [Inhabited α] (xs : List α) (i : Nat) : idx xs (i : Int) = xs.getD i default := by
  unfold idx ixN'
  rw [if_pos (Int.natCast_nonneg i), Int.toNat_natCast]
theorem idx_lt {α : Type} [Inhabited α] (xs : List α) {i : Nat} (h : i < xs.length) : idx xs (i : Int) = xs[i] := by
  rw [idx_nat, List.getD_eq_getElem?_getD, List.getElem?_eq_getElem h]; rfl
theorem InR.nat {α : Type} {xs : List α} {i : Nat} (h : i < xs.length) : InR xs (i : Int) := ⟨by omega, by omega⟩
theorem InR.of {α : Type} {xs : List α} {i : Int} (h0 : 0 ≤ i) (h : i < xs.length) : InR xs i := ⟨by omega, h⟩
theorem atI_map {α : Type} [Inhabited α] (e : α → D) {xs : List α} {i : Int} (h : InR xs i) : L2.atI (xs.map e) i = some (e (idx xs i)) := by
  obtain ⟨h1, h2⟩ := ixN_some h
  unfold L2.atI idx
  rw [List.length_map, h1]
  show (xs.map e)[ixN' xs.length i]? = _
  rw [List.getElem?_map, List.getElem?_eq_getElem h2, List.getD_eq_getElem?_getD, List.getElem?_eq_getElem h2]
  rfl
theorem ixD_L {α : Type} [Inhabited α] (e : α → D) {xs : List α} {i : Int} (h : InR xs i) : ixD (.list (xs.map e)) (.int i) = some (e (idx xs i)) := by rw [ixD_l]; exact atI_map e h
theorem ixD_T {α : Type} [Inhabited α] (e : α → D) {xs : List α} {i : Int} (h : InR xs i) : ixD (.tuple (xs.map e)) (.int i) = some (e (idx xs i)) := by rw [ixD_t]; exact atI_map e h
theorem ixD_P {xs : List D} {i : Int} {d : D} (h : L2.atI xs i = some d := by rfl) : ixD (.tuple xs) (.int i) = some d := by rw [ixD_t]; exact h
theorem cutL_map {α β : Type} (e : α → β) (xs : List α) (lo hi : Option Int) : cutL (xs.map e) lo hi = (cutL xs lo hi).map e := by
  unfold cutL
  rw [List.length_map, ← List.map_drop, ← List.map_take]
theorem cutD_L {α : Type} (e : α → D) (xs : List α) (lo hi : Option Int) : cutD (.list (xs.map e)) lo hi = some (.list ((cutL xs lo hi).map e)) := by rw [cutD_l, cutL_map]
theorem cutD_T {α : Type} (e : α → D) (xs : List α) (lo hi : Option Int) : cutD (.tuple (xs.map e)) lo hi = some (.tuple ((cutL xs lo hi).map e)) := by rw [cutD_t, cutL_map]
theorem cutD_P {xs ys : List D} {lo hi : Option Int} (h : cutL xs lo hi = ys := by rfl) : cutD (.tuple xs) lo hi = some (.tuple ys) := by rw [cutD_t, h]
theorem sIx_pos (n : Nat) (d : Nat) {i : Int} (h : 0 ≤ i) : HT.sIx n d (some i) = min i.toNat n := by
  obtain ⟨k, rfl⟩ := Int.eq_ofNat_of_zero_le h
  exact HT.sIx_nat n d k
/-- xs[i:] -/
theorem cutL_from {α : Type} (xs : List α) {i : Int} (h : 0 ≤ i) : cutL xs (some i) none = xs.drop i.toNat := by
  unfold cutL
  rw [sIx_pos _ _ h, HT.sIx_none, List.take_of_length_le (by simp)]
  by_cases hi : i.toNat ≤ xs.length
  · rw [Nat.min_eq_left hi]
  · rw [Nat.min_eq_right (by omega), List.drop_length, List.drop_eq_nil_of_le (by omega)]
/-- xs[:i] -/
theorem cutL_to {α : Type} (xs : List α) {i : Int} (h : 0 ≤ i) : cutL xs none (some i) = xs.take i.toNat := by
  unfold cutL
  rw [sIx_pos _ _ h, HT.sIx_none]
  simp only [List.drop_zero, Nat.sub_zero]
  by_cases hi : i.toNat ≤ xs.length
  · rw [Nat.min_eq_left hi]
  · rw [Nat.min_eq_right (by omega), List.take_length, List.take_of_length_le (by omega)]
/-- xs[i:j] -/
theorem cutL_mid {α : Type} (xs : List α) {i j : Int} (h : 0 ≤ i) (k : 0 ≤ j) : cutL xs (some i) (some j) = (xs.drop i.toNat).take (j.toNat - i.toNat) := by
  unfold cutL
  rw [sIx_pos _ _ h, sIx_pos _ _ k]
  by_cases hi : i.toNat ≤ xs.length
  · rw [Nat.min_eq_left hi]
    by_cases hj : j.toNat ≤ xs.length
    · rw [Nat.min_eq_left hj]
    · rw [Nat.min_eq_right (by omega), List.take_of_length_le (by simp), List.take_of_length_le (by simp; omega)]
  · have e1 : min i.toNat xs.length = xs.length := by omega
    rw [e1, List.drop_length, List.drop_eq_nil_of_le (by omega)]
    simp
theorem cutL_len {α : Type} (xs : List α) (lo hi : Option Int) : (cutL xs lo hi).length ≤ xs.length := by
  unfold cutL
  rw [List.length_take, List.length_drop]
  omega
theorem intsOf_map (xs : List Int) : intsOf (xs.map PyData.int) = some xs := by
  induction xs with
  | nil => rfl
  | cons x xs ih => simp only [List.map_cons, intsOf, ih, Option.map_some]
theorem boolsOf_map (xs : List Bool) : boolsOf (xs.map PyData.bool) = some xs := by
  induction xs with
  | nil => rfl
  | cons x xs ih => simp only [List.map_cons, boolsOf, ih, Option.map_some]
theorem sumD_L (xs : List Int) : sumD (.list (xs.map PyData.int)) = some (.int xs.sum) := by unfold sumD; simp only [intsOf_map, Option.map_some]
theorem allD_L (xs : List Bool) : allD (.list (xs.map PyData.bool)) = some (.bool (xs.all id)) := by unfold allD; simp only [boolsOf_map, Option.map_some]
theorem anyD_L (xs : List Bool) : anyD (.list (xs.map PyData.bool)) = some (.bool (xs.any id)) := by unfold anyD; simp only [boolsOf_map, Option.map_some]
/-! min, max, sorted -/
def minF {α : Type} (lt : α → α → Bool) (x : α) (xs : List α) : α := xs.foldl (fun a y => if lt y a = true then y else a) x
def maxF {α : Type} (lt : α → α → Bool) (x : α) (xs : List α) : α := xs.foldl (fun a y => if lt a y = true then y else a) x
def minT {α : Type} [Inhabited α] (lt : α → α → Bool) : List α → α
  | [] => default
  | x :: xs => minF lt x xs
def maxT {α : Type} [Inhabited α] (lt : α → α → Bool) : List α → α
  | [] => default
  | x :: xs => maxF lt x xs
section
variable {α : Type} [DecidableEq α] {e : α → D} {n : Nat} {lt : α → α → Bool}
theorem minD_map (h : OrE e n lt) : ∀ (xs : List α) (x : α), PySem.W.minD (e x) (xs.map e) = e (minF lt x xs)
  | [], x => rfl
  | y :: xs, x => by
    have ih := minD_map h xs (if lt y x = true then y else x)
    unfold PySem.W.minD minF at *
    rw [List.map_cons, List.foldl_cons, List.foldl_cons, h.lt_eq, ← ih]
    congr 1
    split <;> rfl
theorem maxD_map (h : OrE e n lt) : ∀ (xs : List α) (x : α), PySem.W.maxD (e x) (xs.map e) = e (maxF lt x xs)
  | [], x => rfl
  | y :: xs, x => by
    have ih := maxD_map h xs (if lt x y = true then y else x)
    unfold PySem.W.maxD maxF at *
    rw [List.map_cons, List.foldl_cons, List.foldl_cons, h.lt_eq, ← ih]
    congr 1
    split <;> rfl
theorem alikeB_map (h : OrE e n lt) (xs : List α) : alikeB (xs.map e) = true := by
  unfold alikeB
  simp only [List.all_map, List.all_eq_true, Function.comp]
  exact fun x _ y _ => h.alike x y
theorem noNone_map (h : OrE e n lt) (xs : List α) : noNoneB (xs.map e) = true := by
  unfold noNoneB
  simp only [List.all_map, List.all_eq_true, Function.comp]
  intro x _
  have := h.nn x
  cases hx : e x <;> simp_all [isNoneD]
variable [Inhabited α]
theorem minD1_ok (h : OrE e n lt) (hn : n + 1 ≤ 60) {xs : List α} (hx : xs ≠ []) : minD1 (.list (xs.map e)) = some (e (minT lt xs)) ∧ minD1 (.tuple (xs.map e)) = some (e (minT lt xs)) := by
  cases xs with
  | nil => exact absurd rfl hx
  | cons x xs =>
    have h1 := low_map h.toEqE hn (x :: xs)
    have h2 := (EqL h.toEqE).plain (x :: xs)
    have h3 := (EqT h.toEqE).plain (x :: xs)
    constructor
    · show (if _ then _ else none) = _
      rw [if_pos (by rw [show PyData.plain (PyData.list ((x :: xs).map e)) = true from h2, h1.1, show alikeB (e x :: xs.map e) = true from alikeB_map h (x :: xs), show noNoneB (e x :: xs.map e) = true from noNone_map h (x :: xs)]; rfl)]
      exact congrArg some (minD_map h xs x)
    · show (if _ then _ else none) = _
      rw [if_pos (by rw [show PyData.plain (PyData.tuple ((x :: xs).map e)) = true from h3, h1.2, show alikeB (e x :: xs.map e) = true from alikeB_map h (x :: xs), show noNoneB (e x :: xs.map e) = true from noNone_map h (x :: xs)]; rfl)]
      exact congrArg some (minD_map h xs x)
theorem maxD1_ok (h : OrE e n lt) (hn : n + 1 ≤ 60) {xs : List α} (hx : xs ≠ []) : maxD1 (.list (xs.map e)) = some (e (maxT lt xs)) ∧ maxD1 (.tuple (xs.map e)) = some (e (maxT lt xs)) := by
  cases xs with
  | nil => exact absurd rfl hx
  | cons x xs =>
    have h1 := low_map h.toEqE hn (x :: xs)
    have h2 := (EqL h.toEqE).plain (x :: xs)
    have h3 := (EqT h.toEqE).plain (x :: xs)
    constructor
    · show (if _ then _ else none) = _
      rw [if_pos (by rw [show PyData.plain (PyData.list ((x :: xs).map e)) = true from h2, h1.1, show alikeB (e x :: xs.map e) = true from alikeB_map h (x :: xs), show noNoneB (e x :: xs.map e) = true from noNone_map h (x :: xs)]; rfl)]
      exact congrArg some (maxD_map h xs x)
    · show (if _ then _ else none) = _
      rw [if_pos (by rw [show PyData.plain (PyData.tuple ((x :: xs).map e)) = true from h3, h1.2, show alikeB (e x :: xs.map e) = true from alikeB_map h (x :: xs), show noNoneB (e x :: xs.map e) = true from noNone_map h (x :: xs)]; rfl)]
      exact congrArg some (maxD_map h xs x)
theorem minD1_L (h : OrE e n lt) (hn : n + 1 ≤ 60) {xs : List α} (hx : xs ≠ []) : minD1 (.list (xs.map e)) = some (e (minT lt xs)) := (minD1_ok h hn hx).1
theorem minD1_T (h : OrE e n lt) (hn : n + 1 ≤ 60) {xs : List α} (hx : xs ≠ []) : minD1 (.tuple (xs.map e)) = some (e (minT lt xs)) := (minD1_ok h hn hx).2
theorem maxD1_L (h : OrE e n lt) (hn : n + 1 ≤ 60) {xs : List α} (hx : xs ≠ []) : maxD1 (.list (xs.map e)) = some (e (maxT lt xs)) := (maxD1_ok h hn hx).1
theorem maxD1_T (h : OrE e n lt) (hn : n + 1 ≤ 60) {xs : List α} (hx : xs ≠ []) : maxD1 (.tuple (xs.map e)) = some (e (maxT lt xs)) := (maxD1_ok h hn hx).2
omit [Inhabited α] in
theorem ltD_ok (h : OrE e n lt) (hn : n ≤ 60) (a b : α) : ltD (e a) (e b) = some (lt a b) ∧ gtD (e a) (e b) = some (lt b a) ∧ leD (e a) (e b) = some (!lt b a) ∧ geD (e a) (e b) = some (!lt a b) := by
  have h1 : okLt (e a) (e b) = true := by
    unfold okLt lowD
    have := h.depth a
    have hn : isNoneD (e a) = false := by have := h.nn a; cases hx : e a <;> simp_all [isNoneD]
    simp only [h.plain, h.alike, hn, Bool.not_false, Bool.and_self, Bool.true_and, decide_eq_true_eq]
    omega
  unfold ltD gtD leD geD
  rw [if_pos h1, if_pos h1, if_pos h1, if_pos h1, h.lt_eq, h.lt_eq]
  exact ⟨rfl, rfl, rfl, rfl⟩
def sortT {α : Type} (lt : α → α → Bool) (xs : List α) : List α := xs.mergeSort fun a b => !lt b a
omit [Inhabited α] in
theorem sort_map (h : OrE e n lt) (xs : List α) : (xs.map e).mergeSort (PySem.W.dataLe false id) = (sortT lt xs).map e := by
  unfold sortT
  refine (List.map_mergeSort fun a _ b _ => ?_).symm
  show (!lt b a) = (!PySem.W.dataLt (e b) (e a))
  rw [h.lt_eq]
/-- what sorted takes -/
def SoE {α : Type} (e : α → D) : Prop := (∀ a, ∃ x xs, e a = .tuple (x :: xs)) ∨ (∀ a, (match e a with | .none => false | .tuple _ => false | _ => true) = true)
theorem SoE.i : SoE PyData.int := .inr fun _ => rfl
theorem SoE.s : SoE PyData.str := .inr fun _ => rfl
theorem SoE.p {α β : Type} {a : α → D} {r : β → List D} : SoE (fun p : α × β => PyData.tuple (a p.1 :: r p.2)) := .inl fun p => ⟨_, _, rfl⟩
theorem SoE.p1 {α : Type} {a : α → D} : SoE (fun p : α => PyData.tuple [a p]) := .inl fun p => ⟨_, _, rfl⟩
omit [Inhabited α] in
theorem sortLD_L (h : OrE e n lt) (hn : n + 1 ≤ 60) (hs : SoE e) {xs : List α} (hz : xs.length ≤ sizeLine) : sortLD (.list (xs.map e)) = some (.list ((sortT lt xs).map e)) := by
  have h1 := low_map h.toEqE hn xs
  have h2 : PyData.plain (PyData.list (xs.map e)) = true := (EqL h.toEqE).plain xs
  have h3 : sortableB (xs.map e) = true := by
    unfold sortableB
    rw [Bool.or_eq_true, List.all_map, List.all_map]
    rcases hs with hs | hs
    · refine .inl (List.all_eq_true.mpr fun x _ => ?_)
      obtain ⟨y, ys, hy⟩ := hs x
      simp only [Function.comp, hy]
    · exact .inr (List.all_eq_true.mpr fun x _ => hs x)
  show (if _ then _ else none) = _
  rw [if_pos (by rw [h2, h1.1, alikeB_map h, h3]; simpa using hz), sort_map h]
/-! index, count -/
omit [Inhabited α] in
theorem find_idx (h : EqE e n) (a : α) (xs : List α) (ha : a ∈ xs) : (xs.map e).findIdx? (fun y => PyData.eqv y (e a)) = some (xs.idxOf a) := by
  induction xs with
  | nil => simp at ha
  | cons x xs ih =>
    rw [List.map_cons, List.findIdx?_cons, h.eqv, List.idxOf_cons]
    by_cases hx : x = a
    · simp [hx]
    · have h2 : a ∈ xs := by rcases List.mem_cons.mp ha with q | q; exact absurd q.symm hx; exact q
      rw [decide_eq_false hx, ih h2, show (x == a) = false by simpa using hx]
      rfl
omit [Inhabited α] in
theorem indexD_ok (h : EqE e n) (hn : n + 1 ≤ 60) (a : α) (xs : List α) (ha : a ∈ xs) : indexD (.list (xs.map e)) (e a) = some (.int (xs.idxOf a : Nat)) ∧ indexD (.tuple (xs.map e)) (e a) = some (.int (xs.idxOf a : Nat)) := by
  have h1 := low_map h hn xs
  have h2 : lowD (e a) = true := by unfold lowD; have := h.depth a; simp only [decide_eq_true_eq]; omega
  have h3 := (EqR.map h).plain xs
  constructor
  · show (if _ then _ else none) = _
    rw [if_pos (by simp only [h1.1, h2, h3, h.plain, Bool.and_self]), find_idx h a xs ha]; rfl
  · show (if _ then _ else none) = _
    rw [if_pos (by simp only [h1.2, h2, h3, h.plain, Bool.and_self]), find_idx h a xs ha]; rfl
omit [Inhabited α] in
theorem indexD_L (h : EqE e n) (hn : n + 1 ≤ 60) (a : α) (xs : List α) (ha : a ∈ xs) : indexD (.list (xs.map e)) (e a) = some (.int (xs.idxOf a : Nat)) := (indexD_ok h hn a xs ha).1
omit [Inhabited α] in
theorem indexD_T (h : EqE e n) (hn : n + 1 ≤ 60) (a : α) (xs : List α) (ha : a ∈ xs) : indexD (.tuple (xs.map e)) (e a) = some (.int (xs.idxOf a : Nat)) := (indexD_ok h hn a xs ha).2
omit [Inhabited α] in
theorem count_map (h : EqE e n) (a : α) (xs : List α) : (xs.map e).countP (fun y => PyData.eqv y (e a)) = xs.count a := by
  rw [List.countP_map, List.count_eq_countP]
  congr 1
  funext y
  simp only [Function.comp, h.eqv]
  rw [beq_decide]
omit [Inhabited α] in
theorem countD_ok (h : EqE e n) (hn : n + 1 ≤ 60) (a : α) (xs : List α) : countD (.list (xs.map e)) (e a) = some (.int (xs.count a : Nat)) ∧ countD (.tuple (xs.map e)) (e a) = some (.int (xs.count a : Nat)) := by
  have h1 := low_map h hn xs
  have h2 : lowD (e a) = true := by unfold lowD; have := h.depth a; simp only [decide_eq_true_eq]; omega
  have h3 := (EqR.map h).plain xs
  constructor
  · show (if _ then _ else none) = _
    rw [if_pos (by simp only [h1.1, h2, h3, h.plain, Bool.and_self]), count_map h a xs]
  · show (if _ then _ else none) = _
    rw [if_pos (by simp only [h1.2, h2, h3, h.plain, Bool.and_self]), count_map h a xs]
omit [Inhabited α] in
theorem countD_L (h : EqE e n) (hn : n + 1 ≤ 60) (a : α) (xs : List α) : countD (.list (xs.map e)) (e a) = some (.int (xs.count a : Nat)) := (countD_ok h hn a xs).1
omit [Inhabited α] in
theorem countD_T (h : EqE e n) (hn : n + 1 ≤ 60) (a : α) (xs : List α) : countD (.tuple (xs.map e)) (e a) = some (.int (xs.count a : Nat)) := (countD_ok h hn a xs).2
end
/-! ### options, at use -/
theorem X.get {G : Env} {w w1 : Wd} {α : Type} [Inhabited α] {e : α → D} {a : E} {v : Option α} (h : X G a w (eO e v) w1) (hs : v.isSome = true) : X G a w (e (v.getD default)) w1 := by
  cases v with
  | none => cases hs
  | some v => exact h
/-! ### alike -/
/-- data that alike walks, by type -/
structure AlkE {α : Type} (e : α → D) (n : Nat) (ok : α → Prop) : Prop where
  alk : ∀ a, ok a → Alk n (e a)
theorem AlkE.i {n : Nat} : AlkE PyData.int (n + 1) (fun _ => True) := ⟨fun _ _ => Alk.i⟩
theorem AlkE.b {n : Nat} : AlkE PyData.bool (n + 1) (fun _ => True) := ⟨fun _ _ => Alk.b⟩
theorem AlkE.s {n : Nat} : AlkE PyData.str (n + 1) (fun _ => True) := ⟨fun _ _ => Alk.s⟩
theorem AlkE.u {n : Nat} : AlkE eU (n + 1) (fun _ => True) := ⟨fun _ _ => Alk.n⟩
theorem AlkE.o {α : Type} {e : α → D} {n : Nat} {ok : α → Prop} (h : AlkE e (n + 1) ok) : AlkE (eO e) (n + 1) (fun a => ∀ v, a = some v → ok v) := ⟨fun a k => by
  cases a with
  | none => exact Alk.n
  | some a => exact h.alk a (k a rfl)⟩
theorem AlkE.l {α : Type} {e : α → D} {n : Nat} {ok : α → Prop} (h : AlkE e n ok) : AlkE (eL e) (n + 1) (fun l => l.length ≤ 1000000 ∧ ∀ x ∈ l, ok x) := ⟨fun a k => Alk.l (by simpa using k.1) fun x hx => by
  obtain ⟨y, hy, rfl⟩ := List.mem_map.mp hx
  exact h.alk y (k.2 y hy)⟩
theorem AlkE.t {α : Type} {e : α → D} {n : Nat} {ok : α → Prop} (h : AlkE e n ok) : AlkE (eT e) (n + 1) (fun l => l.length ≤ 1000000 ∧ ∀ x ∈ l, ok x) := ⟨fun a k => Alk.t (by simpa using k.1) fun x hx => by
  obtain ⟨y, hy, rfl⟩ := List.mem_map.mp hx
  exact h.alk y (k.2 y hy)⟩
theorem AlkE.p2 {α β : Type} {a : α → D} {b : β → D} {n : Nat} {p : α → Prop} {q : β → Prop} (h : AlkE a n p) (k : AlkE b n q) : AlkE (eP2 a b) (n + 1) (fun x => p x.1 ∧ q x.2) := ⟨fun x o => Alk.t (by simp) fun y hy => by
  simp only [List.mem_cons, List.not_mem_nil, or_false] at hy
  rcases hy with rfl | rfl
  · exact h.alk _ o.1
  · exact k.alk _ o.2⟩
theorem AlkE.p3 {α β γ : Type} {a : α → D} {b : β → D} {c : γ → D} {n : Nat} {p : α → Prop} {q : β → Prop} {r : γ → Prop} (h : AlkE a n p) (k : AlkE b n q) (m : AlkE c n r) : AlkE (eP3 a b c) (n + 1) (fun x => p x.1 ∧ q x.2.1 ∧ r x.2.2) := ⟨fun x o => Alk.t (by simp) fun y hy => by
  simp only [List.mem_cons, List.not_mem_nil, or_false] at hy
  rcases hy with rfl | rfl | rfl
  · exact h.alk _ o.1
  · exact k.alk _ o.2.1
  · exact m.alk _ o.2.2⟩
theorem AlkE.p4 {α β γ δ : Type} {a : α → D} {b : β → D} {c : γ → D} {d : δ → D} {n : Nat} {p : α → Prop} {q : β → Prop} {r : γ → Prop} {s : δ → Prop} (h : AlkE a n p) (k : AlkE b n q) (m : AlkE c n r) (l : AlkE d n s) : AlkE (eP4 a b c d) (n + 1) (fun x => p x.1 ∧ q x.2.1 ∧ r x.2.2.1 ∧ s x.2.2.2) := ⟨fun x o => Alk.t (by simp) fun y hy => by
  simp only [List.mem_cons, List.not_mem_nil, or_false] at hy
  rcases hy with rfl | rfl | rfl | rfl
  · exact h.alk _ o.1
  · exact k.alk _ o.2.1
  · exact m.alk _ o.2.2.1
  · exact l.alk _ o.2.2.2⟩
theorem AlkE.p5 {α β γ δ ε : Type} {a : α → D} {b : β → D} {c : γ → D} {d : δ → D} {e : ε → D} {n : Nat} {p : α → Prop} {q : β → Prop} {r : γ → Prop} {s : δ → Prop} {t : ε → Prop} (h : AlkE a n p) (k : AlkE b n q) (m : AlkE c n r) (l : AlkE d n s) (j : AlkE e n t) : AlkE (eP5 a b c d e) (n + 1) (fun x => p x.1 ∧ q x.2.1 ∧ r x.2.2.1 ∧ s x.2.2.2.1 ∧ t x.2.2.2.2) := ⟨fun x o => Alk.t (by simp) fun y hy => by
  simp only [List.mem_cons, List.not_mem_nil, or_false] at hy
  rcases hy with rfl | rfl | rfl | rfl | rfl
  · exact h.alk _ o.1
  · exact k.alk _ o.2.1
  · exact m.alk _ o.2.2.1
  · exact l.alk _ o.2.2.2.1
  · exact j.alk _ o.2.2.2.2⟩
end Q
namespace Q
open PySem PySem.W PyProof.Rows
theorem sortSetD_L {xs : List Int} (h : xs.length < 60) : sortSetD (.list (xs.map PyData.int)) = some (.list ((sortSetI xs).map PyData.int)) := by
  unfold sortSetD
  simp only [intsOf_map, Option.bind_some]
  rw [if_pos h]
theorem sortSetD_T {xs : List Int} (h : xs.length < 60) : sortSetD (.tuple (xs.map PyData.int)) = some (.list ((sortSetI xs).map PyData.int)) := by
  unfold sortSetD
  simp only [intsOf_map, Option.bind_some]
  rw [if_pos h]
theorem lenSetD_L {xs : List Int} (h : xs.length < 60) : lenSetD (.list (xs.map PyData.int)) = some (.int (dedupI xs).length) := by
  unfold lenSetD
  simp only [intsOf_map, Option.bind_some]
  rw [if_pos (by unfold scanBound; omega)]
end Q

set_option Elab.async false
set_option linter.all false
set_option autoImplicit false
set_option maxRecDepth 100000
/-! QMS: the second texts of the shared defs: the draws, same, says. -/
namespace Q
open PySem PySem.W
def bDraws2_1 : S :=
    sSeq (sSet (gName 5) (cOp1 absD (cOp1 intD (cOp2 ixD (cVar 0) (cVar 4)))))
    (sSeq (sSet (gName 3) (cOp2 modD (cOp1 intD (cOp2 addD (cOp2 addD (cOp2 mulI (cVar 3) (cK (.int 48271))) (cOp2 modD (cVar 5) (cK (.int 1000003)))) (cVar 4))) (cK (.int 65537))))
    (sSeq (sSet (gName 6) (cK (.int 0)))
    (sSeq (sIf (tCmp geD (cVar 5) (cOp2 powD (cK (.int 10)) (cK (.int 18)))) (sSet (gName 6) (cVar 5)) (sSeq (sApp 2 (cOp2 modD (cOp1 intD (cVar 5)) (cK (.int 997))))
    (sApp 2 (cOp2 modD (cOp2 modD (cOp1 intD (cOp2 addD (cOp2 mulI (cVar 3) (cK (.int 69621))) (cK (.int 5)))) (cK (.int 65521))) (cK (.int 997))))))
    (sFor (itR1 (cK (.int 60))) (gName 7) (bDraws_0) [7]))))
def bDraws2 : S :=
    sSeq (sSet (gName 2) (cLst []))
    (sSeq (sSet (gName 3) (cK (.int 7)))
    (sSeq (sFor (itR1 (cOp1 lenD (cVar 0))) (gName 4) (bDraws2_1) [4, 5, 6, 7])
    (sSeq (sFor (itR1 (cVar 1)) (gName 4) (bDraws_2) [4])
    (sRet (cCut (cVar 2) none (some (cVar 1)))))))
theorem draws_turn2 (ns : List Int) (M : Int) (l : List Int) (m : Int) (k : Nat) (hk : k < ns.length) (hk2 : k ≤ 1000) (hz : l.length ≤ 10000) (w : Wd) : wp (turn (gName 4) bDraws2_1 [4, 5, 6, 7] (.int (k : Int)) (eDr (tokS ns) M l m) w) fun o w' => w' = w ∧ ∃ (g : Env) (l' : List Int) (m' : Int), o = .nx g ∧ wipeE g [4, 5, 6, 7] = eDr (tokS ns) M l' m' ∧ l'.length ≤ l.length + 62 := by
  have hs : ∀ i : Int, i = 48271 ∨ i = 69621 ∨ i = 16807 → small64 i = true := by
    rintro i (rfl | rfl | rfl) <;> decide
  have hx : L2.atI (ns.map PyData.int) (k : Int) = some (.int ns[k]) := by rw [atI_lt _ (by simpa using hk)]; simp
  have h60 : range1 (.int 60) = some (rangeL 0 60) := r1_int (by omega) (by omega)
  generalize hR : (fun (o : Out) (w' : Wd) => w' = w ∧ ∃ (g : Env) (l' : List Int) (m' : Int), o = .nx g ∧ wipeE g [4, 5, 6, 7] = eDr (tokS ns) M l' m' ∧ l'.length ≤ l.length + 62) = R
  unfold turn bDraws2_1 eDr
  simp -implicitDefEqProofs [hx, mulI_r (hs 48271 (.inl rfl)), mulI_r (hs 69621 (.inr (.inl rfl))), modD_i, pow1018, h60]
  generalize (if ns[k] < 0 then -ns[k] else ns[k]) = c
  generalize (m * 48271 + c.fmod 1000003 + (k : Int)).fmod 65537 = m'
  have fin : ∀ (l1 : List Int) (r : Int), l1.length ≤ l.length + 2 → wp (loopS (gName 7) bDraws_0 [7] (rangeL 0 60) [some (tokS ns), some (.int M), some (.list (l1.map .int)), some (.int m'), some (.int k), some (.int c), some (.int r), none] w) R := fun l1 r h1 => by
    refine digits_loop ns M l1 m' k c r (by omega) w R fun l' r' hl => ?_
    subst hR
    exact ⟨rfl, _, l', m', rfl, by simp -implicitDefEqProofs [eDr], by omega⟩
  have e1 : PyData.list ((l ++ [c.fmod 997, ((m' * 69621 + 5).fmod 65521).fmod 997]).map .int) = PyData.list (l.map .int ++ [.int (c.fmod 997), .int (((m' * 69621 + 5).fmod 65521).fmod 997)]) := by simp
  by_cases h1 : 1000000000000000000 ≤ c
  · have h2 : ¬ c = 0 := by omega
    have h3 : ¬ c < 1000000000000000000 := by omega
    simp -implicitDefEqProofs [h1, h2, h3, h60]
    exact fin l c (by omega)
  · have h3 : c < 1000000000000000000 := by omega
    simp -implicitDefEqProofs [h1, h3, modD_i]
    rw [apD_l (by rw [size_eq]; simp; omega)]
    simp -implicitDefEqProofs [modD_i, mulI_r (hs 69621 (.inr (.inl rfl)))]
    rw [apD_l (by rw [size_eq]; simp; omega)]
    simp -implicitDefEqProofs [h60]
    have h9 := fin (l ++ [c.fmod 997, ((m' * 69621 + 5).fmod 65521).fmod 997]) 0 (by simp)
    rw [e1] at h9
    exact h9
theorem draws2_ok (ns : List Int) (M : Int) (hM : 0 ≤ M) (hM2 : M ≤ 100000) (hn : ns.length ≤ 63) (w : Wd) : ∃ l : List Int, bodyFn 2 6 bDraws2 [tokS ns, .int M] w = some (.list (l.map .int), w) := by
  suffices h : wp (bodyFn 2 6 bDraws2 [tokS ns, .int M] w) fun d w' => ∃ l : List Int, d = .list (l.map .int) ∧ w' = w by
    obtain ⟨d, w', e, l, rfl, rfl⟩ := wp_eq h
    exact ⟨l, e⟩
  have hz : ns.length ≤ sizeLine := by rw [size_eq]; omega
  refine wp_fn rfl ?_
  generalize hR : (fun (o : Out) (w' : Wd) => ∃ d, o = .rt d ∧ ∃ l : List Int, d = .list (l.map .int) ∧ w' = w) = R
  unfold bDraws2
  simp -implicitDefEqProofs [r1_nat hz]
  refine wp_range (fun i g w' => w' = w ∧ ∃ (l : List Int) (m : Int), wipeE g [4, 5, 6, 7] = eDr (tokS ns) M l m ∧ l.length ≤ i * 62) ⟨rfl, [], 7, rfl, by simp⟩ (fun i g w' hi ⟨e, l, m, hg, hl⟩ => ?_) fun g w' ⟨e, l, m, hg, hl⟩ => ?_
  · subst e
    have h := draws_turn2 ns M l m i hi (by omega) (by omega) w'
    rw [Int.zero_add, turn_wipe (g' := eDr (tokS ns) M l m) (hg.trans (eDr_w ..).symm)]
    refine wp_mono h fun o w2 ⟨e, g', l', m', ho, hg', hl'⟩ => ?_
    subst ho
    exact ⟨e, l', m', hg', by omega⟩
  · subst e
    rw [hg]
    unfold eDr
    simp -implicitDefEqProofs [r1_int hM (by omega : M ≤ 1000000)]
    refine wp_range (fun i g w2 => w2 = w' ∧ ∃ (l : List Int) (m : Int), wipeE g [4] = eDr (tokS ns) M l m ∧ l.length ≤ 63 * 62 + i) ⟨rfl, l, m, rfl, by omega⟩ (fun i g w2 hi ⟨e, l, m, hg, hl⟩ => ?_) fun g w2 ⟨e, l, m, hg, hl⟩ => ?_
    · subst e
      have h := tail_turn (tokS ns) M l m i (by omega) (by omega) w2
      rw [Int.zero_add, turn_wipe (g' := eDr (tokS ns) M l m) (hg.trans (eDr_w4 ..).symm)]
      refine wp_mono h fun o w3 ⟨e, g', l', m', ho, hg', hl'⟩ => ?_
      subst ho
      exact ⟨e, l', m', hg', by omega⟩
    · subst e
      rw [hg]
      unfold eDr
      simp -implicitDefEqProofs
      subst hR
      refine ⟨_, rfl, cutL l none (some M), ?_, rfl⟩
      unfold cutL
      simp -implicitDefEqProofs
def bSame (self : Fn) : S :=
    sSeq (sIf (tVal (cOp1 (isaD .tuple) (cVar 1))) (sSeq (sIf (tOr (tNot (tVal (cOp1 (isaD .tuple) (cVar 0)))) (tCmp neD (cOp1 lenD (cVar 0)) (cOp1 lenD (cVar 1)))) (sRet (cK (.bool false))) (sPass))
    (sRet (cT (tCmp eqD (cLc (itR1 (cOp1 lenD (cVar 1))) (gName 2) (tNot (tVal (cCall self [cOp2 ixD (cVar 0) (cVar 2), cOp2 ixD (cVar 1) (cVar 2)]))) (cVar 2) [2]) (cLst []))))) (sPass))
    (sSeq (sIf (tCmp isND (cVar 1) (cK .none)) (sRet (cT (tCmp isND (cVar 0) (cK .none)))) (sPass))
    (sSeq (sIf (tVal (cOp1 (isaD .str) (cVar 1))) (sRet (cAnd (cOp1 (isaD .str) (cVar 0)) (cT (tCmp eqD (cVar 0) (cVar 1))))) (sPass))
    (sRet (cAnd (cOp1 (isaD .int) (cVar 0)) (cAnd (cT (tCmp eqD (cOp1 (isaD .bool) (cVar 0)) (cOp1 (isaD .bool) (cVar 1)))) (cT (tCmp eqD (cVar 0) (cVar 1))))))))
def fSm : Nat → Fn
  | 0 => bodyFn 2 1 sDead
  | n + 1 => bodyFn 2 1 (bSame (fSm n))
/-- data that same walks: no list, no dict, n deep -/
def Alt : Nat → D → Prop
  | 0, _ => False
  | n + 1, .tuple xs => xs.length ≤ 1000000 ∧ ∀ x ∈ xs, Alt n x
  | _ + 1, .list _ => False
  | _ + 1, .dict _ => False
  | _ + 1, _ => True
theorem Alt.i {n : Nat} {i : Int} : Alt (n + 1) (.int i) := by unfold Alt; trivial
theorem Alt.b {n : Nat} {i : Bool} : Alt (n + 1) (.bool i) := by unfold Alt; trivial
theorem Alt.s {n : Nat} {i : Str} : Alt (n + 1) (.str i) := by unfold Alt; trivial
theorem Alt.n {n : Nat} : Alt (n + 1) .none := by unfold Alt; trivial
theorem Alt.t {n : Nat} {xs : List D} (h : xs.length ≤ 1000000) (k : ∀ x ∈ xs, Alt n x) : Alt (n + 1) (.tuple xs) := by unfold Alt; exact ⟨h, k⟩
theorem same_seq {n : Nat} {xs : List D} (hz : xs.length ≤ 1000000) (ih : ∀ x ∈ xs, ∀ w, fSm n [x, x] w = some (.bool true, w)) (w : Wd) : fSm (n + 1) [.tuple xs, .tuple xs] w = some (.bool true, w) := by
  have hr : range1 (.int (xs.length : Int)) = some (rangeL 0 xs.length) := r1_nat (by rw [size_eq]; omega)
  have hz2 : xs.length ≤ sizeLine := by rw [size_eq]; omega
  have key : lcLoop (gName 2) (tNot (tVal (cCall (fSm n) [cOp2 ixD (cVar 0) (cVar 2), cOp2 ixD (cVar 1) (cVar 2)]))) (cVar 2) [some (.tuple xs), some (.tuple xs), none] (rangeL 0 xs.length) w = some ([], w) := by
    refine lc_none fun i hi => ?_
    have hx : L2.atI xs (i : Int) = some xs[i] := atI_lt xs hi
    have hi2 := ih xs[i] (List.getElem_mem hi) w
    unfold turnE
    simp -implicitDefEqProofs [hx, hi2]
  refine fn_eq rfl ?_
  unfold bSame
  simp -implicitDefEqProofs [s_sSeq, isaD_t, isTy, hr, key, hz2, eqD_00]
theorem same_refl : ∀ (n : Nat) (d : D), Alt n d → ∀ w, fSm n [d, d] w = some (.bool true, w)
  | 0, _, h, _ => by unfold Alt at h; exact h.elim
  | n + 1, .list xs, h, w => by unfold Alt at h; exact h.elim
  | n + 1, .tuple xs, h, w => by
    unfold Alt at h
    exact same_seq h.1 (fun x hx w => same_refl n x (h.2 x hx) w) w
  | n + 1, .dict _, h, _ => by unfold Alt at h; exact h.elim
  | n + 1, .none, _, w => by
    refine fn_eq rfl ?_
    unfold bSame
    simp -implicitDefEqProofs [s_sSeq, isaD_n, isTy]
  | n + 1, .int i, _, w => by
    refine fn_eq rfl ?_
    unfold bSame
    simp -implicitDefEqProofs [s_sSeq, isaD_i, isTy, eqD_b]
  | n + 1, .bool i, _, w => by
    refine fn_eq rfl ?_
    unfold bSame
    simp -implicitDefEqProofs [s_sSeq, isaD_b, isTy, eqD_b]
  | n + 1, .str i, _, w => by
    refine fn_eq rfl ?_
    unfold bSame
    simp -implicitDefEqProofs [s_sSeq, isaD_s, isTy, eqD_s]
theorem Alt.up : ∀ {n : Nat} {d : D}, Alt n d → Alt (n + 1) d
  | 0, d, h => by unfold Alt at h; exact h.elim
  | n + 1, .list xs, h => by unfold Alt at h; exact h.elim
  | n + 1, .tuple xs, h => by
    unfold Alt at h ⊢
    exact ⟨h.1, fun x hx => (h.2 x hx).up⟩
  | n + 1, .dict _, h => by unfold Alt at h; exact h.elim
  | n + 1, .none, h => Alt.n
  | n + 1, .int _, h => Alt.i
  | n + 1, .bool _, h => Alt.b
  | n + 1, .str _, h => Alt.s
theorem Alt.ge {m n : Nat} {d : D} (h : Alt m d) (k : m ≤ n) : Alt n d := by
  induction k with
  | refl => exact h
  | step _ ih => exact ih.up
end Q

set_option Elab.async false
set_option linter.all false
set_option autoImplicit false
set_option maxRecDepth 100000
/-! TYD: dicts, texts walked, range down, pops at Lean's own types; same. -/
namespace Q
open PySem PySem.W PyProof.Rows
/-! dicts -/
structure KeyE {κ : Type} (e : κ → D) : Prop where
  ex : ∃ f : κ → L2.Key, (∀ a, e a = keyOf (f a)) ∧ ∀ a b, f a = f b → a = b
theorem KeI : KeyE PyData.int := ⟨.inl, fun _ => rfl, fun a b h => by cases h; rfl⟩
theorem KeS : KeyE PyData.str := ⟨.inr, fun _ => rfl, fun a b h => by cases h; rfl⟩
abbrev eD {κ α : Type} (k : κ → D) (e : α → D) : List (κ × α) → D := fun l => .dict (l.map fun p => (k p.1, e p.2))
def lookT {κ α : Type} [DecidableEq κ] (l : List (κ × α)) (k : κ) : Option α := (l.find? fun p => decide (p.1 = k)).map (·.2)
def putT {κ α : Type} [DecidableEq κ] (l : List (κ × α)) (k : κ) (v : α) : List (κ × α) := if (lookT l k).isSome = true then l.map (fun p => if p.1 = k then (p.1, v) else p) else l ++ [(k, v)]
section
variable {κ α : Type} [DecidableEq κ] {ek : κ → D} {e : α → D}
theorem KeyE.keyN (h : KeyE ek) (a : κ) : ∃ k, Q.keyN (ek a) = some k ∧ ek a = keyOf k := by
  obtain ⟨f, h1, h2⟩ := h.ex
  refine ⟨f a, ?_, h1 a⟩
  rw [h1 a]
  cases f a <;> rfl
theorem KeyE.eqv (h : KeyE ek) (a b : κ) : PyData.eqv (ek a) (ek b) = decide (a = b) := by
  obtain ⟨f, h1, h2⟩ := h.ex
  rw [h1 a, h1 b, eqv_key]
  exact decide_eq_decide.mpr ⟨h2 a b, fun z => z ▸ rfl⟩
theorem KeyE.ntok (h : KeyE ek) (l : List (κ × α)) : isTok (eD ek e l) = false := by
  cases l with
  | nil => rfl
  | cons p l =>
    obtain ⟨k, h1, h2⟩ := h.keyN p.1
    show isTok (.dict ((ek p.1, e p.2) :: _)) = false
    rw [h2]
    cases k <;> rfl
theorem KeyE.ok (h : KeyE ek) (l : List (κ × α)) : keysOk (l.map fun p => (ek p.1, e p.2)) = true := by
  unfold keysOk
  rw [List.all_map, List.all_eq_true]
  intro p _
  obtain ⟨k, h1, h2⟩ := h.keyN p.1
  show (Q.keyN (ek p.1)).isSome = true
  rw [h1]; rfl
theorem KeyE.look (h : KeyE ek) (l : List (κ × α)) (k : κ) : lookD (l.map fun p => (ek p.1, e p.2)) (ek k) = (lookT l k).map e := by
  unfold lookD lookT
  induction l with
  | nil => rfl
  | cons p l ih =>
    rw [List.map_cons, List.find?_cons, List.find?_cons, h.eqv]
    cases decide (p.1 = k) with
    | true => rfl
    | false => exact ih
theorem ixAD_D (h : KeyE ek) [Inhabited α] {l : List (κ × α)} {k : κ} (hk : (lookT l k).isSome = true) : ixAD (eD ek e l) (ek k) = some (e ((lookT l k).getD default)) := by
  unfold ixAD
  show (if isTok (eD ek e l) = true then _ else _) = _
  rw [h.ntok, if_neg Bool.false_ne_true]
  obtain ⟨ky, h1, h2⟩ := h.keyN k
  rw [h1]
  show lookD _ (keyOf ky) = _
  rw [← h2, h.look]
  cases q : lookT l k with
  | none => rw [q] at hk; cases hk
  | some v => rfl
theorem inAD_D (h : KeyE ek) (k : κ) (l : List (κ × α)) : inAD (ek k) (eD ek e l) = some (lookT l k).isSome := by
  unfold inAD
  show (if (isTok (eD ek e l) || !keysOk _) = true then _ else _) = _
  rw [h.ntok, h.ok, if_neg (by simp)]
  obtain ⟨ky, h1, h2⟩ := h.keyN k
  rw [h1]
  show some (lookD _ (keyOf ky)).isSome = _
  rw [← h2, h.look, Option.isSome_map]
theorem notInAD_D (h : KeyE ek) (k : κ) (l : List (κ × α)) : notInAD (ek k) (eD ek e l) = some (!(lookT l k).isSome) := by
  unfold notInAD
  rw [inAD_D h]; rfl
theorem putKD_D (h : KeyE ek) (l : List (κ × α)) (k : κ) (v : α) (hl : l.length < sizeLine) : putKD (eD ek e l) (ek k) (e v) = some (eD ek e (putT l k v)) := by
  unfold putKD
  show (if (keysOk _ && (Q.keyN (ek k)).isSome && decide ((l.map _).length < sizeLine)) = true then _ else _) = _
  obtain ⟨ky, h1, h2⟩ := h.keyN k
  rw [h.ok, h1, if_pos (by simpa using hl)]
  congr 2
  unfold putD putT
  rw [h.look, Option.isSome_map]
  split
  · rw [List.map_map, List.map_map]
    refine List.map_congr_left fun p _ => ?_
    simp only [Function.comp, h.eqv]
    by_cases q : p.1 = k <;> simp [q]
  · rw [List.map_append]; rfl
end
section
variable {G G' : Env} {w w1 w2 w3 : Wd}
theorem XS.putK {κ α : Type} [DecidableEq κ] (i : Nat) {ek : κ → D} (e : α → D) (h : KeyE ek) {l : List (κ × α)} {v : α} {k : κ} {a b : E} (ha : X G a w (e v) w1) (hb : X G b w1 (ek k) w2) (hz : l.length < sizeLine) (hg : G[i]? = some (some (eD ek e l)) := by rfl) (hG : G.set i (some (eD ek e (putT l k v))) = G' := by rfl) : XS G (sPutK i b a) w (.nx G') w2 := ⟨fun g hl => by
  obtain ⟨h1, h2⟩ := XS.mut (w := w2) (f := (putKD · (ek k) (e v))) hg (putKD_D h l k v hz) g hl
  rw [hG] at h2
  refine ⟨_, ?_, h2⟩
  show bnd (a g w) _ = _
  rw [ha.run g hl, bnd_some, hb.run g hl, bnd_some]
  exact h1⟩
/-! xs.append((ys.pop(k), e)) -/
theorem erase_map {α β : Type} (f : α → β) : ∀ (xs : List α) (n : Nat), (xs.map f).eraseIdx n = (xs.eraseIdx n).map f
  | [], _ => rfl
  | x :: xs, 0 => rfl
  | x :: xs, n + 1 => by rw [List.map_cons, List.eraseIdx_cons_succ, List.eraseIdx_cons_succ, List.map_cons, erase_map f xs n]
theorem popD_L {α : Type} [Inhabited α] (e : α → D) {xs : List α} {n : Int} (h : InR xs n) (h2 : I62 n) : popD (.list (xs.map e)) (.int n) = some (e (idx xs n), .list ((xs.eraseIdx (ixN' xs.length n)).map e)) := by
  obtain ⟨h3, h4⟩ := ixN_some h
  show (if small62 n = true then _ else _) = _
  rw [if_pos (small62_I h2), List.length_map, h3, Option.bind_some, List.getElem?_map, List.getElem?_eq_getElem h4, Option.map_some, Option.map_some, erase_map]
  unfold idx
  rw [List.getD_eq_getElem?_getD, List.getElem?_eq_getElem h4]
  rfl
theorem XS.appPop {α β : Type} [Inhabited α] (i j : Nat) (ea : α → D) (eb : β → D) {xs : List α} {ys : List (α × β)} {n : Int} {v : β} {a b : E} (ha : X G a w (.int n) w1) (hb : X (G.set j (some (.list ((xs.eraseIdx (ixN' xs.length n)).map ea)))) b w1 (eb v) w2) (h1 : InR xs n) (h2 : I62 n) (hz : ys.length < sizeLine)
    (hij : i ≠ j := by decide) (hg : G[j]? = some (some (.list (xs.map ea))) := by rfl) (hg2 : G[i]? = some (some (.list (ys.map (eP2 ea eb)))) := by rfl)
    (hG : (G.set j (some (.list ((xs.eraseIdx (ixN' xs.length n)).map ea)))).set i (some (.list ((ys ++ [(idx xs n, v)]).map (eP2 ea eb)))) = G' := by rfl) : XS G (sAppPop i j a b) w (.nx G') w2 := ⟨fun g hl => by
  have hl2 := hl.set j (some (.list ((xs.eraseIdx (ixN' xs.length n)).map ea)))
  have hf : apD (.list (ys.map (eP2 ea eb))) (.tuple [ea (idx xs n), eb v]) = some (.list ((ys ++ [(idx xs n, v)]).map (eP2 ea eb))) := by
    rw [apD_l (by simpa using hz), List.map_append]; rfl
  have hgi : (G.set j (some (.list ((xs.eraseIdx (ixN' xs.length n)).map ea))))[i]? = some (some (.list (ys.map (eP2 ea eb)))) := by
    rw [List.getElem?_set_ne (Ne.symm hij)]; exact hg2
  obtain ⟨m1, m2⟩ := XS.mut (w := w2) (f := (apD · (.tuple [ea (idx xs n), eb v]))) hgi hf _ hl2
  rw [hG] at m2
  refine ⟨_, ?_, m2⟩
  show bnd (a g w) _ = _
  rw [ha.run g hl, bnd_some]
  simp only [hl.get hg, Option.join_some, popD_L ea h1 h2]
  rw [hb.run _ hl2, bnd_some]
  exact m1⟩
theorem revD_L {α : Type} (e : α → D) (xs : List α) : revD (.list (xs.map e)) = some (.list (xs.reverse.map e)) := by
  show some (PyData.list (xs.map e).reverse) = _
  rw [List.map_reverse]
/-! range down -/
def rangeDI (hi lo : Int) : List Int := (List.range (hi - lo).toNat).map fun i => hi - (i : Nat)
theorem rangeD_map (hi lo : Int) : rangeD hi (hi - lo).toNat = (rangeDI hi lo).map PyData.int := by
  unfold rangeD rangeDI
  rw [List.map_map]
  rfl
theorem XA.r3 {a b c : E} {m n : Int} (ha : X G a w (.int m) w1) (hb : X G b w1 (.int n) w2) (hc : X G c w2 (.int (-1)) w3) (hm : I62 m) (hn : I62 n) : XA G (itR3 a b c) w ((rangeDI m n).map PyData.int) w3 := ⟨fun g hg => by
  show bnd (a g w) _ = _
  rw [ha.run g hg, bnd_some, hb.run g hg, bnd_some, hc.run g hg, bnd_some]
  show lft (if (small62 m && small62 n && decide ((-1 : Int) = -1)) = true then _ else _) w3 = _
  rw [small62_I hm, small62_I hn, if_pos (by rfl), ← rangeD_map]; rfl⟩
theorem mem_rangeDI {lo hi x : Int} : x ∈ rangeDI hi lo ↔ lo < x ∧ x ≤ hi := by
  unfold rangeDI
  simp only [List.mem_map, List.mem_range]
  constructor
  · rintro ⟨i, hi, rfl⟩; omega
  · rintro ⟨h1, h2⟩; exact ⟨(hi - x).toNat, by omega, by omega⟩
theorem len_rangeDI (hi lo : Int) : (rangeDI hi lo).length = (hi - lo).toNat := by simp [rangeDI]
/-! a text walked -/
def chrs (z : Str) : List Str := z.cps.toList.map fun c => ⟨#[c]⟩
theorem XA.str {a : E} {z : Str} (ha : X G a w (.str z) w1) : XA G (itStr a) w ((chrs z).map PyData.str) w1 := ⟨fun g hg => by
  show bnd (a g w) _ = _
  rw [ha.run g hg, bnd_some]
  show lft (some (z.cps.toList.map fun c => PyData.str ⟨#[c]⟩)) w1 = _
  unfold chrs
  rw [List.map_map]
  rfl⟩
end
/-! same -/
structure AltE {α : Type} (e : α → D) (n : Nat) (ok : α → Prop) : Prop where
  alk : ∀ a, ok a → Alt n (e a)
theorem AltE.i {n : Nat} : AltE PyData.int (n + 1) (fun _ => True) := ⟨fun _ _ => Alt.i⟩
theorem AltE.b {n : Nat} : AltE PyData.bool (n + 1) (fun _ => True) := ⟨fun _ _ => Alt.b⟩
theorem AltE.s {n : Nat} : AltE PyData.str (n + 1) (fun _ => True) := ⟨fun _ _ => Alt.s⟩
theorem AltE.u {n : Nat} : AltE eU (n + 1) (fun _ => True) := ⟨fun _ _ => Alt.n⟩
theorem AltE.o {α : Type} {e : α → D} {n : Nat} {ok : α → Prop} (h : AltE e (n + 1) ok) : AltE (eO e) (n + 1) (fun a => ∀ v, a = some v → ok v) := ⟨fun a k => by
  cases a with
  | none => exact Alt.n
  | some a => exact h.alk a (k a rfl)⟩
theorem AltE.t {α : Type} {e : α → D} {n : Nat} {ok : α → Prop} (h : AltE e n ok) : AltE (eT e) (n + 1) (fun l => l.length ≤ 1000000 ∧ ∀ x ∈ l, ok x) := ⟨fun a k => Alt.t (by simpa using k.1) fun x hx => by
  obtain ⟨y, hy, rfl⟩ := List.mem_map.mp hx
  exact h.alk y (k.2 y hy)⟩
theorem AltE.p2 {α β : Type} {a : α → D} {b : β → D} {n : Nat} {p : α → Prop} {q : β → Prop} (h : AltE a n p) (k : AltE b n q) : AltE (eP2 a b) (n + 1) (fun x => p x.1 ∧ q x.2) := ⟨fun x o => Alt.t (by simp) fun y hy => by
  simp only [List.mem_cons, List.not_mem_nil, or_false] at hy
  rcases hy with rfl | rfl
  · exact h.alk _ o.1
  · exact k.alk _ o.2⟩
theorem AltE.p3 {α β γ : Type} {a : α → D} {b : β → D} {c : γ → D} {n : Nat} {p : α → Prop} {q : β → Prop} {r : γ → Prop} (h : AltE a n p) (k : AltE b n q) (m : AltE c n r) : AltE (eP3 a b c) (n + 1) (fun x => p x.1 ∧ q x.2.1 ∧ r x.2.2) := ⟨fun x o => Alt.t (by simp) fun y hy => by
  simp only [List.mem_cons, List.not_mem_nil, or_false] at hy
  rcases hy with rfl | rfl | rfl
  · exact h.alk _ o.1
  · exact k.alk _ o.2.1
  · exact m.alk _ o.2.2⟩
end Q
namespace Q
open PySem PySem.W PyProof.Rows
theorem ixAD_L {α : Type} [Inhabited α] (e : α → D) {xs : List α} {i : Int} (h : InR xs i) : ixAD (.list (xs.map e)) (.int i) = some (e (idx xs i)) := ixD_L e h
theorem ixAD_T {α : Type} [Inhabited α] (e : α → D) {xs : List α} {i : Int} (h : InR xs i) : ixAD (.tuple (xs.map e)) (.int i) = some (e (idx xs i)) := ixD_T e h
theorem ixAD_P {xs : List D} {i : Int} {d : D} (h : L2.atI xs i = some d := by rfl) : ixAD (.tuple xs) (.int i) = some d := ixD_P h
section
variable {α : Type} [DecidableEq α] {e : α → D} {n : Nat}
theorem inAL (h : EqE e n) (hn : n + 1 ≤ 60) (a : α) (xs : List α) [i : Decidable (a ∈ xs)] : inAD (e a) (.list (xs.map e)) = some (decide (a ∈ xs)) := by
  have := inL h hn a xs
  rw [show i = List.instDecidableMemOfLawfulBEq a xs from Subsingleton.elim _ _]
  exact this
theorem inAT (h : EqE e n) (hn : n + 1 ≤ 60) (a : α) (xs : List α) [i : Decidable (a ∈ xs)] : inAD (e a) (.tuple (xs.map e)) = some (decide (a ∈ xs)) := by
  have := inT h hn a xs
  rw [show i = List.instDecidableMemOfLawfulBEq a xs from Subsingleton.elim _ _]
  exact this
theorem notInAL (h : EqE e n) (hn : n + 1 ≤ 60) (a : α) (xs : List α) [i : Decidable (a ∈ xs)] : notInAD (e a) (.list (xs.map e)) = some (!decide (a ∈ xs)) := by
  unfold notInAD
  rw [inAL h hn]; rfl
theorem notInAT (h : EqE e n) (hn : n + 1 ≤ 60) (a : α) (xs : List α) [i : Decidable (a ∈ xs)] : notInAD (e a) (.tuple (xs.map e)) = some (!decide (a ∈ xs)) := by
  unfold notInAD
  rw [inAT h hn]; rfl
end
end Q
namespace Q
open PySem PySem.W PyProof.Rows
theorem revD_LO {α : Type} (e : α → D) (xs : List α) : revD (.list (xs.map e)) = some (.list ((xs.reverse.map some).map (eO e))) := by
  rw [revD_L, List.map_map]
  rfl
end Q
namespace Q
open PySem PySem.W PyProof.Rows
theorem XL.seqv1 {α : Type} {G : Env} {a b : S} {l : St} {o : Out} (v : α) (Gv : α → Env) (Lv : α → St) (ha : XS G a (some l) (.nx (Gv v)) (some (Lv v))) (hb : ∀ x, x = v → XL (Gv x) b (Lv x) o) : XL G (sSeq a b) l o := XL.seqd ha (hb v rfl)
end Q
namespace Q
open PySem PySem.W PyProof.Rows
theorem XL.forU2 {G : Env} {α : Type} {it : Es} {t : Q.G} {b : S} {vs : List Nat} {l l1 : St} (ex : α → D) {xs : List α} (Gs : Env) (Gb : α → Env) (hi : XA G it (some l) (xs.map ex) (some l1)) (h0 : LE Gs G) (ht : ∀ x, TG Gs t (ex x) (Gb x)) (hb : ∀ x, x ∈ xs → ∀ l, XL (Gb x) b l (.nx Gs)) (hw : wipeE Gs vs = Gs := by simp only [wipeE, List.set_cons_succ, List.set_cons_zero]) : XL G (sFor it t b vs) l (.nx Gs) := XL.forU ex Gs Gb hi h0 ht hb hw
end Q

set_option Elab.async false
set_option linter.all false
set_option autoImplicit false
set_option maxRecDepth 100000
/-! QL: plain mathematics for the laws. -/
namespace Q
open PySem PySem.W PyProof.Rows
theorem le_sz {n : Nat} (h : n ≤ 16000000) : n ≤ sizeLine := by rw [size_eq]; omega
theorem lt_sz {n : Nat} (h : n ≤ 16000000) : n < sizeLine := by rw [size_eq]; omega
theorem I62_of {n : Int} (h : -1000000000000 ≤ n) (k : n ≤ 1000000000000) : I62 n := ⟨by omega, by omega⟩
theorem I62_nat {n : Nat} (h : n ≤ 1000000000000) : I62 (n : Int) := ⟨by omega, by omega⟩
theorem M64_l {i j : Int} (h : -1000000000000 ≤ i) (k : i ≤ 1000000000000) : M64 i j := .inl ⟨by omega, by omega⟩
theorem M64_r {i j : Int} (h : -1000000000000 ≤ j) (k : j ≤ 1000000000000) : M64 i j := .inr ⟨by omega, by omega⟩
/-! min and max -/
section
variable {α : Type} {lt : α → α → Bool}
theorem minF_spec (L : Lin lt) : ∀ (xs : List α) (x : α), (minF lt x xs = x ∨ minF lt x xs ∈ xs) ∧ lt x (minF lt x xs) = false ∧ ∀ y ∈ xs, lt y (minF lt x xs) = false
  | [], x => ⟨.inl rfl, L.irr x, fun y hy => by simp at hy⟩
  | y :: xs, x => by
    have e : minF lt x (y :: xs) = minF lt (if lt y x = true then y else x) xs := rfl
    rw [e]
    by_cases h : lt y x = true
    · rw [if_pos h]
      obtain ⟨h1, h2, h3⟩ := minF_spec L xs y
      refine ⟨.inr ?_, ?_, fun z hz => ?_⟩
      · rcases h1 with h1 | h1
        · rw [h1]; exact List.mem_cons_self
        · exact List.mem_cons_of_mem _ h1
      · cases hx : lt x (minF lt y xs) with
        | false => rfl
        | true => rw [L.tr _ _ _ h hx] at h2; cases h2
      · rcases List.mem_cons.mp hz with rfl | hz
        · exact h2
        · exact h3 z hz
    · rw [if_neg h]
      obtain ⟨h1, h2, h3⟩ := minF_spec L xs x
      refine ⟨?_, h2, fun z hz => ?_⟩
      · rcases h1 with h1 | h1
        · exact .inl h1
        · exact .inr (List.mem_cons_of_mem _ h1)
      · rcases List.mem_cons.mp hz with rfl | hz
        · cases hx : lt z (minF lt x xs) with
          | false => rfl
          | true =>
            rcases h1 with h1 | h1
            · rw [h1] at hx; exact absurd hx h
            · have hzx : lt z x = false := by simpa using h
              cases hxz : lt x z with
              | true => rw [L.tr _ _ _ hxz hx] at h2; cases h2
              | false =>
                have := L.tot _ _ hzx hxz
                subst this
                rw [hx] at h2; cases h2
        · exact h3 z hz
variable [Inhabited α]
theorem minT_mem (L : Lin lt) {xs : List α} (h : xs ≠ []) : minT lt xs ∈ xs := by
  cases xs with
  | nil => exact absurd rfl h
  | cons x xs =>
    rcases (minF_spec L xs x).1 with q | q
    · exact List.mem_cons.mpr (.inl q)
    · exact List.mem_cons_of_mem _ q
theorem minT_le (L : Lin lt) {xs : List α} {y : α} (h : y ∈ xs) : lt y (minT lt xs) = false := by
  cases xs with
  | nil => simp at h
  | cons x xs =>
    rcases List.mem_cons.mp h with rfl | h
    · exact (minF_spec L xs y).2.1
    · exact (minF_spec L xs x).2.2 y h
theorem minT_eq (L : Lin lt) {xs : List α} {m : α} (h : m ∈ xs) (k : ∀ y ∈ xs, lt y m = false) : minT lt xs = m :=
  L.tot _ _ (k _ (minT_mem L (fun z => by rw [z] at h; simp at h))) (minT_le L h)
/-- the same least, where each is matched by a less or equal one of the other -/
theorem minT_dom (L : Lin lt) {xs ys : List α} (hx : xs ≠ []) (h : ∀ x ∈ xs, ∃ y ∈ ys, lt x y = false) (k : ∀ y ∈ ys, ∃ x ∈ xs, lt y x = false) : minT lt xs = minT lt ys := by
  have hy : ys ≠ [] := fun z => by
    obtain ⟨y, hy, _⟩ := h _ (minT_mem L hx)
    rw [z] at hy; simp at hy
  have key : ∀ {a b : List α}, a ≠ [] → (∀ x ∈ a, ∃ y ∈ b, lt x y = false) → lt (minT lt a) (minT lt b) = false := fun {a b} ha hab => by
    obtain ⟨y, hy, hl⟩ := hab _ (minT_mem L ha)
    have := minT_le L hy
    cases q : lt (minT lt a) (minT lt b) with
    | false => rfl
    | true =>
      cases q2 : lt y (minT lt a) with
      | true => rw [L.tr _ _ _ q2 q] at this; cases this
      | false =>
        have e := L.tot _ _ hl q2
        rw [← e, q] at this; cases this
  exact L.tot _ _ (key hx h) (key hy k)
theorem minT_same (L : Lin lt) {xs ys : List α} (hx : xs ≠ []) (h : ∀ x, x ∈ xs ↔ x ∈ ys) : minT lt xs = minT lt ys :=
  minT_dom L hx (fun x hx => ⟨x, (h x).mp hx, L.irr x⟩) fun y hy => ⟨y, (h y).mpr hy, L.irr y⟩
end
theorem max_min {α : Type} [Inhabited α] (lt : α → α → Bool) (xs : List α) : maxT lt xs = minT (fun a b => lt b a) xs := by
  cases xs <;> rfl
theorem Lin.flip {α : Type} {lt : α → α → Bool} (L : Lin lt) : Lin fun a b => lt b a := ⟨L.irr, fun a b c h k => L.tr c b a k h, fun a b h k => L.tot a b k h⟩
section
variable {α : Type} {lt : α → α → Bool} [Inhabited α]
theorem maxT_mem (L : Lin lt) {xs : List α} (h : xs ≠ []) : maxT lt xs ∈ xs := by rw [max_min]; exact minT_mem L.flip h
theorem maxT_ge (L : Lin lt) {xs : List α} {y : α} (h : y ∈ xs) : lt (maxT lt xs) y = false := by
  rw [max_min]
  exact minT_le (lt := fun a b => lt b a) L.flip h
theorem maxT_eq (L : Lin lt) {xs : List α} {m : α} (h : m ∈ xs) (k : ∀ y ∈ xs, lt m y = false) : maxT lt xs = m := by
  rw [max_min]
  exact minT_eq (lt := fun a b => lt b a) L.flip h k
end
theorem ltI_false {a b : Int} : ltI a b = false ↔ b ≤ a := by simp [ltI]
theorem ltI_true {a b : Int} : ltI a b = true ↔ a < b := by simp [ltI]
theorem Lin.ii : Lin (lt2 ltI ltI) := Lin.e (OrR.tup (OrR.cons OrI (OrR.one OrI)))
theorem lt_ii {a b c d : Int} : lt2 ltI ltI (a, b) (c, d) = false ↔ c < a ∨ (c = a ∧ d ≤ b) := by
  unfold lt2 ltI
  simp only
  by_cases h : a = c
  · rw [if_pos h]; simp; omega
  · rw [if_neg h]; simp; omega
/-! sums -/
theorem foldl_sum {α : Type} (f : α → Int) : ∀ (xs : List α) (a : Int), xs.foldl (fun s x => s + f x) a = a + (xs.map f).sum
  | [], a => by simp
  | x :: xs, a => by rw [List.foldl_cons, foldl_sum f xs]; simp; omega
theorem sumFilter {α : Type} (p : α → Bool) (f : α → Int) : ∀ (xs : List α), ((xs.filter p).map f).sum = (xs.map fun x => if p x = true then f x else 0).sum
  | [] => rfl
  | x :: xs => by
    rw [List.filter_cons, List.map_cons, List.sum_cons, ← sumFilter p f xs]
    split
    · simp
    · simp
theorem sum_le_map {α : Type} {f g : α → Int} : ∀ {xs : List α}, (∀ x ∈ xs, f x ≤ g x) → (xs.map f).sum ≤ (xs.map g).sum
  | [], _ => by simp
  | x :: xs, h => by
    have h1 := h x List.mem_cons_self
    have h2 := sum_le_map (f := f) (g := g) (xs := xs) fun y hy => h y (List.mem_cons_of_mem _ hy)
    simp only [List.map_cons, List.sum_cons]
    omega
theorem sum_abs {xs : List Int} {B : Int} (h : ∀ x ∈ xs, -B ≤ x ∧ x ≤ B) : -(B * xs.length) ≤ xs.sum ∧ xs.sum ≤ B * xs.length := by
  induction xs with
  | nil => simp
  | cons x xs ih =>
    have h1 := h x List.mem_cons_self
    have h2 := ih fun y hy => h y (List.mem_cons_of_mem _ hy)
    simp only [List.sum_cons, List.length_cons]
    have e : B * ((xs.length + 1 : Nat) : Int) = B * xs.length + B := by
      rw [Int.natCast_add, Int.mul_add]; simp
    rw [e]
    omega
/-- a list by its places -/
theorem map_range {α β : Type} [Inhabited α] (xs : List α) (f : α → β) : (rangeI 0 (xs.length : Int)).map (fun k => f (idx xs k)) = xs.map f := by
  unfold rangeI
  rw [List.map_map]
  refine List.ext_getElem (by simp) fun i h1 h2 => ?_
  simp at h1 h2
  simp only [List.getElem_map, List.getElem_range, Function.comp, Int.zero_add]
  rw [idx_lt xs h2]
theorem mem_idx {α : Type} [Inhabited α] {xs : List α} {x : α} (h : x ∈ xs) : ∃ i : Int, 0 ≤ i ∧ i < xs.length ∧ idx xs i = x := by
  obtain ⟨i, hi, e⟩ := List.mem_iff_getElem.mp h
  exact ⟨i, by omega, by omega, by rw [idx_lt xs hi, e]⟩
theorem mul_bnd {a b A B : Int} (h0 : 0 ≤ a) (h1 : a ≤ A) (h2 : 0 ≤ b) (h3 : b ≤ B) : 0 ≤ a * b ∧ a * b ≤ A * B := ⟨Int.mul_nonneg h0 h2, Int.mul_le_mul h1 h3 h2 (by omega)⟩
/-- of a draw -/
theorem nx (l : St) (m : Int) (h : 0 < m) : ∃ v k, nextT l m = (v, k) ∧ 0 ≤ v ∧ v < m := ⟨_, _, rfl, nextT_bnd l h⟩
end Q

set_option Elab.async false
set_option linter.all false
set_option autoImplicit false
set_option maxRecDepth 100000
namespace W
open PySem PySem.Spec PyProof.Rows L2 Q
def topS (i : Nat) : Stmt := PySem.Challenge.pw_nightbus_k42_turned_on_the_way.main.body.getD i (.Pass ⟨0, 0, 0, 0⟩)
/-- the built-in names that the text uses and does not bind -/
structure Bi (mg : Str → Option Value) : Prop where
  b_abs : mg "abs" = none
  b_bool : mg "bool" = none
  b_int : mg "int" = none
  b_isinstance : mg "isinstance" = none
  len : mg "len" = none
  b_max : mg "max" = none
  b_min : mg "min" = none
  b_range : mg "range" = none
  b_str : mg "str" = none
  b_sum : mg "sum" = none
  b_tuple : mg "tuple" = none
section
variable {P : Program} {w : World} {K : PySem.W.Frag} {mg : Str → Option Value} {base : Heap}
/-! _law_draws -/
abbrev st__law_draws : Stmt := topS 22
abbrev N__law_draws : List Str := ["script", "many", "draws", "mixed", "k", "cell", "rest", "turn"]
theorem sc__law_draws : FnScope N__law_draws ["script", "many"] (defScope st__law_draws) := ⟨rfl, rfl, rfl, by decide +kernel, rfl, by decide +kernel, by decide +kernel⟩
def b_law_draws_0 : S :=
    sIf (tCmp gtD (cVar 6) (cK (.int 0))) (sSeq (sApp 2 (cOp2 modD (cOp1 intD (cVar 6)) (cK (.int 997))))
    (sSet (gName 6) (cOp2 divD (cVar 6) (cK (.int 997))))) (sPass)
def b_law_draws_1 : S :=
    sSeq (sSet (gName 5) (cOp1 absD (cOp1 intD (cOp2 ixD (cVar 0) (cVar 4)))))
    (sSeq (sSet (gName 3) (cOp2 modD (cOp1 intD (cOp2 addD (cOp2 addD (cOp2 mulI (cVar 3) (cK (.int 48271))) (cOp2 modD (cVar 5) (cK (.int 1000003)))) (cVar 4))) (cK (.int 65537))))
    (sSeq (sSet (gName 6) (cK (.int 0)))
    (sSeq (sIf (tCmp geD (cVar 5) (cOp2 powD (cK (.int 10)) (cK (.int 18)))) (sSet (gName 6) (cVar 5)) (sSeq (sApp 2 (cOp2 modD (cOp1 intD (cVar 5)) (cK (.int 997))))
    (sApp 2 (cOp2 modD (cOp2 modD (cOp1 intD (cOp2 addD (cOp2 mulI (cVar 3) (cK (.int 69621))) (cK (.int 5)))) (cK (.int 65521))) (cK (.int 997))))))
    (sFor (itR1 (cK (.int 60))) (gName 7) (b_law_draws_0) [7]))))
def b_law_draws_2 : S :=
    sSeq (sSet (gName 3) (cOp2 modD (cOp1 intD (cOp2 addD (cOp2 addD (cOp2 mulI (cVar 3) (cK (.int 16807))) (cVar 4)) (cK (.int 1)))) (cK (.int 65537))))
    (sApp 2 (cOp2 modD (cOp1 intD (cVar 3)) (cK (.int 997))))
def b_law_draws : S :=
    sSeq (sSet (gName 2) (cLst []))
    (sSeq (sSet (gName 3) (cK (.int 7)))
    (sSeq (sFor (itR1 (cOp1 lenD (cVar 0))) (gName 4) (b_law_draws_1) [4, 5, 6, 7])
    (sSeq (sFor (itR1 (cVar 1)) (gName 4) (b_law_draws_2) [4])
    (sRet (cCut (cVar 2) none (some (cVar 1)))))))
def f_law_draws : Fn := bodyFn 2 6 b_law_draws
theorem d__law_draws (B : Bi mg) (Dd : Df K mg "_law_draws" st__law_draws ["script", "many"])  : Ok K mg true P w base 1 "_law_draws" ["script", "many"] 2 f_law_draws :=
  ok_of (O' := []) Dd sc__law_draws fun f cdv A outer s H E hr => ESs.cons (O1 := [2]) (ES.setO 2 sc__law_draws.nd (EO.lst (EA.nil)))
    (ESs.cons (O1 := [2]) (ES.set (EV.int) (GG.name 3 sc__law_draws.nd))
    (ESs.cons (O1 := [2]) (ES.for (Oh := [2]) (Ob := [2]) (O' := [2]) [4, 5, 6, 7] PassesOwn.never rfl (EI.r1 B.b_range (EV.b (EV.len B.len (EB.var 0)))) (GG.name 4 sc__law_draws.nd) (ESs.cons (O1 := [2]) (ES.set (EV.abs B.b_abs (EV.b (EV.int1 B.b_int (EV.b (EV.ix (EB.var 0) (EB.var 4)))))) (GG.name 5 sc__law_draws.nd))
    (ESs.cons (O1 := [2]) (ES.set (EV.mod (EV.b (EV.int1 B.b_int (EV.b (EV.add (EV.b (EV.add (EV.b (EV.mul (EB.var 3) (EV.b (EV.int)))) (EV.b (EV.mod (EB.var 5) (EV.b (EV.int)))))) (EB.var 4))))) (EV.b (EV.int))) (GG.name 3 sc__law_draws.nd))
    (ESs.cons (O1 := [2]) (ES.set (EV.int) (GG.name 6 sc__law_draws.nd))
    (ESs.cons (O1 := [2]) (ES.if (ET.cmp (ok_ge hr) (EB.var 5) (EV.b (EV.pow (EV.b (EV.int)) (EV.b (EV.int))))) (ESs.one (ES.set (EV.var 5) (GG.name 6 sc__law_draws.nd))) (ESs.cons (O1 := [2]) (ES.app 2 (EV.mod (EV.b (EV.int1 B.b_int (EB.var 5))) (EV.b (EV.int))))
    (ESs.one (ES.app 2 (EV.mod (EV.b (EV.mod (EV.b (EV.int1 B.b_int (EV.b (EV.add (EV.b (EV.mul (EB.var 3) (EV.b (EV.int)))) (EV.b (EV.int)))))) (EV.b (EV.int)))) (EV.b (EV.int)))))))
    (ESs.one (ES.for (Oh := [2]) (Ob := [2]) (O' := [2]) [7] PassesOwn.never rfl (EI.r1 B.b_range (EV.b (EV.int))) (GG.name 7 sc__law_draws.nd) (ESs.one (ES.if (ET.cmp (ok_gt hr) (EB.var 6) (EV.b (EV.int))) (ESs.cons (O1 := [2]) (ES.app 2 (EV.mod (EV.b (EV.int1 B.b_int (EB.var 6))) (EV.b (EV.int))))
    (ESs.one (ES.set (EV.div (EB.var 6) (EV.b (EV.int))) (GG.name 6 sc__law_draws.nd)))) (ESs.nil))))))))))
    (ESs.cons (O1 := [2]) (ES.for (Oh := [2]) (Ob := [2]) (O' := [2]) [4] PassesOwn.never rfl (EI.r1 B.b_range (EB.var 1)) (GG.name 4 sc__law_draws.nd) (ESs.cons (O1 := [2]) (ES.set (EV.mod (EV.b (EV.int1 B.b_int (EV.b (EV.add (EV.b (EV.add (EV.b (EV.mul (EB.var 3) (EV.b (EV.int)))) (EB.var 4))) (EV.b (EV.int)))))) (EV.b (EV.int))) (GG.name 3 sc__law_draws.nd))
    (ESs.one (ES.app 2 (EV.mod (EV.b (EV.int1 B.b_int (EB.var 3))) (EV.b (EV.int)))))))
    (ESs.one (ES.ret (EV.cut (EB.var 2) EP.none (EP.some (EB.var 1))))))))
/-! _law_next -/
abbrev st__law_next : Stmt := topS 23
abbrev N__law_next : List Str := ["w", "many"]
theorem sc__law_next : FnScope N__law_next ["w", "many"] (defScope st__law_next) := ⟨rfl, rfl, rfl, by decide +kernel, rfl, by decide +kernel, by decide +kernel⟩
theorem d__law_next (B : Bi mg) (Dd : Df K mg "_law_next" st__law_next ["w", "many"]) : Ok K mg true P w base 1 "_law_next" ["w", "many"] 2 fnNext := next_ok2' Dd sc__law_next B.b_int B.len rfl rfl rfl rfl rfl
/-! _law_lines -/
abbrev st__law_lines : Stmt := topS 27
abbrev N__law_lines : List Str := ["w", "most", "found", "name", "left", "line", "k"]
theorem sc__law_lines : FnScope N__law_lines ["w", "most"] (defScope st__law_lines) := ⟨rfl, rfl, rfl, by decide +kernel, rfl, by decide +kernel, by decide +kernel⟩
def b_law_lines_0 : S :=
    sAppPop 5 4 (cCall fnNext [cVar 0, cOp1 lenD (cVar 4)]) (cIf (tCmp eqD (cVar 6) (cK (.int 0))) (cK (.int 0)) (cOp2 addD (cK (.int 1)) (cCall fnNext [cVar 0, cK (.int 9)])))
def b_law_lines_1 : S :=
    sSeq (sPar [gName 4, gName 5] [cLst [cK (.str "a"), cK (.str "b"), cK (.str "c"), cK (.str "d"), cK (.str "e"), cK (.str "f")], cLst []])
    (sSeq (sFor (itR1 (cOp2 addD (cK (.int 2)) (cCall fnNext [cVar 0, cK (.int 4)]))) (gName 6) (b_law_lines_0) [6])
    (sPutK 2 (cVar 3) (cOp1 tupD (cVar 5))))
def b_law_lines : S :=
    sSeq (sSet (gName 2) (cK (.dict [])))
    (sSeq (sFor (itSeq (cCut (cLst [cK (.str "moon"), cK (.str "owl"), cK (.str "bat"), cK (.str "star")]) none (some (cCall fnNext [cVar 0, cOp2 addD (cVar 1) (cK (.int 1))])))) (gName 3) (b_law_lines_1) [3, 4, 5, 6])
    (sRet (cVar 2)))
def f_law_lines : Fn := bodyFn 2 5 b_law_lines
theorem d__law_lines (B : Bi mg) (Dd : Df K mg "_law_lines" st__law_lines ["w", "most"]) (o__law_next : Ok K mg true P w base 1 "_law_next" ["w", "many"] 2 fnNext) : Ok K mg true P w base 2 "_law_lines" ["w", "most"] 2 f_law_lines :=
  ok_of (O' := []) Dd sc__law_lines fun f cdv A outer s H E hr => ESs.cons (O1 := [2]) (ES.setO 2 sc__law_lines.nd (EO.dict0))
    (ESs.cons (O1 := [2]) (ES.for (Oh := [2]) (Ob := [2, 4, 5]) (O' := [2]) [3, 4, 5, 6] PassesOwn.never rfl (EI.seq (EV.cut (EO.b (EO.lst (EA.cons (EV.str) (EA.cons (EV.str) (EA.cons (EV.str) (EA.cons (EV.str) (EA.nil))))))) EP.none (EP.some (EV.b (EV.callO o__law_next (hr.mono (by decide)) (EA.cons (EV.var 0) (EA.cons (EV.add (EB.var 1) (EV.b (EV.int))) (EA.nil)))))))) (GG.name 3 sc__law_lines.nd) (ESs.cons (O1 := [2, 4, 5]) (ES.par2 (ks := [true, true]) 4 5 rfl sc__law_lines.nd (EM.consO (EO.lst (EA.cons (EV.str) (EA.cons (EV.str) (EA.cons (EV.str) (EA.cons (EV.str) (EA.cons (EV.str) (EA.cons (EV.str) (EA.nil)))))))) (EM.consO (EO.lst (EA.nil)) (EM.nil))))
    (ESs.cons (O1 := [2, 4, 5]) (ES.for (Oh := [2, 4, 5]) (Ob := [2, 4, 5]) (O' := [2, 4, 5]) [6] PassesOwn.never rfl (EI.r1 B.b_range (EV.b (EV.add (EV.b (EV.int)) (EV.b (EV.callO o__law_next (hr.mono (by decide)) (EA.cons (EV.var 0) (EA.cons (EV.int) (EA.nil)))))))) (GG.name 6 sc__law_lines.nd) (ESs.one (ES.appPop 5 4 (EV.b (EV.callO o__law_next (hr.mono (by decide)) (EA.cons (EV.var 0) (EA.cons (EV.len B.len (EB.var 4)) (EA.nil))))) (EV.if (ET.cmp (ok_eq hr) (EB.var 6) (EV.b (EV.int))) (EV.int) (EV.add (EV.b (EV.int)) (EV.b (EV.callO o__law_next (hr.mono (by decide)) (EA.cons (EV.var 0) (EA.cons (EV.int) (EA.nil))))))))))
    (ESs.one (ES.putKd 2 hr (EV.tuple B.b_tuple (EB.var 5)) (EB.var 3))))))
    (ESs.one (ES.frz (O1 := []) [2] (ES.ret (EV.var 2)))))
/-! _law_stops -/
abbrev st__law_stops : Stmt := topS 28
abbrev N__law_stops : List Str := ["line", "stop", "minutes"]
theorem sc__law_stops : FnScope N__law_stops ["line"] (defScope st__law_stops) := ⟨rfl, rfl, rfl, by decide +kernel, rfl, by decide +kernel, by decide +kernel⟩
def b_law_stops : S :=
    sRet (cLc (itSeq (cVar 0)) (gTup [gName 1, gName 2]) (tYes) (cVar 1) [1, 2])
def f_law_stops : Fn := bodyFn 1 2 b_law_stops
theorem d__law_stops (B : Bi mg) (Dd : Df K mg "_law_stops" st__law_stops ["line"])  : Ok K mg true P w base 1 "_law_stops" ["line"] 1 f_law_stops :=
  ok_of (O' := []) Dd sc__law_stops fun f cdv A outer s H E hr => ESs.one (ES.ret (EO.v (EO.lc (own := [("stop", 1), ("minutes", 2)]) rfl sc__law_stops.nd (EI.seq (EV.var 0)) (blkOk_by (N := N__law_stops) (sc := defScope st__law_stops) (own := [("stop", 1), ("minutes", 2)]) (by decide +kernel)) (fun _ _ _ _ _ => GG.tup rfl (GG.cons (GG.name 1 sc__law_stops.nd) (GG.cons (GG.name 2 sc__law_stops.nd) (GG.nil)))) (fun _ _ _ _ _ => tests0) (fun _ _ _ _ _ => EV.var 1))))
/-! _law_same -/
abbrev st__law_same : Stmt := topS 25
abbrev N__law_same : List Str := ["seen", "due", "k"]
theorem sc__law_same : FnScope N__law_same ["seen", "due"] (defScope st__law_same) := ⟨rfl, rfl, rfl, by decide +kernel, rfl, by decide +kernel, by decide +kernel⟩
def b_law_same (self : Fn) : S :=
    sSeq (sIf (tVal (cOp1 (isaD .tuple) (cVar 1))) (sSeq (sIf (tOr (tNot (tVal (cOp1 (isaD .tuple) (cVar 0)))) (tCmp neD (cOp1 lenD (cVar 0)) (cOp1 lenD (cVar 1)))) (sRet (cK (.bool false))) (sPass))
    (sRet (cT (tCmp eqD (cLc (itR1 (cOp1 lenD (cVar 1))) (gName 2) (tNot (tVal (cCall self [cOp2 ixD (cVar 0) (cVar 2), cOp2 ixD (cVar 1) (cVar 2)]))) (cVar 2) [2]) (cLst []))))) (sPass))
    (sSeq (sIf (tCmp isND (cVar 1) (cK .none)) (sRet (cT (tCmp isND (cVar 0) (cK .none)))) (sPass))
    (sSeq (sIf (tVal (cOp1 (isaD .str) (cVar 1))) (sRet (cAnd (cOp1 (isaD .str) (cVar 0)) (cT (tCmp eqD (cVar 0) (cVar 1))))) (sPass))
    (sRet (cAnd (cOp1 (isaD .int) (cVar 0)) (cAnd (cT (tCmp eqD (cOp1 (isaD .bool) (cVar 0)) (cOp1 (isaD .bool) (cVar 1)))) (cT (tCmp eqD (cVar 0) (cVar 1))))))))
def f_law_same : Nat → Fn
  | 0 => bodyFn 2 1 sDead
  | n + 1 => bodyFn 2 1 (b_law_same (f_law_same n))
theorem d__law_same (B : Bi mg) (Dd : Df K mg "_law_same" st__law_same ["seen", "due"])  : ∀ n : Nat, Ok K mg true P w base (0 + n + 1) "_law_same" ["seen", "due"] 2 (f_law_same n)
  | 0 => ok_of (O' := []) Dd sc__law_same fun f cdv A outer s H E hr => ESs.dead
  | n + 1 => have ih := d__law_same B Dd  n
    ok_of (O' := []) Dd sc__law_same fun f cdv A outer s H E hr => ESs.cons (O1 := []) (ES.if (ET.val (EV.b (EV.isa .tuple B.b_isinstance B.b_tuple (by decide +kernel) (EB.var 1)))) (ESs.cons (O1 := []) (ES.if ((orW (ET.not (ET.val (EV.b (EV.isa .tuple B.b_isinstance B.b_tuple (by decide +kernel) (EB.var 0))))) (ET.or1 (ET.cmp (ok_ne hr) (EV.b (EV.len B.len (EB.var 0))) (EV.b (EV.len B.len (EB.var 1)))))).pt) (ESs.one (ES.ret (EV.bl))) (ESs.nil))
    (ESs.one (ES.ret (EV.cmp (ok_eq hr) (EO.b (EO.lc (own := [("k", 2)]) rfl sc__law_same.nd (EI.r1 B.b_range (EV.b (EV.len B.len (EB.var 1)))) (blkOk_by (N := N__law_same) (sc := defScope st__law_same) (own := [("k", 2)]) (by decide +kernel)) (fun _ _ _ _ _ => GG.name 2 sc__law_same.nd) (fun _ _ _ _ _ => tests1 (ET.not (ET.val (EV.b (EV.callO ih (hr.mono (by omega)) (EA.cons (EV.ix (EB.var 0) (EB.var 2)) (EA.cons (EV.ix (EB.var 1) (EB.var 2)) (EA.nil)))))))) (fun _ _ _ _ _ => EV.var 2))) (EO.b (EO.lst (EA.nil))))))) (ESs.nil))
    (ESs.cons (O1 := []) (ES.if (ET.cmp ok_is (EB.var 1) (EV.b (EV.non))) (ESs.one (ES.ret (EV.cmp ok_is (EB.var 0) (EV.b (EV.non))))) (ESs.nil))
    (ESs.cons (O1 := []) (ES.if (ET.val (EV.b (EV.isa .str B.b_isinstance B.b_str (by decide +kernel) (EB.var 1)))) (ESs.one (ES.ret (EV.and (EV.b (EV.isa .str B.b_isinstance B.b_str (by decide +kernel) (EB.var 0))) (EV.one (EV.cmp (ok_eq hr) (EB.var 0) (EB.var 1)))))) (ESs.nil))
    (ESs.one (ES.ret (EV.and (EV.b (EV.isa .int B.b_isinstance B.b_int (by decide +kernel) (EB.var 0))) (EV.and (EV.b (EV.cmp (ok_eq hr) (EV.b (EV.isa .bool B.b_isinstance B.b_bool (by decide +kernel) (EB.var 0))) (EV.b (EV.isa .bool B.b_isinstance B.b_bool (by decide +kernel) (EB.var 1))))) (EV.one (EV.cmp (ok_eq hr) (EB.var 0) (EB.var 1)))))))))
/-! _law_cost -/
abbrev st__law_cost : Stmt := topS 29
abbrev N__law_cost : List Str := ["line", "riders", "back", "late", "stand", "later", "stop", "stops", "whole", "at", "rest", "left", "behind", "gone", "own", "minutes", "one", "other", "people"]
theorem sc__law_cost : FnScope N__law_cost ["line", "riders", "back", "late", "stand", "later", "stop"] (defScope st__law_cost) := ⟨rfl, rfl, rfl, by decide +kernel, rfl, by decide +kernel, by decide +kernel⟩
def b_law_cost : S :=
    sSeq (sPar [gName 7, gName 8] [cCall f_law_stops [cVar 0], cOp1 sumD (cLc (itSeq (cVar 2)) (gTup [gName 16, gName 17, gName 18]) (tYes) (cVar 18) [16, 17, 18])])
    (sSeq (sIf (tCmp isND (cVar 6) (cK .none)) (sRet (cOp2 mulI (cVar 8) (cIf (tCmp gtD (cVar 3) (cVar 4)) (cOp2 subD (cVar 3) (cVar 4)) (cK (.int 0))))) (sPass))
    (sSeq (sSet (gName 9) (cOp2 indexD (cVar 7) (cVar 6)))
    (sSeq (sSet (gName 10) (cOp1 sumD (cLc (itSeq (cCut (cVar 0) (some (cOp2 addD (cVar 9) (cK (.int 1)))) none)) (gTup [gName 14, gName 15]) (tYes) (cVar 15) [14, 15])))
    (sSeq (sSet (gName 11) (cOp2 max2D (cK (.int 0)) (cOp2 subD (cOp2 subD (cVar 3) (cOp2 mulI (cK (.int 2)) (cVar 10))) (cVar 4))))
    (sSeq (sSet (gName 12) (cOp1 sumD (cLc (itSeq (cVar 2)) (gTup [gName 16, gName 17, gName 18]) (tCmp gtD (cOp2 indexD (cVar 7) (cVar 16)) (cVar 9)) (cVar 18) [16, 17, 18])))
    (sSeq (sSet (gName 13) (cOp1 sumD (cLc (itSeq (cVar 1)) (gTup [gName 16, gName 17, gName 18]) (tCmp gtD (cOp2 indexD (cVar 7) (cVar 17)) (cVar 9)) (cVar 18) [16, 17, 18])))
    (sRet (cOp2 addD (cOp2 mulI (cVar 5) (cOp2 addD (cVar 13) (cVar 12))) (cOp2 mulI (cVar 11) (cOp2 subD (cVar 8) (cVar 12)))))))))))
def f_law_cost : Fn := bodyFn 7 12 b_law_cost
theorem d__law_cost (B : Bi mg) (Dd : Df K mg "_law_cost" st__law_cost ["line", "riders", "back", "late", "stand", "later", "stop"]) (o__law_stops : Ok K mg true P w base 1 "_law_stops" ["line"] 1 f_law_stops) : Ok K mg true P w base 2 "_law_cost" ["line", "riders", "back", "late", "stand", "later", "stop"] 7 f_law_cost :=
  ok_of (O' := []) Dd sc__law_cost fun f cdv A outer s H E hr => ESs.cons (O1 := []) (ES.parN (ks := [false, false]) [7, 8] rfl (EM.consV (EV.callO o__law_stops (hr.mono (by decide)) (EA.cons (EV.var 0) (EA.nil))) (EM.consV (EV.sum B.b_sum rfl (EO.b (EO.lc (own := [("one", 16), ("other", 17), ("people", 18)]) rfl sc__law_cost.nd (EI.seq (EV.var 2)) (blkOk_by (N := N__law_cost) (sc := defScope st__law_cost) (own := [("one", 16), ("other", 17), ("people", 18)]) (by decide +kernel)) (fun _ _ _ _ _ => GG.tup rfl (GG.cons (GG.name 16 sc__law_cost.nd) (GG.cons (GG.name 17 sc__law_cost.nd) (GG.cons (GG.name 18 sc__law_cost.nd) (GG.nil))))) (fun _ _ _ _ _ => tests0) (fun _ _ _ _ _ => EV.var 18)))) (EM.nil))) (GS.cons 7 sc__law_cost.nd (GS.cons 8 sc__law_cost.nd (GS.nil))))
    (ESs.cons (O1 := []) (ES.if (ET.cmp ok_is (EB.var 6) (EV.b (EV.non))) (ESs.one (ES.ret (EV.mul (EB.var 8) (EV.b (EV.if (ET.cmp (ok_gt hr) (EB.var 3) (EB.var 4)) (EV.sub (EB.var 3) (EB.var 4)) (EV.int)))))) (ESs.nil))
    (ESs.cons (O1 := []) (ES.set (EV.index hr (EB.var 7) (EB.var 6)) (GG.name 9 sc__law_cost.nd))
    (ESs.cons (O1 := []) (ES.set (EV.sum B.b_sum rfl (EO.b (EO.lc (own := [("own", 14), ("minutes", 15)]) rfl sc__law_cost.nd (EI.seq (EV.cut (EB.var 0) (EP.some (EV.b (EV.add (EB.var 9) (EV.b (EV.int))))) EP.none)) (blkOk_by (N := N__law_cost) (sc := defScope st__law_cost) (own := [("own", 14), ("minutes", 15)]) (by decide +kernel)) (fun _ _ _ _ _ => GG.tup rfl (GG.cons (GG.name 14 sc__law_cost.nd) (GG.cons (GG.name 15 sc__law_cost.nd) (GG.nil)))) (fun _ _ _ _ _ => tests0) (fun _ _ _ _ _ => EV.var 15)))) (GG.name 10 sc__law_cost.nd))
    (ESs.cons (O1 := []) (ES.set (EV.max2 B.b_max rfl (EV.b (EV.int)) (EV.b (EV.sub (EV.b (EV.sub (EB.var 3) (EV.b (EV.mul (EV.b (EV.int)) (EB.var 10))))) (EB.var 4)))) (GG.name 11 sc__law_cost.nd))
    (ESs.cons (O1 := []) (ES.set (EV.sum B.b_sum rfl (EO.b (EO.lc (own := [("one", 16), ("other", 17), ("people", 18)]) rfl sc__law_cost.nd (EI.seq (EV.var 2)) (blkOk_by (N := N__law_cost) (sc := defScope st__law_cost) (own := [("one", 16), ("other", 17), ("people", 18)]) (by decide +kernel)) (fun _ _ _ _ _ => GG.tup rfl (GG.cons (GG.name 16 sc__law_cost.nd) (GG.cons (GG.name 17 sc__law_cost.nd) (GG.cons (GG.name 18 sc__law_cost.nd) (GG.nil))))) (fun _ _ _ _ _ => tests1 (ET.cmp (ok_gt hr) (EV.b (EV.index hr (EB.var 7) (EB.var 16))) (EB.var 9))) (fun _ _ _ _ _ => EV.var 18)))) (GG.name 12 sc__law_cost.nd))
    (ESs.cons (O1 := []) (ES.set (EV.sum B.b_sum rfl (EO.b (EO.lc (own := [("one", 16), ("other", 17), ("people", 18)]) rfl sc__law_cost.nd (EI.seq (EV.var 1)) (blkOk_by (N := N__law_cost) (sc := defScope st__law_cost) (own := [("one", 16), ("other", 17), ("people", 18)]) (by decide +kernel)) (fun _ _ _ _ _ => GG.tup rfl (GG.cons (GG.name 16 sc__law_cost.nd) (GG.cons (GG.name 17 sc__law_cost.nd) (GG.cons (GG.name 18 sc__law_cost.nd) (GG.nil))))) (fun _ _ _ _ _ => tests1 (ET.cmp (ok_gt hr) (EV.b (EV.index hr (EB.var 7) (EB.var 17))) (EB.var 9))) (fun _ _ _ _ _ => EV.var 18)))) (GG.name 13 sc__law_cost.nd))
    (ESs.one (ES.ret (EV.add (EV.b (EV.mul (EB.var 5) (EV.b (EV.add (EB.var 13) (EB.var 12))))) (EV.b (EV.mul (EB.var 11) (EV.b (EV.sub (EB.var 8) (EB.var 12))))))))))))))
/-! _law_pick -/
abbrev st__law_pick : Stmt := topS 24
abbrev N__law_pick : List Str := ["w", "rows"]
theorem sc__law_pick : FnScope N__law_pick ["w", "rows"] (defScope st__law_pick) := ⟨rfl, rfl, rfl, by decide +kernel, rfl, by decide +kernel, by decide +kernel⟩
def b_law_pick : S :=
    sRet (cOp2 ixAD (cVar 1) (cCall fnNext [cVar 0, cOp1 lenD (cVar 1)]))
def f_law_pick : Fn := bodyFn 2 0 b_law_pick
theorem d__law_pick (B : Bi mg) (Dd : Df K mg "_law_pick" st__law_pick ["w", "rows"]) (o__law_next : Ok K mg true P w base 1 "_law_next" ["w", "many"] 2 fnNext) : Ok K mg true P w base 2 "_law_pick" ["w", "rows"] 2 f_law_pick :=
  ok_of (O' := []) Dd sc__law_pick fun f cdv A outer s H E hr => ESs.one (ES.ret (EV.ixA hr (EB.var 1) (EV.b (EV.callO o__law_next (hr.mono (by decide)) (EA.cons (EV.var 0) (EA.cons (EV.len B.len (EB.var 1)) (EA.nil)))))))
/-! stops_on -/
abbrev st_stops_on : Stmt := topS 4
abbrev N_stops_on : List Str := ["line", "stop", "_"]
theorem sc_stops_on : FnScope N_stops_on ["line"] (defScope st_stops_on) := ⟨rfl, rfl, rfl, by decide +kernel, rfl, by decide +kernel, by decide +kernel⟩
def b_stops_on : S :=
    sRet (cLc (itSeq (cVar 0)) (gTup [gName 1, gName 2]) (tYes) (cVar 1) [1, 2])
def f_stops_on : Fn := bodyFn 1 2 b_stops_on
theorem d_stops_on (B : Bi mg) (Dd : Df K mg "stops_on" st_stops_on ["line"])  : Ok K mg true P w base 1 "stops_on" ["line"] 1 f_stops_on :=
  ok_of (O' := []) Dd sc_stops_on fun f cdv A outer s H E hr => ESs.one (ES.ret (EO.v (EO.lc (own := [("stop", 1), ("_", 2)]) rfl sc_stops_on.nd (EI.seq (EV.var 0)) (blkOk_by (N := N_stops_on) (sc := defScope st_stops_on) (own := [("stop", 1), ("_", 2)]) (by decide +kernel)) (fun _ _ _ _ _ => GG.tup rfl (GG.cons (GG.name 1 sc_stops_on.nd) (GG.cons (GG.name 2 sc_stops_on.nd) (GG.nil)))) (fun _ _ _ _ _ => tests0) (fun _ _ _ _ _ => EV.var 1))))
/-! inner_stops -/
abbrev st_inner_stops : Stmt := topS 11
abbrev N_inner_stops : List Str := ["line"]
theorem sc_inner_stops : FnScope N_inner_stops ["line"] (defScope st_inner_stops) := ⟨rfl, rfl, rfl, by decide +kernel, rfl, by decide +kernel, by decide +kernel⟩
def b_inner_stops : S :=
    sRet (cCut (cCall f_stops_on [cVar 0]) (some (cK (.int 1))) (some (cOp1 negD (cK (.int 1)))))
def f_inner_stops : Fn := bodyFn 1 0 b_inner_stops
theorem d_inner_stops (B : Bi mg) (Dd : Df K mg "inner_stops" st_inner_stops ["line"]) (o_stops_on : Ok K mg true P w base 1 "stops_on" ["line"] 1 f_stops_on) : Ok K mg true P w base 2 "inner_stops" ["line"] 1 f_inner_stops :=
  ok_of (O' := []) Dd sc_inner_stops fun f cdv A outer s H E hr => ESs.one (ES.ret (EV.cut (EV.b (EV.callO o_stops_on (hr.mono (by decide)) (EA.cons (EV.var 0) (EA.nil)))) (EP.some (EV.b (EV.int))) (EP.some (EV.b (EV.neg (EV.b (EV.int)))))))
/-! long_of -/
abbrev st_long_of : Stmt := topS 5
abbrev N_long_of : List Str := ["line", "_", "minutes"]
theorem sc_long_of : FnScope N_long_of ["line"] (defScope st_long_of) := ⟨rfl, rfl, rfl, by decide +kernel, rfl, by decide +kernel, by decide +kernel⟩
def b_long_of : S :=
    sRet (cOp1 sumD (cLc (itSeq (cVar 0)) (gTup [gName 1, gName 2]) (tYes) (cVar 2) [1, 2]))
def f_long_of : Fn := bodyFn 1 2 b_long_of
theorem d_long_of (B : Bi mg) (Dd : Df K mg "long_of" st_long_of ["line"])  : Ok K mg true P w base 1 "long_of" ["line"] 1 f_long_of :=
  ok_of (O' := []) Dd sc_long_of fun f cdv A outer s H E hr => ESs.one (ES.ret (EV.sum B.b_sum rfl (EO.b (EO.lc (own := [("_", 1), ("minutes", 2)]) rfl sc_long_of.nd (EI.seq (EV.var 0)) (blkOk_by (N := N_long_of) (sc := defScope st_long_of) (own := [("_", 1), ("minutes", 2)]) (by decide +kernel)) (fun _ _ _ _ _ => GG.tup rfl (GG.cons (GG.name 1 sc_long_of.nd) (GG.cons (GG.name 2 sc_long_of.nd) (GG.nil)))) (fun _ _ _ _ _ => tests0) (fun _ _ _ _ _ => EV.var 2)))))
/-! minutes_to -/
abbrev st_minutes_to : Stmt := topS 6
abbrev N_minutes_to : List Str := ["line", "stop", "_", "minutes"]
theorem sc_minutes_to : FnScope N_minutes_to ["line", "stop"] (defScope st_minutes_to) := ⟨rfl, rfl, rfl, by decide +kernel, rfl, by decide +kernel, by decide +kernel⟩
def b_minutes_to : S :=
    sSeq (sIf (tCmp notInAD (cVar 1) (cCall f_stops_on [cVar 0])) (sRet (cK .none)) (sPass))
    (sRet (cOp1 sumD (cLc (itSeq (cCut (cVar 0) none (some (cOp2 addD (cOp2 indexD (cCall f_stops_on [cVar 0]) (cVar 1)) (cK (.int 1)))))) (gTup [gName 2, gName 3]) (tYes) (cVar 3) [2, 3])))
def f_minutes_to : Fn := bodyFn 2 2 b_minutes_to
theorem d_minutes_to (B : Bi mg) (Dd : Df K mg "minutes_to" st_minutes_to ["line", "stop"]) (o_stops_on : Ok K mg true P w base 1 "stops_on" ["line"] 1 f_stops_on) : Ok K mg true P w base 2 "minutes_to" ["line", "stop"] 2 f_minutes_to :=
  ok_of (O' := []) Dd sc_minutes_to fun f cdv A outer s H E hr => ESs.cons (O1 := []) (ES.if (ET.cmp (ok_notInA hr) (EB.var 1) (EV.b (EV.callO o_stops_on (hr.mono (by decide)) (EA.cons (EV.var 0) (EA.nil))))) (ESs.one (ES.ret (EV.non))) (ESs.nil))
    (ESs.one (ES.ret (EV.sum B.b_sum rfl (EO.b (EO.lc (own := [("_", 2), ("minutes", 3)]) rfl sc_minutes_to.nd (EI.seq (EV.cut (EB.var 0) EP.none (EP.some (EV.b (EV.add (EV.b (EV.index hr (EV.b (EV.callO o_stops_on (hr.mono (by decide)) (EA.cons (EV.var 0) (EA.nil)))) (EB.var 1))) (EV.b (EV.int))))))) (blkOk_by (N := N_minutes_to) (sc := defScope st_minutes_to) (own := [("_", 2), ("minutes", 3)]) (by decide +kernel)) (fun _ _ _ _ _ => GG.tup rfl (GG.cons (GG.name 2 sc_minutes_to.nd) (GG.cons (GG.name 3 sc_minutes_to.nd) (GG.nil)))) (fun _ _ _ _ _ => tests0) (fun _ _ _ _ _ => EV.var 3))))))
/-! saved_at -/
abbrev st_saved_at : Stmt := topS 10
abbrev N_saved_at : List Str := ["line", "stop", "stand"]
theorem sc_saved_at : FnScope N_saved_at ["line", "stop", "stand"] (defScope st_saved_at) := ⟨rfl, rfl, rfl, by decide +kernel, rfl, by decide +kernel, by decide +kernel⟩
def b_saved_at : S :=
    sRet (cOp2 addD (cOp2 mulI (cK (.int 2)) (cOp2 subD (cCall f_long_of [cVar 0]) (cCall f_minutes_to [cVar 0, cVar 1]))) (cVar 2))
def f_saved_at : Fn := bodyFn 3 0 b_saved_at
theorem d_saved_at (B : Bi mg) (Dd : Df K mg "saved_at" st_saved_at ["line", "stop", "stand"]) (o_long_of : Ok K mg true P w base 1 "long_of" ["line"] 1 f_long_of) (o_minutes_to : Ok K mg true P w base 2 "minutes_to" ["line", "stop"] 2 f_minutes_to) : Ok K mg true P w base 3 "saved_at" ["line", "stop", "stand"] 3 f_saved_at :=
  ok_of (O' := []) Dd sc_saved_at fun f cdv A outer s H E hr => ESs.one (ES.ret (EV.add (EV.b (EV.mul (EV.b (EV.int)) (EV.b (EV.sub (EV.b (EV.callO o_long_of (hr.mono (by decide)) (EA.cons (EV.var 0) (EA.nil)))) (EV.b (EV.callO o_minutes_to (hr.mono (by decide)) (EA.cons (EV.var 0) (EA.cons (EV.var 1) (EA.nil))))))))) (EB.var 2)))
/-! turn_stop -/
abbrev st_turn_stop : Stmt := topS 12
abbrev N_turn_stop : List Str := ["line", "late", "stand", "able", "stop"]
theorem sc_turn_stop : FnScope N_turn_stop ["line", "late", "stand"] (defScope st_turn_stop) := ⟨rfl, rfl, rfl, by decide +kernel, rfl, by decide +kernel, by decide +kernel⟩
def b_turn_stop : S :=
    sSeq (sSet (gName 3) (cLc (itSeq (cCall f_inner_stops [cVar 0])) (gName 4) (tCmp geD (cCall f_saved_at [cVar 0, cVar 4, cVar 2]) (cVar 1)) (cVar 4) [4]))
    (sRet (cIf (tCmp neD (cVar 3) (cLst [])) (cOp2 ixAD (cVar 3) (cOp1 negD (cK (.int 1)))) (cK .none)))
def f_turn_stop : Fn := bodyFn 3 2 b_turn_stop
theorem d_turn_stop (B : Bi mg) (Dd : Df K mg "turn_stop" st_turn_stop ["line", "late", "stand"]) (o_inner_stops : Ok K mg true P w base 2 "inner_stops" ["line"] 1 f_inner_stops) (o_saved_at : Ok K mg true P w base 3 "saved_at" ["line", "stop", "stand"] 3 f_saved_at) : Ok K mg true P w base 4 "turn_stop" ["line", "late", "stand"] 3 f_turn_stop :=
  ok_of (O' := []) Dd sc_turn_stop fun f cdv A outer s H E hr => ESs.cons (O1 := [3]) (ES.setLc (own := [("stop", 4)]) 3 rfl sc_turn_stop.nd (EI.seq (EV.callO o_inner_stops (hr.mono (by decide)) (EA.cons (EV.var 0) (EA.nil)))) (blkOk_by (N := N_turn_stop) (sc := defScope st_turn_stop) (own := [("stop", 4)]) (by decide +kernel)) (fun _ _ _ _ _ => GG.name 4 sc_turn_stop.nd) (fun _ _ _ _ _ => tests1 (ET.cmp (ok_ge hr) (EV.b (EV.callO o_saved_at (hr.mono (by decide)) (EA.cons (EV.var 0) (EA.cons (EV.var 4) (EA.cons (EV.var 2) (EA.nil)))))) (EB.var 1))) (fun _ _ _ _ _ => EV.var 4) (sw_true rfl rfl rfl (by decide +kernel)))
    (ESs.one (ES.ret (EV.if (ET.cmp (ok_ne hr) (EB.var 3) (EO.b (EO.lst (EA.nil)))) (EV.ixA hr (EB.var 3) (EV.b (EV.neg (EV.b (EV.int))))) (EV.non))))
/-! lost_riders -/
abbrev st_lost_riders : Stmt := topS 13
abbrev N_lost_riders : List Str := ["line", "riders", "stop", "at", "_", "other", "people"]
theorem sc_lost_riders : FnScope N_lost_riders ["line", "riders", "stop"] (defScope st_lost_riders) := ⟨rfl, rfl, rfl, by decide +kernel, rfl, by decide +kernel, by decide +kernel⟩
def b_lost_riders : S :=
    sSeq (sSet (gName 3) (cCall f_minutes_to [cVar 0, cVar 2]))
    (sRet (cOp1 sumD (cLc (itSeq (cVar 1)) (gTup [gName 4, gName 5, gName 6]) (tCmp gtD (cCall f_minutes_to [cVar 0, cVar 5]) (cVar 3)) (cVar 6) [4, 5, 6])))
def f_lost_riders : Fn := bodyFn 3 4 b_lost_riders
theorem d_lost_riders (B : Bi mg) (Dd : Df K mg "lost_riders" st_lost_riders ["line", "riders", "stop"]) (o_minutes_to : Ok K mg true P w base 2 "minutes_to" ["line", "stop"] 2 f_minutes_to) : Ok K mg true P w base 3 "lost_riders" ["line", "riders", "stop"] 3 f_lost_riders :=
  ok_of (O' := []) Dd sc_lost_riders fun f cdv A outer s H E hr => ESs.cons (O1 := []) (ES.set (EV.callO o_minutes_to (hr.mono (by decide)) (EA.cons (EV.var 0) (EA.cons (EV.var 2) (EA.nil)))) (GG.name 3 sc_lost_riders.nd))
    (ESs.one (ES.ret (EV.sum B.b_sum rfl (EO.b (EO.lc (own := [("_", 4), ("other", 5), ("people", 6)]) rfl sc_lost_riders.nd (EI.seq (EV.var 1)) (blkOk_by (N := N_lost_riders) (sc := defScope st_lost_riders) (own := [("_", 4), ("other", 5), ("people", 6)]) (by decide +kernel)) (fun _ _ _ _ _ => GG.tup rfl (GG.cons (GG.name 4 sc_lost_riders.nd) (GG.cons (GG.name 5 sc_lost_riders.nd) (GG.cons (GG.name 6 sc_lost_riders.nd) (GG.nil))))) (fun _ _ _ _ _ => tests1 (ET.cmp (ok_gt hr) (EV.b (EV.callO o_minutes_to (hr.mono (by decide)) (EA.cons (EV.var 0) (EA.cons (EV.var 5) (EA.nil))))) (EB.var 3))) (fun _ _ _ _ _ => EV.var 6))))))
/-! cost_of_turn -/
abbrev st_cost_of_turn : Stmt := topS 14
abbrev N_cost_of_turn : List Str := ["line", "riders", "back", "late", "stand", "later", "stop", "whole", "at", "behind", "left", "_", "people", "one"]
theorem sc_cost_of_turn : FnScope N_cost_of_turn ["line", "riders", "back", "late", "stand", "later", "stop"] (defScope st_cost_of_turn) := ⟨rfl, rfl, rfl, by decide +kernel, rfl, by decide +kernel, by decide +kernel⟩
def b_cost_of_turn : S :=
    sSeq (sSet (gName 7) (cOp1 sumD (cLc (itSeq (cVar 2)) (gTup [gName 11, gName 11, gName 12]) (tYes) (cVar 12) [11, 11, 12])))
    (sSeq (sIf (tCmp isND (cVar 6) (cK .none)) (sRet (cOp2 mulI (cVar 7) (cOp2 max2D (cK (.int 0)) (cOp2 subD (cVar 3) (cVar 4))))) (sPass))
    (sSeq (sSet (gName 8) (cCall f_minutes_to [cVar 0, cVar 6]))
    (sSeq (sSet (gName 9) (cOp1 sumD (cLc (itSeq (cVar 2)) (gTup [gName 13, gName 11, gName 12]) (tCmp gtD (cCall f_minutes_to [cVar 0, cVar 13]) (cVar 8)) (cVar 12) [13, 11, 12])))
    (sSeq (sSet (gName 10) (cOp2 max2D (cK (.int 0)) (cOp2 subD (cVar 3) (cCall f_saved_at [cVar 0, cVar 6, cVar 4]))))
    (sRet (cOp2 addD (cOp2 mulI (cVar 5) (cOp2 addD (cCall f_lost_riders [cVar 0, cVar 1, cVar 6]) (cVar 9))) (cOp2 mulI (cVar 10) (cOp2 subD (cVar 7) (cVar 9)))))))))
def f_cost_of_turn : Fn := bodyFn 7 7 b_cost_of_turn
theorem d_cost_of_turn (B : Bi mg) (Dd : Df K mg "cost_of_turn" st_cost_of_turn ["line", "riders", "back", "late", "stand", "later", "stop"]) (o_minutes_to : Ok K mg true P w base 2 "minutes_to" ["line", "stop"] 2 f_minutes_to) (o_saved_at : Ok K mg true P w base 3 "saved_at" ["line", "stop", "stand"] 3 f_saved_at) (o_lost_riders : Ok K mg true P w base 3 "lost_riders" ["line", "riders", "stop"] 3 f_lost_riders) : Ok K mg true P w base 4 "cost_of_turn" ["line", "riders", "back", "late", "stand", "later", "stop"] 7 f_cost_of_turn :=
  ok_of (O' := []) Dd sc_cost_of_turn fun f cdv A outer s H E hr => ESs.cons (O1 := []) (ES.set (EV.sum B.b_sum rfl (EO.b (EO.lc (own := [("_", 11), ("_", 11), ("people", 12)]) rfl sc_cost_of_turn.nd (EI.seq (EV.var 2)) (blkOk_by (N := N_cost_of_turn) (sc := defScope st_cost_of_turn) (own := [("_", 11), ("_", 11), ("people", 12)]) (by decide +kernel)) (fun _ _ _ _ _ => GG.tup rfl (GG.cons (GG.name 11 sc_cost_of_turn.nd) (GG.cons (GG.name 11 sc_cost_of_turn.nd) (GG.cons (GG.name 12 sc_cost_of_turn.nd) (GG.nil))))) (fun _ _ _ _ _ => tests0) (fun _ _ _ _ _ => EV.var 12)))) (GG.name 7 sc_cost_of_turn.nd))
    (ESs.cons (O1 := []) (ES.if (ET.cmp ok_is (EB.var 6) (EV.b (EV.non))) (ESs.one (ES.ret (EV.mul (EB.var 7) (EV.b (EV.max2 B.b_max rfl (EV.b (EV.int)) (EV.b (EV.sub (EB.var 3) (EB.var 4)))))))) (ESs.nil))
    (ESs.cons (O1 := []) (ES.set (EV.callO o_minutes_to (hr.mono (by decide)) (EA.cons (EV.var 0) (EA.cons (EV.var 6) (EA.nil)))) (GG.name 8 sc_cost_of_turn.nd))
    (ESs.cons (O1 := []) (ES.set (EV.sum B.b_sum rfl (EO.b (EO.lc (own := [("one", 13), ("_", 11), ("people", 12)]) rfl sc_cost_of_turn.nd (EI.seq (EV.var 2)) (blkOk_by (N := N_cost_of_turn) (sc := defScope st_cost_of_turn) (own := [("one", 13), ("_", 11), ("people", 12)]) (by decide +kernel)) (fun _ _ _ _ _ => GG.tup rfl (GG.cons (GG.name 13 sc_cost_of_turn.nd) (GG.cons (GG.name 11 sc_cost_of_turn.nd) (GG.cons (GG.name 12 sc_cost_of_turn.nd) (GG.nil))))) (fun _ _ _ _ _ => tests1 (ET.cmp (ok_gt hr) (EV.b (EV.callO o_minutes_to (hr.mono (by decide)) (EA.cons (EV.var 0) (EA.cons (EV.var 13) (EA.nil))))) (EB.var 8))) (fun _ _ _ _ _ => EV.var 12)))) (GG.name 9 sc_cost_of_turn.nd))
    (ESs.cons (O1 := []) (ES.set (EV.max2 B.b_max rfl (EV.b (EV.int)) (EV.b (EV.sub (EB.var 3) (EV.b (EV.callO o_saved_at (hr.mono (by decide)) (EA.cons (EV.var 0) (EA.cons (EV.var 6) (EA.cons (EV.var 4) (EA.nil))))))))) (GG.name 10 sc_cost_of_turn.nd))
    (ESs.one (ES.ret (EV.add (EV.b (EV.mul (EB.var 5) (EV.b (EV.add (EV.b (EV.callO o_lost_riders (hr.mono (by decide)) (EA.cons (EV.var 0) (EA.cons (EV.var 1) (EA.cons (EV.var 6) (EA.nil)))))) (EB.var 9))))) (EV.b (EV.mul (EB.var 10) (EV.b (EV.sub (EB.var 7) (EB.var 9))))))))))))
/-! best_turn -/
abbrev st_best_turn : Stmt := topS 15
abbrev N_best_turn : List Str := ["line", "riders", "back", "late", "stand", "later", "rows", "stops", "k"]
theorem sc_best_turn : FnScope N_best_turn ["line", "riders", "back", "late", "stand", "later"] (defScope st_best_turn) := ⟨rfl, rfl, rfl, by decide +kernel, rfl, by decide +kernel, by decide +kernel⟩
def b_best_turn_0 : S :=
    sApp 6 (cTup [cCall f_cost_of_turn [cVar 0, cVar 1, cVar 2, cVar 3, cVar 4, cVar 5, cOp2 ixAD (cVar 7) (cVar 8)], cVar 8])
def b_best_turn : S :=
    sSeq (sPar [gName 6, gName 7] [cLst [], cOp2 catD (cLst [cK .none]) (cOp1 revD (cCall f_inner_stops [cVar 0]))])
    (sSeq (sFor (itR1 (cOp1 lenD (cVar 7))) (gName 8) (b_best_turn_0) [8])
    (sRet (cTup [cOp2 ixAD (cOp1 minD1 (cVar 6)) (cK (.int 0)), cOp2 ixAD (cVar 7) (cOp2 ixAD (cOp1 minD1 (cVar 6)) (cK (.int 1)))])))
def f_best_turn : Fn := bodyFn 6 3 b_best_turn
theorem d_best_turn (B : Bi mg) (Dd : Df K mg "best_turn" st_best_turn ["line", "riders", "back", "late", "stand", "later"]) (o_inner_stops : Ok K mg true P w base 2 "inner_stops" ["line"] 1 f_inner_stops) (o_cost_of_turn : Ok K mg true P w base 4 "cost_of_turn" ["line", "riders", "back", "late", "stand", "later", "stop"] 7 f_cost_of_turn) : Ok K mg true P w base 5 "best_turn" ["line", "riders", "back", "late", "stand", "later"] 6 f_best_turn :=
  ok_of (O' := []) Dd sc_best_turn fun f cdv A outer s H E hr => ESs.cons (O1 := [6]) (ES.par2 (ks := [true, false]) 6 7 rfl sc_best_turn.nd (EM.consO (EO.lst (EA.nil)) (EM.consV (EO.v (EO.cat (EO.b (EO.lst (EA.cons (EV.non) (EA.nil)))) (EO.b (EO.rev (EV.b (EV.callO o_inner_stops (hr.mono (by decide)) (EA.cons (EV.var 0) (EA.nil)))))))) (EM.nil))))
    (ESs.cons (O1 := [6]) (ES.for (Oh := [6]) (Ob := [6]) (O' := [6]) [8] PassesOwn.never rfl (EI.r1 B.b_range (EV.b (EV.len B.len (EB.var 7)))) (GG.name 8 sc_best_turn.nd) (ESs.one (ES.app 6 (EV.tup (EA.cons (EV.callO o_cost_of_turn (hr.mono (by decide)) (EA.cons (EV.var 0) (EA.cons (EV.var 1) (EA.cons (EV.var 2) (EA.cons (EV.var 3) (EA.cons (EV.var 4) (EA.cons (EV.var 5) (EA.cons (EV.ixA hr (EB.var 7) (EB.var 8)) (EA.nil))))))))) (EA.cons (EV.var 8) (EA.nil)))))))
    (ESs.one (ES.ret (EV.tup (EA.cons (EV.ixA hr (EV.b (EV.min1 B.b_min hr (EB.var 6))) (EV.b (EV.int))) (EA.cons (EV.ixA hr (EB.var 7) (EV.b (EV.ixA hr (EV.b (EV.min1 B.b_min hr (EB.var 6))) (EV.b (EV.int))))) (EA.nil)))))))
/-! turned_rows -/
abbrev st_turned_rows : Stmt := topS 16
abbrev N_turned_rows : List Str := ["line", "begin", "stop", "found", "now", "own", "name", "minutes", "k"]
theorem sc_turned_rows : FnScope N_turned_rows ["line", "begin", "stop"] (defScope st_turned_rows) := ⟨rfl, rfl, rfl, by decide +kernel, rfl, by decide +kernel, by decide +kernel⟩
def b_turned_rows_0 : S :=
    sSeq (sAugN 4 addI (cVar 7))
    (sApp 3 (cTup [cVar 6, cVar 4]))
def b_turned_rows_1 : S :=
    sSeq (sAugN 4 addI (cOp2 ixAD (cOp2 ixAD (cVar 5) (cVar 8)) (cK (.int 1))))
    (sApp 3 (cTup [cOp2 ixAD (cOp2 ixAD (cVar 5) (cOp2 subD (cVar 8) (cK (.int 1)))) (cK (.int 0)), cVar 4]))
def b_turned_rows : S :=
    sSeq (sPar [gName 3, gName 4] [cLst [], cVar 1])
    (sSeq (sSet (gName 5) (cCut (cVar 0) none (some (cOp2 addD (cOp2 indexD (cCall f_stops_on [cVar 0]) (cVar 2)) (cK (.int 1))))))
    (sSeq (sFor (itSeq (cVar 5)) (gTup [gName 6, gName 7]) (b_turned_rows_0) [6, 7])
    (sSeq (sFor (itR3 (cOp2 subD (cOp1 lenD (cVar 5)) (cK (.int 1))) (cK (.int 0)) (cOp1 negD (cK (.int 1)))) (gName 8) (b_turned_rows_1) [8])
    (sRet (cOp1 tupD (cVar 3))))))
def f_turned_rows : Fn := bodyFn 3 6 b_turned_rows
theorem d_turned_rows (B : Bi mg) (Dd : Df K mg "turned_rows" st_turned_rows ["line", "begin", "stop"]) (o_stops_on : Ok K mg true P w base 1 "stops_on" ["line"] 1 f_stops_on) : Ok K mg true P w base 2 "turned_rows" ["line", "begin", "stop"] 3 f_turned_rows :=
  ok_of (O' := []) Dd sc_turned_rows fun f cdv A outer s H E hr => ESs.cons (O1 := [3]) (ES.par2 (ks := [true, false]) 3 4 rfl sc_turned_rows.nd (EM.consO (EO.lst (EA.nil)) (EM.consV (EV.var 1) (EM.nil))))
    (ESs.cons (O1 := [3]) (ES.set (EV.cut (EB.var 0) EP.none (EP.some (EV.b (EV.add (EV.b (EV.index hr (EV.b (EV.callO o_stops_on (hr.mono (by decide)) (EA.cons (EV.var 0) (EA.nil)))) (EB.var 2))) (EV.b (EV.int)))))) (GG.name 5 sc_turned_rows.nd))
    (ESs.cons (O1 := [3]) (ES.for (Oh := [3]) (Ob := [3]) (O' := [3]) [6, 7] PassesOwn.never rfl (EI.seq (EV.var 5)) (GG.tup rfl (GG.cons (GG.name 6 sc_turned_rows.nd) (GG.cons (GG.name 7 sc_turned_rows.nd) (GG.nil)))) (ESs.cons (O1 := [3]) (ES.augAdd 4 sc_turned_rows.nd (EB.var 7))
    (ESs.one (ES.app 3 (EV.tup (EA.cons (EV.var 6) (EA.cons (EV.var 4) (EA.nil))))))))
    (ESs.cons (O1 := [3]) (ES.for (Oh := [3]) (Ob := [3]) (O' := [3]) [8] PassesOwn.never rfl (EI.r3 B.b_range (EV.b (EV.sub (EV.b (EV.len B.len (EB.var 5))) (EV.b (EV.int)))) (EV.b (EV.int)) (EV.b (EV.neg (EV.b (EV.int))))) (GG.name 8 sc_turned_rows.nd) (ESs.cons (O1 := [3]) (ES.augAdd 4 sc_turned_rows.nd (EV.b (EV.ixA hr (EV.b (EV.ixA hr (EB.var 5) (EB.var 8))) (EV.b (EV.int)))))
    (ESs.one (ES.app 3 (EV.tup (EA.cons (EV.ixA hr (EV.b (EV.ixA hr (EB.var 5) (EV.b (EV.sub (EB.var 8) (EV.b (EV.int)))))) (EV.b (EV.int))) (EA.cons (EV.var 4) (EA.nil))))))))
    (ESs.one (ES.ret (EV.tuple B.b_tuple (EB.var 3)))))))
/-! turn_stops -/
abbrev st_turn_stops : Stmt := topS 17
abbrev N_turn_stops : List Str := ["line", "streets", "stop"]
theorem sc_turn_stops : FnScope N_turn_stops ["line", "streets"] (defScope st_turn_stops) := ⟨rfl, rfl, rfl, by decide +kernel, rfl, by decide +kernel, by decide +kernel⟩
def b_turn_stops : S :=
    sRet (cOp1 tupD (cLc (itSeq (cCall f_inner_stops [cVar 0])) (gName 2) (tCmp inAD (cVar 2) (cVar 1)) (cVar 2) [2]))
def f_turn_stops : Fn := bodyFn 2 1 b_turn_stops
theorem d_turn_stops (B : Bi mg) (Dd : Df K mg "turn_stops" st_turn_stops ["line", "streets"]) (o_inner_stops : Ok K mg true P w base 2 "inner_stops" ["line"] 1 f_inner_stops) : Ok K mg true P w base 3 "turn_stops" ["line", "streets"] 2 f_turn_stops :=
  ok_of (O' := []) Dd sc_turn_stops fun f cdv A outer s H E hr => ESs.one (ES.ret (EV.tuple B.b_tuple (EO.b (EO.lc (own := [("stop", 2)]) rfl sc_turn_stops.nd (EI.seq (EV.callO o_inner_stops (hr.mono (by decide)) (EA.cons (EV.var 0) (EA.nil)))) (blkOk_by (N := N_turn_stops) (sc := defScope st_turn_stops) (own := [("stop", 2)]) (by decide +kernel)) (fun _ _ _ _ _ => GG.name 2 sc_turn_stops.nd) (fun _ _ _ _ _ => tests1 (ET.cmp (ok_inA hr) (EB.var 2) (EB.var 1))) (fun _ _ _ _ _ => EV.var 2)))))
/-! between -/
abbrev st_between : Stmt := topS 7
abbrev N_between : List Str := ["line", "one", "other", "first", "last"]
theorem sc_between : FnScope N_between ["line", "one", "other"] (defScope st_between) := ⟨rfl, rfl, rfl, by decide +kernel, rfl, by decide +kernel, by decide +kernel⟩
def b_between : S :=
    sSeq (sPar [gName 3, gName 4] [cCall f_minutes_to [cVar 0, cVar 1], cCall f_minutes_to [cVar 0, cVar 2]])
    (sSeq (sIf (tOr (tCmp isND (cVar 3) (cK .none)) (tOr (tCmp isND (cVar 4) (cK .none)) (tCmp ltD (cVar 4) (cVar 3)))) (sRet (cK .none)) (sPass))
    (sRet (cOp2 subD (cVar 4) (cVar 3))))
def f_between : Fn := bodyFn 3 2 b_between
theorem d_between (B : Bi mg) (Dd : Df K mg "between" st_between ["line", "one", "other"]) (o_minutes_to : Ok K mg true P w base 2 "minutes_to" ["line", "stop"] 2 f_minutes_to) : Ok K mg true P w base 3 "between" ["line", "one", "other"] 3 f_between :=
  ok_of (O' := []) Dd sc_between fun f cdv A outer s H E hr => ESs.cons (O1 := []) (ES.par2 (ks := [false, false]) 3 4 rfl sc_between.nd (EM.consV (EV.callO o_minutes_to (hr.mono (by decide)) (EA.cons (EV.var 0) (EA.cons (EV.var 1) (EA.nil)))) (EM.consV (EV.callO o_minutes_to (hr.mono (by decide)) (EA.cons (EV.var 0) (EA.cons (EV.var 2) (EA.nil)))) (EM.nil))))
    (ESs.cons (O1 := []) (ES.if ((orW (ET.cmp ok_is (EB.var 3) (EV.b (EV.non))) (orW (ET.cmp ok_is (EB.var 4) (EV.b (EV.non))) (ET.or1 (ET.cmp (ok_lt hr) (EB.var 4) (EB.var 3))))).pt) (ESs.one (ES.ret (EV.non))) (ESs.nil))
    (ESs.one (ES.ret (EV.sub (EB.var 4) (EB.var 3)))))
/-! part_of -/
abbrev st_part_of : Stmt := topS 8
abbrev N_part_of : List Str := ["line", "one", "other", "stops", "first", "last"]
theorem sc_part_of : FnScope N_part_of ["line", "one", "other"] (defScope st_part_of) := ⟨rfl, rfl, rfl, by decide +kernel, rfl, by decide +kernel, by decide +kernel⟩
def b_part_of : S :=
    sSeq (sIf (tCmp inAD (cCall f_between [cVar 0, cVar 1, cVar 2]) (cTup [cK .none, cK (.int 0)])) (sRet (cK .none)) (sPass))
    (sSeq (sSet (gName 3) (cCall f_stops_on [cVar 0]))
    (sSeq (sPar [gName 4, gName 5] [cOp2 indexD (cVar 3) (cVar 1), cOp2 indexD (cVar 3) (cVar 2)])
    (sRet (cOp2 addD (cTup [cTup [cVar 1, cK (.int 0)]]) (cCut (cVar 0) (some (cOp2 addD (cVar 4) (cK (.int 1)))) (some (cOp2 addD (cVar 5) (cK (.int 1)))))))))
def f_part_of : Fn := bodyFn 3 3 b_part_of
theorem d_part_of (B : Bi mg) (Dd : Df K mg "part_of" st_part_of ["line", "one", "other"]) (o_between : Ok K mg true P w base 3 "between" ["line", "one", "other"] 3 f_between) (o_stops_on : Ok K mg true P w base 1 "stops_on" ["line"] 1 f_stops_on) : Ok K mg true P w base 4 "part_of" ["line", "one", "other"] 3 f_part_of :=
  ok_of (O' := []) Dd sc_part_of fun f cdv A outer s H E hr => ESs.cons (O1 := []) (ES.if (ET.cmp (ok_inA hr) (EV.b (EV.callO o_between (hr.mono (by decide)) (EA.cons (EV.var 0) (EA.cons (EV.var 1) (EA.cons (EV.var 2) (EA.nil)))))) (EV.b (EV.tup (EA.cons (EV.non) (EA.cons (EV.int) (EA.nil)))))) (ESs.one (ES.ret (EV.non))) (ESs.nil))
    (ESs.cons (O1 := []) (ES.set (EV.callO o_stops_on (hr.mono (by decide)) (EA.cons (EV.var 0) (EA.nil))) (GG.name 3 sc_part_of.nd))
    (ESs.cons (O1 := []) (ES.par2 (ks := [false, false]) 4 5 rfl sc_part_of.nd (EM.consV (EV.index hr (EB.var 3) (EB.var 1)) (EM.consV (EV.index hr (EB.var 3) (EB.var 2)) (EM.nil))))
    (ESs.one (ES.ret (EV.add (EV.b (EV.tup (EA.cons (EV.tup (EA.cons (EV.var 1) (EA.cons (EV.int) (EA.nil)))) (EA.nil)))) (EV.b (EV.cut (EB.var 0) (EP.some (EV.b (EV.add (EB.var 4) (EV.b (EV.int))))) (EP.some (EV.b (EV.add (EB.var 5) (EV.b (EV.int))))))))))))
/-! part_line -/
abbrev st_part_line : Stmt := topS 18
abbrev N_part_line : List Str := ["line", "stop"]
theorem sc_part_line : FnScope N_part_line ["line", "stop"] (defScope st_part_line) := ⟨rfl, rfl, rfl, by decide +kernel, rfl, by decide +kernel, by decide +kernel⟩
def b_part_line : S :=
    sRet (cCall f_part_of [cVar 0, cOp2 ixAD (cOp2 ixAD (cVar 0) (cK (.int 0))) (cK (.int 0)), cVar 1])
def f_part_line : Fn := bodyFn 2 0 b_part_line
theorem d_part_line (B : Bi mg) (Dd : Df K mg "part_line" st_part_line ["line", "stop"]) (o_part_of : Ok K mg true P w base 4 "part_of" ["line", "one", "other"] 3 f_part_of) : Ok K mg true P w base 5 "part_line" ["line", "stop"] 2 f_part_line :=
  ok_of (O' := []) Dd sc_part_line fun f cdv A outer s H E hr => ESs.one (ES.ret (EV.callO o_part_of (hr.mono (by decide)) (EA.cons (EV.var 0) (EA.cons (EV.ixA hr (EV.b (EV.ixA hr (EB.var 0) (EV.b (EV.int)))) (EV.b (EV.int))) (EA.cons (EV.var 1) (EA.nil))))))
/-! every_other -/
abbrev st_every_other : Stmt := topS 19
abbrev N_every_other : List Str := ["many", "k"]
theorem sc_every_other : FnScope N_every_other ["many"] (defScope st_every_other) := ⟨rfl, rfl, rfl, by decide +kernel, rfl, by decide +kernel, by decide +kernel⟩
def b_every_other : S :=
    sRet (cOp1 tupD (cLc (itR1 (cVar 0)) (gName 1) (tYes) (cT (tCmp eqD (cOp2 modD (cVar 1) (cK (.int 2))) (cK (.int 0)))) [1]))
def f_every_other : Fn := bodyFn 1 1 b_every_other
theorem d_every_other (B : Bi mg) (Dd : Df K mg "every_other" st_every_other ["many"])  : Ok K mg true P w base 1 "every_other" ["many"] 1 f_every_other :=
  ok_of (O' := []) Dd sc_every_other fun f cdv A outer s H E hr => ESs.one (ES.ret (EV.tuple B.b_tuple (EO.b (EO.lc (own := [("k", 1)]) rfl sc_every_other.nd (EI.r1 B.b_range (EB.var 0)) (blkOk_by (N := N_every_other) (sc := defScope st_every_other) (own := [("k", 1)]) (by decide +kernel)) (fun _ _ _ _ _ => GG.name 1 sc_every_other.nd) (fun _ _ _ _ _ => tests0) (fun _ _ _ _ _ => EV.cmp (ok_eq hr) (EV.b (EV.mod (EB.var 1) (EV.b (EV.int)))) (EV.b (EV.int)))))))
/-! divisor -/
abbrev st_divisor : Stmt := topS 1
abbrev N_divisor : List Str := ["a", "b"]
theorem sc_divisor : FnScope N_divisor ["a", "b"] (defScope st_divisor) := ⟨rfl, rfl, rfl, by decide +kernel, rfl, by decide +kernel, by decide +kernel⟩
def b_divisor_0 : S :=
    sPar [gName 0, gName 1] [cVar 1, cOp2 modD (cVar 0) (cVar 1)]
def b_divisor : S :=
    sSeq (sWhile (tCmp neD (cVar 1) (cK (.int 0))) (b_divisor_0) [] 1000000)
    (sRet (cIf (tCmp neD (cVar 0) (cK (.int 0))) (cVar 0) (cK (.int 1))))
def f_divisor : Fn := bodyFn 2 0 b_divisor
theorem d_divisor (B : Bi mg) (Dd : Df K mg "divisor" st_divisor ["a", "b"])  : Ok K mg true P w base 1 "divisor" ["a", "b"] 2 f_divisor :=
  ok_of (O' := []) Dd sc_divisor fun f cdv A outer s H E hr => ESs.cons (O1 := []) (ES.while (Oh := []) (Ob := []) (O' := []) [] 1000000 PassesOwn.never (ET.cmp (ok_ne hr) (EB.var 1) (EV.b (EV.int))) (ESs.one (ES.par2 (ks := [false, false]) 0 1 rfl sc_divisor.nd (EM.consV (EV.var 1) (EM.consV (EV.mod (EB.var 0) (EB.var 1)) (EM.nil))))))
    (ESs.one (ES.ret (EV.if (ET.cmp (ok_ne hr) (EB.var 0) (EV.b (EV.int))) (EV.var 0) (EV.int))))
/-! fraction -/
abbrev st_fraction : Stmt := topS 2
abbrev N_fraction : List Str := ["a", "b", "common"]
theorem sc_fraction : FnScope N_fraction ["a", "b"] (defScope st_fraction) := ⟨rfl, rfl, rfl, by decide +kernel, rfl, by decide +kernel, by decide +kernel⟩
def b_fraction : S :=
    sSeq (sSet (gName 2) (cOp2 mulI (cCall f_divisor [cOp1 absD (cVar 0), cOp1 absD (cVar 1)]) (cIf (tCmp gtD (cVar 1) (cK (.int 0))) (cK (.int 1)) (cOp1 negD (cK (.int 1))))))
    (sRet (cTup [cOp2 divD (cVar 0) (cVar 2), cOp2 divD (cVar 1) (cVar 2)]))
def f_fraction : Fn := bodyFn 2 1 b_fraction
theorem d_fraction (B : Bi mg) (Dd : Df K mg "fraction" st_fraction ["a", "b"]) (o_divisor : Ok K mg true P w base 1 "divisor" ["a", "b"] 2 f_divisor) : Ok K mg true P w base 2 "fraction" ["a", "b"] 2 f_fraction :=
  ok_of (O' := []) Dd sc_fraction fun f cdv A outer s H E hr => ESs.cons (O1 := []) (ES.set (EV.mul (EV.b (EV.callO o_divisor (hr.mono (by decide)) (EA.cons (EV.abs B.b_abs (EB.var 0)) (EA.cons (EV.abs B.b_abs (EB.var 1)) (EA.nil))))) (EV.b (EV.if (ET.cmp (ok_gt hr) (EB.var 1) (EV.b (EV.int))) (EV.int) (EV.neg (EV.b (EV.int)))))) (GG.name 2 sc_fraction.nd))
    (ESs.one (ES.ret (EV.tup (EA.cons (EV.div (EB.var 0) (EB.var 2)) (EA.cons (EV.div (EB.var 1) (EB.var 2)) (EA.nil))))))
/-! mean_gap_behind -/
abbrev st_mean_gap_behind : Stmt := topS 20
abbrev N_mean_gap_behind : List Str := ["gap", "goes", "many", "one"]
theorem sc_mean_gap_behind : FnScope N_mean_gap_behind ["gap", "goes"] (defScope st_mean_gap_behind) := ⟨rfl, rfl, rfl, by decide +kernel, rfl, by decide +kernel, by decide +kernel⟩
def b_mean_gap_behind : S :=
    sSeq (sSet (gName 2) (cOp1 lenD (cLc (itSeq (cVar 1)) (gName 3) (tVal (cVar 3)) (cK (.int 1)) [3])))
    (sRet (cIf (tCmp gtD (cVar 2) (cK (.int 0))) (cCall f_fraction [cOp2 mulI (cVar 0) (cOp1 lenD (cVar 1)), cVar 2]) (cK .none)))
def f_mean_gap_behind : Fn := bodyFn 2 2 b_mean_gap_behind
theorem d_mean_gap_behind (B : Bi mg) (Dd : Df K mg "mean_gap_behind" st_mean_gap_behind ["gap", "goes"]) (o_fraction : Ok K mg true P w base 2 "fraction" ["a", "b"] 2 f_fraction) : Ok K mg true P w base 3 "mean_gap_behind" ["gap", "goes"] 2 f_mean_gap_behind :=
  ok_of (O' := []) Dd sc_mean_gap_behind fun f cdv A outer s H E hr => ESs.cons (O1 := []) (ES.set (EV.len B.len (EO.b (EO.lc (own := [("one", 3)]) rfl sc_mean_gap_behind.nd (EI.seq (EV.var 1)) (blkOk_by (N := N_mean_gap_behind) (sc := defScope st_mean_gap_behind) (own := [("one", 3)]) (by decide +kernel)) (fun _ _ _ _ _ => GG.name 3 sc_mean_gap_behind.nd) (fun _ _ _ _ _ => tests1 (ET.val (EB.var 3))) (fun _ _ _ _ _ => EV.int)))) (GG.name 2 sc_mean_gap_behind.nd))
    (ESs.one (ES.ret (EV.if (ET.cmp (ok_gt hr) (EB.var 2) (EV.b (EV.int))) (EV.callO o_fraction (hr.mono (by decide)) (EA.cons (EV.mul (EB.var 0) (EV.b (EV.len B.len (EB.var 1)))) (EA.cons (EV.var 2) (EA.nil)))) (EV.non))))
/-! _law_fraction -/
abbrev st__law_fraction : Stmt := topS 26
abbrev N__law_fraction : List Str := ["a", "b", "x", "y"]
theorem sc__law_fraction : FnScope N__law_fraction ["a", "b"] (defScope st__law_fraction) := ⟨rfl, rfl, rfl, by decide +kernel, rfl, by decide +kernel, by decide +kernel⟩
def b_law_fraction_0 : S :=
    sPar [gName 2, gName 3] [cVar 3, cOp2 modD (cVar 2) (cVar 3)]
def b_law_fraction : S :=
    sSeq (sPar [gName 2, gName 3] [cOp1 absD (cVar 0), cOp1 absD (cVar 1)])
    (sSeq (sWhile (tCmp neD (cVar 3) (cK (.int 0))) (b_law_fraction_0) [] 1000000)
    (sRet (cIf (tCmp gtD (cVar 1) (cK (.int 0))) (cTup [cOp2 divD (cVar 0) (cVar 2), cOp2 divD (cVar 1) (cVar 2)]) (cTup [cOp2 subD (cK (.int 0)) (cOp2 divD (cVar 0) (cVar 2)), cOp2 subD (cK (.int 0)) (cOp2 divD (cVar 1) (cVar 2))]))))
def f_law_fraction : Fn := bodyFn 2 2 b_law_fraction
theorem d__law_fraction (B : Bi mg) (Dd : Df K mg "_law_fraction" st__law_fraction ["a", "b"])  : Ok K mg true P w base 1 "_law_fraction" ["a", "b"] 2 f_law_fraction :=
  ok_of (O' := []) Dd sc__law_fraction fun f cdv A outer s H E hr => ESs.cons (O1 := []) (ES.par2 (ks := [false, false]) 2 3 rfl sc__law_fraction.nd (EM.consV (EV.abs B.b_abs (EB.var 0)) (EM.consV (EV.abs B.b_abs (EB.var 1)) (EM.nil))))
    (ESs.cons (O1 := []) (ES.while (Oh := []) (Ob := []) (O' := []) [] 1000000 PassesOwn.never (ET.cmp (ok_ne hr) (EB.var 3) (EV.b (EV.int))) (ESs.one (ES.par2 (ks := [false, false]) 2 3 rfl sc__law_fraction.nd (EM.consV (EV.var 3) (EM.consV (EV.mod (EB.var 2) (EB.var 3)) (EM.nil))))))
    (ESs.one (ES.ret (EV.if (ET.cmp (ok_gt hr) (EB.var 1) (EV.b (EV.int))) (EV.tup (EA.cons (EV.div (EB.var 0) (EB.var 2)) (EA.cons (EV.div (EB.var 1) (EB.var 2)) (EA.nil)))) (EV.tup (EA.cons (EV.sub (EV.b (EV.int)) (EV.b (EV.div (EB.var 0) (EB.var 2)))) (EA.cons (EV.sub (EV.b (EV.int)) (EV.b (EV.div (EB.var 1) (EB.var 2)))) (EA.nil))))))))
/-! law -/
abbrev st_law : Stmt := topS 30
abbrev N_law : List Str := [("script" : Str), ("w" : Str), ("turn" : Str), ("lines" : Str), ("line" : Str), ("stops" : Str), ("late" : Str), ("stand" : Str), ("later" : Str), ("riders" : Str), ("back" : Str), ("k" : Str), ("i" : Str), ("j" : Str), ("people" : Str), ("inner" : Str), ("able" : Str), ("costs" : Str), ("stop" : Str), ("at" : Str), ("rest" : Str), ("best" : Str), ("own" : Str), ("begin" : Str), ("now" : Str), ("rows" : Str), ("streets" : Str), ("many" : Str), ("gap" : Str), ("goes" : Str), ("on" : Str), ("minutes" : Str), ("one" : Str), ("other" : Str)]
theorem sc_law : FnScope N_law ["script"] (defScope st_law) := ⟨rfl, rfl, rfl, by decide +kernel, rfl, by decide +kernel, by decide +kernel⟩
def b_law_0 : S :=
    sSeq (sSet (gName 12) (cCall fnNext [cVar 1, cOp2 subD (cOp1 lenD (cVar 5)) (cK (.int 1))]))
    (sSeq (sSet (gName 13) (cOp2 addD (cOp2 addD (cVar 12) (cK (.int 1))) (cCall fnNext [cVar 1, cOp2 subD (cOp2 subD (cOp1 lenD (cVar 5)) (cVar 12)) (cK (.int 1))])))
    (sSeq (sSet (gName 14) (cOp2 addD (cK (.int 1)) (cCall fnNext [cVar 1, cK (.int 9)])))
    (sPar [gName 9, gName 10] [cOp2 catD (cVar 9) (cLst [cTup [cOp2 ixAD (cVar 5) (cVar 12), cOp2 ixAD (cVar 5) (cVar 13), cVar 14]]), cOp2 catD (cVar 10) (cLst [cTup [cOp2 ixAD (cVar 5) (cVar 13), cOp2 ixAD (cVar 5) (cVar 12), cOp2 addD (cK (.int 1)) (cCall fnNext [cVar 1, cK (.int 9)])]])])))
def b_law_1 : S :=
    sSeq (sSet (gName 19) (cOp2 indexD (cVar 5) (cVar 18)))
    (sSeq (sSet (gName 20) (cOp1 sumD (cLc (itSeq (cCut (cVar 4) (some (cOp2 addD (cVar 19) (cK (.int 1)))) none)) (gTup [gName 22, gName 31]) (tYes) (cVar 31) [22, 31])))
    (sSeq (sIf (tNot (tVal (cCall (f_law_same 12) [cCall f_saved_at [cVar 4, cVar 18, cVar 7], cOp2 addD (cOp2 mulI (cK (.int 2)) (cVar 20)) (cVar 7)]))) (sRet (cK (.bool false))) (sPass))
    (sSeq (sSet (gName 16) (cOp2 catD (cVar 16) (cIf (tAnd (tCmp inAD (cVar 18) (cVar 15)) (tCmp geD (cOp2 addD (cOp2 mulI (cK (.int 2)) (cVar 20)) (cVar 7)) (cVar 6))) (cLst [cVar 18]) (cLst []))))
    (sIf (tNot (tVal (cCall (f_law_same 12) [cCall f_lost_riders [cVar 4, cOp1 tupD (cVar 9), cVar 18], cOp1 sumD (cLc (itSeq (cVar 9)) (gTup [gName 32, gName 33, gName 14]) (tCmp gtD (cOp2 indexD (cVar 5) (cVar 33)) (cVar 19)) (cVar 14) [32, 33, 14])]))) (sRet (cK (.bool false))) (sPass)))))
def b_law_2 : S :=
    sSeq (sSet (gName 22) (cCall f_law_cost [cVar 4, cVar 9, cVar 10, cVar 6, cVar 7, cVar 8, cVar 18]))
    (sSeq (sIf (tNot (tVal (cCall (f_law_same 12) [cCall f_cost_of_turn [cVar 4, cOp1 tupD (cVar 9), cOp1 tupD (cVar 10), cVar 6, cVar 7, cVar 8, cVar 18], cVar 22]))) (sRet (cK (.bool false))) (sPass))
    (sSet (gName 21) (cIf (tOr (tCmp isND (cVar 21) (cK .none)) (tCmp ltD (cVar 22) (cOp2 ixAD (cVar 21) (cK (.int 0))))) (cTup [cVar 22, cVar 18]) (cVar 21))))
def b_law_3 : S :=
    sSeq (sAugN 24 addI (cOp2 ixAD (cOp2 ixAD (cVar 4) (cVar 11)) (cK (.int 1))))
    (sApp 25 (cTup [cOp2 ixAD (cVar 5) (cVar 11), cVar 24]))
def b_law_4 : S :=
    sSeq (sAugN 24 addI (cOp2 ixAD (cOp2 ixAD (cVar 4) (cVar 11)) (cK (.int 1))))
    (sApp 25 (cTup [cOp2 ixAD (cVar 5) (cOp2 subD (cVar 11) (cK (.int 1))), cVar 24]))
def b_law_5 : S :=
    sSeq (sSet (gName 3) (cCall f_law_lines [cVar 1, cK (.int 2)]))
    (sSeq (sSet (gName 4) (cIf (tCmp inAD (cK (.str "moon")) (cVar 3)) (cOp2 ixAD (cVar 3) (cK (.str "moon"))) (cTup [cTup [cK (.str "a"), cK (.int 0)], cTup [cK (.str "b"), cK (.int 4)], cTup [cK (.str "c"), cK (.int 3)]])))
    (sSeq (sPar [gName 5, gName 6, gName 7, gName 8] [cCall f_law_stops [cVar 4], cOp2 addD (cK (.int 1)) (cCall fnNext [cVar 1, cK (.int 40)]), cCall fnNext [cVar 1, cK (.int 9)], cOp2 addD (cK (.int 1)) (cCall fnNext [cVar 1, cK (.int 30)])])
    (sSeq (sPar [gName 9, gName 10] [cLst [], cLst []])
    (sSeq (sFor (itR1 (cCall fnNext [cVar 1, cK (.int 6)])) (gName 11) (b_law_0) [11, 12, 13, 14])
    (sSeq (sPar [gName 15, gName 16, gName 17] [cCut (cVar 5) (some (cK (.int 1))) (some (cOp2 subD (cOp1 lenD (cVar 5)) (cK (.int 1)))), cLst [], cLst []])
    (sSeq (sFor (itSeq (cVar 5)) (gName 18) (b_law_1) [18, 19, 20])
    (sSeq (sIf (tNot (tVal (cCall (f_law_same 12) [cCall f_turn_stop [cVar 4, cVar 6, cVar 7], cIf (tCmp neD (cVar 16) (cLst [])) (cOp2 ixAD (cVar 16) (cOp2 subD (cOp1 lenD (cVar 16)) (cK (.int 1)))) (cK .none)]))) (sRet (cK (.bool false))) (sPass))
    (sSeq (sSet (gName 21) (cK .none))
    (sSeq (sFor (itSeq (cOp2 catD (cLst [cK .none]) (cOp1 revD (cVar 15)))) (gName 18) (b_law_2) [18, 22])
    (sSeq (sIf (tNot (tVal (cCall (f_law_same 12) [cCall f_best_turn [cVar 4, cOp1 tupD (cVar 9), cOp1 tupD (cVar 10), cVar 6, cVar 7, cVar 8], cVar 21]))) (sRet (cK (.bool false))) (sPass))
    (sSeq (sPar [gName 23, gName 18] [cCall fnNext [cVar 1, cK (.int 60)], cCall f_law_pick [cVar 1, cVar 5]])
    (sSeq (sPar [gName 19, gName 24, gName 25] [cOp2 indexD (cVar 5) (cVar 18), cVar 23, cLst [cTup [cOp2 ixAD (cVar 5) (cK (.int 0)), cVar 23]]])
    (sSeq (sFor (itR2 (cK (.int 1)) (cOp2 addD (cVar 19) (cK (.int 1)))) (gName 11) (b_law_3) [11])
    (sSeq (sFor (itR3 (cVar 19) (cK (.int 0)) (cOp1 negD (cK (.int 1)))) (gName 11) (b_law_4) [11])
    (sSeq (sIf (tNot (tVal (cCall (f_law_same 12) [cCall f_turned_rows [cVar 4, cVar 23, cVar 18], cOp1 tupD (cVar 25)]))) (sRet (cK (.bool false))) (sPass))
    (sSeq (sSet (gName 26) (cOp1 tupD (cLc (itStr (cK (.str "abcdef"))) (gName 22) (tCmp eqD (cCall fnNext [cVar 1, cK (.int 2)]) (cK (.int 0))) (cVar 22) [22])))
    (sSeq (sIf (tNot (tVal (cCall (f_law_same 12) [cCall f_turn_stops [cVar 4, cVar 26], cOp1 tupD (cLc (itSeq (cVar 15)) (gName 22) (tCmp inAD (cVar 22) (cVar 26)) (cVar 22) [22])]))) (sRet (cK (.bool false))) (sPass))
    (sSeq (sIf (tNot (tVal (cCall (f_law_same 12) [cCall f_part_line [cVar 4, cVar 18], cIf (tCmp gtD (cVar 19) (cK (.int 0))) (cCut (cVar 4) none (some (cOp2 addD (cVar 19) (cK (.int 1))))) (cK .none)]))) (sRet (cK (.bool false))) (sPass))
    (sSeq (sPar [gName 27, gName 28] [cCall fnNext [cVar 1, cK (.int 7)], cOp2 addD (cK (.int 1)) (cCall fnNext [cVar 1, cK (.int 30)])])
    (sSeq (sSet (gName 29) (cOp1 tupD (cLc (itR1 (cCall fnNext [cVar 1, cK (.int 6)])) (gName 11) (tYes) (cT (tCmp eqD (cCall fnNext [cVar 1, cK (.int 2)]) (cK (.int 0)))) [11])))
    (sSeq (sIf (tNot (tVal (cCall (f_law_same 12) [cCall f_every_other [cVar 27], cOp1 tupD (cLc (itR1 (cVar 27)) (gName 11) (tYes) (cT (tCmp eqD (cOp2 mulI (cOp2 divD (cVar 11) (cK (.int 2))) (cK (.int 2))) (cVar 11))) [11])]))) (sRet (cK (.bool false))) (sPass))
    (sSeq (sSet (gName 30) (cOp1 lenD (cLc (itSeq (cVar 29)) (gName 22) (tVal (cVar 22)) (cK (.int 1)) [22])))
    (sIf (tNot (tVal (cCall (f_law_same 12) [cCall f_mean_gap_behind [cVar 28, cVar 29], cIf (tCmp gtD (cVar 30) (cK (.int 0))) (cCall f_law_fraction [cOp2 mulI (cVar 28) (cOp1 lenD (cVar 29)), cVar 30]) (cK .none)]))) (sRet (cK (.bool false))) (sPass))))))))))))))))))))))))
def e_law : E := cCall f_law_draws [cVar 0, cK (.int 400)]
def b_law : S :=
    sSeq (sFor (itR1 (cK (.int 6))) (gName 2) (b_law_5) [2, 3, 4, 5, 6, 7, 8, 9, 10, 11, 12, 13, 14, 15, 16, 17, 18, 19, 20, 21, 22, 23, 24, 25, 26, 27, 28, 29, 30])
    (sRet (cK (.bool true)))
set_option maxHeartbeats 0 in
theorem d_law (B : Bi mg) {f : Addr} {fd : FuncData} (Fd : Fun K "law" "law" st_law f fd) (o__law_draws : Ok K mg true P w base 1 "_law_draws" ["script", "many"] 2 f_law_draws) (o__law_lines : Ok K mg true P w base 2 "_law_lines" ["w", "most"] 2 f_law_lines) (o__law_stops : Ok K mg true P w base 1 "_law_stops" ["line"] 1 f_law_stops) (o__law_next : Ok K mg true P w base 1 "_law_next" ["w", "many"] 2 fnNext) (o__law_same : Ok K mg true P w base 13 "_law_same" ["seen", "due"] 2 (f_law_same 12)) (o_saved_at : Ok K mg true P w base 3 "saved_at" ["line", "stop", "stand"] 3 f_saved_at) (o_lost_riders : Ok K mg true P w base 3 "lost_riders" ["line", "riders", "stop"] 3 f_lost_riders) (o_turn_stop : Ok K mg true P w base 4 "turn_stop" ["line", "late", "stand"] 3 f_turn_stop) (o__law_cost : Ok K mg true P w base 2 "_law_cost" ["line", "riders", "back", "late", "stand", "later", "stop"] 7 f_law_cost) (o_cost_of_turn : Ok K mg true P w base 4 "cost_of_turn" ["line", "riders", "back", "late", "stand", "later", "stop"] 7 f_cost_of_turn) (o_best_turn : Ok K mg true P w base 5 "best_turn" ["line", "riders", "back", "late", "stand", "later"] 6 f_best_turn) (o__law_pick : Ok K mg true P w base 2 "_law_pick" ["w", "rows"] 2 f_law_pick) (o_turned_rows : Ok K mg true P w base 2 "turned_rows" ["line", "begin", "stop"] 3 f_turned_rows) (o_turn_stops : Ok K mg true P w base 3 "turn_stops" ["line", "streets"] 2 f_turn_stops) (o_part_line : Ok K mg true P w base 5 "part_line" ["line", "stop"] 2 f_part_line) (o_every_other : Ok K mg true P w base 1 "every_other" ["many"] 1 f_every_other) (o_mean_gap_behind : Ok K mg true P w base 3 "mean_gap_behind" ["gap", "goes"] 2 f_mean_gap_behind) (o__law_fraction : Ok K mg true P w base 1 "_law_fraction" ["a", "b"] 2 f_law_fraction)
    (math : ∀ ns : List Int, ns.length ≤ 63 → ∃ l w', e_law (some (tokS ns) :: List.replicate 33 none) none = some (.list (l.map .int), none) ∧ b_law ((some (tokS ns) :: List.replicate 33 none).set 1 (some tokW)) (some l) = some (.rt (.bool true), w')) :
    FnOk P w K mg base CX0 14 f fd ["script"] (spLaw K 63) :=
  law_ok (O' := []) Fd sc_law rfl rfl (by first | exact Or.inl rfl | exact Or.inr rfl) (fun cdv A outer s H E hr => EV.callO o__law_draws (hr.mono (by decide)) (EA.cons (EV.var 0) (EA.cons (EV.int) (EA.nil)))) (fun cdv A outer s H E hr => ESs.cons (O1 := []) (ES.for (Oh := []) (Ob := [25]) (O' := []) [2, 3, 4, 5, 6, 7, 8, 9, 10, 11, 12, 13, 14, 15, 16, 17, 18, 19, 20, 21, 22, 23, 24, 25, 26, 27, 28, 29, 30] PassesOwn.never rfl (EI.r1 B.b_range (EV.b (EV.int))) (GG.name 2 sc_law.nd) (ESs.cons (O1 := []) (ES.set (EV.callO o__law_lines (hr.mono (by decide)) (EA.cons (EV.var 1) (EA.cons (EV.int) (EA.nil)))) (GG.name 3 sc_law.nd))
    (ESs.cons (O1 := []) (ES.set (EV.if (ET.cmp (ok_inA hr) (EV.b (EV.str)) (EB.var 3)) (EV.ixA hr (EB.var 3) (EV.b (EV.str))) (EV.tup (EA.cons (EV.tup (EA.cons (EV.str) (EA.cons (EV.int) (EA.nil)))) (EA.cons (EV.tup (EA.cons (EV.str) (EA.cons (EV.int) (EA.nil)))) (EA.cons (EV.tup (EA.cons (EV.str) (EA.cons (EV.int) (EA.nil)))) (EA.nil)))))) (GG.name 4 sc_law.nd))
    (ESs.cons (O1 := []) (ES.parN (ks := [false, false, false, false]) [5, 6, 7, 8] rfl (EM.consV (EV.callO o__law_stops (hr.mono (by decide)) (EA.cons (EV.var 4) (EA.nil))) (EM.consV (EV.add (EV.b (EV.int)) (EV.b (EV.callO o__law_next (hr.mono (by decide)) (EA.cons (EV.var 1) (EA.cons (EV.int) (EA.nil)))))) (EM.consV (EV.callO o__law_next (hr.mono (by decide)) (EA.cons (EV.var 1) (EA.cons (EV.int) (EA.nil)))) (EM.consV (EV.add (EV.b (EV.int)) (EV.b (EV.callO o__law_next (hr.mono (by decide)) (EA.cons (EV.var 1) (EA.cons (EV.int) (EA.nil)))))) (EM.nil))))) (GS.cons 5 sc_law.nd (GS.cons 6 sc_law.nd (GS.cons 7 sc_law.nd (GS.cons 8 sc_law.nd (GS.nil))))))
    (ESs.cons (O1 := []) (ES.par2 (ks := [false, false]) 9 10 rfl sc_law.nd (EM.consV (EO.v (EO.lst (EA.nil))) (EM.consV (EO.v (EO.lst (EA.nil))) (EM.nil))))
    (ESs.cons (O1 := []) (ES.for (Oh := []) (Ob := []) (O' := []) [11, 12, 13, 14] PassesOwn.never rfl (EI.r1 B.b_range (EV.b (EV.callO o__law_next (hr.mono (by decide)) (EA.cons (EV.var 1) (EA.cons (EV.int) (EA.nil)))))) (GG.name 11 sc_law.nd) (ESs.cons (O1 := []) (ES.set (EV.callO o__law_next (hr.mono (by decide)) (EA.cons (EV.var 1) (EA.cons (EV.sub (EV.b (EV.len B.len (EB.var 5))) (EV.b (EV.int))) (EA.nil)))) (GG.name 12 sc_law.nd))
    (ESs.cons (O1 := []) (ES.set (EV.add (EV.b (EV.add (EB.var 12) (EV.b (EV.int)))) (EV.b (EV.callO o__law_next (hr.mono (by decide)) (EA.cons (EV.var 1) (EA.cons (EV.sub (EV.b (EV.sub (EV.b (EV.len B.len (EB.var 5))) (EB.var 12))) (EV.b (EV.int))) (EA.nil)))))) (GG.name 13 sc_law.nd))
    (ESs.cons (O1 := []) (ES.set (EV.add (EV.b (EV.int)) (EV.b (EV.callO o__law_next (hr.mono (by decide)) (EA.cons (EV.var 1) (EA.cons (EV.int) (EA.nil)))))) (GG.name 14 sc_law.nd))
    (ESs.one (ES.par2 (ks := [false, false]) 9 10 rfl sc_law.nd (EM.consV (EO.v (EO.cat (EB.var 9) (EO.b (EO.lst (EA.cons (EV.tup (EA.cons (EV.ixA hr (EB.var 5) (EB.var 12)) (EA.cons (EV.ixA hr (EB.var 5) (EB.var 13)) (EA.cons (EV.var 14) (EA.nil))))) (EA.nil)))))) (EM.consV (EO.v (EO.cat (EB.var 10) (EO.b (EO.lst (EA.cons (EV.tup (EA.cons (EV.ixA hr (EB.var 5) (EB.var 13)) (EA.cons (EV.ixA hr (EB.var 5) (EB.var 12)) (EA.cons (EV.add (EV.b (EV.int)) (EV.b (EV.callO o__law_next (hr.mono (by decide)) (EA.cons (EV.var 1) (EA.cons (EV.int) (EA.nil)))))) (EA.nil))))) (EA.nil)))))) (EM.nil)))))))))
    (ESs.cons (O1 := []) (ES.par3 (ks := [false, false, false]) 15 16 17 rfl sc_law.nd (EM.consV (EV.cut (EB.var 5) (EP.some (EV.b (EV.int))) (EP.some (EV.b (EV.sub (EV.b (EV.len B.len (EB.var 5))) (EV.b (EV.int)))))) (EM.consV (EO.v (EO.lst (EA.nil))) (EM.consV (EO.v (EO.lst (EA.nil))) (EM.nil)))))
    (ESs.cons (O1 := []) (ES.for (Oh := []) (Ob := []) (O' := []) [18, 19, 20] PassesOwn.never rfl (EI.seq (EV.var 5)) (GG.name 18 sc_law.nd) (ESs.cons (O1 := []) (ES.set (EV.index hr (EB.var 5) (EB.var 18)) (GG.name 19 sc_law.nd))
    (ESs.cons (O1 := []) (ES.set (EV.sum B.b_sum rfl (EO.b (EO.lc (own := [("own", 22), ("minutes", 31)]) rfl sc_law.nd (EI.seq (EV.cut (EB.var 4) (EP.some (EV.b (EV.add (EB.var 19) (EV.b (EV.int))))) EP.none)) (blkOk_by (N := N_law) (sc := defScope st_law) (own := [("own", 22), ("minutes", 31)]) (by decide +kernel)) (fun _ _ _ _ _ => GG.tup rfl (GG.cons (GG.name 22 sc_law.nd) (GG.cons (GG.name 31 sc_law.nd) (GG.nil)))) (fun _ _ _ _ _ => tests0) (fun _ _ _ _ _ => EV.var 31)))) (GG.name 20 sc_law.nd))
    (ESs.cons (O1 := []) (ES.if (ET.not (ET.val (EV.b (EV.callO o__law_same (hr.mono (by decide)) (EA.cons (EV.callO o_saved_at (hr.mono (by decide)) (EA.cons (EV.var 4) (EA.cons (EV.var 18) (EA.cons (EV.var 7) (EA.nil))))) (EA.cons (EV.add (EV.b (EV.mul (EV.b (EV.int)) (EB.var 20))) (EB.var 7)) (EA.nil))))))) (ESs.one (ES.ret (EV.bl))) (ESs.nil))
    (ESs.cons (O1 := []) (ES.set (EO.v (EO.cat (EB.var 16) (EV.b (EV.if ((andW (ET.cmp (ok_inA hr) (EB.var 18) (EB.var 15)) (ET.and1 (ET.cmp (ok_ge hr) (EV.b (EV.add (EV.b (EV.mul (EV.b (EV.int)) (EB.var 20))) (EB.var 7))) (EB.var 6)))).pt) (EO.v (EO.lst (EA.cons (EV.var 18) (EA.nil)))) (EO.v (EO.lst (EA.nil))))))) (GG.name 16 sc_law.nd))
    (ESs.one (ES.if (ET.not (ET.val (EV.b (EV.callO o__law_same (hr.mono (by decide)) (EA.cons (EV.callO o_lost_riders (hr.mono (by decide)) (EA.cons (EV.var 4) (EA.cons (EV.tuple B.b_tuple (EB.var 9)) (EA.cons (EV.var 18) (EA.nil))))) (EA.cons (EV.sum B.b_sum rfl (EO.b (EO.lc (own := [("one", 32), ("other", 33), ("people", 14)]) rfl sc_law.nd (EI.seq (EV.var 9)) (blkOk_by (N := N_law) (sc := defScope st_law) (own := [("one", 32), ("other", 33), ("people", 14)]) (by decide +kernel)) (fun _ _ _ _ _ => GG.tup rfl (GG.cons (GG.name 32 sc_law.nd) (GG.cons (GG.name 33 sc_law.nd) (GG.cons (GG.name 14 sc_law.nd) (GG.nil))))) (fun _ _ _ _ _ => tests1 (ET.cmp (ok_gt hr) (EV.b (EV.index hr (EB.var 5) (EB.var 33))) (EB.var 19))) (fun _ _ _ _ _ => EV.var 14)))) (EA.nil))))))) (ESs.one (ES.ret (EV.bl))) (ESs.nil))))))))
    (ESs.cons (O1 := []) (ES.if (ET.not (ET.val (EV.b (EV.callO o__law_same (hr.mono (by decide)) (EA.cons (EV.callO o_turn_stop (hr.mono (by decide)) (EA.cons (EV.var 4) (EA.cons (EV.var 6) (EA.cons (EV.var 7) (EA.nil))))) (EA.cons (EV.if (ET.cmp (ok_ne hr) (EB.var 16) (EO.b (EO.lst (EA.nil)))) (EV.ixA hr (EB.var 16) (EV.b (EV.sub (EV.b (EV.len B.len (EB.var 16))) (EV.b (EV.int))))) (EV.non)) (EA.nil))))))) (ESs.one (ES.ret (EV.bl))) (ESs.nil))
    (ESs.cons (O1 := []) (ES.set (EV.non) (GG.name 21 sc_law.nd))
    (ESs.cons (O1 := []) (ES.for (Oh := []) (Ob := []) (O' := []) [18, 22] PassesOwn.never rfl (EI.seq (EO.v (EO.cat (EO.b (EO.lst (EA.cons (EV.non) (EA.nil)))) (EO.b (EO.rev (EB.var 15)))))) (GG.name 18 sc_law.nd) (ESs.cons (O1 := []) (ES.set (EV.callO o__law_cost (hr.mono (by decide)) (EA.cons (EV.var 4) (EA.cons (EV.var 9) (EA.cons (EV.var 10) (EA.cons (EV.var 6) (EA.cons (EV.var 7) (EA.cons (EV.var 8) (EA.cons (EV.var 18) (EA.nil))))))))) (GG.name 22 sc_law.nd))
    (ESs.cons (O1 := []) (ES.if (ET.not (ET.val (EV.b (EV.callO o__law_same (hr.mono (by decide)) (EA.cons (EV.callO o_cost_of_turn (hr.mono (by decide)) (EA.cons (EV.var 4) (EA.cons (EV.tuple B.b_tuple (EB.var 9)) (EA.cons (EV.tuple B.b_tuple (EB.var 10)) (EA.cons (EV.var 6) (EA.cons (EV.var 7) (EA.cons (EV.var 8) (EA.cons (EV.var 18) (EA.nil))))))))) (EA.cons (EV.var 22) (EA.nil))))))) (ESs.one (ES.ret (EV.bl))) (ESs.nil))
    (ESs.one (ES.set (EV.if ((orW (ET.cmp ok_is (EB.var 21) (EV.b (EV.non))) (ET.or1 (ET.cmp (ok_lt hr) (EB.var 22) (EV.b (EV.ixA hr (EB.var 21) (EV.b (EV.int))))))).pt) (EV.tup (EA.cons (EV.var 22) (EA.cons (EV.var 18) (EA.nil)))) (EV.var 21)) (GG.name 21 sc_law.nd))))))
    (ESs.cons (O1 := []) (ES.if (ET.not (ET.val (EV.b (EV.callO o__law_same (hr.mono (by decide)) (EA.cons (EV.callO o_best_turn (hr.mono (by decide)) (EA.cons (EV.var 4) (EA.cons (EV.tuple B.b_tuple (EB.var 9)) (EA.cons (EV.tuple B.b_tuple (EB.var 10)) (EA.cons (EV.var 6) (EA.cons (EV.var 7) (EA.cons (EV.var 8) (EA.nil)))))))) (EA.cons (EV.var 21) (EA.nil))))))) (ESs.one (ES.ret (EV.bl))) (ESs.nil))
    (ESs.cons (O1 := []) (ES.par2 (ks := [false, false]) 23 18 rfl sc_law.nd (EM.consV (EV.callO o__law_next (hr.mono (by decide)) (EA.cons (EV.var 1) (EA.cons (EV.int) (EA.nil)))) (EM.consV (EV.callO o__law_pick (hr.mono (by decide)) (EA.cons (EV.var 1) (EA.cons (EV.var 5) (EA.nil)))) (EM.nil))))
    (ESs.cons (O1 := [25]) (ES.parN (ks := [false, false, true]) [19, 24, 25] rfl (EM.consV (EV.index hr (EB.var 5) (EB.var 18)) (EM.consV (EV.var 23) (EM.consO (EO.lst (EA.cons (EV.tup (EA.cons (EV.ixA hr (EB.var 5) (EV.b (EV.int))) (EA.cons (EV.var 23) (EA.nil)))) (EA.nil))) (EM.nil)))) (GS.cons 19 sc_law.nd (GS.cons 24 sc_law.nd (GS.cons 25 sc_law.nd (GS.nil)))))
    (ESs.cons (O1 := [25]) (ES.for (Oh := [25]) (Ob := [25]) (O' := [25]) [11] PassesOwn.never rfl (EI.r2 B.b_range (EV.b (EV.int)) (EV.b (EV.add (EB.var 19) (EV.b (EV.int))))) (GG.name 11 sc_law.nd) (ESs.cons (O1 := [25]) (ES.augAdd 24 sc_law.nd (EV.b (EV.ixA hr (EV.b (EV.ixA hr (EB.var 4) (EB.var 11))) (EV.b (EV.int)))))
    (ESs.one (ES.app 25 (EV.tup (EA.cons (EV.ixA hr (EB.var 5) (EB.var 11)) (EA.cons (EV.var 24) (EA.nil))))))))
    (ESs.cons (O1 := [25]) (ES.for (Oh := [25]) (Ob := [25]) (O' := [25]) [11] PassesOwn.never rfl (EI.r3 B.b_range (EB.var 19) (EV.b (EV.int)) (EV.b (EV.neg (EV.b (EV.int))))) (GG.name 11 sc_law.nd) (ESs.cons (O1 := [25]) (ES.augAdd 24 sc_law.nd (EV.b (EV.ixA hr (EV.b (EV.ixA hr (EB.var 4) (EB.var 11))) (EV.b (EV.int)))))
    (ESs.one (ES.app 25 (EV.tup (EA.cons (EV.ixA hr (EB.var 5) (EV.b (EV.sub (EB.var 11) (EV.b (EV.int))))) (EA.cons (EV.var 24) (EA.nil))))))))
    (ESs.cons (O1 := [25]) (ES.if (ET.not (ET.val (EV.b (EV.callO o__law_same (hr.mono (by decide)) (EA.cons (EV.callO o_turned_rows (hr.mono (by decide)) (EA.cons (EV.var 4) (EA.cons (EV.var 23) (EA.cons (EV.var 18) (EA.nil))))) (EA.cons (EV.tuple B.b_tuple (EB.var 25)) (EA.nil))))))) (ESs.one (ES.ret (EV.bl))) (ESs.nil))
    (ESs.cons (O1 := [25]) (ES.set (EV.tuple B.b_tuple (EO.b (EO.lc (own := [("own", 22)]) rfl sc_law.nd (EI.str (EV.b (EV.str))) (blkOk_by (N := N_law) (sc := defScope st_law) (own := [("own", 22)]) (by decide +kernel)) (fun _ _ _ _ _ => GG.name 22 sc_law.nd) (fun _ _ _ _ _ => tests1 (ET.cmp (ok_eq hr) (EV.b (EV.callO o__law_next (hr.mono (by decide)) (EA.cons (EV.var 1) (EA.cons (EV.int) (EA.nil))))) (EV.b (EV.int)))) (fun _ _ _ _ _ => EV.var 22)))) (GG.name 26 sc_law.nd))
    (ESs.cons (O1 := [25]) (ES.if (ET.not (ET.val (EV.b (EV.callO o__law_same (hr.mono (by decide)) (EA.cons (EV.callO o_turn_stops (hr.mono (by decide)) (EA.cons (EV.var 4) (EA.cons (EV.var 26) (EA.nil)))) (EA.cons (EV.tuple B.b_tuple (EO.b (EO.lc (own := [("own", 22)]) rfl sc_law.nd (EI.seq (EV.var 15)) (blkOk_by (N := N_law) (sc := defScope st_law) (own := [("own", 22)]) (by decide +kernel)) (fun _ _ _ _ _ => GG.name 22 sc_law.nd) (fun _ _ _ _ _ => tests1 (ET.cmp (ok_inA hr) (EB.var 22) (EB.var 26))) (fun _ _ _ _ _ => EV.var 22)))) (EA.nil))))))) (ESs.one (ES.ret (EV.bl))) (ESs.nil))
    (ESs.cons (O1 := [25]) (ES.if (ET.not (ET.val (EV.b (EV.callO o__law_same (hr.mono (by decide)) (EA.cons (EV.callO o_part_line (hr.mono (by decide)) (EA.cons (EV.var 4) (EA.cons (EV.var 18) (EA.nil)))) (EA.cons (EV.if (ET.cmp (ok_gt hr) (EB.var 19) (EV.b (EV.int))) (EV.cut (EB.var 4) EP.none (EP.some (EV.b (EV.add (EB.var 19) (EV.b (EV.int)))))) (EV.non)) (EA.nil))))))) (ESs.one (ES.ret (EV.bl))) (ESs.nil))
    (ESs.cons (O1 := [25]) (ES.par2 (ks := [false, false]) 27 28 rfl sc_law.nd (EM.consV (EV.callO o__law_next (hr.mono (by decide)) (EA.cons (EV.var 1) (EA.cons (EV.int) (EA.nil)))) (EM.consV (EV.add (EV.b (EV.int)) (EV.b (EV.callO o__law_next (hr.mono (by decide)) (EA.cons (EV.var 1) (EA.cons (EV.int) (EA.nil)))))) (EM.nil))))
    (ESs.cons (O1 := [25]) (ES.set (EV.tuple B.b_tuple (EO.b (EO.lc (own := [("k", 11)]) rfl sc_law.nd (EI.r1 B.b_range (EV.b (EV.callO o__law_next (hr.mono (by decide)) (EA.cons (EV.var 1) (EA.cons (EV.int) (EA.nil)))))) (blkOk_by (N := N_law) (sc := defScope st_law) (own := [("k", 11)]) (by decide +kernel)) (fun _ _ _ _ _ => GG.name 11 sc_law.nd) (fun _ _ _ _ _ => tests0) (fun _ _ _ _ _ => EV.cmp (ok_eq hr) (EV.b (EV.callO o__law_next (hr.mono (by decide)) (EA.cons (EV.var 1) (EA.cons (EV.int) (EA.nil))))) (EV.b (EV.int)))))) (GG.name 29 sc_law.nd))
    (ESs.cons (O1 := [25]) (ES.if (ET.not (ET.val (EV.b (EV.callO o__law_same (hr.mono (by decide)) (EA.cons (EV.callO o_every_other (hr.mono (by decide)) (EA.cons (EV.var 27) (EA.nil))) (EA.cons (EV.tuple B.b_tuple (EO.b (EO.lc (own := [("k", 11)]) rfl sc_law.nd (EI.r1 B.b_range (EB.var 27)) (blkOk_by (N := N_law) (sc := defScope st_law) (own := [("k", 11)]) (by decide +kernel)) (fun _ _ _ _ _ => GG.name 11 sc_law.nd) (fun _ _ _ _ _ => tests0) (fun _ _ _ _ _ => EV.cmp (ok_eq hr) (EV.b (EV.mul (EV.b (EV.div (EB.var 11) (EV.b (EV.int)))) (EV.b (EV.int)))) (EB.var 11))))) (EA.nil))))))) (ESs.one (ES.ret (EV.bl))) (ESs.nil))
    (ESs.cons (O1 := [25]) (ES.set (EV.len B.len (EO.b (EO.lc (own := [("own", 22)]) rfl sc_law.nd (EI.seq (EV.var 29)) (blkOk_by (N := N_law) (sc := defScope st_law) (own := [("own", 22)]) (by decide +kernel)) (fun _ _ _ _ _ => GG.name 22 sc_law.nd) (fun _ _ _ _ _ => tests1 (ET.val (EB.var 22))) (fun _ _ _ _ _ => EV.int)))) (GG.name 30 sc_law.nd))
    (ESs.one (ES.if (ET.not (ET.val (EV.b (EV.callO o__law_same (hr.mono (by decide)) (EA.cons (EV.callO o_mean_gap_behind (hr.mono (by decide)) (EA.cons (EV.var 28) (EA.cons (EV.var 29) (EA.nil)))) (EA.cons (EV.if (ET.cmp (ok_gt hr) (EB.var 30) (EV.b (EV.int))) (EV.callO o__law_fraction (hr.mono (by decide)) (EA.cons (EV.mul (EB.var 28) (EV.b (EV.len B.len (EB.var 29)))) (EA.cons (EV.var 30) (EA.nil)))) (EV.non)) (EA.nil))))))) (ESs.one (ES.ret (EV.bl))) (ESs.nil)))))))))))))))))))))))))))
    (ESs.one (ES.ret (EV.bl)))) rfl math
theorem all_mk {l : PySem.W.OpenLaw} {w : World} {K : PySem.W.Frag} {h : Heap} {mg : Str → Option Value} {fa : Addr} {g0 g1 g2 g3 g4 g5 g6 g7 g8 g9 g10 g11 g12 g13 g14 g15 g16 g17 g18 g19 g20 g21 g22 g23 g24 g25 g26 : Addr} (X : K.In h) (G : h.Ns mainGlobals mg) (hfa : mg "law" = some (.ref fa))
    {od0 an0 : Option Addr} {sl0 : Array (Option Value)} {oc0 kV0 dc0 pm0 cd0 ct0 : Value}
    {od1 an1 : Option Addr} {sl1 : Array (Option Value)} {oc1 kV1 dc1 pm1 cd1 ct1 : Value}
    {od2 an2 : Option Addr} {sl2 : Array (Option Value)} {oc2 kV2 dc2 pm2 cd2 ct2 : Value}
    {od3 an3 : Option Addr} {sl3 : Array (Option Value)} {oc3 kV3 dc3 pm3 cd3 ct3 : Value}
    {od4 an4 : Option Addr} {sl4 : Array (Option Value)} {oc4 kV4 dc4 pm4 cd4 ct4 : Value}
    {od5 an5 : Option Addr} {sl5 : Array (Option Value)} {oc5 kV5 dc5 pm5 cd5 ct5 : Value}
    {od6 an6 : Option Addr} {sl6 : Array (Option Value)} {oc6 kV6 dc6 pm6 cd6 ct6 : Value}
    {od7 an7 : Option Addr} {sl7 : Array (Option Value)} {oc7 kV7 dc7 pm7 cd7 ct7 : Value}
    {od8 an8 : Option Addr} {sl8 : Array (Option Value)} {oc8 kV8 dc8 pm8 cd8 ct8 : Value}
    {od9 an9 : Option Addr} {sl9 : Array (Option Value)} {oc9 kV9 dc9 pm9 cd9 ct9 : Value}
    {od10 an10 : Option Addr} {sl10 : Array (Option Value)} {oc10 kV10 dc10 pm10 cd10 ct10 : Value}
    {od11 an11 : Option Addr} {sl11 : Array (Option Value)} {oc11 kV11 dc11 pm11 cd11 ct11 : Value}
    {od12 an12 : Option Addr} {sl12 : Array (Option Value)} {oc12 kV12 dc12 pm12 cd12 ct12 : Value}
    {od13 an13 : Option Addr} {sl13 : Array (Option Value)} {oc13 kV13 dc13 pm13 cd13 ct13 : Value}
    {od14 an14 : Option Addr} {sl14 : Array (Option Value)} {oc14 kV14 dc14 pm14 cd14 ct14 : Value}
    {od15 an15 : Option Addr} {sl15 : Array (Option Value)} {oc15 kV15 dc15 pm15 cd15 ct15 : Value}
    {od16 an16 : Option Addr} {sl16 : Array (Option Value)} {oc16 kV16 dc16 pm16 cd16 ct16 : Value}
    {od17 an17 : Option Addr} {sl17 : Array (Option Value)} {oc17 kV17 dc17 pm17 cd17 ct17 : Value}
    {od18 an18 : Option Addr} {sl18 : Array (Option Value)} {oc18 kV18 dc18 pm18 cd18 ct18 : Value}
    {od19 an19 : Option Addr} {sl19 : Array (Option Value)} {oc19 kV19 dc19 pm19 cd19 ct19 : Value}
    {od20 an20 : Option Addr} {sl20 : Array (Option Value)} {oc20 kV20 dc20 pm20 cd20 ct20 : Value}
    {od21 an21 : Option Addr} {sl21 : Array (Option Value)} {oc21 kV21 dc21 pm21 cd21 ct21 : Value}
    {od22 an22 : Option Addr} {sl22 : Array (Option Value)} {oc22 kV22 dc22 pm22 cd22 ct22 : Value}
    {od23 an23 : Option Addr} {sl23 : Array (Option Value)} {oc23 kV23 dc23 pm23 cd23 ct23 : Value}
    {od24 an24 : Option Addr} {sl24 : Array (Option Value)} {oc24 kV24 dc24 pm24 cd24 ct24 : Value}
    {od25 an25 : Option Addr} {sl25 : Array (Option Value)} {oc25 kV25 dc25 pm25 cd25 ct25 : Value}
    {od26 an26 : Option Addr} {sl26 : Array (Option Value)} {oc26 kV26 dc26 pm26 cd26 ct26 : Value}
    (a0 : PySem.W.nsIn K mainGlobals "_law_draws" = some (some (.ref g0))) (l0 : K.lookup g0 = some ⟨oc0, od0, .func (PySem.W.fnOf "_law_draws" "_law_draws" (defArgs st__law_draws) (defBody st__law_draws) (defScope st__law_draws) .none kV0 dc0 pm0 an0 cd0 ct0), sl0⟩) (c0 : PySem.W.codeIn K cd0 "_law_draws" = true) (k0 : PySem.W.keepIn K (.ref g0) = true)
    (a1 : PySem.W.nsIn K mainGlobals "_law_next" = some (some (.ref g1))) (l1 : K.lookup g1 = some ⟨oc1, od1, .func (PySem.W.fnOf "_law_next" "_law_next" (defArgs st__law_next) (defBody st__law_next) (defScope st__law_next) .none kV1 dc1 pm1 an1 cd1 ct1), sl1⟩) (c1 : PySem.W.codeIn K cd1 "_law_next" = true) (k1 : PySem.W.keepIn K (.ref g1) = true)
    (a2 : PySem.W.nsIn K mainGlobals "_law_lines" = some (some (.ref g2))) (l2 : K.lookup g2 = some ⟨oc2, od2, .func (PySem.W.fnOf "_law_lines" "_law_lines" (defArgs st__law_lines) (defBody st__law_lines) (defScope st__law_lines) .none kV2 dc2 pm2 an2 cd2 ct2), sl2⟩) (c2 : PySem.W.codeIn K cd2 "_law_lines" = true) (k2 : PySem.W.keepIn K (.ref g2) = true)
    (a3 : PySem.W.nsIn K mainGlobals "_law_stops" = some (some (.ref g3))) (l3 : K.lookup g3 = some ⟨oc3, od3, .func (PySem.W.fnOf "_law_stops" "_law_stops" (defArgs st__law_stops) (defBody st__law_stops) (defScope st__law_stops) .none kV3 dc3 pm3 an3 cd3 ct3), sl3⟩) (c3 : PySem.W.codeIn K cd3 "_law_stops" = true) (k3 : PySem.W.keepIn K (.ref g3) = true)
    (a4 : PySem.W.nsIn K mainGlobals "_law_same" = some (some (.ref g4))) (l4 : K.lookup g4 = some ⟨oc4, od4, .func (PySem.W.fnOf "_law_same" "_law_same" (defArgs st__law_same) (defBody st__law_same) (defScope st__law_same) .none kV4 dc4 pm4 an4 cd4 ct4), sl4⟩) (c4 : PySem.W.codeIn K cd4 "_law_same" = true) (k4 : PySem.W.keepIn K (.ref g4) = true)
    (a5 : PySem.W.nsIn K mainGlobals "_law_cost" = some (some (.ref g5))) (l5 : K.lookup g5 = some ⟨oc5, od5, .func (PySem.W.fnOf "_law_cost" "_law_cost" (defArgs st__law_cost) (defBody st__law_cost) (defScope st__law_cost) .none kV5 dc5 pm5 an5 cd5 ct5), sl5⟩) (c5 : PySem.W.codeIn K cd5 "_law_cost" = true) (k5 : PySem.W.keepIn K (.ref g5) = true)
    (a6 : PySem.W.nsIn K mainGlobals "_law_pick" = some (some (.ref g6))) (l6 : K.lookup g6 = some ⟨oc6, od6, .func (PySem.W.fnOf "_law_pick" "_law_pick" (defArgs st__law_pick) (defBody st__law_pick) (defScope st__law_pick) .none kV6 dc6 pm6 an6 cd6 ct6), sl6⟩) (c6 : PySem.W.codeIn K cd6 "_law_pick" = true) (k6 : PySem.W.keepIn K (.ref g6) = true)
    (a7 : PySem.W.nsIn K mainGlobals "stops_on" = some (some (.ref g7))) (l7 : K.lookup g7 = some ⟨oc7, od7, .func (PySem.W.fnOf "stops_on" "stops_on" (defArgs st_stops_on) (defBody st_stops_on) (defScope st_stops_on) .none kV7 dc7 pm7 an7 cd7 ct7), sl7⟩) (c7 : PySem.W.codeIn K cd7 "stops_on" = true) (k7 : PySem.W.keepIn K (.ref g7) = true)
    (a8 : PySem.W.nsIn K mainGlobals "inner_stops" = some (some (.ref g8))) (l8 : K.lookup g8 = some ⟨oc8, od8, .func (PySem.W.fnOf "inner_stops" "inner_stops" (defArgs st_inner_stops) (defBody st_inner_stops) (defScope st_inner_stops) .none kV8 dc8 pm8 an8 cd8 ct8), sl8⟩) (c8 : PySem.W.codeIn K cd8 "inner_stops" = true) (k8 : PySem.W.keepIn K (.ref g8) = true)
    (a9 : PySem.W.nsIn K mainGlobals "long_of" = some (some (.ref g9))) (l9 : K.lookup g9 = some ⟨oc9, od9, .func (PySem.W.fnOf "long_of" "long_of" (defArgs st_long_of) (defBody st_long_of) (defScope st_long_of) .none kV9 dc9 pm9 an9 cd9 ct9), sl9⟩) (c9 : PySem.W.codeIn K cd9 "long_of" = true) (k9 : PySem.W.keepIn K (.ref g9) = true)
    (a10 : PySem.W.nsIn K mainGlobals "minutes_to" = some (some (.ref g10))) (l10 : K.lookup g10 = some ⟨oc10, od10, .func (PySem.W.fnOf "minutes_to" "minutes_to" (defArgs st_minutes_to) (defBody st_minutes_to) (defScope st_minutes_to) .none kV10 dc10 pm10 an10 cd10 ct10), sl10⟩) (c10 : PySem.W.codeIn K cd10 "minutes_to" = true) (k10 : PySem.W.keepIn K (.ref g10) = true)
    (a11 : PySem.W.nsIn K mainGlobals "saved_at" = some (some (.ref g11))) (l11 : K.lookup g11 = some ⟨oc11, od11, .func (PySem.W.fnOf "saved_at" "saved_at" (defArgs st_saved_at) (defBody st_saved_at) (defScope st_saved_at) .none kV11 dc11 pm11 an11 cd11 ct11), sl11⟩) (c11 : PySem.W.codeIn K cd11 "saved_at" = true) (k11 : PySem.W.keepIn K (.ref g11) = true)
    (a12 : PySem.W.nsIn K mainGlobals "turn_stop" = some (some (.ref g12))) (l12 : K.lookup g12 = some ⟨oc12, od12, .func (PySem.W.fnOf "turn_stop" "turn_stop" (defArgs st_turn_stop) (defBody st_turn_stop) (defScope st_turn_stop) .none kV12 dc12 pm12 an12 cd12 ct12), sl12⟩) (c12 : PySem.W.codeIn K cd12 "turn_stop" = true) (k12 : PySem.W.keepIn K (.ref g12) = true)
    (a13 : PySem.W.nsIn K mainGlobals "lost_riders" = some (some (.ref g13))) (l13 : K.lookup g13 = some ⟨oc13, od13, .func (PySem.W.fnOf "lost_riders" "lost_riders" (defArgs st_lost_riders) (defBody st_lost_riders) (defScope st_lost_riders) .none kV13 dc13 pm13 an13 cd13 ct13), sl13⟩) (c13 : PySem.W.codeIn K cd13 "lost_riders" = true) (k13 : PySem.W.keepIn K (.ref g13) = true)
    (a14 : PySem.W.nsIn K mainGlobals "cost_of_turn" = some (some (.ref g14))) (l14 : K.lookup g14 = some ⟨oc14, od14, .func (PySem.W.fnOf "cost_of_turn" "cost_of_turn" (defArgs st_cost_of_turn) (defBody st_cost_of_turn) (defScope st_cost_of_turn) .none kV14 dc14 pm14 an14 cd14 ct14), sl14⟩) (c14 : PySem.W.codeIn K cd14 "cost_of_turn" = true) (k14 : PySem.W.keepIn K (.ref g14) = true)
    (a15 : PySem.W.nsIn K mainGlobals "best_turn" = some (some (.ref g15))) (l15 : K.lookup g15 = some ⟨oc15, od15, .func (PySem.W.fnOf "best_turn" "best_turn" (defArgs st_best_turn) (defBody st_best_turn) (defScope st_best_turn) .none kV15 dc15 pm15 an15 cd15 ct15), sl15⟩) (c15 : PySem.W.codeIn K cd15 "best_turn" = true) (k15 : PySem.W.keepIn K (.ref g15) = true)
    (a16 : PySem.W.nsIn K mainGlobals "turned_rows" = some (some (.ref g16))) (l16 : K.lookup g16 = some ⟨oc16, od16, .func (PySem.W.fnOf "turned_rows" "turned_rows" (defArgs st_turned_rows) (defBody st_turned_rows) (defScope st_turned_rows) .none kV16 dc16 pm16 an16 cd16 ct16), sl16⟩) (c16 : PySem.W.codeIn K cd16 "turned_rows" = true) (k16 : PySem.W.keepIn K (.ref g16) = true)
    (a17 : PySem.W.nsIn K mainGlobals "turn_stops" = some (some (.ref g17))) (l17 : K.lookup g17 = some ⟨oc17, od17, .func (PySem.W.fnOf "turn_stops" "turn_stops" (defArgs st_turn_stops) (defBody st_turn_stops) (defScope st_turn_stops) .none kV17 dc17 pm17 an17 cd17 ct17), sl17⟩) (c17 : PySem.W.codeIn K cd17 "turn_stops" = true) (k17 : PySem.W.keepIn K (.ref g17) = true)
    (a18 : PySem.W.nsIn K mainGlobals "between" = some (some (.ref g18))) (l18 : K.lookup g18 = some ⟨oc18, od18, .func (PySem.W.fnOf "between" "between" (defArgs st_between) (defBody st_between) (defScope st_between) .none kV18 dc18 pm18 an18 cd18 ct18), sl18⟩) (c18 : PySem.W.codeIn K cd18 "between" = true) (k18 : PySem.W.keepIn K (.ref g18) = true)
    (a19 : PySem.W.nsIn K mainGlobals "part_of" = some (some (.ref g19))) (l19 : K.lookup g19 = some ⟨oc19, od19, .func (PySem.W.fnOf "part_of" "part_of" (defArgs st_part_of) (defBody st_part_of) (defScope st_part_of) .none kV19 dc19 pm19 an19 cd19 ct19), sl19⟩) (c19 : PySem.W.codeIn K cd19 "part_of" = true) (k19 : PySem.W.keepIn K (.ref g19) = true)
    (a20 : PySem.W.nsIn K mainGlobals "part_line" = some (some (.ref g20))) (l20 : K.lookup g20 = some ⟨oc20, od20, .func (PySem.W.fnOf "part_line" "part_line" (defArgs st_part_line) (defBody st_part_line) (defScope st_part_line) .none kV20 dc20 pm20 an20 cd20 ct20), sl20⟩) (c20 : PySem.W.codeIn K cd20 "part_line" = true) (k20 : PySem.W.keepIn K (.ref g20) = true)
    (a21 : PySem.W.nsIn K mainGlobals "every_other" = some (some (.ref g21))) (l21 : K.lookup g21 = some ⟨oc21, od21, .func (PySem.W.fnOf "every_other" "every_other" (defArgs st_every_other) (defBody st_every_other) (defScope st_every_other) .none kV21 dc21 pm21 an21 cd21 ct21), sl21⟩) (c21 : PySem.W.codeIn K cd21 "every_other" = true) (k21 : PySem.W.keepIn K (.ref g21) = true)
    (a22 : PySem.W.nsIn K mainGlobals "divisor" = some (some (.ref g22))) (l22 : K.lookup g22 = some ⟨oc22, od22, .func (PySem.W.fnOf "divisor" "divisor" (defArgs st_divisor) (defBody st_divisor) (defScope st_divisor) .none kV22 dc22 pm22 an22 cd22 ct22), sl22⟩) (c22 : PySem.W.codeIn K cd22 "divisor" = true) (k22 : PySem.W.keepIn K (.ref g22) = true)
    (a23 : PySem.W.nsIn K mainGlobals "fraction" = some (some (.ref g23))) (l23 : K.lookup g23 = some ⟨oc23, od23, .func (PySem.W.fnOf "fraction" "fraction" (defArgs st_fraction) (defBody st_fraction) (defScope st_fraction) .none kV23 dc23 pm23 an23 cd23 ct23), sl23⟩) (c23 : PySem.W.codeIn K cd23 "fraction" = true) (k23 : PySem.W.keepIn K (.ref g23) = true)
    (a24 : PySem.W.nsIn K mainGlobals "mean_gap_behind" = some (some (.ref g24))) (l24 : K.lookup g24 = some ⟨oc24, od24, .func (PySem.W.fnOf "mean_gap_behind" "mean_gap_behind" (defArgs st_mean_gap_behind) (defBody st_mean_gap_behind) (defScope st_mean_gap_behind) .none kV24 dc24 pm24 an24 cd24 ct24), sl24⟩) (c24 : PySem.W.codeIn K cd24 "mean_gap_behind" = true) (k24 : PySem.W.keepIn K (.ref g24) = true)
    (a25 : PySem.W.nsIn K mainGlobals "_law_fraction" = some (some (.ref g25))) (l25 : K.lookup g25 = some ⟨oc25, od25, .func (PySem.W.fnOf "_law_fraction" "_law_fraction" (defArgs st__law_fraction) (defBody st__law_fraction) (defScope st__law_fraction) .none kV25 dc25 pm25 an25 cd25 ct25), sl25⟩) (c25 : PySem.W.codeIn K cd25 "_law_fraction" = true) (k25 : PySem.W.keepIn K (.ref g25) = true)
    (a26 : PySem.W.nsIn K mainGlobals "law" = some (some (.ref g26))) (l26 : K.lookup g26 = some ⟨oc26, od26, .func (PySem.W.fnOf "law" "law" (defArgs st_law) (defBody st_law) (defScope st_law) .none kV26 dc26 pm26 an26 cd26 ct26), sl26⟩) (c26 : PySem.W.codeIn K cd26 "law" = true) (k26 : PySem.W.keepIn K (.ref g26) = true)
    (z_abs : PySem.W.nsIn K mainGlobals "abs" = some none)
    (z_bool : PySem.W.nsIn K mainGlobals "bool" = some none)
    (z_int : PySem.W.nsIn K mainGlobals "int" = some none)
    (z_isinstance : PySem.W.nsIn K mainGlobals "isinstance" = some none)
    (z_len : PySem.W.nsIn K mainGlobals "len" = some none)
    (z_max : PySem.W.nsIn K mainGlobals "max" = some none)
    (z_min : PySem.W.nsIn K mainGlobals "min" = some none)
    (z_range : PySem.W.nsIn K mainGlobals "range" = some none)
    (z_str : PySem.W.nsIn K mainGlobals "str" = some none)
    (z_sum : PySem.W.nsIn K mainGlobals "sum" = some none)
    (z_tuple : PySem.W.nsIn K mainGlobals "tuple" = some none)
    (math : ∀ ns : List Int, ns.length ≤ 63 → ∃ l w', e_law (some (tokS ns) :: List.replicate 33 none) none = some (.list (l.map .int), none) ∧ b_law ((some (tokS ns) :: List.replicate 33 none).set 1 (some tokW)) (some l) = some (.rt (.bool true), w')) :
    ∃ fd : FuncData, (∀ (s : Shared) (v : Value), BindsTo s fd ⟨[v], []⟩ [("script", v)]) ∧ ∀ base : Heap, K.In base → base.Ns mainGlobals mg → FnOk l.prog w K mg base CX0 14 fa fd ["script"] (spLaw K 63) := by
  have e := hfa.symm.trans (PySem.W.mg_of X G a26)
  cases e
  have B : Bi mg := ⟨PySem.W.mg_none_of X G z_abs, PySem.W.mg_none_of X G z_bool, PySem.W.mg_none_of X G z_int, PySem.W.mg_none_of X G z_isinstance, PySem.W.mg_none_of X G z_len, PySem.W.mg_none_of X G z_max, PySem.W.mg_none_of X G z_min, PySem.W.mg_none_of X G z_range, PySem.W.mg_none_of X G z_str, PySem.W.mg_none_of X G z_sum, PySem.W.mg_none_of X G z_tuple⟩
  have D0 : Df K mg "_law_draws" st__law_draws ["script", "many"] := df_mk X G a0 l0 c0 k0 fun _ _ _ _ _ _ us hl => match us, hl with | [_, _], _ => rfl
  have D1 : Df K mg "_law_next" st__law_next ["w", "many"] := df_mk X G a1 l1 c1 k1 fun _ _ _ _ _ _ us hl => match us, hl with | [_, _], _ => rfl
  have D2 : Df K mg "_law_lines" st__law_lines ["w", "most"] := df_mk X G a2 l2 c2 k2 fun _ _ _ _ _ _ us hl => match us, hl with | [_, _], _ => rfl
  have D3 : Df K mg "_law_stops" st__law_stops ["line"] := df_mk X G a3 l3 c3 k3 fun _ _ _ _ _ _ us hl => match us, hl with | [_], _ => rfl
  have D4 : Df K mg "_law_same" st__law_same ["seen", "due"] := df_mk X G a4 l4 c4 k4 fun _ _ _ _ _ _ us hl => match us, hl with | [_, _], _ => rfl
  have D5 : Df K mg "_law_cost" st__law_cost ["line", "riders", "back", "late", "stand", "later", "stop"] := df_mk X G a5 l5 c5 k5 fun _ _ _ _ _ _ us hl => match us, hl with | [_, _, _, _, _, _, _], _ => rfl
  have D6 : Df K mg "_law_pick" st__law_pick ["w", "rows"] := df_mk X G a6 l6 c6 k6 fun _ _ _ _ _ _ us hl => match us, hl with | [_, _], _ => rfl
  have D7 : Df K mg "stops_on" st_stops_on ["line"] := df_mk X G a7 l7 c7 k7 fun _ _ _ _ _ _ us hl => match us, hl with | [_], _ => rfl
  have D8 : Df K mg "inner_stops" st_inner_stops ["line"] := df_mk X G a8 l8 c8 k8 fun _ _ _ _ _ _ us hl => match us, hl with | [_], _ => rfl
  have D9 : Df K mg "long_of" st_long_of ["line"] := df_mk X G a9 l9 c9 k9 fun _ _ _ _ _ _ us hl => match us, hl with | [_], _ => rfl
  have D10 : Df K mg "minutes_to" st_minutes_to ["line", "stop"] := df_mk X G a10 l10 c10 k10 fun _ _ _ _ _ _ us hl => match us, hl with | [_, _], _ => rfl
  have D11 : Df K mg "saved_at" st_saved_at ["line", "stop", "stand"] := df_mk X G a11 l11 c11 k11 fun _ _ _ _ _ _ us hl => match us, hl with | [_, _, _], _ => rfl
  have D12 : Df K mg "turn_stop" st_turn_stop ["line", "late", "stand"] := df_mk X G a12 l12 c12 k12 fun _ _ _ _ _ _ us hl => match us, hl with | [_, _, _], _ => rfl
  have D13 : Df K mg "lost_riders" st_lost_riders ["line", "riders", "stop"] := df_mk X G a13 l13 c13 k13 fun _ _ _ _ _ _ us hl => match us, hl with | [_, _, _], _ => rfl
  have D14 : Df K mg "cost_of_turn" st_cost_of_turn ["line", "riders", "back", "late", "stand", "later", "stop"] := df_mk X G a14 l14 c14 k14 fun _ _ _ _ _ _ us hl => match us, hl with | [_, _, _, _, _, _, _], _ => rfl
  have D15 : Df K mg "best_turn" st_best_turn ["line", "riders", "back", "late", "stand", "later"] := df_mk X G a15 l15 c15 k15 fun _ _ _ _ _ _ us hl => match us, hl with | [_, _, _, _, _, _], _ => rfl
  have D16 : Df K mg "turned_rows" st_turned_rows ["line", "begin", "stop"] := df_mk X G a16 l16 c16 k16 fun _ _ _ _ _ _ us hl => match us, hl with | [_, _, _], _ => rfl
  have D17 : Df K mg "turn_stops" st_turn_stops ["line", "streets"] := df_mk X G a17 l17 c17 k17 fun _ _ _ _ _ _ us hl => match us, hl with | [_, _], _ => rfl
  have D18 : Df K mg "between" st_between ["line", "one", "other"] := df_mk X G a18 l18 c18 k18 fun _ _ _ _ _ _ us hl => match us, hl with | [_, _, _], _ => rfl
  have D19 : Df K mg "part_of" st_part_of ["line", "one", "other"] := df_mk X G a19 l19 c19 k19 fun _ _ _ _ _ _ us hl => match us, hl with | [_, _, _], _ => rfl
  have D20 : Df K mg "part_line" st_part_line ["line", "stop"] := df_mk X G a20 l20 c20 k20 fun _ _ _ _ _ _ us hl => match us, hl with | [_, _], _ => rfl
  have D21 : Df K mg "every_other" st_every_other ["many"] := df_mk X G a21 l21 c21 k21 fun _ _ _ _ _ _ us hl => match us, hl with | [_], _ => rfl
  have D22 : Df K mg "divisor" st_divisor ["a", "b"] := df_mk X G a22 l22 c22 k22 fun _ _ _ _ _ _ us hl => match us, hl with | [_, _], _ => rfl
  have D23 : Df K mg "fraction" st_fraction ["a", "b"] := df_mk X G a23 l23 c23 k23 fun _ _ _ _ _ _ us hl => match us, hl with | [_, _], _ => rfl
  have D24 : Df K mg "mean_gap_behind" st_mean_gap_behind ["gap", "goes"] := df_mk X G a24 l24 c24 k24 fun _ _ _ _ _ _ us hl => match us, hl with | [_, _], _ => rfl
  have D25 : Df K mg "_law_fraction" st__law_fraction ["a", "b"] := df_mk X G a25 l25 c25 k25 fun _ _ _ _ _ _ us hl => match us, hl with | [_, _], _ => rfl
  refine ⟨PySem.W.fnOf "law" "law" (defArgs st_law) (defBody st_law) (defScope st_law) .none kV26 dc26 pm26 an26 cd26 ct26, fun s v => .of_eq rfl, fun base _ _ => ?_⟩
  have o__law_draws := d__law_draws (P := l.prog) (w := w) (base := base) B D0 
  have o__law_next := d__law_next (P := l.prog) (w := w) (base := base) B D1 
  have o__law_lines := d__law_lines (P := l.prog) (w := w) (base := base) B D2 o__law_next
  have o__law_stops := d__law_stops (P := l.prog) (w := w) (base := base) B D3 
  have o__law_same := d__law_same (P := l.prog) (w := w) (base := base) B D4  12
  have o__law_cost := d__law_cost (P := l.prog) (w := w) (base := base) B D5 o__law_stops
  have o__law_pick := d__law_pick (P := l.prog) (w := w) (base := base) B D6 o__law_next
  have o_stops_on := d_stops_on (P := l.prog) (w := w) (base := base) B D7 
  have o_inner_stops := d_inner_stops (P := l.prog) (w := w) (base := base) B D8 o_stops_on
  have o_long_of := d_long_of (P := l.prog) (w := w) (base := base) B D9 
  have o_minutes_to := d_minutes_to (P := l.prog) (w := w) (base := base) B D10 o_stops_on
  have o_saved_at := d_saved_at (P := l.prog) (w := w) (base := base) B D11 o_long_of o_minutes_to
  have o_turn_stop := d_turn_stop (P := l.prog) (w := w) (base := base) B D12 o_inner_stops o_saved_at
  have o_lost_riders := d_lost_riders (P := l.prog) (w := w) (base := base) B D13 o_minutes_to
  have o_cost_of_turn := d_cost_of_turn (P := l.prog) (w := w) (base := base) B D14 o_minutes_to o_saved_at o_lost_riders
  have o_best_turn := d_best_turn (P := l.prog) (w := w) (base := base) B D15 o_inner_stops o_cost_of_turn
  have o_turned_rows := d_turned_rows (P := l.prog) (w := w) (base := base) B D16 o_stops_on
  have o_turn_stops := d_turn_stops (P := l.prog) (w := w) (base := base) B D17 o_inner_stops
  have o_between := d_between (P := l.prog) (w := w) (base := base) B D18 o_minutes_to
  have o_part_of := d_part_of (P := l.prog) (w := w) (base := base) B D19 o_between o_stops_on
  have o_part_line := d_part_line (P := l.prog) (w := w) (base := base) B D20 o_part_of
  have o_every_other := d_every_other (P := l.prog) (w := w) (base := base) B D21 
  have o_divisor := d_divisor (P := l.prog) (w := w) (base := base) B D22 
  have o_fraction := d_fraction (P := l.prog) (w := w) (base := base) B D23 o_divisor
  have o_mean_gap_behind := d_mean_gap_behind (P := l.prog) (w := w) (base := base) B D24 o_fraction
  have o__law_fraction := d__law_fraction (P := l.prog) (w := w) (base := base) B D25 
  exact d_law (P := l.prog) (w := w) (base := base) B (fun_mk (st := st_law) l26 c26 k26) o__law_draws o__law_lines o__law_stops o__law_next o__law_same o_saved_at o_lost_riders o_turn_stop o__law_cost o_cost_of_turn o_best_turn o__law_pick o_turned_rows o_turn_stops o_part_line o_every_other o_mean_gap_behind o__law_fraction math
end
end W

set_option Elab.async false
set_option linter.all false
set_option autoImplicit false
set_option maxRecDepth 100000
namespace W
open PySem PySem.W Q
theorem al_eq : ∀ n, f_law_same n = fSm n
  | 0 => rfl
  | n + 1 => by
    show bodyFn 2 1 (b_law_same (f_law_same n)) = bodyFn 2 1 (bSame (fSm n))
    rw [al_eq n]
    rfl
theorem al_tie {α : Type} {e : α → D} {a b : α} (h : a = b) (k : Alt 12 (e a)) (w : Wd) : f_law_same 12 [e a, e b] w = some (.bool true, w) := by
  rw [← h, al_eq]
  exact same_refl 12 _ k w
/-! law_lines -/
def law_lines_t (most : Int) (l0 : St) : (List (Str × (List (Str × Int)))) × St := (let found : List (Str × (List (Str × Int))) := ([] : List (Str × (List (Str × Int)))); (let found_2 : ((List (Str × (List (Str × Int))))) × St := ((cutL ([("moon" : Str), ("owl" : Str), ("bat" : Str), ("star" : Str)]) none (some ((nextT l0 (most + 1)).1))).foldl (fun (s_ : ((List (Str × (List (Str × Int))))) × St) (name : Str) => (let left : List Str := [("a" : Str), ("b" : Str), ("c" : Str), ("d" : Str), ("e" : Str), ("f" : Str)]; (let s__2 : (List Str × (List (Str × Int))) × St := ((rangeI 0 (2 + (nextT s_.2 4).1)).foldl (fun (s__1 : (List Str × (List (Str × Int))) × St) (k_ : Int) => (let left_1 : List Str := s__1.1.1.eraseIdx (ixN' s__1.1.1.length ((nextT s__1.2 (s__1.1.1.length : Int)).1)); let line : List (Str × Int) := s__1.1.2 ++ [(idx s__1.1.1 ((nextT s__1.2 (s__1.1.1.length : Int)).1), (if (decide (k_ = 0)) = true then (0, (nextT s__1.2 (s__1.1.1.length : Int)).2) else ((1 + (nextT ((nextT s__1.2 (s__1.1.1.length : Int)).2) 9).1), (nextT ((nextT s__1.2 (s__1.1.1.length : Int)).2) 9).2)).1)]; let l_ : St := (if (decide (k_ = 0)) = true then (0, (nextT s__1.2 (s__1.1.1.length : Int)).2) else ((1 + (nextT ((nextT s__1.2 (s__1.1.1.length : Int)).2) 9).1), (nextT ((nextT s__1.2 (s__1.1.1.length : Int)).2) 9).2)).2; ((left_1, line), l_))) ((left, []), (nextT s_.2 4).2)); (let found_1 : List (Str × (List (Str × Int))) := putT s_.1 name s__2.1.2; (found_1, s__2.2))))) (found, (nextT l0 (most + 1)).2)); (found_2.1, found_2.2)))
def law_lines_ok (most : Int) (l0 : St) : Prop := ∀ found : List (Str × (List (Str × Int))), found = ([] : List (Str × (List (Str × Int)))) → (most + 1) ≠ 0 ∧ (OkF (fun (s_ : ((List (Str × (List (Str × Int))))) × St) (name : Str) => ∀ left : List Str, left = [("a" : Str), ("b" : Str), ("c" : Str), ("d" : Str), ("e" : Str), ("f" : Str)] → I62 (2 + (nextT s_.2 4).1) ∧ OkF (fun (s__1 : (List Str × (List (Str × Int))) × St) (k_ : Int) => (s__1.1.1.length : Int) ≠ 0 ∧ InR s__1.1.1 ((nextT s__1.2 (s__1.1.1.length : Int)).1) ∧ I62 ((nextT s__1.2 (s__1.1.1.length : Int)).1) ∧ s__1.1.2.length < sizeLine) (fun (s__1 : (List Str × (List (Str × Int))) × St) (k_ : Int) => (let left_1 : List Str := s__1.1.1.eraseIdx (ixN' s__1.1.1.length ((nextT s__1.2 (s__1.1.1.length : Int)).1)); let line : List (Str × Int) := s__1.1.2 ++ [(idx s__1.1.1 ((nextT s__1.2 (s__1.1.1.length : Int)).1), (if (decide (k_ = 0)) = true then (0, (nextT s__1.2 (s__1.1.1.length : Int)).2) else ((1 + (nextT ((nextT s__1.2 (s__1.1.1.length : Int)).2) 9).1), (nextT ((nextT s__1.2 (s__1.1.1.length : Int)).2) 9).2)).1)]; let l_ : St := (if (decide (k_ = 0)) = true then (0, (nextT s__1.2 (s__1.1.1.length : Int)).2) else ((1 + (nextT ((nextT s__1.2 (s__1.1.1.length : Int)).2) 9).1), (nextT ((nextT s__1.2 (s__1.1.1.length : Int)).2) 9).2)).2; ((left_1, line), l_))) ((left, []), (nextT s_.2 4).2) (rangeI 0 (2 + (nextT s_.2 4).1)) ∧ (∀ s__2 : (List Str × (List (Str × Int))) × St, s__2 = ((rangeI 0 (2 + (nextT s_.2 4).1)).foldl (fun (s__1 : (List Str × (List (Str × Int))) × St) (k_ : Int) => (let left_1 : List Str := s__1.1.1.eraseIdx (ixN' s__1.1.1.length ((nextT s__1.2 (s__1.1.1.length : Int)).1)); let line : List (Str × Int) := s__1.1.2 ++ [(idx s__1.1.1 ((nextT s__1.2 (s__1.1.1.length : Int)).1), (if (decide (k_ = 0)) = true then (0, (nextT s__1.2 (s__1.1.1.length : Int)).2) else ((1 + (nextT ((nextT s__1.2 (s__1.1.1.length : Int)).2) 9).1), (nextT ((nextT s__1.2 (s__1.1.1.length : Int)).2) 9).2)).1)]; let l_ : St := (if (decide (k_ = 0)) = true then (0, (nextT s__1.2 (s__1.1.1.length : Int)).2) else ((1 + (nextT ((nextT s__1.2 (s__1.1.1.length : Int)).2) 9).1), (nextT ((nextT s__1.2 (s__1.1.1.length : Int)).2) 9).2)).2; ((left_1, line), l_))) ((left, []), (nextT s_.2 4).2)) → s_.1.length < sizeLine)) (fun (s_ : ((List (Str × (List (Str × Int))))) × St) (name : Str) => (let left : List Str := [("a" : Str), ("b" : Str), ("c" : Str), ("d" : Str), ("e" : Str), ("f" : Str)]; (let s__2 : (List Str × (List (Str × Int))) × St := ((rangeI 0 (2 + (nextT s_.2 4).1)).foldl (fun (s__1 : (List Str × (List (Str × Int))) × St) (k_ : Int) => (let left_1 : List Str := s__1.1.1.eraseIdx (ixN' s__1.1.1.length ((nextT s__1.2 (s__1.1.1.length : Int)).1)); let line : List (Str × Int) := s__1.1.2 ++ [(idx s__1.1.1 ((nextT s__1.2 (s__1.1.1.length : Int)).1), (if (decide (k_ = 0)) = true then (0, (nextT s__1.2 (s__1.1.1.length : Int)).2) else ((1 + (nextT ((nextT s__1.2 (s__1.1.1.length : Int)).2) 9).1), (nextT ((nextT s__1.2 (s__1.1.1.length : Int)).2) 9).2)).1)]; let l_ : St := (if (decide (k_ = 0)) = true then (0, (nextT s__1.2 (s__1.1.1.length : Int)).2) else ((1 + (nextT ((nextT s__1.2 (s__1.1.1.length : Int)).2) 9).1), (nextT ((nextT s__1.2 (s__1.1.1.length : Int)).2) 9).2)).2; ((left_1, line), l_))) ((left, []), (nextT s_.2 4).2)); (let found_1 : List (Str × (List (Str × Int))) := putT s_.1 name s__2.1.2; (found_1, s__2.2))))) (found, (nextT l0 (most + 1)).2) (cutL ([("moon" : Str), ("owl" : Str), ("bat" : Str), ("star" : Str)]) none (some ((nextT l0 (most + 1)).1))))
theorem law_lines_tie (most : Int) (l0 : St) (h : law_lines_ok most l0) : f_law_lines [tokW, PyData.int most] (some l0) = some ((eD PyData.str (eT (eP2 PyData.str PyData.int))) (law_lines_t most l0).1, some (law_lines_t most l0).2) := fn_tie (XS.seq1 ([] : List (Str × (List (Str × Int)))) (fun (found : List (Str × (List (Str × Int)))) => [some (tokW), some (PyData.int most), some ((eD PyData.str (eT (eP2 PyData.str PyData.int))) found), none, none, none, none]) (fun (found : List (Str × (List (Str × Int)))) => some l0) (fun (found : List (Str × (List (Str × Int)))) => Out.rt ((eD PyData.str (eT (eP2 PyData.str PyData.int))) (let found_2 : ((List (Str × (List (Str × Int))))) × St := ((cutL ([("moon" : Str), ("owl" : Str), ("bat" : Str), ("star" : Str)]) none (some ((nextT l0 (most + 1)).1))).foldl (fun (s_ : ((List (Str × (List (Str × Int))))) × St) (name : Str) => (let left : List Str := [("a" : Str), ("b" : Str), ("c" : Str), ("d" : Str), ("e" : Str), ("f" : Str)]; (let s__2 : (List Str × (List (Str × Int))) × St := ((rangeI 0 (2 + (nextT s_.2 4).1)).foldl (fun (s__1 : (List Str × (List (Str × Int))) × St) (k_ : Int) => (let left_1 : List Str := s__1.1.1.eraseIdx (ixN' s__1.1.1.length ((nextT s__1.2 (s__1.1.1.length : Int)).1)); let line : List (Str × Int) := s__1.1.2 ++ [(idx s__1.1.1 ((nextT s__1.2 (s__1.1.1.length : Int)).1), (if (decide (k_ = 0)) = true then (0, (nextT s__1.2 (s__1.1.1.length : Int)).2) else ((1 + (nextT ((nextT s__1.2 (s__1.1.1.length : Int)).2) 9).1), (nextT ((nextT s__1.2 (s__1.1.1.length : Int)).2) 9).2)).1)]; let l_ : St := (if (decide (k_ = 0)) = true then (0, (nextT s__1.2 (s__1.1.1.length : Int)).2) else ((1 + (nextT ((nextT s__1.2 (s__1.1.1.length : Int)).2) 9).1), (nextT ((nextT s__1.2 (s__1.1.1.length : Int)).2) 9).2)).2; ((left_1, line), l_))) ((left, []), (nextT s_.2 4).2)); (let found_1 : List (Str × (List (Str × Int))) := putT s_.1 name s__2.1.2; (found_1, s__2.2))))) (found, (nextT l0 (most + 1)).2)); (found_2.1, found_2.2)).1)) (fun (found : List (Str × (List (Str × Int)))) => some (let found_2 : ((List (Str × (List (Str × Int))))) × St := ((cutL ([("moon" : Str), ("owl" : Str), ("bat" : Str), ("star" : Str)]) none (some ((nextT l0 (most + 1)).1))).foldl (fun (s_ : ((List (Str × (List (Str × Int))))) × St) (name : Str) => (let left : List Str := [("a" : Str), ("b" : Str), ("c" : Str), ("d" : Str), ("e" : Str), ("f" : Str)]; (let s__2 : (List Str × (List (Str × Int))) × St := ((rangeI 0 (2 + (nextT s_.2 4).1)).foldl (fun (s__1 : (List Str × (List (Str × Int))) × St) (k_ : Int) => (let left_1 : List Str := s__1.1.1.eraseIdx (ixN' s__1.1.1.length ((nextT s__1.2 (s__1.1.1.length : Int)).1)); let line : List (Str × Int) := s__1.1.2 ++ [(idx s__1.1.1 ((nextT s__1.2 (s__1.1.1.length : Int)).1), (if (decide (k_ = 0)) = true then (0, (nextT s__1.2 (s__1.1.1.length : Int)).2) else ((1 + (nextT ((nextT s__1.2 (s__1.1.1.length : Int)).2) 9).1), (nextT ((nextT s__1.2 (s__1.1.1.length : Int)).2) 9).2)).1)]; let l_ : St := (if (decide (k_ = 0)) = true then (0, (nextT s__1.2 (s__1.1.1.length : Int)).2) else ((1 + (nextT ((nextT s__1.2 (s__1.1.1.length : Int)).2) 9).1), (nextT ((nextT s__1.2 (s__1.1.1.length : Int)).2) 9).2)).2; ((left_1, line), l_))) ((left, []), (nextT s_.2 4).2)); (let found_1 : List (Str × (List (Str × Int))) := putT s_.1 name s__2.1.2; (found_1, s__2.2))))) (found, (nextT l0 (most + 1)).2)); (found_2.1, found_2.2)).2) (XS.set (X.k _) (TG.name 2)) (fun found hv_7 => (have hq_3 := h found hv_7; (XS.seq1 ((cutL ([("moon" : Str), ("owl" : Str), ("bat" : Str), ("star" : Str)]) none (some ((nextT l0 (most + 1)).1))).foldl (fun (s_ : ((List (Str × (List (Str × Int))))) × St) (name : Str) => (let left : List Str := [("a" : Str), ("b" : Str), ("c" : Str), ("d" : Str), ("e" : Str), ("f" : Str)]; (let s__2 : (List Str × (List (Str × Int))) × St := ((rangeI 0 (2 + (nextT s_.2 4).1)).foldl (fun (s__1 : (List Str × (List (Str × Int))) × St) (k_ : Int) => (let left_1 : List Str := s__1.1.1.eraseIdx (ixN' s__1.1.1.length ((nextT s__1.2 (s__1.1.1.length : Int)).1)); let line : List (Str × Int) := s__1.1.2 ++ [(idx s__1.1.1 ((nextT s__1.2 (s__1.1.1.length : Int)).1), (if (decide (k_ = 0)) = true then (0, (nextT s__1.2 (s__1.1.1.length : Int)).2) else ((1 + (nextT ((nextT s__1.2 (s__1.1.1.length : Int)).2) 9).1), (nextT ((nextT s__1.2 (s__1.1.1.length : Int)).2) 9).2)).1)]; let l_ : St := (if (decide (k_ = 0)) = true then (0, (nextT s__1.2 (s__1.1.1.length : Int)).2) else ((1 + (nextT ((nextT s__1.2 (s__1.1.1.length : Int)).2) 9).1), (nextT ((nextT s__1.2 (s__1.1.1.length : Int)).2) 9).2)).2; ((left_1, line), l_))) ((left, []), (nextT s_.2 4).2)); (let found_1 : List (Str × (List (Str × Int))) := putT s_.1 name s__2.1.2; (found_1, s__2.2))))) (found, (nextT l0 (most + 1)).2)) (fun (found_2 : ((List (Str × (List (Str × Int))))) × St) => [some (tokW), some (PyData.int most), some ((eD PyData.str (eT (eP2 PyData.str PyData.int))) found_2.1), none, none, none, none]) (fun (found_2 : ((List (Str × (List (Str × Int))))) × St) => some found_2.2) (fun (found_2 : ((List (Str × (List (Str × Int))))) × St) => Out.rt ((eD PyData.str (eT (eP2 PyData.str PyData.int))) (found_2.1, found_2.2).1)) (fun (found_2 : ((List (Str × (List (Str × Int))))) × St) => some (found_2.1, found_2.2).2) (XS.for PyData.str (xs := (cutL ([("moon" : Str), ("owl" : Str), ("bat" : Str), ("star" : Str)]) none (some ((nextT l0 (most + 1)).1)))) (found, (nextT l0 (most + 1)).2) (fun (s_ : ((List (Str × (List (Str × Int))))) × St) => [some (tokW), some (PyData.int most), some ((eD PyData.str (eT (eP2 PyData.str PyData.int))) s_.1), none, none, none, none]) (fun (s_ : ((List (Str × (List (Str × Int))))) × St) => some s_.2) (fun (s_ : ((List (Str × (List (Str × Int))))) × St) (name : Str) => [some (tokW), some (PyData.int most), some ((eD PyData.str (eT (eP2 PyData.str PyData.int))) s_.1), some (PyData.str name), none, none, none]) (fun (s_ : ((List (Str × (List (Str × Int))))) × St) (name : Str) => (let left : List Str := [("a" : Str), ("b" : Str), ("c" : Str), ("d" : Str), ("e" : Str), ("f" : Str)]; (let s__2 : (List Str × (List (Str × Int))) × St := ((rangeI 0 (2 + (nextT s_.2 4).1)).foldl (fun (s__1 : (List Str × (List (Str × Int))) × St) (k_ : Int) => (let left_1 : List Str := s__1.1.1.eraseIdx (ixN' s__1.1.1.length ((nextT s__1.2 (s__1.1.1.length : Int)).1)); let line : List (Str × Int) := s__1.1.2 ++ [(idx s__1.1.1 ((nextT s__1.2 (s__1.1.1.length : Int)).1), (if (decide (k_ = 0)) = true then (0, (nextT s__1.2 (s__1.1.1.length : Int)).2) else ((1 + (nextT ((nextT s__1.2 (s__1.1.1.length : Int)).2) 9).1), (nextT ((nextT s__1.2 (s__1.1.1.length : Int)).2) 9).2)).1)]; let l_ : St := (if (decide (k_ = 0)) = true then (0, (nextT s__1.2 (s__1.1.1.length : Int)).2) else ((1 + (nextT ((nextT s__1.2 (s__1.1.1.length : Int)).2) 9).1), (nextT ((nextT s__1.2 (s__1.1.1.length : Int)).2) 9).2)).2; ((left_1, line), l_))) ((left, []), (nextT s_.2 4).2)); (let found_1 : List (Str × (List (Str × Int))) := putT s_.1 name s__2.1.2; (found_1, s__2.2))))) (fun (s_ : ((List (Str × (List (Str × Int))))) × St) (name : Str) => ∀ left : List Str, left = [("a" : Str), ("b" : Str), ("c" : Str), ("d" : Str), ("e" : Str), ("f" : Str)] → I62 (2 + (nextT s_.2 4).1) ∧ OkF (fun (s__1 : (List Str × (List (Str × Int))) × St) (k_ : Int) => (s__1.1.1.length : Int) ≠ 0 ∧ InR s__1.1.1 ((nextT s__1.2 (s__1.1.1.length : Int)).1) ∧ I62 ((nextT s__1.2 (s__1.1.1.length : Int)).1) ∧ s__1.1.2.length < sizeLine) (fun (s__1 : (List Str × (List (Str × Int))) × St) (k_ : Int) => (let left_1 : List Str := s__1.1.1.eraseIdx (ixN' s__1.1.1.length ((nextT s__1.2 (s__1.1.1.length : Int)).1)); let line : List (Str × Int) := s__1.1.2 ++ [(idx s__1.1.1 ((nextT s__1.2 (s__1.1.1.length : Int)).1), (if (decide (k_ = 0)) = true then (0, (nextT s__1.2 (s__1.1.1.length : Int)).2) else ((1 + (nextT ((nextT s__1.2 (s__1.1.1.length : Int)).2) 9).1), (nextT ((nextT s__1.2 (s__1.1.1.length : Int)).2) 9).2)).1)]; let l_ : St := (if (decide (k_ = 0)) = true then (0, (nextT s__1.2 (s__1.1.1.length : Int)).2) else ((1 + (nextT ((nextT s__1.2 (s__1.1.1.length : Int)).2) 9).1), (nextT ((nextT s__1.2 (s__1.1.1.length : Int)).2) 9).2)).2; ((left_1, line), l_))) ((left, []), (nextT s_.2 4).2) (rangeI 0 (2 + (nextT s_.2 4).1)) ∧ (∀ s__2 : (List Str × (List (Str × Int))) × St, s__2 = ((rangeI 0 (2 + (nextT s_.2 4).1)).foldl (fun (s__1 : (List Str × (List (Str × Int))) × St) (k_ : Int) => (let left_1 : List Str := s__1.1.1.eraseIdx (ixN' s__1.1.1.length ((nextT s__1.2 (s__1.1.1.length : Int)).1)); let line : List (Str × Int) := s__1.1.2 ++ [(idx s__1.1.1 ((nextT s__1.2 (s__1.1.1.length : Int)).1), (if (decide (k_ = 0)) = true then (0, (nextT s__1.2 (s__1.1.1.length : Int)).2) else ((1 + (nextT ((nextT s__1.2 (s__1.1.1.length : Int)).2) 9).1), (nextT ((nextT s__1.2 (s__1.1.1.length : Int)).2) 9).2)).1)]; let l_ : St := (if (decide (k_ = 0)) = true then (0, (nextT s__1.2 (s__1.1.1.length : Int)).2) else ((1 + (nextT ((nextT s__1.2 (s__1.1.1.length : Int)).2) 9).1), (nextT ((nextT s__1.2 (s__1.1.1.length : Int)).2) 9).2)).2; ((left_1, line), l_))) ((left, []), (nextT s_.2 4).2)) → s_.1.length < sizeLine)) (XA.seqL (X.cut (X.lst (XA.cons (X.k _) (XA.cons (X.k _) (XA.cons (X.k _) (XA.cons (X.k _) XA.nil))))) XO.none (XO.some (X.call (XA.cons (X.var 0) (XA.cons (X.op2 (X.var 1) (X.k _) (addD_i _ _)) XA.nil)) (next_tie hq_3.1))) (cutD_L PyData.str ([("moon" : Str), ("owl" : Str), ("bat" : Str), ("star" : Str)]) none (some ((nextT l0 (most + 1)).1))))) (show LE _ _ from .same (.same (.same (.same (.same (.same (.same (.nil)))))))) (fun s_ name => (TG.name 3)) (fun s_ name hx hk => (XS.seq1 ([("a" : Str), ("b" : Str), ("c" : Str), ("d" : Str), ("e" : Str), ("f" : Str)]) (fun (left : List Str) => [some (tokW), some (PyData.int most), some ((eD PyData.str (eT (eP2 PyData.str PyData.int))) s_.1), some (PyData.str name), some ((eL PyData.str) left), some ((eL (eP2 PyData.str PyData.int)) []), none]) (fun (left : List Str) => some s_.2) (fun (left : List Str) => Out.nx ((fun (st : (List (Str × (List (Str × Int))))) => [some (tokW), some (PyData.int most), some ((eD PyData.str (eT (eP2 PyData.str PyData.int))) st), none, none, none, none]) (let s__2 : (List Str × (List (Str × Int))) × St := ((rangeI 0 (2 + (nextT s_.2 4).1)).foldl (fun (s__1 : (List Str × (List (Str × Int))) × St) (k_ : Int) => (let left_1 : List Str := s__1.1.1.eraseIdx (ixN' s__1.1.1.length ((nextT s__1.2 (s__1.1.1.length : Int)).1)); let line : List (Str × Int) := s__1.1.2 ++ [(idx s__1.1.1 ((nextT s__1.2 (s__1.1.1.length : Int)).1), (if (decide (k_ = 0)) = true then (0, (nextT s__1.2 (s__1.1.1.length : Int)).2) else ((1 + (nextT ((nextT s__1.2 (s__1.1.1.length : Int)).2) 9).1), (nextT ((nextT s__1.2 (s__1.1.1.length : Int)).2) 9).2)).1)]; let l_ : St := (if (decide (k_ = 0)) = true then (0, (nextT s__1.2 (s__1.1.1.length : Int)).2) else ((1 + (nextT ((nextT s__1.2 (s__1.1.1.length : Int)).2) 9).1), (nextT ((nextT s__1.2 (s__1.1.1.length : Int)).2) 9).2)).2; ((left_1, line), l_))) ((left, []), (nextT s_.2 4).2)); (let found_1 : List (Str × (List (Str × Int))) := putT s_.1 name s__2.1.2; (found_1, s__2.2))).1)) (fun (left : List Str) => some (let s__2 : (List Str × (List (Str × Int))) × St := ((rangeI 0 (2 + (nextT s_.2 4).1)).foldl (fun (s__1 : (List Str × (List (Str × Int))) × St) (k_ : Int) => (let left_1 : List Str := s__1.1.1.eraseIdx (ixN' s__1.1.1.length ((nextT s__1.2 (s__1.1.1.length : Int)).1)); let line : List (Str × Int) := s__1.1.2 ++ [(idx s__1.1.1 ((nextT s__1.2 (s__1.1.1.length : Int)).1), (if (decide (k_ = 0)) = true then (0, (nextT s__1.2 (s__1.1.1.length : Int)).2) else ((1 + (nextT ((nextT s__1.2 (s__1.1.1.length : Int)).2) 9).1), (nextT ((nextT s__1.2 (s__1.1.1.length : Int)).2) 9).2)).1)]; let l_ : St := (if (decide (k_ = 0)) = true then (0, (nextT s__1.2 (s__1.1.1.length : Int)).2) else ((1 + (nextT ((nextT s__1.2 (s__1.1.1.length : Int)).2) 9).1), (nextT ((nextT s__1.2 (s__1.1.1.length : Int)).2) 9).2)).2; ((left_1, line), l_))) ((left, []), (nextT s_.2 4).2)); (let found_1 : List (Str × (List (Str × Int))) := putT s_.1 name s__2.1.2; (found_1, s__2.2))).2) (XS.par (XA.cons (X.lst (XA.cons (X.k _) (XA.cons (X.k _) (XA.cons (X.k _) (XA.cons (X.k _) (XA.cons (X.k _) (XA.cons (X.k _) XA.nil))))))) (XA.cons (X.lst XA.nil) XA.nil)) (TGs.cons (TG.name 4) (TGs.cons (TG.name 5) TGs.nil))) (fun left hv_5 => (have hq_2 := hk left hv_5; (XS.seq1 ((rangeI 0 (2 + (nextT s_.2 4).1)).foldl (fun (s__1 : (List Str × (List (Str × Int))) × St) (k_ : Int) => (let left_1 : List Str := s__1.1.1.eraseIdx (ixN' s__1.1.1.length ((nextT s__1.2 (s__1.1.1.length : Int)).1)); let line : List (Str × Int) := s__1.1.2 ++ [(idx s__1.1.1 ((nextT s__1.2 (s__1.1.1.length : Int)).1), (if (decide (k_ = 0)) = true then (0, (nextT s__1.2 (s__1.1.1.length : Int)).2) else ((1 + (nextT ((nextT s__1.2 (s__1.1.1.length : Int)).2) 9).1), (nextT ((nextT s__1.2 (s__1.1.1.length : Int)).2) 9).2)).1)]; let l_ : St := (if (decide (k_ = 0)) = true then (0, (nextT s__1.2 (s__1.1.1.length : Int)).2) else ((1 + (nextT ((nextT s__1.2 (s__1.1.1.length : Int)).2) 9).1), (nextT ((nextT s__1.2 (s__1.1.1.length : Int)).2) 9).2)).2; ((left_1, line), l_))) ((left, []), (nextT s_.2 4).2)) (fun (s__2 : (List Str × (List (Str × Int))) × St) => [some (tokW), some (PyData.int most), some ((eD PyData.str (eT (eP2 PyData.str PyData.int))) s_.1), some (PyData.str name), some ((eL PyData.str) s__2.1.1), some ((eL (eP2 PyData.str PyData.int)) s__2.1.2), none]) (fun (s__2 : (List Str × (List (Str × Int))) × St) => some s__2.2) (fun (s__2 : (List Str × (List (Str × Int))) × St) => Out.nx ((fun (st : (List (Str × (List (Str × Int))))) => [some (tokW), some (PyData.int most), some ((eD PyData.str (eT (eP2 PyData.str PyData.int))) st), none, none, none, none]) (let found_1 : List (Str × (List (Str × Int))) := putT s_.1 name s__2.1.2; (found_1, s__2.2)).1)) (fun (s__2 : (List Str × (List (Str × Int))) × St) => some (let found_1 : List (Str × (List (Str × Int))) := putT s_.1 name s__2.1.2; (found_1, s__2.2)).2) (XS.for PyData.int (xs := (rangeI 0 (2 + (nextT s_.2 4).1))) ((left, []), (nextT s_.2 4).2) (fun (s__1 : (List Str × (List (Str × Int))) × St) => [some (tokW), some (PyData.int most), some ((eD PyData.str (eT (eP2 PyData.str PyData.int))) s_.1), some (PyData.str name), some ((eL PyData.str) s__1.1.1), some ((eL (eP2 PyData.str PyData.int)) s__1.1.2), none]) (fun (s__1 : (List Str × (List (Str × Int))) × St) => some s__1.2) (fun (s__1 : (List Str × (List (Str × Int))) × St) (k_ : Int) => [some (tokW), some (PyData.int most), some ((eD PyData.str (eT (eP2 PyData.str PyData.int))) s_.1), some (PyData.str name), some ((eL PyData.str) s__1.1.1), some ((eL (eP2 PyData.str PyData.int)) s__1.1.2), some (PyData.int k_)]) (fun (s__1 : (List Str × (List (Str × Int))) × St) (k_ : Int) => (let left_1 : List Str := s__1.1.1.eraseIdx (ixN' s__1.1.1.length ((nextT s__1.2 (s__1.1.1.length : Int)).1)); let line : List (Str × Int) := s__1.1.2 ++ [(idx s__1.1.1 ((nextT s__1.2 (s__1.1.1.length : Int)).1), (if (decide (k_ = 0)) = true then (0, (nextT s__1.2 (s__1.1.1.length : Int)).2) else ((1 + (nextT ((nextT s__1.2 (s__1.1.1.length : Int)).2) 9).1), (nextT ((nextT s__1.2 (s__1.1.1.length : Int)).2) 9).2)).1)]; let l_ : St := (if (decide (k_ = 0)) = true then (0, (nextT s__1.2 (s__1.1.1.length : Int)).2) else ((1 + (nextT ((nextT s__1.2 (s__1.1.1.length : Int)).2) 9).1), (nextT ((nextT s__1.2 (s__1.1.1.length : Int)).2) 9).2)).2; ((left_1, line), l_))) (fun (s__1 : (List Str × (List (Str × Int))) × St) (k_ : Int) => (s__1.1.1.length : Int) ≠ 0 ∧ InR s__1.1.1 ((nextT s__1.2 (s__1.1.1.length : Int)).1) ∧ I62 ((nextT s__1.2 (s__1.1.1.length : Int)).1) ∧ s__1.1.2.length < sizeLine) (XA.r1 (X.op2 (X.k _) (X.call (XA.cons (X.var 0) (XA.cons (X.k _) XA.nil)) (next_tie (by decide))) (addD_i _ _)) hq_2.1) (show LE _ _ from .same (.same (.same (.same (.same (.same (.same (.nil)))))))) (fun s__1 k_ => (TG.name 6)) (fun s__1 k_ hx_1 hk_1 => (XS.seqPass (XS.seq3 (s__1.1.1.eraseIdx (ixN' s__1.1.1.length ((nextT s__1.2 (s__1.1.1.length : Int)).1))) (s__1.1.2 ++ [(idx s__1.1.1 ((nextT s__1.2 (s__1.1.1.length : Int)).1), (if (decide (k_ = 0)) = true then (0, (nextT s__1.2 (s__1.1.1.length : Int)).2) else ((1 + (nextT ((nextT s__1.2 (s__1.1.1.length : Int)).2) 9).1), (nextT ((nextT s__1.2 (s__1.1.1.length : Int)).2) 9).2)).1)]) ((if (decide (k_ = 0)) = true then (0, (nextT s__1.2 (s__1.1.1.length : Int)).2) else ((1 + (nextT ((nextT s__1.2 (s__1.1.1.length : Int)).2) 9).1), (nextT ((nextT s__1.2 (s__1.1.1.length : Int)).2) 9).2)).2) (fun (left_1 : List Str) (line : List (Str × Int)) (l_ : St) => [some (tokW), some (PyData.int most), some ((eD PyData.str (eT (eP2 PyData.str PyData.int))) s_.1), some (PyData.str name), some ((eL PyData.str) left_1), some ((eL (eP2 PyData.str PyData.int)) line), some (PyData.int k_)]) (fun (left_1 : List Str) (line : List (Str × Int)) (l_ : St) => some l_) (fun (left_1 : List Str) (line : List (Str × Int)) (l_ : St) => Out.nx ((fun (st : List Str × (List (Str × Int))) => [some (tokW), some (PyData.int most), some ((eD PyData.str (eT (eP2 PyData.str PyData.int))) s_.1), some (PyData.str name), some ((eL PyData.str) st.1), some ((eL (eP2 PyData.str PyData.int)) st.2), none]) ((left_1, line), l_).1)) (fun (left_1 : List Str) (line : List (Str × Int)) (l_ : St) => some ((left_1, line), l_).2) (XS.appPop 5 4 PyData.str PyData.int (X.call (XA.cons (X.var 0) (XA.cons (X.op1 (X.var 4) (lenD_L PyData.str s__1.1.1)) XA.nil)) (next_tie hk_1.1)) (X.ifW PyData.int (u := (0, (nextT s__1.2 (s__1.1.1.length : Int)).2)) (v := ((1 + (nextT ((nextT s__1.2 (s__1.1.1.length : Int)).2) 9).1), (nextT ((nextT s__1.2 (s__1.1.1.length : Int)).2) 9).2)) (XT.cmp (X.var 6) (X.k _) (eqE EqI (by decide) k_ 0)) (fun hk_2 => (X.k _)) (fun hk_2 => (X.op2 (X.k _) (X.call (XA.cons (X.var 0) (XA.cons (X.k _) XA.nil)) (next_tie (by decide))) (addD_i _ _)))) hk_1.2.1 hk_1.2.2.1 hk_1.2.2.2) (fun left_1 hv line hv_1 l_ hv_2 => (XS.wpass (show LE _ _ from .same (.same (.same (.same (.same (.same (.skip (.nil))))))))))))) hq_2.2.1) (fun s__2 hv_4 => (have hq_1 := hq_2.2.2 s__2 hv_4; (XS.seqPass (XS.seq1 (putT s_.1 name s__2.1.2) (fun (found_1 : List (Str × (List (Str × Int)))) => [some (tokW), some (PyData.int most), some ((eD PyData.str (eT (eP2 PyData.str PyData.int))) found_1), some (PyData.str name), some ((eL PyData.str) s__2.1.1), some ((eL (eP2 PyData.str PyData.int)) s__2.1.2), none]) (fun (found_1 : List (Str × (List (Str × Int)))) => some s__2.2) (fun (found_1 : List (Str × (List (Str × Int)))) => Out.nx ((fun (st : (List (Str × (List (Str × Int))))) => [some (tokW), some (PyData.int most), some ((eD PyData.str (eT (eP2 PyData.str PyData.int))) st), none, none, none, none]) (found_1, s__2.2).1)) (fun (found_1 : List (Str × (List (Str × Int)))) => some (found_1, s__2.2).2) (XS.putK 2 (eT (eP2 PyData.str PyData.int)) KeS (X.op1 (X.var 5) (tupD_l _)) (X.var 3) hq_1) (fun found_1 hv_3 => (XS.wpass (show LE _ _ from .same (.same (.same (.skip (.skip (.skip (.same (.nil))))))))))))))))))) hq_3.2) (fun found_2 hv_6 => (XS.ret (X.var 2)))))))
/-! law_stops -/
def law_stops_t (line : List (Str × Int)) : List Str := (line.map (fun (p : Str × Int) => p.1))
def law_stops_ok (line : List (Str × Int)) : Prop := line.length ≤ sizeLine
theorem law_stops_tie (line : List (Str × Int)) (h : law_stops_ok line) (w : Wd) : f_law_stops [(eT (eP2 PyData.str PyData.int)) line] w = some ((eL PyData.str) (law_stops_t line), w) := fn_tie (XS.ret (X.lcM (eP2 PyData.str PyData.int) PyData.str (xs := line) [some ((eT (eP2 PyData.str PyData.int)) line), none, none] (fun (p : Str × Int) => [some ((eT (eP2 PyData.str PyData.int)) line), some (PyData.str p.1), some (PyData.int p.2)]) (fun (p : Str × Int) => p.1) (XA.seqT (X.var 0)) (fun p => (TG.tup (TGs.cons (TG.name 1) (TGs.cons (TG.name 2) TGs.nil)))) h (fun p hx => (X.var 1))))
/-! long_of -/
def long_of_t (line : List (Str × Int)) : Int := (line.map (fun (p : Str × Int) => p.2)).sum
def long_of_ok (line : List (Str × Int)) : Prop := line.length ≤ sizeLine
theorem long_of_tie (line : List (Str × Int)) (h : long_of_ok line) (w : Wd) : f_long_of [(eT (eP2 PyData.str PyData.int)) line] w = some (PyData.int (long_of_t line), w) := fn_tie (XS.ret (X.op1 (X.lcM (eP2 PyData.str PyData.int) PyData.int (xs := line) [some ((eT (eP2 PyData.str PyData.int)) line), none, none] (fun (p : Str × Int) => [some ((eT (eP2 PyData.str PyData.int)) line), some (PyData.str p.1), some (PyData.int p.2)]) (fun (p : Str × Int) => p.2) (XA.seqT (X.var 0)) (fun p => (TG.tup (TGs.cons (TG.name 1) (TGs.cons (TG.name 2) TGs.nil)))) h (fun p hx => (X.var 2))) (sumD_L (line.map (fun (p : Str × Int) => p.2)))))
/-! stops_on -/
def stops_on_t (line : List (Str × Int)) : List Str := (line.map (fun (p : Str × Int) => p.1))
def stops_on_ok (line : List (Str × Int)) : Prop := line.length ≤ sizeLine
theorem stops_on_tie (line : List (Str × Int)) (h : stops_on_ok line) (w : Wd) : f_stops_on [(eT (eP2 PyData.str PyData.int)) line] w = some ((eL PyData.str) (stops_on_t line), w) := fn_tie (XS.ret (X.lcM (eP2 PyData.str PyData.int) PyData.str (xs := line) [some ((eT (eP2 PyData.str PyData.int)) line), none, none] (fun (p : Str × Int) => [some ((eT (eP2 PyData.str PyData.int)) line), some (PyData.str p.1), some (PyData.int p.2)]) (fun (p : Str × Int) => p.1) (XA.seqT (X.var 0)) (fun p => (TG.tup (TGs.cons (TG.name 1) (TGs.cons (TG.name 2) TGs.nil)))) h (fun p hx => (X.var 1))))
/-! minutes_to -/
def minutes_to_t (line : List (Str × Int)) (stop : Str) : Option Int := (if (!decide (stop ∈ (stops_on_t line))) = true then (none : Option Int) else (some (((cutL line none (some (((stops_on_t line).idxOf stop : Int) + 1))).map (fun (p : Str × Int) => p.2)).sum)))
def minutes_to_ok (line : List (Str × Int)) (stop : Str) : Prop := stops_on_ok line ∧ ((!decide (stop ∈ (stops_on_t line))) = false → stops_on_ok line ∧ stop ∈ (stops_on_t line) ∧ (cutL line none (some (((stops_on_t line).idxOf stop : Int) + 1))).length ≤ sizeLine)
theorem minutes_to_tie (line : List (Str × Int)) (stop : Str) (h : minutes_to_ok line stop) (w : Wd) : f_minutes_to [(eT (eP2 PyData.str PyData.int)) line, PyData.str stop] w = some ((eO PyData.int) (minutes_to_t line stop), w) := fn_tie (XS.dist (XS.if (fun r => Out.rt ((eO PyData.int) r)) (XT.cmp (X.var 1) (X.call (XA.cons (X.var 0) XA.nil) (stops_on_tie line h.1 _)) (notInAL EqS (by decide) stop (stops_on_t line))) (fun hk => (XS.exitR (XS.ret (X.k _)))) (fun hk => (have hq_4 := h.2 hk; (XS.passSeq (XS.ret (X.op1 (X.lcM (eP2 PyData.str PyData.int) PyData.int (xs := (cutL line none (some (((stops_on_t line).idxOf stop : Int) + 1)))) [some ((eT (eP2 PyData.str PyData.int)) line), some (PyData.str stop), none, none] (fun (p : Str × Int) => [some ((eT (eP2 PyData.str PyData.int)) line), some (PyData.str stop), some (PyData.str p.1), some (PyData.int p.2)]) (fun (p : Str × Int) => p.2) (XA.seqT (X.cut (X.var 0) XO.none (XO.some (X.op2 (X.op2 (X.call (XA.cons (X.var 0) XA.nil) (stops_on_tie line hq_4.1 _)) (X.var 1) (indexD_L EqS (by decide) stop (stops_on_t line) hq_4.2.1)) (X.k _) (addD_i _ _))) (cutD_T (eP2 PyData.str PyData.int) line none (some (((stops_on_t line).idxOf stop : Int) + 1))))) (fun p => (TG.tup (TGs.cons (TG.name 2) (TGs.cons (TG.name 3) TGs.nil)))) hq_4.2.2 (fun p hx => (X.var 3))) (sumD_L ((cutL line none (some (((stops_on_t line).idxOf stop : Int) + 1))).map (fun (p : Str × Int) => p.2))))))))))
/-! saved_at -/
def saved_at_t (line : List (Str × Int)) (stop : Str) (stand : Int) : Int := ((2 * ((long_of_t line) - ((minutes_to_t line stop).getD default))) + stand)
def saved_at_ok (line : List (Str × Int)) (stop : Str) (stand : Int) : Prop := long_of_ok line ∧ minutes_to_ok line stop ∧ (minutes_to_t line stop).isSome = true
theorem saved_at_tie (line : List (Str × Int)) (stop : Str) (stand : Int) (h : saved_at_ok line stop stand) (w : Wd) : f_saved_at [(eT (eP2 PyData.str PyData.int)) line, PyData.str stop, PyData.int stand] w = some (PyData.int (saved_at_t line stop stand), w) := fn_tie (XS.ret (X.op2 (X.op2 (X.k _) (X.op2 (X.call (XA.cons (X.var 0) XA.nil) (long_of_tie line h.1 _)) (X.get (e := PyData.int) (X.call (XA.cons (X.var 0) (XA.cons (X.var 1) XA.nil)) (minutes_to_tie line stop h.2.1 _)) h.2.2) (subD_i _ _)) (mulI_kl 2)) (X.var 2) (addD_i _ _)))
/-! lost_riders -/
def lost_riders_t (line : List (Str × Int)) (riders : List (Str × Str × Int)) (stop : Str) : Int := (let at_ : Option Int := (minutes_to_t line stop); ((riders.filter (fun (p : Str × Str × Int) => (decide ((at_.getD default) < ((minutes_to_t line p.2.1).getD default))))).map (fun (p : Str × Str × Int) => p.2.2)).sum)
def lost_riders_ok (line : List (Str × Int)) (riders : List (Str × Str × Int)) (stop : Str) : Prop := minutes_to_ok line stop ∧ (∀ at_ : Option Int, at_ = (minutes_to_t line stop) → riders.length ≤ sizeLine ∧ (∀ p, p ∈ riders → minutes_to_ok line p.2.1 ∧ (minutes_to_t line p.2.1).isSome = true ∧ at_.isSome = true))
theorem lost_riders_tie (line : List (Str × Int)) (riders : List (Str × Str × Int)) (stop : Str) (h : lost_riders_ok line riders stop) (w : Wd) : f_lost_riders [(eT (eP2 PyData.str PyData.int)) line, (eT (eP3 PyData.str PyData.str PyData.int)) riders, PyData.str stop] w = some (PyData.int (lost_riders_t line riders stop), w) := fn_tie (XS.seq1 (minutes_to_t line stop) (fun (at_ : Option Int) => [some ((eT (eP2 PyData.str PyData.int)) line), some ((eT (eP3 PyData.str PyData.str PyData.int)) riders), some (PyData.str stop), some ((eO PyData.int) at_), none, none, none]) (fun (at_ : Option Int) => w) (fun (at_ : Option Int) => Out.rt (PyData.int (((riders.filter (fun (p : Str × Str × Int) => (decide ((at_.getD default) < ((minutes_to_t line p.2.1).getD default))))).map (fun (p : Str × Str × Int) => p.2.2)).sum))) (fun (at_ : Option Int) => w) (XS.set (X.call (XA.cons (X.var 0) (XA.cons (X.var 2) XA.nil)) (minutes_to_tie line stop h.1 _)) (TG.name 3)) (fun at_ hv => (have hq_7 := h.2 at_ hv; (XS.ret (X.op1 (X.lcF (eP3 PyData.str PyData.str PyData.int) PyData.int (xs := riders) [some ((eT (eP2 PyData.str PyData.int)) line), some ((eT (eP3 PyData.str PyData.str PyData.int)) riders), some (PyData.str stop), some ((eO PyData.int) at_), none, none, none] (fun (p : Str × Str × Int) => [some ((eT (eP2 PyData.str PyData.int)) line), some ((eT (eP3 PyData.str PyData.str PyData.int)) riders), some (PyData.str stop), some ((eO PyData.int) at_), some (PyData.str p.1), some (PyData.str p.2.1), some (PyData.int p.2.2)]) (fun (p : Str × Str × Int) => (decide ((at_.getD default) < ((minutes_to_t line p.2.1).getD default)))) (fun (p : Str × Str × Int) => p.2.2) (XA.seqT (X.var 1)) (fun p => (TG.tup (TGs.cons (TG.name 4) (TGs.cons (TG.name 5) (TGs.cons (TG.name 6) TGs.nil))))) hq_7.1 (fun p hx => (have hq_5 := hq_7.2 p hx; (XT.cmp (X.get (e := PyData.int) (X.call (XA.cons (X.var 0) (XA.cons (X.var 5) XA.nil)) (minutes_to_tie line p.2.1 hq_5.1 _)) hq_5.2.1) (X.get (e := PyData.int) (X.var 3) hq_5.2.2) (gtD_i _ _)))) (fun p hx hb => (have hq_6 := hq_7.2 p hx; (X.var 6)))) (sumD_L ((riders.filter (fun (p : Str × Str × Int) => (decide ((at_.getD default) < ((minutes_to_t line p.2.1).getD default))))).map (fun (p : Str × Str × Int) => p.2.2))))))))
/-! inner_stops -/
def inner_stops_t (line : List (Str × Int)) : List Str := (cutL (stops_on_t line) (some 1) (some (-1)))
def inner_stops_ok (line : List (Str × Int)) : Prop := stops_on_ok line
theorem inner_stops_tie (line : List (Str × Int)) (h : inner_stops_ok line) (w : Wd) : f_inner_stops [(eT (eP2 PyData.str PyData.int)) line] w = some ((eL PyData.str) (inner_stops_t line), w) := fn_tie (XS.ret (X.cut (X.call (XA.cons (X.var 0) XA.nil) (stops_on_tie line h _)) (XO.some (X.k _)) (XO.some (X.op1 (X.k _) (negD_i _))) (cutD_L PyData.str (stops_on_t line) (some 1) (some (-1)))))
/-! turn_stop -/
def turn_stop_t (line : List (Str × Int)) (late : Int) (stand : Int) : Option Str := (let able : List Str := ((inner_stops_t line).filter (fun (stop : Str) => (decide (late ≤ (saved_at_t line stop stand))))); (if (!decide (able = [])) = true then (some (idx able (-1))) else (none : Option Str)))
def turn_stop_ok (line : List (Str × Int)) (late : Int) (stand : Int) : Prop := inner_stops_ok line ∧ (inner_stops_t line).length ≤ sizeLine ∧ (∀ stop, stop ∈ (inner_stops_t line) → saved_at_ok line stop stand) ∧ (∀ able : List Str, able = ((inner_stops_t line).filter (fun (stop : Str) => (decide (late ≤ (saved_at_t line stop stand))))) → (!decide (able = [])) = true → InR able (-1))
theorem turn_stop_tie (line : List (Str × Int)) (late : Int) (stand : Int) (h : turn_stop_ok line late stand) (w : Wd) : f_turn_stop [(eT (eP2 PyData.str PyData.int)) line, PyData.int late, PyData.int stand] w = some ((eO PyData.str) (turn_stop_t line late stand), w) := fn_tie (XS.seq1 ((inner_stops_t line).filter (fun (stop : Str) => (decide (late ≤ (saved_at_t line stop stand))))) (fun (able : List Str) => [some ((eT (eP2 PyData.str PyData.int)) line), some (PyData.int late), some (PyData.int stand), some ((eL PyData.str) able), none]) (fun (able : List Str) => w) (fun (able : List Str) => Out.rt ((eO PyData.str) (if (!decide (able = [])) = true then (some (idx able (-1))) else (none : Option Str)))) (fun (able : List Str) => w) (XS.set (X.lcS PyData.str (xs := (inner_stops_t line)) [some ((eT (eP2 PyData.str PyData.int)) line), some (PyData.int late), some (PyData.int stand), none, none] (fun (stop : Str) => [some ((eT (eP2 PyData.str PyData.int)) line), some (PyData.int late), some (PyData.int stand), none, some (PyData.str stop)]) (fun (stop : Str) => (decide (late ≤ (saved_at_t line stop stand)))) (XA.seqL (X.call (XA.cons (X.var 0) XA.nil) (inner_stops_tie line h.1 _))) (fun stop => (TG.name 4)) h.2.1 (fun stop hx => (have hq_8 := h.2.2.1 stop hx; (XT.cmp (X.call (XA.cons (X.var 0) (XA.cons (X.var 4) (XA.cons (X.var 2) XA.nil))) (saved_at_tie line stop stand hq_8 _)) (X.var 1) (geD_i _ _)))) (fun stop hx hb => (have hq_9 := h.2.2.1 stop hx; (X.var 4)))) (TG.name 3)) (fun able hv => (have hq_11 := h.2.2.2 able hv; (XS.ret (X.if (eO PyData.str) (u := (some (idx able (-1)))) (v := (none : Option Str)) (XT.cmp (X.var 3) (X.lst XA.nil) (neE (EqL EqS) (by decide) able [])) (fun hk => (have hq_10 := hq_11 hk; (X.op2 (X.var 3) (X.op1 (X.k _) (negD_i _)) (ixAD_L PyData.str hq_10)))) (fun hk => (X.k _)))))))
/-! law_cost -/
def law_cost_t (line : List (Str × Int)) (riders : List (Str × Str × Int)) (back : List (Str × Str × Int)) (late : Int) (stand : Int) (later : Int) (stop : Option Str) : Int := (let stops : List Str := (law_stops_t line); let whole : Int := (back.map (fun (p : Str × Str × Int) => p.2.2)).sum; (if stop.isNone = true then (whole * (if (decide (stand < late)) = true then (late - stand) else 0)) else (let at_ : Int := (stops.idxOf (stop.getD default) : Int); (let rest : Int := ((cutL line (some (at_ + 1)) none).map (fun (p_1 : Str × Int) => p_1.2)).sum; (let left : Int := (maxI 0 ((late - (2 * rest)) - stand)); (let behind : Int := ((back.filter (fun (p_2 : Str × Str × Int) => (decide (at_ < (stops.idxOf p_2.1 : Int))))).map (fun (p_2 : Str × Str × Int) => p_2.2.2)).sum; (let gone : Int := ((riders.filter (fun (p_3 : Str × Str × Int) => (decide (at_ < (stops.idxOf p_3.2.1 : Int))))).map (fun (p_3 : Str × Str × Int) => p_3.2.2)).sum; ((later * (gone + behind)) + (left * (whole - behind))))))))))
def law_cost_ok (line : List (Str × Int)) (riders : List (Str × Str × Int)) (back : List (Str × Str × Int)) (late : Int) (stand : Int) (later : Int) (stop : Option Str) : Prop := law_stops_ok line ∧ back.length ≤ sizeLine ∧ (∀ stops : List Str, stops = (law_stops_t line) → ∀ whole : Int, whole = (back.map (fun (p : Str × Str × Int) => p.2.2)).sum → (stop.isNone = true → M64 whole (if (decide (stand < late)) = true then (late - stand) else 0)) ∧ (stop.isNone = false → stop.isSome = true ∧ (stop.getD default) ∈ stops ∧ (∀ at_ : Int, at_ = (stops.idxOf (stop.getD default) : Int) → (cutL line (some (at_ + 1)) none).length ≤ sizeLine ∧ (∀ rest : Int, rest = ((cutL line (some (at_ + 1)) none).map (fun (p_1 : Str × Int) => p_1.2)).sum → ∀ left : Int, left = (maxI 0 ((late - (2 * rest)) - stand)) → back.length ≤ sizeLine ∧ (∀ p_2, p_2 ∈ back → p_2.1 ∈ stops) ∧ (∀ behind : Int, behind = ((back.filter (fun (p_2 : Str × Str × Int) => (decide (at_ < (stops.idxOf p_2.1 : Int))))).map (fun (p_2 : Str × Str × Int) => p_2.2.2)).sum → riders.length ≤ sizeLine ∧ (∀ p_3, p_3 ∈ riders → p_3.2.1 ∈ stops) ∧ (∀ gone : Int, gone = ((riders.filter (fun (p_3 : Str × Str × Int) => (decide (at_ < (stops.idxOf p_3.2.1 : Int))))).map (fun (p_3 : Str × Str × Int) => p_3.2.2)).sum → M64 later (gone + behind) ∧ M64 left (whole - behind)))))))
theorem law_cost_tie (line : List (Str × Int)) (riders : List (Str × Str × Int)) (back : List (Str × Str × Int)) (late : Int) (stand : Int) (later : Int) (stop : Option Str) (h : law_cost_ok line riders back late stand later stop) (w : Wd) : f_law_cost [(eT (eP2 PyData.str PyData.int)) line, (eL (eP3 PyData.str PyData.str PyData.int)) riders, (eL (eP3 PyData.str PyData.str PyData.int)) back, PyData.int late, PyData.int stand, PyData.int later, (eO PyData.str) stop] w = some (PyData.int (law_cost_t line riders back late stand later stop), w) := fn_tie (XS.seq2 (law_stops_t line) ((back.map (fun (p : Str × Str × Int) => p.2.2)).sum) (fun (stops : List Str) (whole : Int) => [some ((eT (eP2 PyData.str PyData.int)) line), some ((eL (eP3 PyData.str PyData.str PyData.int)) riders), some ((eL (eP3 PyData.str PyData.str PyData.int)) back), some (PyData.int late), some (PyData.int stand), some (PyData.int later), some ((eO PyData.str) stop), some ((eL PyData.str) stops), some (PyData.int whole), none, none, none, none, none, none, none, none, none, none]) (fun (stops : List Str) (whole : Int) => w) (fun (stops : List Str) (whole : Int) => Out.rt (PyData.int (if stop.isNone = true then (whole * (if (decide (stand < late)) = true then (late - stand) else 0)) else (let at_ : Int := (stops.idxOf (stop.getD default) : Int); (let rest : Int := ((cutL line (some (at_ + 1)) none).map (fun (p_1 : Str × Int) => p_1.2)).sum; (let left : Int := (maxI 0 ((late - (2 * rest)) - stand)); (let behind : Int := ((back.filter (fun (p_2 : Str × Str × Int) => (decide (at_ < (stops.idxOf p_2.1 : Int))))).map (fun (p_2 : Str × Str × Int) => p_2.2.2)).sum; (let gone : Int := ((riders.filter (fun (p_3 : Str × Str × Int) => (decide (at_ < (stops.idxOf p_3.2.1 : Int))))).map (fun (p_3 : Str × Str × Int) => p_3.2.2)).sum; ((later * (gone + behind)) + (left * (whole - behind))))))))))) (fun (stops : List Str) (whole : Int) => w) (XS.par (XA.cons (X.call (XA.cons (X.var 0) XA.nil) (law_stops_tie line h.1 _)) (XA.cons (X.op1 (X.lcM (eP3 PyData.str PyData.str PyData.int) PyData.int (xs := back) [some ((eT (eP2 PyData.str PyData.int)) line), some ((eL (eP3 PyData.str PyData.str PyData.int)) riders), some ((eL (eP3 PyData.str PyData.str PyData.int)) back), some (PyData.int late), some (PyData.int stand), some (PyData.int later), some ((eO PyData.str) stop), none, none, none, none, none, none, none, none, none, none, none, none] (fun (p : Str × Str × Int) => [some ((eT (eP2 PyData.str PyData.int)) line), some ((eL (eP3 PyData.str PyData.str PyData.int)) riders), some ((eL (eP3 PyData.str PyData.str PyData.int)) back), some (PyData.int late), some (PyData.int stand), some (PyData.int later), some ((eO PyData.str) stop), none, none, none, none, none, none, none, none, none, some (PyData.str p.1), some (PyData.str p.2.1), some (PyData.int p.2.2)]) (fun (p : Str × Str × Int) => p.2.2) (XA.seqL (X.var 2)) (fun p => (TG.tup (TGs.cons (TG.name 16) (TGs.cons (TG.name 17) (TGs.cons (TG.name 18) TGs.nil))))) h.2.1 (fun p hx => (X.var 18))) (sumD_L (back.map (fun (p : Str × Str × Int) => p.2.2)))) XA.nil)) (TGs.cons (TG.name 7) (TGs.cons (TG.name 8) TGs.nil))) (fun stops hv_5 whole hv_6 => (have hq_23 := h.2.2 stops hv_5 whole hv_6; (XS.dist (XS.if (fun r => Out.rt (PyData.int r)) (XT.cmp (X.var 6) (X.k _) (isND_O NN.s stop)) (fun hk => (have hq_12 := hq_23.1 hk; (XS.exitR (XS.ret (X.op2 (X.var 8) (X.if PyData.int (u := (late - stand)) (v := 0) (XT.cmp (X.var 3) (X.var 4) (gtD_i _ _)) (fun hk_1 => (X.op2 (X.var 3) (X.var 4) (subD_i _ _))) (fun hk_1 => (X.k _))) (mulI_ok hq_12)))))) (fun hk => (have hq_22 := hq_23.2 hk; (XS.passSeq (XS.seq1 (stops.idxOf (stop.getD default) : Int) (fun (at_ : Int) => [some ((eT (eP2 PyData.str PyData.int)) line), some ((eL (eP3 PyData.str PyData.str PyData.int)) riders), some ((eL (eP3 PyData.str PyData.str PyData.int)) back), some (PyData.int late), some (PyData.int stand), some (PyData.int later), some ((eO PyData.str) stop), some ((eL PyData.str) stops), some (PyData.int whole), some (PyData.int at_), none, none, none, none, none, none, none, none, none]) (fun (at_ : Int) => w) (fun (at_ : Int) => Out.rt (PyData.int (let rest : Int := ((cutL line (some (at_ + 1)) none).map (fun (p_1 : Str × Int) => p_1.2)).sum; (let left : Int := (maxI 0 ((late - (2 * rest)) - stand)); (let behind : Int := ((back.filter (fun (p_2 : Str × Str × Int) => (decide (at_ < (stops.idxOf p_2.1 : Int))))).map (fun (p_2 : Str × Str × Int) => p_2.2.2)).sum; (let gone : Int := ((riders.filter (fun (p_3 : Str × Str × Int) => (decide (at_ < (stops.idxOf p_3.2.1 : Int))))).map (fun (p_3 : Str × Str × Int) => p_3.2.2)).sum; ((later * (gone + behind)) + (left * (whole - behind))))))))) (fun (at_ : Int) => w) (XS.set (X.op2 (X.var 7) (X.get (e := PyData.str) (X.var 6) hq_22.1) (indexD_L EqS (by decide) (stop.getD default) stops hq_22.2.1)) (TG.name 9)) (fun at_ hv_4 => (have hq_21 := hq_22.2.2 at_ hv_4; (XS.seq1 (((cutL line (some (at_ + 1)) none).map (fun (p_1 : Str × Int) => p_1.2)).sum) (fun (rest : Int) => [some ((eT (eP2 PyData.str PyData.int)) line), some ((eL (eP3 PyData.str PyData.str PyData.int)) riders), some ((eL (eP3 PyData.str PyData.str PyData.int)) back), some (PyData.int late), some (PyData.int stand), some (PyData.int later), some ((eO PyData.str) stop), some ((eL PyData.str) stops), some (PyData.int whole), some (PyData.int at_), some (PyData.int rest), none, none, none, none, none, none, none, none]) (fun (rest : Int) => w) (fun (rest : Int) => Out.rt (PyData.int (let left : Int := (maxI 0 ((late - (2 * rest)) - stand)); (let behind : Int := ((back.filter (fun (p_2 : Str × Str × Int) => (decide (at_ < (stops.idxOf p_2.1 : Int))))).map (fun (p_2 : Str × Str × Int) => p_2.2.2)).sum; (let gone : Int := ((riders.filter (fun (p_3 : Str × Str × Int) => (decide (at_ < (stops.idxOf p_3.2.1 : Int))))).map (fun (p_3 : Str × Str × Int) => p_3.2.2)).sum; ((later * (gone + behind)) + (left * (whole - behind)))))))) (fun (rest : Int) => w) (XS.set (X.op1 (X.lcM (eP2 PyData.str PyData.int) PyData.int (xs := (cutL line (some (at_ + 1)) none)) [some ((eT (eP2 PyData.str PyData.int)) line), some ((eL (eP3 PyData.str PyData.str PyData.int)) riders), some ((eL (eP3 PyData.str PyData.str PyData.int)) back), some (PyData.int late), some (PyData.int stand), some (PyData.int later), some ((eO PyData.str) stop), some ((eL PyData.str) stops), some (PyData.int whole), some (PyData.int at_), none, none, none, none, none, none, none, none, none] (fun (p_1 : Str × Int) => [some ((eT (eP2 PyData.str PyData.int)) line), some ((eL (eP3 PyData.str PyData.str PyData.int)) riders), some ((eL (eP3 PyData.str PyData.str PyData.int)) back), some (PyData.int late), some (PyData.int stand), some (PyData.int later), some ((eO PyData.str) stop), some ((eL PyData.str) stops), some (PyData.int whole), some (PyData.int at_), none, none, none, none, some (PyData.str p_1.1), some (PyData.int p_1.2), none, none, none]) (fun (p_1 : Str × Int) => p_1.2) (XA.seqT (X.cut (X.var 0) (XO.some (X.op2 (X.var 9) (X.k _) (addD_i _ _))) XO.none (cutD_T (eP2 PyData.str PyData.int) line (some (at_ + 1)) none))) (fun p_1 => (TG.tup (TGs.cons (TG.name 14) (TGs.cons (TG.name 15) TGs.nil)))) hq_21.1 (fun p_1 hx_1 => (X.var 15))) (sumD_L ((cutL line (some (at_ + 1)) none).map (fun (p_1 : Str × Int) => p_1.2)))) (TG.name 10)) (fun rest hv_3 => (have hq_20 := hq_21.2 rest hv_3; (XS.seq1 (maxI 0 ((late - (2 * rest)) - stand)) (fun (left : Int) => [some ((eT (eP2 PyData.str PyData.int)) line), some ((eL (eP3 PyData.str PyData.str PyData.int)) riders), some ((eL (eP3 PyData.str PyData.str PyData.int)) back), some (PyData.int late), some (PyData.int stand), some (PyData.int later), some ((eO PyData.str) stop), some ((eL PyData.str) stops), some (PyData.int whole), some (PyData.int at_), some (PyData.int rest), some (PyData.int left), none, none, none, none, none, none, none]) (fun (left : Int) => w) (fun (left : Int) => Out.rt (PyData.int (let behind : Int := ((back.filter (fun (p_2 : Str × Str × Int) => (decide (at_ < (stops.idxOf p_2.1 : Int))))).map (fun (p_2 : Str × Str × Int) => p_2.2.2)).sum; (let gone : Int := ((riders.filter (fun (p_3 : Str × Str × Int) => (decide (at_ < (stops.idxOf p_3.2.1 : Int))))).map (fun (p_3 : Str × Str × Int) => p_3.2.2)).sum; ((later * (gone + behind)) + (left * (whole - behind))))))) (fun (left : Int) => w) (XS.set (X.op2 (X.k _) (X.op2 (X.op2 (X.var 3) (X.op2 (X.k _) (X.var 10) (mulI_kl 2)) (subD_i _ _)) (X.var 4) (subD_i _ _)) (max2_I _ _)) (TG.name 11)) (fun left hv_2 => (have hq_19 := hq_20 left hv_2; (XS.seq1 (((back.filter (fun (p_2 : Str × Str × Int) => (decide (at_ < (stops.idxOf p_2.1 : Int))))).map (fun (p_2 : Str × Str × Int) => p_2.2.2)).sum) (fun (behind : Int) => [some ((eT (eP2 PyData.str PyData.int)) line), some ((eL (eP3 PyData.str PyData.str PyData.int)) riders), some ((eL (eP3 PyData.str PyData.str PyData.int)) back), some (PyData.int late), some (PyData.int stand), some (PyData.int later), some ((eO PyData.str) stop), some ((eL PyData.str) stops), some (PyData.int whole), some (PyData.int at_), some (PyData.int rest), some (PyData.int left), some (PyData.int behind), none, none, none, none, none, none]) (fun (behind : Int) => w) (fun (behind : Int) => Out.rt (PyData.int (let gone : Int := ((riders.filter (fun (p_3 : Str × Str × Int) => (decide (at_ < (stops.idxOf p_3.2.1 : Int))))).map (fun (p_3 : Str × Str × Int) => p_3.2.2)).sum; ((later * (gone + behind)) + (left * (whole - behind)))))) (fun (behind : Int) => w) (XS.set (X.op1 (X.lcF (eP3 PyData.str PyData.str PyData.int) PyData.int (xs := back) [some ((eT (eP2 PyData.str PyData.int)) line), some ((eL (eP3 PyData.str PyData.str PyData.int)) riders), some ((eL (eP3 PyData.str PyData.str PyData.int)) back), some (PyData.int late), some (PyData.int stand), some (PyData.int later), some ((eO PyData.str) stop), some ((eL PyData.str) stops), some (PyData.int whole), some (PyData.int at_), some (PyData.int rest), some (PyData.int left), none, none, none, none, none, none, none] (fun (p_2 : Str × Str × Int) => [some ((eT (eP2 PyData.str PyData.int)) line), some ((eL (eP3 PyData.str PyData.str PyData.int)) riders), some ((eL (eP3 PyData.str PyData.str PyData.int)) back), some (PyData.int late), some (PyData.int stand), some (PyData.int later), some ((eO PyData.str) stop), some ((eL PyData.str) stops), some (PyData.int whole), some (PyData.int at_), some (PyData.int rest), some (PyData.int left), none, none, none, none, some (PyData.str p_2.1), some (PyData.str p_2.2.1), some (PyData.int p_2.2.2)]) (fun (p_2 : Str × Str × Int) => (decide (at_ < (stops.idxOf p_2.1 : Int)))) (fun (p_2 : Str × Str × Int) => p_2.2.2) (XA.seqL (X.var 2)) (fun p_2 => (TG.tup (TGs.cons (TG.name 16) (TGs.cons (TG.name 17) (TGs.cons (TG.name 18) TGs.nil))))) hq_19.1 (fun p_2 hx_2 => (have hq_13 := hq_19.2.1 p_2 hx_2; (XT.cmp (X.op2 (X.var 7) (X.var 16) (indexD_L EqS (by decide) p_2.1 stops hq_13)) (X.var 9) (gtD_i _ _)))) (fun p_2 hx_2 hb => (have hq_14 := hq_19.2.1 p_2 hx_2; (X.var 18)))) (sumD_L ((back.filter (fun (p_2 : Str × Str × Int) => (decide (at_ < (stops.idxOf p_2.1 : Int))))).map (fun (p_2 : Str × Str × Int) => p_2.2.2)))) (TG.name 12)) (fun behind hv_1 => (have hq_18 := hq_19.2.2 behind hv_1; (XS.seq1 (((riders.filter (fun (p_3 : Str × Str × Int) => (decide (at_ < (stops.idxOf p_3.2.1 : Int))))).map (fun (p_3 : Str × Str × Int) => p_3.2.2)).sum) (fun (gone : Int) => [some ((eT (eP2 PyData.str PyData.int)) line), some ((eL (eP3 PyData.str PyData.str PyData.int)) riders), some ((eL (eP3 PyData.str PyData.str PyData.int)) back), some (PyData.int late), some (PyData.int stand), some (PyData.int later), some ((eO PyData.str) stop), some ((eL PyData.str) stops), some (PyData.int whole), some (PyData.int at_), some (PyData.int rest), some (PyData.int left), some (PyData.int behind), some (PyData.int gone), none, none, none, none, none]) (fun (gone : Int) => w) (fun (gone : Int) => Out.rt (PyData.int ((later * (gone + behind)) + (left * (whole - behind))))) (fun (gone : Int) => w) (XS.set (X.op1 (X.lcF (eP3 PyData.str PyData.str PyData.int) PyData.int (xs := riders) [some ((eT (eP2 PyData.str PyData.int)) line), some ((eL (eP3 PyData.str PyData.str PyData.int)) riders), some ((eL (eP3 PyData.str PyData.str PyData.int)) back), some (PyData.int late), some (PyData.int stand), some (PyData.int later), some ((eO PyData.str) stop), some ((eL PyData.str) stops), some (PyData.int whole), some (PyData.int at_), some (PyData.int rest), some (PyData.int left), some (PyData.int behind), none, none, none, none, none, none] (fun (p_3 : Str × Str × Int) => [some ((eT (eP2 PyData.str PyData.int)) line), some ((eL (eP3 PyData.str PyData.str PyData.int)) riders), some ((eL (eP3 PyData.str PyData.str PyData.int)) back), some (PyData.int late), some (PyData.int stand), some (PyData.int later), some ((eO PyData.str) stop), some ((eL PyData.str) stops), some (PyData.int whole), some (PyData.int at_), some (PyData.int rest), some (PyData.int left), some (PyData.int behind), none, none, none, some (PyData.str p_3.1), some (PyData.str p_3.2.1), some (PyData.int p_3.2.2)]) (fun (p_3 : Str × Str × Int) => (decide (at_ < (stops.idxOf p_3.2.1 : Int)))) (fun (p_3 : Str × Str × Int) => p_3.2.2) (XA.seqL (X.var 1)) (fun p_3 => (TG.tup (TGs.cons (TG.name 16) (TGs.cons (TG.name 17) (TGs.cons (TG.name 18) TGs.nil))))) hq_18.1 (fun p_3 hx_3 => (have hq_15 := hq_18.2.1 p_3 hx_3; (XT.cmp (X.op2 (X.var 7) (X.var 17) (indexD_L EqS (by decide) p_3.2.1 stops hq_15)) (X.var 9) (gtD_i _ _)))) (fun p_3 hx_3 hb_1 => (have hq_16 := hq_18.2.1 p_3 hx_3; (X.var 18)))) (sumD_L ((riders.filter (fun (p_3 : Str × Str × Int) => (decide (at_ < (stops.idxOf p_3.2.1 : Int))))).map (fun (p_3 : Str × Str × Int) => p_3.2.2)))) (TG.name 13)) (fun gone hv => (have hq_17 := hq_18.2.2 gone hv; (XS.ret (X.op2 (X.op2 (X.var 5) (X.op2 (X.var 13) (X.var 12) (addD_i _ _)) (mulI_ok hq_17.1)) (X.op2 (X.var 11) (X.op2 (X.var 8) (X.var 12) (subD_i _ _)) (mulI_ok hq_17.2)) (addD_i _ _))))))))))))))))))))))))))
/-! cost_of_turn -/
def cost_of_turn_t (line : List (Str × Int)) (riders : List (Str × Str × Int)) (back : List (Str × Str × Int)) (late : Int) (stand : Int) (later : Int) (stop : Option Str) : Int := (let whole : Int := (back.map (fun (p : Str × Str × Int) => p.2.2)).sum; (if stop.isNone = true then (whole * (maxI 0 (late - stand))) else (let at_ : Option Int := (minutes_to_t line (stop.getD default)); (let behind : Int := ((back.filter (fun (p_1 : Str × Str × Int) => (decide ((at_.getD default) < ((minutes_to_t line p_1.1).getD default))))).map (fun (p_1 : Str × Str × Int) => p_1.2.2)).sum; (let left : Int := (maxI 0 (late - (saved_at_t line (stop.getD default) stand))); ((later * ((lost_riders_t line riders (stop.getD default)) + behind)) + (left * (whole - behind))))))))
def cost_of_turn_ok (line : List (Str × Int)) (riders : List (Str × Str × Int)) (back : List (Str × Str × Int)) (late : Int) (stand : Int) (later : Int) (stop : Option Str) : Prop := back.length ≤ sizeLine ∧ (∀ whole : Int, whole = (back.map (fun (p : Str × Str × Int) => p.2.2)).sum → (stop.isNone = true → M64 whole (maxI 0 (late - stand))) ∧ (stop.isNone = false → stop.isSome = true ∧ minutes_to_ok line (stop.getD default) ∧ (∀ at_ : Option Int, at_ = (minutes_to_t line (stop.getD default)) → back.length ≤ sizeLine ∧ (∀ p_1, p_1 ∈ back → minutes_to_ok line p_1.1 ∧ (minutes_to_t line p_1.1).isSome = true ∧ at_.isSome = true) ∧ (∀ behind : Int, behind = ((back.filter (fun (p_1 : Str × Str × Int) => (decide ((at_.getD default) < ((minutes_to_t line p_1.1).getD default))))).map (fun (p_1 : Str × Str × Int) => p_1.2.2)).sum → stop.isSome = true ∧ saved_at_ok line (stop.getD default) stand ∧ (∀ left : Int, left = (maxI 0 (late - (saved_at_t line (stop.getD default) stand))) → stop.isSome = true ∧ lost_riders_ok line riders (stop.getD default) ∧ M64 later ((lost_riders_t line riders (stop.getD default)) + behind) ∧ M64 left (whole - behind))))))
theorem cost_of_turn_tie (line : List (Str × Int)) (riders : List (Str × Str × Int)) (back : List (Str × Str × Int)) (late : Int) (stand : Int) (later : Int) (stop : Option Str) (h : cost_of_turn_ok line riders back late stand later stop) (w : Wd) : f_cost_of_turn [(eT (eP2 PyData.str PyData.int)) line, (eT (eP3 PyData.str PyData.str PyData.int)) riders, (eT (eP3 PyData.str PyData.str PyData.int)) back, PyData.int late, PyData.int stand, PyData.int later, (eO PyData.str) stop] w = some (PyData.int (cost_of_turn_t line riders back late stand later stop), w) := fn_tie (XS.seq1 ((back.map (fun (p : Str × Str × Int) => p.2.2)).sum) (fun (whole : Int) => [some ((eT (eP2 PyData.str PyData.int)) line), some ((eT (eP3 PyData.str PyData.str PyData.int)) riders), some ((eT (eP3 PyData.str PyData.str PyData.int)) back), some (PyData.int late), some (PyData.int stand), some (PyData.int later), some ((eO PyData.str) stop), some (PyData.int whole), none, none, none, none, none, none]) (fun (whole : Int) => w) (fun (whole : Int) => Out.rt (PyData.int (if stop.isNone = true then (whole * (maxI 0 (late - stand))) else (let at_ : Option Int := (minutes_to_t line (stop.getD default)); (let behind : Int := ((back.filter (fun (p_1 : Str × Str × Int) => (decide ((at_.getD default) < ((minutes_to_t line p_1.1).getD default))))).map (fun (p_1 : Str × Str × Int) => p_1.2.2)).sum; (let left : Int := (maxI 0 (late - (saved_at_t line (stop.getD default) stand))); ((later * ((lost_riders_t line riders (stop.getD default)) + behind)) + (left * (whole - behind))))))))) (fun (whole : Int) => w) (XS.set (X.op1 (X.lcM (eP3 PyData.str PyData.str PyData.int) PyData.int (xs := back) [some ((eT (eP2 PyData.str PyData.int)) line), some ((eT (eP3 PyData.str PyData.str PyData.int)) riders), some ((eT (eP3 PyData.str PyData.str PyData.int)) back), some (PyData.int late), some (PyData.int stand), some (PyData.int later), some ((eO PyData.str) stop), none, none, none, none, none, none, none] (fun (p : Str × Str × Int) => [some ((eT (eP2 PyData.str PyData.int)) line), some ((eT (eP3 PyData.str PyData.str PyData.int)) riders), some ((eT (eP3 PyData.str PyData.str PyData.int)) back), some (PyData.int late), some (PyData.int stand), some (PyData.int later), some ((eO PyData.str) stop), none, none, none, none, some (PyData.str p.2.1), some (PyData.int p.2.2), none]) (fun (p : Str × Str × Int) => p.2.2) (XA.seqT (X.var 2)) (fun p => (TG.tup (TGs.cons (TG.name 11) (TGs.cons (TG.name 11) (TGs.cons (TG.name 12) TGs.nil))))) h.1 (fun p hx => (X.var 12))) (sumD_L (back.map (fun (p : Str × Str × Int) => p.2.2)))) (TG.name 7)) (fun whole hv_3 => (have hq_31 := h.2 whole hv_3; (XS.dist (XS.if (fun r => Out.rt (PyData.int r)) (XT.cmp (X.var 6) (X.k _) (isND_O NN.s stop)) (fun hk => (have hq_24 := hq_31.1 hk; (XS.exitR (XS.ret (X.op2 (X.var 7) (X.op2 (X.k _) (X.op2 (X.var 3) (X.var 4) (subD_i _ _)) (max2_I _ _)) (mulI_ok hq_24)))))) (fun hk => (have hq_30 := hq_31.2 hk; (XS.passSeq (XS.seq1 (minutes_to_t line (stop.getD default)) (fun (at_ : Option Int) => [some ((eT (eP2 PyData.str PyData.int)) line), some ((eT (eP3 PyData.str PyData.str PyData.int)) riders), some ((eT (eP3 PyData.str PyData.str PyData.int)) back), some (PyData.int late), some (PyData.int stand), some (PyData.int later), some ((eO PyData.str) stop), some (PyData.int whole), some ((eO PyData.int) at_), none, none, none, none, none]) (fun (at_ : Option Int) => w) (fun (at_ : Option Int) => Out.rt (PyData.int (let behind : Int := ((back.filter (fun (p_1 : Str × Str × Int) => (decide ((at_.getD default) < ((minutes_to_t line p_1.1).getD default))))).map (fun (p_1 : Str × Str × Int) => p_1.2.2)).sum; (let left : Int := (maxI 0 (late - (saved_at_t line (stop.getD default) stand))); ((later * ((lost_riders_t line riders (stop.getD default)) + behind)) + (left * (whole - behind))))))) (fun (at_ : Option Int) => w) (XS.set (X.call (XA.cons (X.var 0) (XA.cons (X.get (e := PyData.str) (X.var 6) hq_30.1) XA.nil)) (minutes_to_tie line (stop.getD default) hq_30.2.1 _)) (TG.name 8)) (fun at_ hv_2 => (have hq_29 := hq_30.2.2 at_ hv_2; (XS.seq1 (((back.filter (fun (p_1 : Str × Str × Int) => (decide ((at_.getD default) < ((minutes_to_t line p_1.1).getD default))))).map (fun (p_1 : Str × Str × Int) => p_1.2.2)).sum) (fun (behind : Int) => [some ((eT (eP2 PyData.str PyData.int)) line), some ((eT (eP3 PyData.str PyData.str PyData.int)) riders), some ((eT (eP3 PyData.str PyData.str PyData.int)) back), some (PyData.int late), some (PyData.int stand), some (PyData.int later), some ((eO PyData.str) stop), some (PyData.int whole), some ((eO PyData.int) at_), some (PyData.int behind), none, none, none, none]) (fun (behind : Int) => w) (fun (behind : Int) => Out.rt (PyData.int (let left : Int := (maxI 0 (late - (saved_at_t line (stop.getD default) stand))); ((later * ((lost_riders_t line riders (stop.getD default)) + behind)) + (left * (whole - behind)))))) (fun (behind : Int) => w) (XS.set (X.op1 (X.lcF (eP3 PyData.str PyData.str PyData.int) PyData.int (xs := back) [some ((eT (eP2 PyData.str PyData.int)) line), some ((eT (eP3 PyData.str PyData.str PyData.int)) riders), some ((eT (eP3 PyData.str PyData.str PyData.int)) back), some (PyData.int late), some (PyData.int stand), some (PyData.int later), some ((eO PyData.str) stop), some (PyData.int whole), some ((eO PyData.int) at_), none, none, none, none, none] (fun (p_1 : Str × Str × Int) => [some ((eT (eP2 PyData.str PyData.int)) line), some ((eT (eP3 PyData.str PyData.str PyData.int)) riders), some ((eT (eP3 PyData.str PyData.str PyData.int)) back), some (PyData.int late), some (PyData.int stand), some (PyData.int later), some ((eO PyData.str) stop), some (PyData.int whole), some ((eO PyData.int) at_), none, none, some (PyData.str p_1.2.1), some (PyData.int p_1.2.2), some (PyData.str p_1.1)]) (fun (p_1 : Str × Str × Int) => (decide ((at_.getD default) < ((minutes_to_t line p_1.1).getD default)))) (fun (p_1 : Str × Str × Int) => p_1.2.2) (XA.seqT (X.var 2)) (fun p_1 => (TG.tup (TGs.cons (TG.name 13) (TGs.cons (TG.name 11) (TGs.cons (TG.name 12) TGs.nil))))) hq_29.1 (fun p_1 hx_1 => (have hq_25 := hq_29.2.1 p_1 hx_1; (XT.cmp (X.get (e := PyData.int) (X.call (XA.cons (X.var 0) (XA.cons (X.var 13) XA.nil)) (minutes_to_tie line p_1.1 hq_25.1 _)) hq_25.2.1) (X.get (e := PyData.int) (X.var 8) hq_25.2.2) (gtD_i _ _)))) (fun p_1 hx_1 hb => (have hq_26 := hq_29.2.1 p_1 hx_1; (X.var 12)))) (sumD_L ((back.filter (fun (p_1 : Str × Str × Int) => (decide ((at_.getD default) < ((minutes_to_t line p_1.1).getD default))))).map (fun (p_1 : Str × Str × Int) => p_1.2.2)))) (TG.name 9)) (fun behind hv_1 => (have hq_28 := hq_29.2.2 behind hv_1; (XS.seq1 (maxI 0 (late - (saved_at_t line (stop.getD default) stand))) (fun (left : Int) => [some ((eT (eP2 PyData.str PyData.int)) line), some ((eT (eP3 PyData.str PyData.str PyData.int)) riders), some ((eT (eP3 PyData.str PyData.str PyData.int)) back), some (PyData.int late), some (PyData.int stand), some (PyData.int later), some ((eO PyData.str) stop), some (PyData.int whole), some ((eO PyData.int) at_), some (PyData.int behind), some (PyData.int left), none, none, none]) (fun (left : Int) => w) (fun (left : Int) => Out.rt (PyData.int ((later * ((lost_riders_t line riders (stop.getD default)) + behind)) + (left * (whole - behind))))) (fun (left : Int) => w) (XS.set (X.op2 (X.k _) (X.op2 (X.var 3) (X.call (XA.cons (X.var 0) (XA.cons (X.get (e := PyData.str) (X.var 6) hq_28.1) (XA.cons (X.var 4) XA.nil))) (saved_at_tie line (stop.getD default) stand hq_28.2.1 _)) (subD_i _ _)) (max2_I _ _)) (TG.name 10)) (fun left hv => (have hq_27 := hq_28.2.2 left hv; (XS.ret (X.op2 (X.op2 (X.var 5) (X.op2 (X.call (XA.cons (X.var 0) (XA.cons (X.var 1) (XA.cons (X.get (e := PyData.str) (X.var 6) hq_27.1) XA.nil))) (lost_riders_tie line riders (stop.getD default) hq_27.2.1 _)) (X.var 9) (addD_i _ _)) (mulI_ok hq_27.2.2.1)) (X.op2 (X.var 10) (X.op2 (X.var 7) (X.var 9) (subD_i _ _)) (mulI_ok hq_27.2.2.2)) (addD_i _ _))))))))))))))))))))
/-! best_turn -/
def best_turn_t (line : List (Str × Int)) (riders : List (Str × Str × Int)) (back : List (Str × Str × Int)) (late : Int) (stand : Int) (later : Int) : Int × Option Str := (let stops : List (Option Str) := ([(none : Option Str)] ++ ((inner_stops_t line).reverse.map some)); (let rows_1 : (List (Int × Int)) := ((rangeI 0 (stops.length : Int)).foldl (fun (s_ : (List (Int × Int))) (k_ : Int) => (let rows : List (Int × Int) := s_ ++ [((cost_of_turn_t line riders back late stand later (idx stops k_)), k_)]; rows)) []); ((minT (lt2 ltI ltI) rows_1).1, (idx stops ((minT (lt2 ltI ltI) rows_1).2)))))
def best_turn_ok (line : List (Str × Int)) (riders : List (Str × Str × Int)) (back : List (Str × Str × Int)) (late : Int) (stand : Int) (later : Int) : Prop := inner_stops_ok line ∧ ([(none : Option Str)]).length + ((inner_stops_t line).reverse.map some).length ≤ sizeLine ∧ (∀ stops : List (Option Str), stops = ([(none : Option Str)] ++ ((inner_stops_t line).reverse.map some)) → I62 (stops.length : Int) ∧ OkF (fun (s_ : (List (Int × Int))) (k_ : Int) => InR stops k_ ∧ cost_of_turn_ok line riders back late stand later (idx stops k_) ∧ s_.length < sizeLine) (fun (s_ : (List (Int × Int))) (k_ : Int) => (let rows : List (Int × Int) := s_ ++ [((cost_of_turn_t line riders back late stand later (idx stops k_)), k_)]; rows)) [] (rangeI 0 (stops.length : Int)) ∧ (∀ rows_1 : (List (Int × Int)), rows_1 = ((rangeI 0 (stops.length : Int)).foldl (fun (s_ : (List (Int × Int))) (k_ : Int) => (let rows : List (Int × Int) := s_ ++ [((cost_of_turn_t line riders back late stand later (idx stops k_)), k_)]; rows)) []) → rows_1 ≠ [] ∧ InR stops ((minT (lt2 ltI ltI) rows_1).2)))
theorem best_turn_tie (line : List (Str × Int)) (riders : List (Str × Str × Int)) (back : List (Str × Str × Int)) (late : Int) (stand : Int) (later : Int) (h : best_turn_ok line riders back late stand later) (w : Wd) : f_best_turn [(eT (eP2 PyData.str PyData.int)) line, (eT (eP3 PyData.str PyData.str PyData.int)) riders, (eT (eP3 PyData.str PyData.str PyData.int)) back, PyData.int late, PyData.int stand, PyData.int later] w = some ((eP2 PyData.int (eO PyData.str)) (best_turn_t line riders back late stand later), w) := fn_tie (XS.seq1 ([(none : Option Str)] ++ ((inner_stops_t line).reverse.map some)) (fun (stops : List (Option Str)) => [some ((eT (eP2 PyData.str PyData.int)) line), some ((eT (eP3 PyData.str PyData.str PyData.int)) riders), some ((eT (eP3 PyData.str PyData.str PyData.int)) back), some (PyData.int late), some (PyData.int stand), some (PyData.int later), some ((eL (eP2 PyData.int PyData.int)) []), some ((eL (eO PyData.str)) stops), none]) (fun (stops : List (Option Str)) => w) (fun (stops : List (Option Str)) => Out.rt ((eP2 PyData.int (eO PyData.str)) (let rows_1 : (List (Int × Int)) := ((rangeI 0 (stops.length : Int)).foldl (fun (s_ : (List (Int × Int))) (k_ : Int) => (let rows : List (Int × Int) := s_ ++ [((cost_of_turn_t line riders back late stand later (idx stops k_)), k_)]; rows)) []); ((minT (lt2 ltI ltI) rows_1).1, (idx stops ((minT (lt2 ltI ltI) rows_1).2)))))) (fun (stops : List (Option Str)) => w) (XS.par (XA.cons (X.lst XA.nil) (XA.cons (X.op2 (X.lst (XA.cons (X.k _) XA.nil)) (X.op1 (X.call (XA.cons (X.var 0) XA.nil) (inner_stops_tie line h.1 _)) (revD_LO PyData.str (inner_stops_t line))) (catD_L (eO PyData.str) ([(none : Option Str)]) ((inner_stops_t line).reverse.map some) h.2.1)) XA.nil)) (TGs.cons (TG.name 6) (TGs.cons (TG.name 7) TGs.nil))) (fun stops hv_2 => (have hq_33 := h.2.2 stops hv_2; (XS.seq1 ((rangeI 0 (stops.length : Int)).foldl (fun (s_ : (List (Int × Int))) (k_ : Int) => (let rows : List (Int × Int) := s_ ++ [((cost_of_turn_t line riders back late stand later (idx stops k_)), k_)]; rows)) []) (fun (rows_1 : (List (Int × Int))) => [some ((eT (eP2 PyData.str PyData.int)) line), some ((eT (eP3 PyData.str PyData.str PyData.int)) riders), some ((eT (eP3 PyData.str PyData.str PyData.int)) back), some (PyData.int late), some (PyData.int stand), some (PyData.int later), some ((eL (eP2 PyData.int PyData.int)) rows_1), some ((eL (eO PyData.str)) stops), none]) (fun (rows_1 : (List (Int × Int))) => w) (fun (rows_1 : (List (Int × Int))) => Out.rt ((eP2 PyData.int (eO PyData.str)) ((minT (lt2 ltI ltI) rows_1).1, (idx stops ((minT (lt2 ltI ltI) rows_1).2))))) (fun (rows_1 : (List (Int × Int))) => w) (XS.for PyData.int (xs := (rangeI 0 (stops.length : Int))) [] (fun (s_ : (List (Int × Int))) => [some ((eT (eP2 PyData.str PyData.int)) line), some ((eT (eP3 PyData.str PyData.str PyData.int)) riders), some ((eT (eP3 PyData.str PyData.str PyData.int)) back), some (PyData.int late), some (PyData.int stand), some (PyData.int later), some ((eL (eP2 PyData.int PyData.int)) s_), some ((eL (eO PyData.str)) stops), none]) (fun _ => w) (fun (s_ : (List (Int × Int))) (k_ : Int) => [some ((eT (eP2 PyData.str PyData.int)) line), some ((eT (eP3 PyData.str PyData.str PyData.int)) riders), some ((eT (eP3 PyData.str PyData.str PyData.int)) back), some (PyData.int late), some (PyData.int stand), some (PyData.int later), some ((eL (eP2 PyData.int PyData.int)) s_), some ((eL (eO PyData.str)) stops), some (PyData.int k_)]) (fun (s_ : (List (Int × Int))) (k_ : Int) => (let rows : List (Int × Int) := s_ ++ [((cost_of_turn_t line riders back late stand later (idx stops k_)), k_)]; rows)) (fun (s_ : (List (Int × Int))) (k_ : Int) => InR stops k_ ∧ cost_of_turn_ok line riders back late stand later (idx stops k_) ∧ s_.length < sizeLine) (XA.r1 (X.op1 (X.var 7) (lenD_L (eO PyData.str) stops)) hq_33.1) (show LE _ _ from .same (.same (.same (.same (.same (.same (.same (.same (.same (.nil)))))))))) (fun s_ k_ => (TG.name 8)) (fun s_ k_ hx hk => (XS.seqPass (XS.seq1 (s_ ++ [((cost_of_turn_t line riders back late stand later (idx stops k_)), k_)]) (fun (rows : List (Int × Int)) => [some ((eT (eP2 PyData.str PyData.int)) line), some ((eT (eP3 PyData.str PyData.str PyData.int)) riders), some ((eT (eP3 PyData.str PyData.str PyData.int)) back), some (PyData.int late), some (PyData.int stand), some (PyData.int later), some ((eL (eP2 PyData.int PyData.int)) rows), some ((eL (eO PyData.str)) stops), some (PyData.int k_)]) (fun (rows : List (Int × Int)) => w) (fun (rows : List (Int × Int)) => Out.nx ((fun (st : (List (Int × Int))) => [some ((eT (eP2 PyData.str PyData.int)) line), some ((eT (eP3 PyData.str PyData.str PyData.int)) riders), some ((eT (eP3 PyData.str PyData.str PyData.int)) back), some (PyData.int late), some (PyData.int stand), some (PyData.int later), some ((eL (eP2 PyData.int PyData.int)) st), some ((eL (eO PyData.str)) stops), none]) rows)) (fun (rows : List (Int × Int)) => w) (XS.app 6 (eP2 PyData.int PyData.int) (v := ((cost_of_turn_t line riders back late stand later (idx stops k_)), k_)) (X.tup (XA.cons (X.call (XA.cons (X.var 0) (XA.cons (X.var 1) (XA.cons (X.var 2) (XA.cons (X.var 3) (XA.cons (X.var 4) (XA.cons (X.var 5) (XA.cons (X.op2 (X.var 7) (X.var 8) (ixAD_L (eO PyData.str) hk.1)) XA.nil))))))) (cost_of_turn_tie line riders back late stand later (idx stops k_) hk.2.1 _)) (XA.cons (X.var 8) XA.nil))) hk.2.2) (fun rows hv => (XS.wpass (show LE _ _ from .same (.same (.same (.same (.same (.same (.same (.same (.skip (.nil))))))))))))))) hq_33.2.1) (fun rows_1 hv_1 => (have hq_32 := hq_33.2.2 rows_1 hv_1; (XS.ret (X.tup (XA.cons (X.op2 (X.op1 (X.var 6) (minD1_L (show OrE (eP2 PyData.int PyData.int) _ (lt2 ltI ltI) from OrR.tup (OrR.cons OrI (OrR.one OrI))) (by decide) hq_32.1)) (X.k _) ixAD_P) (XA.cons (X.op2 (X.var 7) (X.op2 (X.op1 (X.var 6) (minD1_L (show OrE (eP2 PyData.int PyData.int) _ (lt2 ltI ltI) from OrR.tup (OrR.cons OrI (OrR.one OrI))) (by decide) hq_32.1)) (X.k _) ixAD_P) (ixAD_L (eO PyData.str) hq_32.2)) XA.nil))))))))))
/-! law_pick -/
def law_pick_t (rows : List Str) (l0 : St) : Str × St := ((idx rows ((nextT l0 (rows.length : Int)).1)), (nextT l0 (rows.length : Int)).2)
def law_pick_ok (rows : List Str) (l0 : St) : Prop := (rows.length : Int) ≠ 0 ∧ InR rows ((nextT l0 (rows.length : Int)).1)
theorem law_pick_tie (rows : List Str) (l0 : St) (h : law_pick_ok rows l0) : f_law_pick [tokW, (eL PyData.str) rows] (some l0) = some (PyData.str (law_pick_t rows l0).1, some (law_pick_t rows l0).2) := fn_tie (XS.ret (X.op2 (X.var 1) (X.call (XA.cons (X.var 0) (XA.cons (X.op1 (X.var 1) (lenD_L PyData.str rows)) XA.nil)) (next_tie h.1)) (ixAD_L PyData.str h.2)))
/-! turned_rows -/
def turned_rows_t (line : List (Str × Int)) (begin : Int) (stop : Str) : List (Str × Int) := (let now : Int := begin; (let own : List (Str × Int) := (cutL line none (some (((stops_on_t line).idxOf stop : Int) + 1))); (let s__1 : (List (Str × Int)) × Int := (own.foldl (fun (s_ : (List (Str × Int)) × Int) (p : Str × Int) => (let now_1 : Int := s_.2 + p.2; (let found : List (Str × Int) := s_.1 ++ [(p.1, now_1)]; (found, now_1)))) ([], now)); (let s__3 : (List (Str × Int)) × Int := ((rangeDI ((own.length : Int) - 1) 0).foldl (fun (s__2 : (List (Str × Int)) × Int) (k_ : Int) => (let now_2 : Int := s__2.2 + (idx own k_).2; (let found_1 : List (Str × Int) := s__2.1 ++ [((idx own (k_ - 1)).1, now_2)]; (found_1, now_2)))) (s__1.1, s__1.2)); s__3.1))))
def turned_rows_ok (line : List (Str × Int)) (begin : Int) (stop : Str) : Prop := ∀ now : Int, now = begin → stops_on_ok line ∧ stop ∈ (stops_on_t line) ∧ (∀ own : List (Str × Int), own = (cutL line none (some (((stops_on_t line).idxOf stop : Int) + 1))) → (OkF (fun (s_ : (List (Str × Int)) × Int) (p : Str × Int) => ∀ now_1 : Int, now_1 = s_.2 + p.2 → s_.1.length < sizeLine) (fun (s_ : (List (Str × Int)) × Int) (p : Str × Int) => (let now_1 : Int := s_.2 + p.2; (let found : List (Str × Int) := s_.1 ++ [(p.1, now_1)]; (found, now_1)))) ([], now) own) ∧ (∀ s__1 : (List (Str × Int)) × Int, s__1 = (own.foldl (fun (s_ : (List (Str × Int)) × Int) (p : Str × Int) => (let now_1 : Int := s_.2 + p.2; (let found : List (Str × Int) := s_.1 ++ [(p.1, now_1)]; (found, now_1)))) ([], now)) → I62 ((own.length : Int) - 1) ∧ (OkF (fun (s__2 : (List (Str × Int)) × Int) (k_ : Int) => InR own k_ ∧ (∀ now_2 : Int, now_2 = s__2.2 + (idx own k_).2 → InR own (k_ - 1) ∧ s__2.1.length < sizeLine)) (fun (s__2 : (List (Str × Int)) × Int) (k_ : Int) => (let now_2 : Int := s__2.2 + (idx own k_).2; (let found_1 : List (Str × Int) := s__2.1 ++ [((idx own (k_ - 1)).1, now_2)]; (found_1, now_2)))) (s__1.1, s__1.2) (rangeDI ((own.length : Int) - 1) 0))))
theorem turned_rows_tie (line : List (Str × Int)) (begin : Int) (stop : Str) (h : turned_rows_ok line begin stop) (w : Wd) : f_turned_rows [(eT (eP2 PyData.str PyData.int)) line, PyData.int begin, PyData.str stop] w = some ((eT (eP2 PyData.str PyData.int)) (turned_rows_t line begin stop), w) := fn_tie (XS.seq1 begin (fun (now : Int) => [some ((eT (eP2 PyData.str PyData.int)) line), some (PyData.int begin), some (PyData.str stop), some ((eL (eP2 PyData.str PyData.int)) []), some (PyData.int now), none, none, none, none]) (fun (now : Int) => w) (fun (now : Int) => Out.rt ((eT (eP2 PyData.str PyData.int)) (let own : List (Str × Int) := (cutL line none (some (((stops_on_t line).idxOf stop : Int) + 1))); (let s__1 : (List (Str × Int)) × Int := (own.foldl (fun (s_ : (List (Str × Int)) × Int) (p : Str × Int) => (let now_1 : Int := s_.2 + p.2; (let found : List (Str × Int) := s_.1 ++ [(p.1, now_1)]; (found, now_1)))) ([], now)); (let s__3 : (List (Str × Int)) × Int := ((rangeDI ((own.length : Int) - 1) 0).foldl (fun (s__2 : (List (Str × Int)) × Int) (k_ : Int) => (let now_2 : Int := s__2.2 + (idx own k_).2; (let found_1 : List (Str × Int) := s__2.1 ++ [((idx own (k_ - 1)).1, now_2)]; (found_1, now_2)))) (s__1.1, s__1.2)); s__3.1))))) (fun (now : Int) => w) (XS.par (XA.cons (X.lst XA.nil) (XA.cons (X.var 1) XA.nil)) (TGs.cons (TG.name 3) (TGs.cons (TG.name 4) TGs.nil))) (fun now hv_7 => (have hq_38 := h now hv_7; (XS.seq1 (cutL line none (some (((stops_on_t line).idxOf stop : Int) + 1))) (fun (own : List (Str × Int)) => [some ((eT (eP2 PyData.str PyData.int)) line), some (PyData.int begin), some (PyData.str stop), some ((eL (eP2 PyData.str PyData.int)) []), some (PyData.int now), some ((eT (eP2 PyData.str PyData.int)) own), none, none, none]) (fun (own : List (Str × Int)) => w) (fun (own : List (Str × Int)) => Out.rt ((eT (eP2 PyData.str PyData.int)) (let s__1 : (List (Str × Int)) × Int := (own.foldl (fun (s_ : (List (Str × Int)) × Int) (p : Str × Int) => (let now_1 : Int := s_.2 + p.2; (let found : List (Str × Int) := s_.1 ++ [(p.1, now_1)]; (found, now_1)))) ([], now)); (let s__3 : (List (Str × Int)) × Int := ((rangeDI ((own.length : Int) - 1) 0).foldl (fun (s__2 : (List (Str × Int)) × Int) (k_ : Int) => (let now_2 : Int := s__2.2 + (idx own k_).2; (let found_1 : List (Str × Int) := s__2.1 ++ [((idx own (k_ - 1)).1, now_2)]; (found_1, now_2)))) (s__1.1, s__1.2)); s__3.1)))) (fun (own : List (Str × Int)) => w) (XS.set (X.cut (X.var 0) XO.none (XO.some (X.op2 (X.op2 (X.call (XA.cons (X.var 0) XA.nil) (stops_on_tie line hq_38.1 _)) (X.var 2) (indexD_L EqS (by decide) stop (stops_on_t line) hq_38.2.1)) (X.k _) (addD_i _ _))) (cutD_T (eP2 PyData.str PyData.int) line none (some (((stops_on_t line).idxOf stop : Int) + 1)))) (TG.name 5)) (fun own hv_6 => (have hq_37 := hq_38.2.2 own hv_6; (XS.seq1 (own.foldl (fun (s_ : (List (Str × Int)) × Int) (p : Str × Int) => (let now_1 : Int := s_.2 + p.2; (let found : List (Str × Int) := s_.1 ++ [(p.1, now_1)]; (found, now_1)))) ([], now)) (fun (s__1 : (List (Str × Int)) × Int) => [some ((eT (eP2 PyData.str PyData.int)) line), some (PyData.int begin), some (PyData.str stop), some ((eL (eP2 PyData.str PyData.int)) s__1.1), some (PyData.int s__1.2), some ((eT (eP2 PyData.str PyData.int)) own), none, none, none]) (fun (s__1 : (List (Str × Int)) × Int) => w) (fun (s__1 : (List (Str × Int)) × Int) => Out.rt ((eT (eP2 PyData.str PyData.int)) (let s__3 : (List (Str × Int)) × Int := ((rangeDI ((own.length : Int) - 1) 0).foldl (fun (s__2 : (List (Str × Int)) × Int) (k_ : Int) => (let now_2 : Int := s__2.2 + (idx own k_).2; (let found_1 : List (Str × Int) := s__2.1 ++ [((idx own (k_ - 1)).1, now_2)]; (found_1, now_2)))) (s__1.1, s__1.2)); s__3.1))) (fun (s__1 : (List (Str × Int)) × Int) => w) (XS.for (eP2 PyData.str PyData.int) (xs := own) ([], now) (fun (s_ : (List (Str × Int)) × Int) => [some ((eT (eP2 PyData.str PyData.int)) line), some (PyData.int begin), some (PyData.str stop), some ((eL (eP2 PyData.str PyData.int)) s_.1), some (PyData.int s_.2), some ((eT (eP2 PyData.str PyData.int)) own), none, none, none]) (fun _ => w) (fun (s_ : (List (Str × Int)) × Int) (p : Str × Int) => [some ((eT (eP2 PyData.str PyData.int)) line), some (PyData.int begin), some (PyData.str stop), some ((eL (eP2 PyData.str PyData.int)) s_.1), some (PyData.int s_.2), some ((eT (eP2 PyData.str PyData.int)) own), some (PyData.str p.1), some (PyData.int p.2), none]) (fun (s_ : (List (Str × Int)) × Int) (p : Str × Int) => (let now_1 : Int := s_.2 + p.2; (let found : List (Str × Int) := s_.1 ++ [(p.1, now_1)]; (found, now_1)))) (fun (s_ : (List (Str × Int)) × Int) (p : Str × Int) => ∀ now_1 : Int, now_1 = s_.2 + p.2 → s_.1.length < sizeLine) (XA.seqT (X.var 5)) (show LE _ _ from .same (.same (.same (.same (.same (.same (.same (.same (.same (.nil)))))))))) (fun s_ p => (TG.tup (TGs.cons (TG.name 6) (TGs.cons (TG.name 7) TGs.nil)))) (fun s_ p hx hk => (XS.seq1 (s_.2 + p.2) (fun (now_1 : Int) => [some ((eT (eP2 PyData.str PyData.int)) line), some (PyData.int begin), some (PyData.str stop), some ((eL (eP2 PyData.str PyData.int)) s_.1), some (PyData.int now_1), some ((eT (eP2 PyData.str PyData.int)) own), some (PyData.str p.1), some (PyData.int p.2), none]) (fun (now_1 : Int) => w) (fun (now_1 : Int) => Out.nx ((fun (st : (List (Str × Int)) × Int) => [some ((eT (eP2 PyData.str PyData.int)) line), some (PyData.int begin), some (PyData.str stop), some ((eL (eP2 PyData.str PyData.int)) st.1), some (PyData.int st.2), some ((eT (eP2 PyData.str PyData.int)) own), none, none, none]) (let found : List (Str × Int) := s_.1 ++ [(p.1, now_1)]; (found, now_1)))) (fun (now_1 : Int) => w) (XS.aug 4 (X.var 7) (addI_i _ _)) (fun now_1 hv_1 => (have hq_34 := hk now_1 hv_1; (XS.seqPass (XS.seq1 (s_.1 ++ [(p.1, now_1)]) (fun (found : List (Str × Int)) => [some ((eT (eP2 PyData.str PyData.int)) line), some (PyData.int begin), some (PyData.str stop), some ((eL (eP2 PyData.str PyData.int)) found), some (PyData.int now_1), some ((eT (eP2 PyData.str PyData.int)) own), some (PyData.str p.1), some (PyData.int p.2), none]) (fun (found : List (Str × Int)) => w) (fun (found : List (Str × Int)) => Out.nx ((fun (st : (List (Str × Int)) × Int) => [some ((eT (eP2 PyData.str PyData.int)) line), some (PyData.int begin), some (PyData.str stop), some ((eL (eP2 PyData.str PyData.int)) st.1), some (PyData.int st.2), some ((eT (eP2 PyData.str PyData.int)) own), none, none, none]) (found, now_1))) (fun (found : List (Str × Int)) => w) (XS.app 3 (eP2 PyData.str PyData.int) (v := (p.1, now_1)) (X.tup (XA.cons (X.var 6) (XA.cons (X.var 4) XA.nil))) hq_34) (fun found hv => (XS.wpass (show LE _ _ from .same (.same (.same (.same (.same (.same (.skip (.skip (.same (.nil)))))))))))))))))) hq_37.1) (fun s__1 hv_5 => (have hq_36 := hq_37.2 s__1 hv_5; (XS.seq1 ((rangeDI ((own.length : Int) - 1) 0).foldl (fun (s__2 : (List (Str × Int)) × Int) (k_ : Int) => (let now_2 : Int := s__2.2 + (idx own k_).2; (let found_1 : List (Str × Int) := s__2.1 ++ [((idx own (k_ - 1)).1, now_2)]; (found_1, now_2)))) (s__1.1, s__1.2)) (fun (s__3 : (List (Str × Int)) × Int) => [some ((eT (eP2 PyData.str PyData.int)) line), some (PyData.int begin), some (PyData.str stop), some ((eL (eP2 PyData.str PyData.int)) s__3.1), some (PyData.int s__3.2), some ((eT (eP2 PyData.str PyData.int)) own), none, none, none]) (fun (s__3 : (List (Str × Int)) × Int) => w) (fun (s__3 : (List (Str × Int)) × Int) => Out.rt ((eT (eP2 PyData.str PyData.int)) s__3.1)) (fun (s__3 : (List (Str × Int)) × Int) => w) (XS.for PyData.int (xs := (rangeDI ((own.length : Int) - 1) 0)) (s__1.1, s__1.2) (fun (s__2 : (List (Str × Int)) × Int) => [some ((eT (eP2 PyData.str PyData.int)) line), some (PyData.int begin), some (PyData.str stop), some ((eL (eP2 PyData.str PyData.int)) s__2.1), some (PyData.int s__2.2), some ((eT (eP2 PyData.str PyData.int)) own), none, none, none]) (fun _ => w) (fun (s__2 : (List (Str × Int)) × Int) (k_ : Int) => [some ((eT (eP2 PyData.str PyData.int)) line), some (PyData.int begin), some (PyData.str stop), some ((eL (eP2 PyData.str PyData.int)) s__2.1), some (PyData.int s__2.2), some ((eT (eP2 PyData.str PyData.int)) own), none, none, some (PyData.int k_)]) (fun (s__2 : (List (Str × Int)) × Int) (k_ : Int) => (let now_2 : Int := s__2.2 + (idx own k_).2; (let found_1 : List (Str × Int) := s__2.1 ++ [((idx own (k_ - 1)).1, now_2)]; (found_1, now_2)))) (fun (s__2 : (List (Str × Int)) × Int) (k_ : Int) => InR own k_ ∧ (∀ now_2 : Int, now_2 = s__2.2 + (idx own k_).2 → InR own (k_ - 1) ∧ s__2.1.length < sizeLine)) (XA.r3 (X.op2 (X.op1 (X.var 5) (lenD_T (eP2 PyData.str PyData.int) own)) (X.k _) (subD_i _ _)) (X.k _) (X.op1 (X.k _) (negD_i _)) hq_36.1 (by unfold I62; decide)) (show LE _ _ from .same (.same (.same (.same (.same (.same (.same (.same (.same (.nil)))))))))) (fun s__2 k_ => (TG.name 8)) (fun s__2 k_ hx_1 hk_1 => (XS.seq1 (s__2.2 + (idx own k_).2) (fun (now_2 : Int) => [some ((eT (eP2 PyData.str PyData.int)) line), some (PyData.int begin), some (PyData.str stop), some ((eL (eP2 PyData.str PyData.int)) s__2.1), some (PyData.int now_2), some ((eT (eP2 PyData.str PyData.int)) own), none, none, some (PyData.int k_)]) (fun (now_2 : Int) => w) (fun (now_2 : Int) => Out.nx ((fun (st : (List (Str × Int)) × Int) => [some ((eT (eP2 PyData.str PyData.int)) line), some (PyData.int begin), some (PyData.str stop), some ((eL (eP2 PyData.str PyData.int)) st.1), some (PyData.int st.2), some ((eT (eP2 PyData.str PyData.int)) own), none, none, none]) (let found_1 : List (Str × Int) := s__2.1 ++ [((idx own (k_ - 1)).1, now_2)]; (found_1, now_2)))) (fun (now_2 : Int) => w) (XS.aug 4 (X.op2 (X.op2 (X.var 5) (X.var 8) (ixAD_T (eP2 PyData.str PyData.int) hk_1.1)) (X.k _) ixAD_P) (addI_i _ _)) (fun now_2 hv_3 => (have hq_35 := hk_1.2 now_2 hv_3; (XS.seqPass (XS.seq1 (s__2.1 ++ [((idx own (k_ - 1)).1, now_2)]) (fun (found_1 : List (Str × Int)) => [some ((eT (eP2 PyData.str PyData.int)) line), some (PyData.int begin), some (PyData.str stop), some ((eL (eP2 PyData.str PyData.int)) found_1), some (PyData.int now_2), some ((eT (eP2 PyData.str PyData.int)) own), none, none, some (PyData.int k_)]) (fun (found_1 : List (Str × Int)) => w) (fun (found_1 : List (Str × Int)) => Out.nx ((fun (st : (List (Str × Int)) × Int) => [some ((eT (eP2 PyData.str PyData.int)) line), some (PyData.int begin), some (PyData.str stop), some ((eL (eP2 PyData.str PyData.int)) st.1), some (PyData.int st.2), some ((eT (eP2 PyData.str PyData.int)) own), none, none, none]) (found_1, now_2))) (fun (found_1 : List (Str × Int)) => w) (XS.app 3 (eP2 PyData.str PyData.int) (v := ((idx own (k_ - 1)).1, now_2)) (X.tup (XA.cons (X.op2 (X.op2 (X.var 5) (X.op2 (X.var 8) (X.k _) (subD_i _ _)) (ixAD_T (eP2 PyData.str PyData.int) hq_35.1)) (X.k _) ixAD_P) (XA.cons (X.var 4) XA.nil))) hq_35.2) (fun found_1 hv_2 => (XS.wpass (show LE _ _ from .same (.same (.same (.same (.same (.same (.same (.same (.skip (.nil)))))))))))))))))) hq_36.2) (fun s__3 hv_4 => (XS.ret (X.op1 (X.var 3) (tupD_l _))))))))))))))
/-! turn_stops -/
def turn_stops_t (line : List (Str × Int)) (streets : List Str) : List Str := ((inner_stops_t line).filter (fun (stop : Str) => (decide (stop ∈ streets))))
def turn_stops_ok (line : List (Str × Int)) (streets : List Str) : Prop := inner_stops_ok line ∧ (inner_stops_t line).length ≤ sizeLine
theorem turn_stops_tie (line : List (Str × Int)) (streets : List Str) (h : turn_stops_ok line streets) (w : Wd) : f_turn_stops [(eT (eP2 PyData.str PyData.int)) line, (eT PyData.str) streets] w = some ((eT PyData.str) (turn_stops_t line streets), w) := fn_tie (XS.ret (X.op1 (X.lcS PyData.str (xs := (inner_stops_t line)) [some ((eT (eP2 PyData.str PyData.int)) line), some ((eT PyData.str) streets), none] (fun (stop : Str) => [some ((eT (eP2 PyData.str PyData.int)) line), some ((eT PyData.str) streets), some (PyData.str stop)]) (fun (stop : Str) => (decide (stop ∈ streets))) (XA.seqL (X.call (XA.cons (X.var 0) XA.nil) (inner_stops_tie line h.1 _))) (fun stop => (TG.name 2)) h.2 (fun stop hx => (XT.cmp (X.var 2) (X.var 1) (inAT EqS (by decide) stop streets))) (fun stop hx hb => (X.var 2))) (tupD_l _)))
/-! between -/
def between_t (line : List (Str × Int)) (one : Str) (other : Str) : Option Int := (let first : Option Int := (minutes_to_t line one); let last : Option Int := (minutes_to_t line other); (if (first.isNone || (last.isNone || (decide ((last.getD default) < (first.getD default))))) = true then (none : Option Int) else (some ((last.getD default) - (first.getD default)))))
def between_ok (line : List (Str × Int)) (one : Str) (other : Str) : Prop := minutes_to_ok line one ∧ minutes_to_ok line other ∧ (∀ first : Option Int, first = (minutes_to_t line one) → ∀ last : Option Int, last = (minutes_to_t line other) → (first.isNone = false → last.isNone = false → last.isSome = true ∧ first.isSome = true) ∧ ((first.isNone || (last.isNone || (decide ((last.getD default) < (first.getD default))))) = false → last.isSome = true ∧ first.isSome = true))
theorem between_tie (line : List (Str × Int)) (one : Str) (other : Str) (h : between_ok line one other) (w : Wd) : f_between [(eT (eP2 PyData.str PyData.int)) line, PyData.str one, PyData.str other] w = some ((eO PyData.int) (between_t line one other), w) := fn_tie (XS.seq2 (minutes_to_t line one) (minutes_to_t line other) (fun (first : Option Int) (last : Option Int) => [some ((eT (eP2 PyData.str PyData.int)) line), some (PyData.str one), some (PyData.str other), some ((eO PyData.int) first), some ((eO PyData.int) last)]) (fun (first : Option Int) (last : Option Int) => w) (fun (first : Option Int) (last : Option Int) => Out.rt ((eO PyData.int) (if (first.isNone || (last.isNone || (decide ((last.getD default) < (first.getD default))))) = true then (none : Option Int) else (some ((last.getD default) - (first.getD default)))))) (fun (first : Option Int) (last : Option Int) => w) (XS.par (XA.cons (X.call (XA.cons (X.var 0) (XA.cons (X.var 1) XA.nil)) (minutes_to_tie line one h.1 _)) (XA.cons (X.call (XA.cons (X.var 0) (XA.cons (X.var 2) XA.nil)) (minutes_to_tie line other h.2.1 _)) XA.nil)) (TGs.cons (TG.name 3) (TGs.cons (TG.name 4) TGs.nil))) (fun first hv last hv_1 => (have hq_42 := h.2.2 first hv last hv_1; (XS.dist (XS.if (fun r => Out.rt ((eO PyData.int) r)) (XT.or (XT.cmp (X.var 3) (X.k _) (isND_O NN.i first)) (fun hk_1 => (have hq_40 := hq_42.1 hk_1; (XT.or (XT.cmp (X.var 4) (X.k _) (isND_O NN.i last)) (fun hk => (have hq_39 := hq_40 hk; (XT.cmp (X.get (e := PyData.int) (X.var 4) hq_39.1) (X.get (e := PyData.int) (X.var 3) hq_39.2) (ltD_i _ _)))))))) (fun hk_2 => (XS.exitR (XS.ret (X.k _)))) (fun hk_2 => (have hq_41 := hq_42.2 hk_2; (XS.passSeq (XS.ret (X.op2 (X.get (e := PyData.int) (X.var 4) hq_41.1) (X.get (e := PyData.int) (X.var 3) hq_41.2) (subD_i _ _)))))))))))
/-! part_of -/
def part_of_t (line : List (Str × Int)) (one : Str) (other : Str) : Option (List (Str × Int)) := (if (decide ((between_t line one other) ∈ ([(none : Option Int), (some 0)]))) = true then (none : Option (List (Str × Int))) else (let stops : List Str := (stops_on_t line); (let first : Int := (stops.idxOf one : Int); let last : Int := (stops.idxOf other : Int); (some ([(one, 0)] ++ (cutL line (some (first + 1)) (some (last + 1))))))))
def part_of_ok (line : List (Str × Int)) (one : Str) (other : Str) : Prop := between_ok line one other ∧ ((decide ((between_t line one other) ∈ ([(none : Option Int), (some 0)]))) = false → stops_on_ok line ∧ (∀ stops : List Str, stops = (stops_on_t line) → one ∈ stops ∧ other ∈ stops ∧ (∀ first : Int, first = (stops.idxOf one : Int) → ∀ last : Int, last = (stops.idxOf other : Int) → ([(one, 0)]).length + (cutL line (some (first + 1)) (some (last + 1))).length ≤ sizeLine)))
theorem part_of_tie (line : List (Str × Int)) (one : Str) (other : Str) (h : part_of_ok line one other) (w : Wd) : f_part_of [(eT (eP2 PyData.str PyData.int)) line, PyData.str one, PyData.str other] w = some ((eO (eT (eP2 PyData.str PyData.int))) (part_of_t line one other), w) := fn_tie (XS.dist (XS.if (fun r => Out.rt ((eO (eT (eP2 PyData.str PyData.int))) r)) (XT.cmp (X.call (XA.cons (X.var 0) (XA.cons (X.var 1) (XA.cons (X.var 2) XA.nil))) (between_tie line one other h.1 _)) (X.tup (XA.cons (X.k _) (XA.cons (X.k _) XA.nil))) (inAT (EqO EqI NN.i) (by decide) (between_t line one other) ([(none : Option Int), (some 0)]))) (fun hk => (XS.exitR (XS.ret (X.k _)))) (fun hk => (have hq_45 := h.2 hk; (XS.passSeq (XS.seq1 (stops_on_t line) (fun (stops : List Str) => [some ((eT (eP2 PyData.str PyData.int)) line), some (PyData.str one), some (PyData.str other), some ((eL PyData.str) stops), none, none]) (fun (stops : List Str) => w) (fun (stops : List Str) => Out.rt ((eO (eT (eP2 PyData.str PyData.int))) (let first : Int := (stops.idxOf one : Int); let last : Int := (stops.idxOf other : Int); (some ([(one, 0)] ++ (cutL line (some (first + 1)) (some (last + 1)))))))) (fun (stops : List Str) => w) (XS.set (X.call (XA.cons (X.var 0) XA.nil) (stops_on_tie line hq_45.1 _)) (TG.name 3)) (fun stops hv_2 => (have hq_44 := hq_45.2 stops hv_2; (XS.seq2 (stops.idxOf one : Int) (stops.idxOf other : Int) (fun (first : Int) (last : Int) => [some ((eT (eP2 PyData.str PyData.int)) line), some (PyData.str one), some (PyData.str other), some ((eL PyData.str) stops), some (PyData.int first), some (PyData.int last)]) (fun (first : Int) (last : Int) => w) (fun (first : Int) (last : Int) => Out.rt ((eO (eT (eP2 PyData.str PyData.int))) (some ([(one, 0)] ++ (cutL line (some (first + 1)) (some (last + 1))))))) (fun (first : Int) (last : Int) => w) (XS.par (XA.cons (X.op2 (X.var 3) (X.var 1) (indexD_L EqS (by decide) one stops hq_44.1)) (XA.cons (X.op2 (X.var 3) (X.var 2) (indexD_L EqS (by decide) other stops hq_44.2.1)) XA.nil)) (TGs.cons (TG.name 4) (TGs.cons (TG.name 5) TGs.nil))) (fun first hv last hv_1 => (have hq_43 := hq_44.2.2 first hv last hv_1; (XS.ret (X.op2 (X.tup (XA.cons (X.tup (XA.cons (X.var 1) (XA.cons (X.k _) XA.nil))) XA.nil)) (X.cut (X.var 0) (XO.some (X.op2 (X.var 4) (X.k _) (addD_i _ _))) (XO.some (X.op2 (X.var 5) (X.k _) (addD_i _ _))) (cutD_T (eP2 PyData.str PyData.int) line (some (first + 1)) (some (last + 1)))) (addD_T (eP2 PyData.str PyData.int) ([(one, 0)]) (cutL line (some (first + 1)) (some (last + 1))) hq_43))))))))))))))
/-! part_line -/
def part_line_t (line : List (Str × Int)) (stop : Str) : Option (List (Str × Int)) := (part_of_t line ((idx line 0).1) stop)
def part_line_ok (line : List (Str × Int)) (stop : Str) : Prop := InR line 0 ∧ part_of_ok line ((idx line 0).1) stop
theorem part_line_tie (line : List (Str × Int)) (stop : Str) (h : part_line_ok line stop) (w : Wd) : f_part_line [(eT (eP2 PyData.str PyData.int)) line, PyData.str stop] w = some ((eO (eT (eP2 PyData.str PyData.int))) (part_line_t line stop), w) := fn_tie (XS.ret (X.call (XA.cons (X.var 0) (XA.cons (X.op2 (X.op2 (X.var 0) (X.k _) (ixAD_T (eP2 PyData.str PyData.int) h.1)) (X.k _) ixAD_P) (XA.cons (X.var 1) XA.nil))) (part_of_tie line ((idx line 0).1) stop h.2 _)))
/-! every_other -/
def every_other_t (many : Int) : List Bool := ((rangeI 0 many).map (fun (k_ : Int) => (decide ((k_ % 2) = 0))))
def every_other_ok (many : Int) : Prop := I62 many ∧ (rangeI 0 many).length ≤ sizeLine
theorem every_other_tie (many : Int) (h : every_other_ok many) (w : Wd) : f_every_other [PyData.int many] w = some ((eT PyData.bool) (every_other_t many), w) := fn_tie (XS.ret (X.op1 (X.lcM PyData.int PyData.bool (xs := (rangeI 0 many)) [some (PyData.int many), none] (fun (k_ : Int) => [some (PyData.int many), some (PyData.int k_)]) (fun (k_ : Int) => (decide ((k_ % 2) = 0))) (XA.r1 (X.var 0) h.1) (fun k_ => (TG.name 1)) h.2 (fun k_ hx => (X.cT (XT.cmp (X.op2 (X.var 1) (X.k _) (modD_k 2)) (X.k _) (eqE EqI (by decide) (k_ % 2) 0))))) (tupD_l _)))
/-! divisor -/
def divisor_t (a : Int) (b : Int) : Int := (let s__1 : Int × Int := (whileT (fun (s_ : Int × Int) => (!decide (s_.2 = 0))) (fun (s_ : Int × Int) => (let a_1 : Int := s_.2; let b_1 : Int := (Int.fmod s_.1 s_.2); (a_1, b_1))) 1000000 (a, b)); (if (!decide (s__1.1 = 0)) = true then s__1.1 else 1))
def divisor_ok (a : Int) (b : Int) : Prop := OkW (fun (s_ : Int × Int) => True) (fun (s_ : Int × Int) => (!decide (s_.2 = 0))) (fun (s_ : Int × Int) => s_.2 ≠ 0) (fun (s_ : Int × Int) => (let a_1 : Int := s_.2; let b_1 : Int := (Int.fmod s_.1 s_.2); (a_1, b_1))) 1000000 (a, b)
theorem divisor_tie (a : Int) (b : Int) (h : divisor_ok a b) (w : Wd) : f_divisor [PyData.int a, PyData.int b] w = some (PyData.int (divisor_t a b), w) := fn_tie (XS.seq1 (whileT (fun (s_ : Int × Int) => (!decide (s_.2 = 0))) (fun (s_ : Int × Int) => (let a_1 : Int := s_.2; let b_1 : Int := (Int.fmod s_.1 s_.2); (a_1, b_1))) 1000000 (a, b)) (fun (s__1 : Int × Int) => [some (PyData.int s__1.1), some (PyData.int s__1.2)]) (fun (s__1 : Int × Int) => w) (fun (s__1 : Int × Int) => Out.rt (PyData.int (if (!decide (s__1.1 = 0)) = true then s__1.1 else 1))) (fun (s__1 : Int × Int) => w) (XS.while 1000000 (a, b) (fun (s_ : Int × Int) => [some (PyData.int s_.1), some (PyData.int s_.2)]) (fun (s_ : Int × Int) => (!decide (s_.2 = 0))) (fun (s_ : Int × Int) => (let a_1 : Int := s_.2; let b_1 : Int := (Int.fmod s_.1 s_.2); (a_1, b_1))) (fun (s_ : Int × Int) => True) (fun (s_ : Int × Int) => s_.2 ≠ 0) (show LE _ _ from .same (.same (.nil))) (fun s_ hk => (XT.cmp (X.var 1) (X.k _) (neE EqI (by decide) s_.2 0))) (fun s_ hk hc => (XS.seqPass (XS.seq2 s_.2 (Int.fmod s_.1 s_.2) (fun (a_1 : Int) (b_1 : Int) => [some (PyData.int a_1), some (PyData.int b_1)]) (fun (a_1 : Int) (b_1 : Int) => w) (fun (a_1 : Int) (b_1 : Int) => Out.nx ((fun (st : Int × Int) => [some (PyData.int st.1), some (PyData.int st.2)]) (a_1, b_1))) (fun (a_1 : Int) (b_1 : Int) => w) (XS.par (XA.cons (X.var 1) (XA.cons (X.op2 (X.var 0) (X.var 1) (modD_i hk)) XA.nil)) (TGs.cons (TG.name 0) (TGs.cons (TG.name 1) TGs.nil))) (fun a_1 hv b_1 hv_1 => (XS.wpass (show LE _ _ from .same (.same (.nil)))))))) h) (fun s__1 hv_2 => (XS.ret (X.if PyData.int (u := s__1.1) (v := 1) (XT.cmp (X.var 0) (X.k _) (neE EqI (by decide) s__1.1 0)) (fun hk_1 => (X.var 0)) (fun hk_1 => (X.k _))))))
/-! fraction -/
def fraction_t (a : Int) (b : Int) : Int × Int := (let common : Int := ((divisor_t (absI a) (absI b)) * (if (decide (0 < b)) = true then 1 else (-1))); ((Int.fdiv a common), (Int.fdiv b common)))
def fraction_ok (a : Int) (b : Int) : Prop := divisor_ok (absI a) (absI b) ∧ M64 (divisor_t (absI a) (absI b)) (if (decide (0 < b)) = true then 1 else (-1)) ∧ (∀ common : Int, common = ((divisor_t (absI a) (absI b)) * (if (decide (0 < b)) = true then 1 else (-1))) → D30 common)
theorem fraction_tie (a : Int) (b : Int) (h : fraction_ok a b) (w : Wd) : f_fraction [PyData.int a, PyData.int b] w = some ((eP2 PyData.int PyData.int) (fraction_t a b), w) := fn_tie (XS.seq1 ((divisor_t (absI a) (absI b)) * (if (decide (0 < b)) = true then 1 else (-1))) (fun (common : Int) => [some (PyData.int a), some (PyData.int b), some (PyData.int common)]) (fun (common : Int) => w) (fun (common : Int) => Out.rt ((eP2 PyData.int PyData.int) ((Int.fdiv a common), (Int.fdiv b common)))) (fun (common : Int) => w) (XS.set (X.op2 (X.call (XA.cons (X.op1 (X.var 0) (absD_I _)) (XA.cons (X.op1 (X.var 1) (absD_I _)) XA.nil)) (divisor_tie (absI a) (absI b) h.1 _)) (X.if PyData.int (u := 1) (v := (-1)) (XT.cmp (X.var 1) (X.k _) (gtD_i _ _)) (fun hk => (X.k _)) (fun hk => (X.op1 (X.k _) (negD_i _)))) (mulI_ok h.2.1)) (TG.name 2)) (fun common hv => (have hq_46 := h.2.2 common hv; (XS.ret (X.tup (XA.cons (X.op2 (X.var 0) (X.var 2) (divD_ok hq_46)) (XA.cons (X.op2 (X.var 1) (X.var 2) (divD_ok hq_46)) XA.nil)))))))
/-! mean_gap_behind -/
def mean_gap_behind_t (gap : Int) (goes : List Bool) : Option (Int × Int) := (let many : Int := (((goes.filter (fun (one : Bool) => one)).map (fun (one : Bool) => (1 : Int))).length : Int); (if (decide (0 < many)) = true then (some (fraction_t (gap * (goes.length : Int)) many)) else (none : Option (Int × Int))))
def mean_gap_behind_ok (gap : Int) (goes : List Bool) : Prop := goes.length ≤ sizeLine ∧ (∀ many : Int, many = (((goes.filter (fun (one : Bool) => one)).map (fun (one : Bool) => (1 : Int))).length : Int) → (decide (0 < many)) = true → M64 gap (goes.length : Int) ∧ fraction_ok (gap * (goes.length : Int)) many)
theorem mean_gap_behind_tie (gap : Int) (goes : List Bool) (h : mean_gap_behind_ok gap goes) (w : Wd) : f_mean_gap_behind [PyData.int gap, (eT PyData.bool) goes] w = some ((eO (eP2 PyData.int PyData.int)) (mean_gap_behind_t gap goes), w) := fn_tie (XS.seq1 (((goes.filter (fun (one : Bool) => one)).map (fun (one : Bool) => (1 : Int))).length : Int) (fun (many : Int) => [some (PyData.int gap), some ((eT PyData.bool) goes), some (PyData.int many), none]) (fun (many : Int) => w) (fun (many : Int) => Out.rt ((eO (eP2 PyData.int PyData.int)) (if (decide (0 < many)) = true then (some (fraction_t (gap * (goes.length : Int)) many)) else (none : Option (Int × Int))))) (fun (many : Int) => w) (XS.set (X.op1 (X.lcF PyData.bool PyData.int (xs := goes) [some (PyData.int gap), some ((eT PyData.bool) goes), none, none] (fun (one : Bool) => [some (PyData.int gap), some ((eT PyData.bool) goes), none, some (PyData.bool one)]) (fun (one : Bool) => one) (fun (one : Bool) => (1 : Int)) (XA.seqT (X.var 1)) (fun one => (TG.name 3)) h.1 (fun one hx => (XT.val (X.var 3))) (fun one hx hb => (X.k _))) (lenD_L PyData.int ((goes.filter (fun (one : Bool) => one)).map (fun (one : Bool) => (1 : Int))))) (TG.name 2)) (fun many hv => (have hq_48 := h.2 many hv; (XS.ret (X.if (eO (eP2 PyData.int PyData.int)) (u := (some (fraction_t (gap * (goes.length : Int)) many))) (v := (none : Option (Int × Int))) (XT.cmp (X.var 2) (X.k _) (gtD_i _ _)) (fun hk => (have hq_47 := hq_48 hk; (X.call (XA.cons (X.op2 (X.var 0) (X.op1 (X.var 1) (lenD_T PyData.bool goes)) (mulI_ok hq_47.1)) (XA.cons (X.var 2) XA.nil)) (fraction_tie (gap * (goes.length : Int)) many hq_47.2 _)))) (fun hk => (X.k _)))))))
/-! law_fraction -/
def law_fraction_t (a : Int) (b : Int) : Int × Int := (let x : Int := (absI a); let y : Int := (absI b); (let s__1 : Int × Int := (whileT (fun (s_ : Int × Int) => (!decide (s_.2 = 0))) (fun (s_ : Int × Int) => (let x_1 : Int := s_.2; let y_1 : Int := (Int.fmod s_.1 s_.2); (x_1, y_1))) 1000000 (x, y)); (if (decide (0 < b)) = true then ((Int.fdiv a s__1.1), (Int.fdiv b s__1.1)) else ((0 - (Int.fdiv a s__1.1)), (0 - (Int.fdiv b s__1.1))))))
def law_fraction_ok (a : Int) (b : Int) : Prop := ∀ x : Int, x = (absI a) → ∀ y : Int, y = (absI b) → OkW (fun (s_ : Int × Int) => True) (fun (s_ : Int × Int) => (!decide (s_.2 = 0))) (fun (s_ : Int × Int) => s_.2 ≠ 0) (fun (s_ : Int × Int) => (let x_1 : Int := s_.2; let y_1 : Int := (Int.fmod s_.1 s_.2); (x_1, y_1))) 1000000 (x, y) ∧ (∀ s__1 : Int × Int, s__1 = (whileT (fun (s_ : Int × Int) => (!decide (s_.2 = 0))) (fun (s_ : Int × Int) => (let x_1 : Int := s_.2; let y_1 : Int := (Int.fmod s_.1 s_.2); (x_1, y_1))) 1000000 (x, y)) → ((decide (0 < b)) = true → D30 s__1.1) ∧ ((decide (0 < b)) = false → D30 s__1.1))
theorem law_fraction_tie (a : Int) (b : Int) (h : law_fraction_ok a b) (w : Wd) : f_law_fraction [PyData.int a, PyData.int b] w = some ((eP2 PyData.int PyData.int) (law_fraction_t a b), w) := fn_tie (XS.seq2 (absI a) (absI b) (fun (x : Int) (y : Int) => [some (PyData.int a), some (PyData.int b), some (PyData.int x), some (PyData.int y)]) (fun (x : Int) (y : Int) => w) (fun (x : Int) (y : Int) => Out.rt ((eP2 PyData.int PyData.int) (let s__1 : Int × Int := (whileT (fun (s_ : Int × Int) => (!decide (s_.2 = 0))) (fun (s_ : Int × Int) => (let x_1 : Int := s_.2; let y_1 : Int := (Int.fmod s_.1 s_.2); (x_1, y_1))) 1000000 (x, y)); (if (decide (0 < b)) = true then ((Int.fdiv a s__1.1), (Int.fdiv b s__1.1)) else ((0 - (Int.fdiv a s__1.1)), (0 - (Int.fdiv b s__1.1))))))) (fun (x : Int) (y : Int) => w) (XS.par (XA.cons (X.op1 (X.var 0) (absD_I _)) (XA.cons (X.op1 (X.var 1) (absD_I _)) XA.nil)) (TGs.cons (TG.name 2) (TGs.cons (TG.name 3) TGs.nil))) (fun x hv_3 y hv_4 => (have hq_52 := h x hv_3 y hv_4; (XS.seq1 (whileT (fun (s_ : Int × Int) => (!decide (s_.2 = 0))) (fun (s_ : Int × Int) => (let x_1 : Int := s_.2; let y_1 : Int := (Int.fmod s_.1 s_.2); (x_1, y_1))) 1000000 (x, y)) (fun (s__1 : Int × Int) => [some (PyData.int a), some (PyData.int b), some (PyData.int s__1.1), some (PyData.int s__1.2)]) (fun (s__1 : Int × Int) => w) (fun (s__1 : Int × Int) => Out.rt ((eP2 PyData.int PyData.int) (if (decide (0 < b)) = true then ((Int.fdiv a s__1.1), (Int.fdiv b s__1.1)) else ((0 - (Int.fdiv a s__1.1)), (0 - (Int.fdiv b s__1.1)))))) (fun (s__1 : Int × Int) => w) (XS.while 1000000 (x, y) (fun (s_ : Int × Int) => [some (PyData.int a), some (PyData.int b), some (PyData.int s_.1), some (PyData.int s_.2)]) (fun (s_ : Int × Int) => (!decide (s_.2 = 0))) (fun (s_ : Int × Int) => (let x_1 : Int := s_.2; let y_1 : Int := (Int.fmod s_.1 s_.2); (x_1, y_1))) (fun (s_ : Int × Int) => True) (fun (s_ : Int × Int) => s_.2 ≠ 0) (show LE _ _ from .same (.same (.same (.same (.nil))))) (fun s_ hk => (XT.cmp (X.var 3) (X.k _) (neE EqI (by decide) s_.2 0))) (fun s_ hk hc => (XS.seqPass (XS.seq2 s_.2 (Int.fmod s_.1 s_.2) (fun (x_1 : Int) (y_1 : Int) => [some (PyData.int a), some (PyData.int b), some (PyData.int x_1), some (PyData.int y_1)]) (fun (x_1 : Int) (y_1 : Int) => w) (fun (x_1 : Int) (y_1 : Int) => Out.nx ((fun (st : Int × Int) => [some (PyData.int a), some (PyData.int b), some (PyData.int st.1), some (PyData.int st.2)]) (x_1, y_1))) (fun (x_1 : Int) (y_1 : Int) => w) (XS.par (XA.cons (X.var 3) (XA.cons (X.op2 (X.var 2) (X.var 3) (modD_i hk)) XA.nil)) (TGs.cons (TG.name 2) (TGs.cons (TG.name 3) TGs.nil))) (fun x_1 hv y_1 hv_1 => (XS.wpass (show LE _ _ from .same (.same (.same (.same (.nil)))))))))) hq_52.1) (fun s__1 hv_2 => (have hq_51 := hq_52.2 s__1 hv_2; (XS.ret (X.if (eP2 PyData.int PyData.int) (u := ((Int.fdiv a s__1.1), (Int.fdiv b s__1.1))) (v := ((0 - (Int.fdiv a s__1.1)), (0 - (Int.fdiv b s__1.1)))) (XT.cmp (X.var 1) (X.k _) (gtD_i _ _)) (fun hk_1 => (have hq_49 := hq_51.1 hk_1; (X.tup (XA.cons (X.op2 (X.var 0) (X.var 2) (divD_ok hq_49)) (XA.cons (X.op2 (X.var 1) (X.var 2) (divD_ok hq_49)) XA.nil))))) (fun hk_1 => (have hq_50 := hq_51.2 hk_1; (X.tup (XA.cons (X.op2 (X.k _) (X.op2 (X.var 0) (X.var 2) (divD_ok hq_50)) (subD_i _ _)) (XA.cons (X.op2 (X.k _) (X.op2 (X.var 1) (X.var 2) (divD_ok hq_50)) (subD_i _ _)) XA.nil)))))))))))))
/-! the law: one turn -/
def law_ok (l0 : St) : Prop := ∀ turn, turn ∈ (rangeI 0 6) → ∀ l_ : St, law_lines_ok 2 l_ ∧ (∀ lines : List (Str × (List (Str × Int))), lines = (law_lines_t 2 l_).1 → ∀ l__1 : St, l__1 = (law_lines_t 2 l_).2 → (((lookT lines ("moon" : Str)).isSome) = true → (lookT lines ("moon" : Str)).isSome = true) ∧ (∀ line : List (Str × Int), line = (if (lookT lines ("moon" : Str)).isSome = true then ((lookT lines ("moon" : Str)).getD default) else [(("a" : Str), 0), (("b" : Str), 4), (("c" : Str), 3)]) → law_stops_ok line ∧ (∀ stops : List Str, stops = (law_stops_t line) → ∀ late : Int, late = (1 + (nextT l__1 40).1) → ∀ stand : Int, stand = (nextT ((nextT l__1 40).2) 9).1 → ∀ later : Int, later = (1 + (nextT ((nextT ((nextT l__1 40).2) 9).2) 30).1) → ∀ l__2 : St, l__2 = (nextT ((nextT ((nextT l__1 40).2) 9).2) 30).2 → I62 ((nextT l__2 6).1) ∧ (OkF (fun (s_ : ((List (Str × Str × Int)) × (List (Str × Str × Int))) × St) (k_ : Int) => ((stops.length : Int) - 1) ≠ 0 ∧ (∀ i : Int, i = (nextT s_.2 ((stops.length : Int) - 1)).1 → ∀ l__3 : St, l__3 = (nextT s_.2 ((stops.length : Int) - 1)).2 → (((stops.length : Int) - i) - 1) ≠ 0 ∧ (∀ j : Int, j = ((i + 1) + (nextT l__3 (((stops.length : Int) - i) - 1)).1) → ∀ l__4 : St, l__4 = (nextT l__3 (((stops.length : Int) - i) - 1)).2 → ∀ people : Int, people = (1 + (nextT l__4 9).1) → ∀ l__5 : St, l__5 = (nextT l__4 9).2 → InR stops i ∧ InR stops j ∧ s_.1.1.length + ([((idx stops i), (idx stops j), people)]).length ≤ sizeLine ∧ s_.1.2.length + ([((idx stops j), (idx stops i), (1 + (nextT l__5 9).1))]).length ≤ sizeLine))) (fun (s_ : ((List (Str × Str × Int)) × (List (Str × Str × Int))) × St) (k_ : Int) => (let i : Int := (nextT s_.2 ((stops.length : Int) - 1)).1; let l__3 : St := (nextT s_.2 ((stops.length : Int) - 1)).2; (let j : Int := ((i + 1) + (nextT l__3 (((stops.length : Int) - i) - 1)).1); let l__4 : St := (nextT l__3 (((stops.length : Int) - i) - 1)).2; (let people : Int := (1 + (nextT l__4 9).1); let l__5 : St := (nextT l__4 9).2; (let riders : List (Str × Str × Int) := (s_.1.1 ++ [((idx stops i), (idx stops j), people)]); let back : List (Str × Str × Int) := (s_.1.2 ++ [((idx stops j), (idx stops i), (1 + (nextT l__5 9).1))]); let l__6 : St := (nextT l__5 9).2; ((riders, back), l__6)))))) (([], []), (nextT l__2 6).2) (rangeI 0 ((nextT l__2 6).1))) ∧ (∀ s__1 : ((List (Str × Str × Int)) × (List (Str × Str × Int))) × St, s__1 = ((rangeI 0 ((nextT l__2 6).1)).foldl (fun (s_ : ((List (Str × Str × Int)) × (List (Str × Str × Int))) × St) (k_ : Int) => (let i : Int := (nextT s_.2 ((stops.length : Int) - 1)).1; let l__3 : St := (nextT s_.2 ((stops.length : Int) - 1)).2; (let j : Int := ((i + 1) + (nextT l__3 (((stops.length : Int) - i) - 1)).1); let l__4 : St := (nextT l__3 (((stops.length : Int) - i) - 1)).2; (let people : Int := (1 + (nextT l__4 9).1); let l__5 : St := (nextT l__4 9).2; (let riders : List (Str × Str × Int) := (s_.1.1 ++ [((idx stops i), (idx stops j), people)]); let back : List (Str × Str × Int) := (s_.1.2 ++ [((idx stops j), (idx stops i), (1 + (nextT l__5 9).1))]); let l__6 : St := (nextT l__5 9).2; ((riders, back), l__6)))))) (([], []), (nextT l__2 6).2)) → ∀ inner : List Str, inner = (cutL stops (some 1) (some ((stops.length : Int) - 1))) → (OkF (fun (s__2 : List Str) (stop : Str) => stop ∈ stops ∧ (∀ at_ : Int, at_ = (stops.idxOf stop : Int) → (cutL line (some (at_ + 1)) none).length ≤ sizeLine ∧ (∀ rest : Int, rest = ((cutL line (some (at_ + 1)) none).map (fun (p : Str × Int) => p.2)).sum → saved_at_ok line stop stand ∧ (saved_at_t line stop stand) = ((2 * rest) + stand) ∧ (s__2.length + (if ((decide (stop ∈ inner)) && (decide (late ≤ ((2 * rest) + stand)))) = true then [stop] else []).length ≤ sizeLine ∧ (∀ able : List Str, able = (s__2 ++ (if ((decide (stop ∈ inner)) && (decide (late ≤ ((2 * rest) + stand)))) = true then [stop] else [])) → lost_riders_ok line s__1.1.1 stop ∧ s__1.1.1.length ≤ sizeLine ∧ (∀ p_1, p_1 ∈ s__1.1.1 → p_1.2.1 ∈ stops) ∧ (lost_riders_t line s__1.1.1 stop) = ((s__1.1.1.filter (fun (p_1 : Str × Str × Int) => (decide (at_ < (stops.idxOf p_1.2.1 : Int))))).map (fun (p_1 : Str × Str × Int) => p_1.2.2)).sum))))) (fun (s__2 : List Str) (stop : Str) => (let at_ : Int := (stops.idxOf stop : Int); (let rest : Int := ((cutL line (some (at_ + 1)) none).map (fun (p : Str × Int) => p.2)).sum; (let able : List Str := (s__2 ++ (if ((decide (stop ∈ inner)) && (decide (late ≤ ((2 * rest) + stand)))) = true then [stop] else [])); able)))) [] stops) ∧ (∀ able_1 : List Str, able_1 = (stops.foldl (fun (s__2 : List Str) (stop : Str) => (let at_ : Int := (stops.idxOf stop : Int); (let rest : Int := ((cutL line (some (at_ + 1)) none).map (fun (p : Str × Int) => p.2)).sum; (let able : List Str := (s__2 ++ (if ((decide (stop ∈ inner)) && (decide (late ≤ ((2 * rest) + stand)))) = true then [stop] else [])); able)))) []) → turn_stop_ok line late stand ∧ ((!decide (able_1 = [])) = true → InR able_1 ((able_1.length : Int) - 1)) ∧ (turn_stop_t line late stand) = (if (!decide (able_1 = [])) = true then (some (idx able_1 ((able_1.length : Int) - 1))) else (none : Option Str)) ∧ (∀ best : Option (Int × Option Str), best = (none : Option (Int × Option Str)) → ([(none : Option Str)]).length + (inner.reverse.map some).length ≤ sizeLine ∧ (OkF (fun (s__3 : (Option (Int × Option Str))) (stop_1 : Option Str) => law_cost_ok line s__1.1.1 s__1.1.2 late stand later stop_1 ∧ (∀ own : Int, own = (law_cost_t line s__1.1.1 s__1.1.2 late stand later stop_1) → cost_of_turn_ok line s__1.1.1 s__1.1.2 late stand later stop_1 ∧ (cost_of_turn_t line s__1.1.1 s__1.1.2 late stand later stop_1) = own ∧ (s__3.isNone = false → s__3.isSome = true))) (fun (s__3 : (Option (Int × Option Str))) (stop_1 : Option Str) => (let own : Int := (law_cost_t line s__1.1.1 s__1.1.2 late stand later stop_1); (let best_1 : Option (Int × Option Str) := (if (s__3.isNone || (decide (own < (s__3.getD default).1))) = true then (some (own, stop_1)) else s__3); best_1))) best ([(none : Option Str)] ++ (inner.reverse.map some))) ∧ (∀ best_2 : (Option (Int × Option Str)), best_2 = (([(none : Option Str)] ++ (inner.reverse.map some)).foldl (fun (s__3 : (Option (Int × Option Str))) (stop_1 : Option Str) => (let own : Int := (law_cost_t line s__1.1.1 s__1.1.2 late stand later stop_1); (let best_1 : Option (Int × Option Str) := (if (s__3.isNone || (decide (own < (s__3.getD default).1))) = true then (some (own, stop_1)) else s__3); best_1))) best) → best_turn_ok line s__1.1.1 s__1.1.2 late stand later ∧ (some (best_turn_t line s__1.1.1 s__1.1.2 late stand later)) = best_2 ∧ (law_pick_ok stops ((nextT s__1.2 60).2) ∧ (∀ begin : Int, begin = (nextT s__1.2 60).1 → ∀ stop_2 : Str, stop_2 = (law_pick_t stops ((nextT s__1.2 60).2)).1 → ∀ l__7 : St, l__7 = (law_pick_t stops ((nextT s__1.2 60).2)).2 → stop_2 ∈ stops ∧ InR stops 0 ∧ (∀ at__1 : Int, at__1 = (stops.idxOf stop_2 : Int) → ∀ now : Int, now = begin → ∀ rows : List (Str × Int), rows = [((idx stops 0), begin)] → I62 (at__1 + 1) ∧ (OkF (fun (s__4 : Int × (List (Str × Int))) (k__1 : Int) => InR line k__1 ∧ (∀ now_1 : Int, now_1 = s__4.1 + (idx line k__1).2 → InR stops k__1 ∧ s__4.2.length < sizeLine)) (fun (s__4 : Int × (List (Str × Int))) (k__1 : Int) => (let now_1 : Int := s__4.1 + (idx line k__1).2; (let rows_1 : List (Str × Int) := s__4.2 ++ [((idx stops k__1), now_1)]; (now_1, rows_1)))) (now, rows) (rangeI 1 (at__1 + 1))) ∧ (∀ s__5 : Int × (List (Str × Int)), s__5 = ((rangeI 1 (at__1 + 1)).foldl (fun (s__4 : Int × (List (Str × Int))) (k__1 : Int) => (let now_1 : Int := s__4.1 + (idx line k__1).2; (let rows_1 : List (Str × Int) := s__4.2 ++ [((idx stops k__1), now_1)]; (now_1, rows_1)))) (now, rows)) → I62 at__1 ∧ (OkF (fun (s__6 : Int × (List (Str × Int))) (k__2 : Int) => InR line k__2 ∧ (∀ now_2 : Int, now_2 = s__6.1 + (idx line k__2).2 → InR stops (k__2 - 1) ∧ s__6.2.length < sizeLine)) (fun (s__6 : Int × (List (Str × Int))) (k__2 : Int) => (let now_2 : Int := s__6.1 + (idx line k__2).2; (let rows_2 : List (Str × Int) := s__6.2 ++ [((idx stops (k__2 - 1)), now_2)]; (now_2, rows_2)))) (s__5.1, s__5.2) (rangeDI at__1 0)) ∧ (∀ s__7 : Int × (List (Str × Int)), s__7 = ((rangeDI at__1 0).foldl (fun (s__6 : Int × (List (Str × Int))) (k__2 : Int) => (let now_2 : Int := s__6.1 + (idx line k__2).2; (let rows_2 : List (Str × Int) := s__6.2 ++ [((idx stops (k__2 - 1)), now_2)]; (now_2, rows_2)))) (s__5.1, s__5.2)) → turned_rows_ok line begin stop_2 ∧ (turned_rows_t line begin stop_2) = s__7.2 ∧ Alt 12 ((eT (eP2 PyData.str PyData.int)) (turned_rows_t line begin stop_2)) ∧ ((chrs ("abcdef" : Str)).length ≤ sizeLine ∧ (∀ streets : List Str, streets = (filterW (fun (own_1 : Str) (l__8 : St) => ((decide ((nextT l__8 2).1 = 0)), (nextT l__8 2).2)) (chrs ("abcdef" : Str)) l__7).1 → ∀ l__9 : St, l__9 = (filterW (fun (own_1 : Str) (l__8 : St) => ((decide ((nextT l__8 2).1 = 0)), (nextT l__8 2).2)) (chrs ("abcdef" : Str)) l__7).2 → turn_stops_ok line streets ∧ inner.length ≤ sizeLine ∧ (turn_stops_t line streets) = (inner.filter (fun (own_2 : Str) => (decide (own_2 ∈ streets)))) ∧ Alt 12 ((eT PyData.str) (turn_stops_t line streets)) ∧ (part_line_ok line stop_2 ∧ (part_line_t line stop_2) = (if (decide (0 < at__1)) = true then (some (cutL line none (some (at__1 + 1)))) else (none : Option (List (Str × Int)))) ∧ Alt 12 ((eO (eT (eP2 PyData.str PyData.int))) (part_line_t line stop_2)) ∧ (∀ many : Int, many = (nextT l__9 7).1 → ∀ gap : Int, gap = (1 + (nextT ((nextT l__9 7).2) 30).1) → ∀ l__10 : St, l__10 = (nextT ((nextT l__9 7).2) 30).2 → I62 ((nextT l__10 6).1) ∧ (rangeI 0 ((nextT l__10 6).1)).length ≤ sizeLine ∧ (∀ goes : List Bool, goes = (mapW (fun (k__3 : Int) (l__11 : St) => ((decide ((nextT l__11 2).1 = 0)), (nextT l__11 2).2)) (rangeI 0 ((nextT l__10 6).1)) ((nextT l__10 6).2)).1 → ∀ l__12 : St, l__12 = (mapW (fun (k__3 : Int) (l__11 : St) => ((decide ((nextT l__11 2).1 = 0)), (nextT l__11 2).2)) (rangeI 0 ((nextT l__10 6).1)) ((nextT l__10 6).2)).2 → every_other_ok many ∧ I62 many ∧ (rangeI 0 many).length ≤ sizeLine ∧ (every_other_t many) = ((rangeI 0 many).map (fun (k__4 : Int) => (decide (((k__4 / 2) * 2) = k__4)))) ∧ Alt 12 ((eT PyData.bool) (every_other_t many)) ∧ (goes.length ≤ sizeLine ∧ (∀ on : Int, on = (((goes.filter (fun (own_3 : Bool) => own_3)).map (fun (own_3 : Bool) => (1 : Int))).length : Int) → mean_gap_behind_ok gap goes ∧ ((decide (0 < on)) = true → M64 gap (goes.length : Int) ∧ law_fraction_ok (gap * (goes.length : Int)) on) ∧ (mean_gap_behind_t gap goes) = (if (decide (0 < on)) = true then (some (law_fraction_t (gap * (goes.length : Int)) on)) else (none : Option (Int × Int))))))))))))))))))))))
set_option maxHeartbeats 0 in
theorem law_tie (sc : D) (l0 : St) (h : law_ok l0) : XL [some (id sc), some (tokW), none, none, none, none, none, none, none, none, none, none, none, none, none, none, none, none, none, none, none, none, none, none, none, none, none, none, none, none, none, none, none, none] b_law l0 (.rt (.bool true)) := (XL.seqL (XL.forU2 PyData.int (xs := (rangeI 0 6)) [some (id sc), some (tokW), none, none, none, none, none, none, none, none, none, none, none, none, none, none, none, none, none, none, none, none, none, none, none, none, none, none, none, none, none, none, none, none] (fun (turn : Int) => [some (id sc), some (tokW), some (PyData.int turn), none, none, none, none, none, none, none, none, none, none, none, none, none, none, none, none, none, none, none, none, none, none, none, none, none, none, none, none, none, none, none]) (XA.r1 (X.k _) (by unfold I62; decide)) (show LE _ _ from .same (.same (.same (.same (.same (.same (.same (.same (.same (.same (.same (.same (.same (.same (.same (.same (.same (.same (.same (.same (.same (.same (.same (.same (.same (.same (.same (.same (.same (.same (.same (.same (.same (.same (.nil))))))))))))))))))))))))))))))))))) (fun turn => (TG.name 2)) (fun turn hx l_ => (have hq_84 := h turn hx l_; (XL.seq1 ((law_lines_t 2 l_).1) ((law_lines_t 2 l_).2) (fun (lines : List (Str × (List (Str × Int)))) => [some (id sc), some (tokW), some (PyData.int turn), some ((eD PyData.str (eT (eP2 PyData.str PyData.int))) lines), none, none, none, none, none, none, none, none, none, none, none, none, none, none, none, none, none, none, none, none, none, none, none, none, none, none, none, none, none, none]) (XS.set (X.call (XA.cons (X.var 1) (XA.cons (X.k _) XA.nil)) (law_lines_tie 2 l_ hq_84.1)) (TG.name 3)) (fun lines hv_45 l__1 hv_46 => (have hq_83 := hq_84.2 lines hv_45 l__1 hv_46; (XL.seqp1 (if (lookT lines ("moon" : Str)).isSome = true then ((lookT lines ("moon" : Str)).getD default) else [(("a" : Str), 0), (("b" : Str), 4), (("c" : Str), 3)]) (fun (line : List (Str × Int)) => [some (id sc), some (tokW), some (PyData.int turn), some ((eD PyData.str (eT (eP2 PyData.str PyData.int))) lines), some ((eT (eP2 PyData.str PyData.int)) line), none, none, none, none, none, none, none, none, none, none, none, none, none, none, none, none, none, none, none, none, none, none, none, none, none, none, none, none, none]) (XS.set (X.if (eT (eP2 PyData.str PyData.int)) (u := ((lookT lines ("moon" : Str)).getD default)) (v := [(("a" : Str), 0), (("b" : Str), 4), (("c" : Str), 3)]) (XT.cmp (X.k _) (X.var 3) (inAD_D KeS ("moon" : Str) lines)) (fun hk => (have hq_53 := hq_83.1 hk; (X.op2 (X.var 3) (X.k _) (ixAD_D KeS hq_53)))) (fun hk => (X.tup (XA.cons (X.tup (XA.cons (X.k _) (XA.cons (X.k _) XA.nil))) (XA.cons (X.tup (XA.cons (X.k _) (XA.cons (X.k _) XA.nil))) (XA.cons (X.tup (XA.cons (X.k _) (XA.cons (X.k _) XA.nil))) XA.nil)))))) (TG.name 4)) (fun line hv_44 => (have hq_82 := hq_83.2 line hv_44; (XL.seq4 (law_stops_t line) (1 + (nextT l__1 40).1) ((nextT ((nextT l__1 40).2) 9).1) (1 + (nextT ((nextT ((nextT l__1 40).2) 9).2) 30).1) ((nextT ((nextT ((nextT l__1 40).2) 9).2) 30).2) (fun (stops : List Str) (late : Int) (stand : Int) (later : Int) => [some (id sc), some (tokW), some (PyData.int turn), some ((eD PyData.str (eT (eP2 PyData.str PyData.int))) lines), some ((eT (eP2 PyData.str PyData.int)) line), some ((eL PyData.str) stops), some (PyData.int late), some (PyData.int stand), some (PyData.int later), none, none, none, none, none, none, none, none, none, none, none, none, none, none, none, none, none, none, none, none, none, none, none, none, none]) (XS.par (XA.cons (X.call (XA.cons (X.var 4) XA.nil) (law_stops_tie line hq_82.1 _)) (XA.cons (X.op2 (X.k _) (X.call (XA.cons (X.var 1) (XA.cons (X.k _) XA.nil)) (next_tie (by decide))) (addD_i _ _)) (XA.cons (X.call (XA.cons (X.var 1) (XA.cons (X.k _) XA.nil)) (next_tie (by decide))) (XA.cons (X.op2 (X.k _) (X.call (XA.cons (X.var 1) (XA.cons (X.k _) XA.nil)) (next_tie (by decide))) (addD_i _ _)) XA.nil)))) (TGs.cons (TG.name 5) (TGs.cons (TG.name 6) (TGs.cons (TG.name 7) (TGs.cons (TG.name 8) TGs.nil))))) (fun stops hv_39 late hv_40 stand hv_41 later hv_42 l__2 hv_43 => (have hq_81 := hq_82.2 stops hv_39 late hv_40 stand hv_41 later hv_42 l__2 hv_43; (XL.seqd (XS.par (XA.cons (X.lst XA.nil) (XA.cons (X.lst XA.nil) XA.nil)) (TGs.cons (TG.name 9) (TGs.cons (TG.name 10) TGs.nil))) (XL.seqv1 ((rangeI 0 ((nextT l__2 6).1)).foldl (fun (s_ : ((List (Str × Str × Int)) × (List (Str × Str × Int))) × St) (k_ : Int) => (let i : Int := (nextT s_.2 ((stops.length : Int) - 1)).1; let l__3 : St := (nextT s_.2 ((stops.length : Int) - 1)).2; (let j : Int := ((i + 1) + (nextT l__3 (((stops.length : Int) - i) - 1)).1); let l__4 : St := (nextT l__3 (((stops.length : Int) - i) - 1)).2; (let people : Int := (1 + (nextT l__4 9).1); let l__5 : St := (nextT l__4 9).2; (let riders : List (Str × Str × Int) := (s_.1.1 ++ [((idx stops i), (idx stops j), people)]); let back : List (Str × Str × Int) := (s_.1.2 ++ [((idx stops j), (idx stops i), (1 + (nextT l__5 9).1))]); let l__6 : St := (nextT l__5 9).2; ((riders, back), l__6)))))) (([], []), (nextT l__2 6).2)) (fun (s__1 : ((List (Str × Str × Int)) × (List (Str × Str × Int))) × St) => [some (id sc), some (tokW), some (PyData.int turn), some ((eD PyData.str (eT (eP2 PyData.str PyData.int))) lines), some ((eT (eP2 PyData.str PyData.int)) line), some ((eL PyData.str) stops), some (PyData.int late), some (PyData.int stand), some (PyData.int later), some ((eL (eP3 PyData.str PyData.str PyData.int)) s__1.1.1), some ((eL (eP3 PyData.str PyData.str PyData.int)) s__1.1.2), none, none, none, none, none, none, none, none, none, none, none, none, none, none, none, none, none, none, none, none, none, none, none]) (fun (s__1 : ((List (Str × Str × Int)) × (List (Str × Str × Int))) × St) => s__1.2) (XS.for PyData.int (xs := (rangeI 0 ((nextT l__2 6).1))) (([], []), (nextT l__2 6).2) (fun (s_ : ((List (Str × Str × Int)) × (List (Str × Str × Int))) × St) => [some (id sc), some (tokW), some (PyData.int turn), some ((eD PyData.str (eT (eP2 PyData.str PyData.int))) lines), some ((eT (eP2 PyData.str PyData.int)) line), some ((eL PyData.str) stops), some (PyData.int late), some (PyData.int stand), some (PyData.int later), some ((eL (eP3 PyData.str PyData.str PyData.int)) s_.1.1), some ((eL (eP3 PyData.str PyData.str PyData.int)) s_.1.2), none, none, none, none, none, none, none, none, none, none, none, none, none, none, none, none, none, none, none, none, none, none, none]) (fun (s_ : ((List (Str × Str × Int)) × (List (Str × Str × Int))) × St) => some s_.2) (fun (s_ : ((List (Str × Str × Int)) × (List (Str × Str × Int))) × St) (k_ : Int) => [some (id sc), some (tokW), some (PyData.int turn), some ((eD PyData.str (eT (eP2 PyData.str PyData.int))) lines), some ((eT (eP2 PyData.str PyData.int)) line), some ((eL PyData.str) stops), some (PyData.int late), some (PyData.int stand), some (PyData.int later), some ((eL (eP3 PyData.str PyData.str PyData.int)) s_.1.1), some ((eL (eP3 PyData.str PyData.str PyData.int)) s_.1.2), some (PyData.int k_), none, none, none, none, none, none, none, none, none, none, none, none, none, none, none, none, none, none, none, none, none, none]) (fun (s_ : ((List (Str × Str × Int)) × (List (Str × Str × Int))) × St) (k_ : Int) => (let i : Int := (nextT s_.2 ((stops.length : Int) - 1)).1; let l__3 : St := (nextT s_.2 ((stops.length : Int) - 1)).2; (let j : Int := ((i + 1) + (nextT l__3 (((stops.length : Int) - i) - 1)).1); let l__4 : St := (nextT l__3 (((stops.length : Int) - i) - 1)).2; (let people : Int := (1 + (nextT l__4 9).1); let l__5 : St := (nextT l__4 9).2; (let riders : List (Str × Str × Int) := (s_.1.1 ++ [((idx stops i), (idx stops j), people)]); let back : List (Str × Str × Int) := (s_.1.2 ++ [((idx stops j), (idx stops i), (1 + (nextT l__5 9).1))]); let l__6 : St := (nextT l__5 9).2; ((riders, back), l__6)))))) (fun (s_ : ((List (Str × Str × Int)) × (List (Str × Str × Int))) × St) (k_ : Int) => ((stops.length : Int) - 1) ≠ 0 ∧ (∀ i : Int, i = (nextT s_.2 ((stops.length : Int) - 1)).1 → ∀ l__3 : St, l__3 = (nextT s_.2 ((stops.length : Int) - 1)).2 → (((stops.length : Int) - i) - 1) ≠ 0 ∧ (∀ j : Int, j = ((i + 1) + (nextT l__3 (((stops.length : Int) - i) - 1)).1) → ∀ l__4 : St, l__4 = (nextT l__3 (((stops.length : Int) - i) - 1)).2 → ∀ people : Int, people = (1 + (nextT l__4 9).1) → ∀ l__5 : St, l__5 = (nextT l__4 9).2 → InR stops i ∧ InR stops j ∧ s_.1.1.length + ([((idx stops i), (idx stops j), people)]).length ≤ sizeLine ∧ s_.1.2.length + ([((idx stops j), (idx stops i), (1 + (nextT l__5 9).1))]).length ≤ sizeLine))) (XA.r1 (X.call (XA.cons (X.var 1) (XA.cons (X.k _) XA.nil)) (next_tie (by decide))) (hq_81).1) (show LE _ _ from .same (.same (.same (.same (.same (.same (.same (.same (.same (.same (.same (.same (.same (.same (.same (.same (.same (.same (.same (.same (.same (.same (.same (.same (.same (.same (.same (.same (.same (.same (.same (.same (.same (.same (.nil))))))))))))))))))))))))))))))))))) (fun s_ k_ => (TG.name 11)) (fun s_ k_ hx_1 hk_1 => (XS.seq2 ((nextT s_.2 ((stops.length : Int) - 1)).1) ((nextT s_.2 ((stops.length : Int) - 1)).2) (fun (i : Int) (l__3 : St) => [some (id sc), some (tokW), some (PyData.int turn), some ((eD PyData.str (eT (eP2 PyData.str PyData.int))) lines), some ((eT (eP2 PyData.str PyData.int)) line), some ((eL PyData.str) stops), some (PyData.int late), some (PyData.int stand), some (PyData.int later), some ((eL (eP3 PyData.str PyData.str PyData.int)) s_.1.1), some ((eL (eP3 PyData.str PyData.str PyData.int)) s_.1.2), some (PyData.int k_), some (PyData.int i), none, none, none, none, none, none, none, none, none, none, none, none, none, none, none, none, none, none, none, none, none]) (fun (i : Int) (l__3 : St) => some l__3) (fun (i : Int) (l__3 : St) => Out.nx ((fun (st : (List (Str × Str × Int)) × (List (Str × Str × Int))) => [some (id sc), some (tokW), some (PyData.int turn), some ((eD PyData.str (eT (eP2 PyData.str PyData.int))) lines), some ((eT (eP2 PyData.str PyData.int)) line), some ((eL PyData.str) stops), some (PyData.int late), some (PyData.int stand), some (PyData.int later), some ((eL (eP3 PyData.str PyData.str PyData.int)) st.1), some ((eL (eP3 PyData.str PyData.str PyData.int)) st.2), none, none, none, none, none, none, none, none, none, none, none, none, none, none, none, none, none, none, none, none, none, none, none]) (let j : Int := ((i + 1) + (nextT l__3 (((stops.length : Int) - i) - 1)).1); let l__4 : St := (nextT l__3 (((stops.length : Int) - i) - 1)).2; (let people : Int := (1 + (nextT l__4 9).1); let l__5 : St := (nextT l__4 9).2; (let riders : List (Str × Str × Int) := (s_.1.1 ++ [((idx stops i), (idx stops j), people)]); let back : List (Str × Str × Int) := (s_.1.2 ++ [((idx stops j), (idx stops i), (1 + (nextT l__5 9).1))]); let l__6 : St := (nextT l__5 9).2; ((riders, back), l__6)))).1)) (fun (i : Int) (l__3 : St) => some (let j : Int := ((i + 1) + (nextT l__3 (((stops.length : Int) - i) - 1)).1); let l__4 : St := (nextT l__3 (((stops.length : Int) - i) - 1)).2; (let people : Int := (1 + (nextT l__4 9).1); let l__5 : St := (nextT l__4 9).2; (let riders : List (Str × Str × Int) := (s_.1.1 ++ [((idx stops i), (idx stops j), people)]); let back : List (Str × Str × Int) := (s_.1.2 ++ [((idx stops j), (idx stops i), (1 + (nextT l__5 9).1))]); let l__6 : St := (nextT l__5 9).2; ((riders, back), l__6)))).2) (XS.set (X.call (XA.cons (X.var 1) (XA.cons (X.op2 (X.op1 (X.var 5) (lenD_L PyData.str stops)) (X.k _) (subD_i _ _)) XA.nil)) (next_tie hk_1.1)) (TG.name 12)) (fun i hv_7 l__3 hv_8 => (have hq_56 := hk_1.2 i hv_7 l__3 hv_8; (XS.seq2 ((i + 1) + (nextT l__3 (((stops.length : Int) - i) - 1)).1) ((nextT l__3 (((stops.length : Int) - i) - 1)).2) (fun (j : Int) (l__4 : St) => [some (id sc), some (tokW), some (PyData.int turn), some ((eD PyData.str (eT (eP2 PyData.str PyData.int))) lines), some ((eT (eP2 PyData.str PyData.int)) line), some ((eL PyData.str) stops), some (PyData.int late), some (PyData.int stand), some (PyData.int later), some ((eL (eP3 PyData.str PyData.str PyData.int)) s_.1.1), some ((eL (eP3 PyData.str PyData.str PyData.int)) s_.1.2), some (PyData.int k_), some (PyData.int i), some (PyData.int j), none, none, none, none, none, none, none, none, none, none, none, none, none, none, none, none, none, none, none, none]) (fun (j : Int) (l__4 : St) => some l__4) (fun (j : Int) (l__4 : St) => Out.nx ((fun (st : (List (Str × Str × Int)) × (List (Str × Str × Int))) => [some (id sc), some (tokW), some (PyData.int turn), some ((eD PyData.str (eT (eP2 PyData.str PyData.int))) lines), some ((eT (eP2 PyData.str PyData.int)) line), some ((eL PyData.str) stops), some (PyData.int late), some (PyData.int stand), some (PyData.int later), some ((eL (eP3 PyData.str PyData.str PyData.int)) st.1), some ((eL (eP3 PyData.str PyData.str PyData.int)) st.2), none, none, none, none, none, none, none, none, none, none, none, none, none, none, none, none, none, none, none, none, none, none, none]) (let people : Int := (1 + (nextT l__4 9).1); let l__5 : St := (nextT l__4 9).2; (let riders : List (Str × Str × Int) := (s_.1.1 ++ [((idx stops i), (idx stops j), people)]); let back : List (Str × Str × Int) := (s_.1.2 ++ [((idx stops j), (idx stops i), (1 + (nextT l__5 9).1))]); let l__6 : St := (nextT l__5 9).2; ((riders, back), l__6))).1)) (fun (j : Int) (l__4 : St) => some (let people : Int := (1 + (nextT l__4 9).1); let l__5 : St := (nextT l__4 9).2; (let riders : List (Str × Str × Int) := (s_.1.1 ++ [((idx stops i), (idx stops j), people)]); let back : List (Str × Str × Int) := (s_.1.2 ++ [((idx stops j), (idx stops i), (1 + (nextT l__5 9).1))]); let l__6 : St := (nextT l__5 9).2; ((riders, back), l__6))).2) (XS.set (X.op2 (X.op2 (X.var 12) (X.k _) (addD_i _ _)) (X.call (XA.cons (X.var 1) (XA.cons (X.op2 (X.op2 (X.op1 (X.var 5) (lenD_L PyData.str stops)) (X.var 12) (subD_i _ _)) (X.k _) (subD_i _ _)) XA.nil)) (next_tie hq_56.1)) (addD_i _ _)) (TG.name 13)) (fun j hv_5 l__4 hv_6 => (have hq_55 := hq_56.2 j hv_5 l__4 hv_6; (XS.seq2 (1 + (nextT l__4 9).1) ((nextT l__4 9).2) (fun (people : Int) (l__5 : St) => [some (id sc), some (tokW), some (PyData.int turn), some ((eD PyData.str (eT (eP2 PyData.str PyData.int))) lines), some ((eT (eP2 PyData.str PyData.int)) line), some ((eL PyData.str) stops), some (PyData.int late), some (PyData.int stand), some (PyData.int later), some ((eL (eP3 PyData.str PyData.str PyData.int)) s_.1.1), some ((eL (eP3 PyData.str PyData.str PyData.int)) s_.1.2), some (PyData.int k_), some (PyData.int i), some (PyData.int j), some (PyData.int people), none, none, none, none, none, none, none, none, none, none, none, none, none, none, none, none, none, none, none]) (fun (people : Int) (l__5 : St) => some l__5) (fun (people : Int) (l__5 : St) => Out.nx ((fun (st : (List (Str × Str × Int)) × (List (Str × Str × Int))) => [some (id sc), some (tokW), some (PyData.int turn), some ((eD PyData.str (eT (eP2 PyData.str PyData.int))) lines), some ((eT (eP2 PyData.str PyData.int)) line), some ((eL PyData.str) stops), some (PyData.int late), some (PyData.int stand), some (PyData.int later), some ((eL (eP3 PyData.str PyData.str PyData.int)) st.1), some ((eL (eP3 PyData.str PyData.str PyData.int)) st.2), none, none, none, none, none, none, none, none, none, none, none, none, none, none, none, none, none, none, none, none, none, none, none]) (let riders : List (Str × Str × Int) := (s_.1.1 ++ [((idx stops i), (idx stops j), people)]); let back : List (Str × Str × Int) := (s_.1.2 ++ [((idx stops j), (idx stops i), (1 + (nextT l__5 9).1))]); let l__6 : St := (nextT l__5 9).2; ((riders, back), l__6)).1)) (fun (people : Int) (l__5 : St) => some (let riders : List (Str × Str × Int) := (s_.1.1 ++ [((idx stops i), (idx stops j), people)]); let back : List (Str × Str × Int) := (s_.1.2 ++ [((idx stops j), (idx stops i), (1 + (nextT l__5 9).1))]); let l__6 : St := (nextT l__5 9).2; ((riders, back), l__6)).2) (XS.set (X.op2 (X.k _) (X.call (XA.cons (X.var 1) (XA.cons (X.k _) XA.nil)) (next_tie (by decide))) (addD_i _ _)) (TG.name 14)) (fun people hv_3 l__5 hv_4 => (have hq_54 := hq_55 people hv_3 l__5 hv_4; (XS.seqPass (XS.seq3 (s_.1.1 ++ [((idx stops i), (idx stops j), people)]) (s_.1.2 ++ [((idx stops j), (idx stops i), (1 + (nextT l__5 9).1))]) ((nextT l__5 9).2) (fun (riders : List (Str × Str × Int)) (back : List (Str × Str × Int)) (l__6 : St) => [some (id sc), some (tokW), some (PyData.int turn), some ((eD PyData.str (eT (eP2 PyData.str PyData.int))) lines), some ((eT (eP2 PyData.str PyData.int)) line), some ((eL PyData.str) stops), some (PyData.int late), some (PyData.int stand), some (PyData.int later), some ((eL (eP3 PyData.str PyData.str PyData.int)) riders), some ((eL (eP3 PyData.str PyData.str PyData.int)) back), some (PyData.int k_), some (PyData.int i), some (PyData.int j), some (PyData.int people), none, none, none, none, none, none, none, none, none, none, none, none, none, none, none, none, none, none, none]) (fun (riders : List (Str × Str × Int)) (back : List (Str × Str × Int)) (l__6 : St) => some l__6) (fun (riders : List (Str × Str × Int)) (back : List (Str × Str × Int)) (l__6 : St) => Out.nx ((fun (st : (List (Str × Str × Int)) × (List (Str × Str × Int))) => [some (id sc), some (tokW), some (PyData.int turn), some ((eD PyData.str (eT (eP2 PyData.str PyData.int))) lines), some ((eT (eP2 PyData.str PyData.int)) line), some ((eL PyData.str) stops), some (PyData.int late), some (PyData.int stand), some (PyData.int later), some ((eL (eP3 PyData.str PyData.str PyData.int)) st.1), some ((eL (eP3 PyData.str PyData.str PyData.int)) st.2), none, none, none, none, none, none, none, none, none, none, none, none, none, none, none, none, none, none, none, none, none, none, none]) ((riders, back), l__6).1)) (fun (riders : List (Str × Str × Int)) (back : List (Str × Str × Int)) (l__6 : St) => some ((riders, back), l__6).2) (XS.par (XA.cons (X.op2 (X.var 9) (X.lst (XA.cons (X.tup (XA.cons (X.op2 (X.var 5) (X.var 12) (ixAD_L PyData.str hq_54.1)) (XA.cons (X.op2 (X.var 5) (X.var 13) (ixAD_L PyData.str hq_54.2.1)) (XA.cons (X.var 14) XA.nil)))) XA.nil)) (catD_L (eP3 PyData.str PyData.str PyData.int) s_.1.1 ([((idx stops i), (idx stops j), people)]) hq_54.2.2.1)) (XA.cons (X.op2 (X.var 10) (X.lst (XA.cons (X.tup (XA.cons (X.op2 (X.var 5) (X.var 13) (ixAD_L PyData.str hq_54.2.1)) (XA.cons (X.op2 (X.var 5) (X.var 12) (ixAD_L PyData.str hq_54.1)) (XA.cons (X.op2 (X.k _) (X.call (XA.cons (X.var 1) (XA.cons (X.k _) XA.nil)) (next_tie (by decide))) (addD_i _ _)) XA.nil)))) XA.nil)) (catD_L (eP3 PyData.str PyData.str PyData.int) s_.1.2 ([((idx stops j), (idx stops i), (1 + (nextT l__5 9).1))]) hq_54.2.2.2)) XA.nil)) (TGs.cons (TG.name 9) (TGs.cons (TG.name 10) TGs.nil))) (fun riders hv back hv_1 l__6 hv_2 => (XS.wpass (show LE _ _ from .same (.same (.same (.same (.same (.same (.same (.same (.same (.same (.same (.skip (.skip (.skip (.skip (.same (.same (.same (.same (.same (.same (.same (.same (.same (.same (.same (.same (.same (.same (.same (.same (.same (.same (.same (.nil))))))))))))))))))))))))))))))))))))))))))))))))) (hq_81).2.1) (fun s__1 hv_38 => (have hq_80 := (hq_81).2.2 s__1 hv_38; (XL.seqp1 (cutL stops (some 1) (some ((stops.length : Int) - 1))) (fun (inner : List Str) => [some (id sc), some (tokW), some (PyData.int turn), some ((eD PyData.str (eT (eP2 PyData.str PyData.int))) lines), some ((eT (eP2 PyData.str PyData.int)) line), some ((eL PyData.str) stops), some (PyData.int late), some (PyData.int stand), some (PyData.int later), some ((eL (eP3 PyData.str PyData.str PyData.int)) s__1.1.1), some ((eL (eP3 PyData.str PyData.str PyData.int)) s__1.1.2), none, none, none, none, some ((eL PyData.str) inner), some ((eL PyData.str) []), some ((eL eU) []), none, none, none, none, none, none, none, none, none, none, none, none, none, none, none, none]) (XS.par (XA.cons (X.cut (X.var 5) (XO.some (X.k _)) (XO.some (X.op2 (X.op1 (X.var 5) (lenD_L PyData.str stops)) (X.k _) (subD_i _ _))) (cutD_L PyData.str stops (some 1) (some ((stops.length : Int) - 1)))) (XA.cons (X.lst XA.nil) (XA.cons (X.lst XA.nil) XA.nil))) (TGs.cons (TG.name 15) (TGs.cons (TG.name 16) (TGs.cons (TG.name 17) TGs.nil)))) (fun inner hv_37 => (have hq_79 := hq_80 inner hv_37; (XL.seqp1 (stops.foldl (fun (s__2 : List Str) (stop : Str) => (let at_ : Int := (stops.idxOf stop : Int); (let rest : Int := ((cutL line (some (at_ + 1)) none).map (fun (p : Str × Int) => p.2)).sum; (let able : List Str := (s__2 ++ (if ((decide (stop ∈ inner)) && (decide (late ≤ ((2 * rest) + stand)))) = true then [stop] else [])); able)))) []) (fun (able_1 : List Str) => [some (id sc), some (tokW), some (PyData.int turn), some ((eD PyData.str (eT (eP2 PyData.str PyData.int))) lines), some ((eT (eP2 PyData.str PyData.int)) line), some ((eL PyData.str) stops), some (PyData.int late), some (PyData.int stand), some (PyData.int later), some ((eL (eP3 PyData.str PyData.str PyData.int)) s__1.1.1), some ((eL (eP3 PyData.str PyData.str PyData.int)) s__1.1.2), none, none, none, none, some ((eL PyData.str) inner), some ((eL PyData.str) able_1), some ((eL eU) []), none, none, none, none, none, none, none, none, none, none, none, none, none, none, none, none]) (XS.for PyData.str (xs := stops) [] (fun (s__2 : List Str) => [some (id sc), some (tokW), some (PyData.int turn), some ((eD PyData.str (eT (eP2 PyData.str PyData.int))) lines), some ((eT (eP2 PyData.str PyData.int)) line), some ((eL PyData.str) stops), some (PyData.int late), some (PyData.int stand), some (PyData.int later), some ((eL (eP3 PyData.str PyData.str PyData.int)) s__1.1.1), some ((eL (eP3 PyData.str PyData.str PyData.int)) s__1.1.2), none, none, none, none, some ((eL PyData.str) inner), some ((eL PyData.str) s__2), some ((eL eU) []), none, none, none, none, none, none, none, none, none, none, none, none, none, none, none, none]) (fun _ => some s__1.2) (fun (s__2 : List Str) (stop : Str) => [some (id sc), some (tokW), some (PyData.int turn), some ((eD PyData.str (eT (eP2 PyData.str PyData.int))) lines), some ((eT (eP2 PyData.str PyData.int)) line), some ((eL PyData.str) stops), some (PyData.int late), some (PyData.int stand), some (PyData.int later), some ((eL (eP3 PyData.str PyData.str PyData.int)) s__1.1.1), some ((eL (eP3 PyData.str PyData.str PyData.int)) s__1.1.2), none, none, none, none, some ((eL PyData.str) inner), some ((eL PyData.str) s__2), some ((eL eU) []), some (PyData.str stop), none, none, none, none, none, none, none, none, none, none, none, none, none, none, none]) (fun (s__2 : List Str) (stop : Str) => (let at_ : Int := (stops.idxOf stop : Int); (let rest : Int := ((cutL line (some (at_ + 1)) none).map (fun (p : Str × Int) => p.2)).sum; (let able : List Str := (s__2 ++ (if ((decide (stop ∈ inner)) && (decide (late ≤ ((2 * rest) + stand)))) = true then [stop] else [])); able)))) (fun (s__2 : List Str) (stop : Str) => stop ∈ stops ∧ (∀ at_ : Int, at_ = (stops.idxOf stop : Int) → (cutL line (some (at_ + 1)) none).length ≤ sizeLine ∧ (∀ rest : Int, rest = ((cutL line (some (at_ + 1)) none).map (fun (p : Str × Int) => p.2)).sum → saved_at_ok line stop stand ∧ (saved_at_t line stop stand) = ((2 * rest) + stand) ∧ (s__2.length + (if ((decide (stop ∈ inner)) && (decide (late ≤ ((2 * rest) + stand)))) = true then [stop] else []).length ≤ sizeLine ∧ (∀ able : List Str, able = (s__2 ++ (if ((decide (stop ∈ inner)) && (decide (late ≤ ((2 * rest) + stand)))) = true then [stop] else [])) → lost_riders_ok line s__1.1.1 stop ∧ s__1.1.1.length ≤ sizeLine ∧ (∀ p_1, p_1 ∈ s__1.1.1 → p_1.2.1 ∈ stops) ∧ (lost_riders_t line s__1.1.1 stop) = ((s__1.1.1.filter (fun (p_1 : Str × Str × Int) => (decide (at_ < (stops.idxOf p_1.2.1 : Int))))).map (fun (p_1 : Str × Str × Int) => p_1.2.2)).sum))))) (XA.seqL (X.var 5)) (show LE _ _ from .same (.same (.same (.same (.same (.same (.same (.same (.same (.same (.same (.same (.same (.same (.same (.same (.same (.same (.same (.same (.same (.same (.same (.same (.same (.same (.same (.same (.same (.same (.same (.same (.same (.same (.nil))))))))))))))))))))))))))))))))))) (fun s__2 stop => (TG.name 18)) (fun s__2 stop hx_2 hk_2 => (XS.seq1 (stops.idxOf stop : Int) (fun (at_ : Int) => [some (id sc), some (tokW), some (PyData.int turn), some ((eD PyData.str (eT (eP2 PyData.str PyData.int))) lines), some ((eT (eP2 PyData.str PyData.int)) line), some ((eL PyData.str) stops), some (PyData.int late), some (PyData.int stand), some (PyData.int later), some ((eL (eP3 PyData.str PyData.str PyData.int)) s__1.1.1), some ((eL (eP3 PyData.str PyData.str PyData.int)) s__1.1.2), none, none, none, none, some ((eL PyData.str) inner), some ((eL PyData.str) s__2), some ((eL eU) []), some (PyData.str stop), some (PyData.int at_), none, none, none, none, none, none, none, none, none, none, none, none, none, none]) (fun (at_ : Int) => some s__1.2) (fun (at_ : Int) => Out.nx ((fun (st : List Str) => [some (id sc), some (tokW), some (PyData.int turn), some ((eD PyData.str (eT (eP2 PyData.str PyData.int))) lines), some ((eT (eP2 PyData.str PyData.int)) line), some ((eL PyData.str) stops), some (PyData.int late), some (PyData.int stand), some (PyData.int later), some ((eL (eP3 PyData.str PyData.str PyData.int)) s__1.1.1), some ((eL (eP3 PyData.str PyData.str PyData.int)) s__1.1.2), none, none, none, none, some ((eL PyData.str) inner), some ((eL PyData.str) st), some ((eL eU) []), none, none, none, none, none, none, none, none, none, none, none, none, none, none, none, none]) (let rest : Int := ((cutL line (some (at_ + 1)) none).map (fun (p : Str × Int) => p.2)).sum; (let able : List Str := (s__2 ++ (if ((decide (stop ∈ inner)) && (decide (late ≤ ((2 * rest) + stand)))) = true then [stop] else [])); able)))) (fun (at_ : Int) => some s__1.2) (XS.set (X.op2 (X.var 5) (X.var 18) (indexD_L EqS (by decide) stop stops hk_2.1)) (TG.name 19)) (fun at_ hv_11 => (have hq_61 := hk_2.2 at_ hv_11; (XS.seq1 (((cutL line (some (at_ + 1)) none).map (fun (p : Str × Int) => p.2)).sum) (fun (rest : Int) => [some (id sc), some (tokW), some (PyData.int turn), some ((eD PyData.str (eT (eP2 PyData.str PyData.int))) lines), some ((eT (eP2 PyData.str PyData.int)) line), some ((eL PyData.str) stops), some (PyData.int late), some (PyData.int stand), some (PyData.int later), some ((eL (eP3 PyData.str PyData.str PyData.int)) s__1.1.1), some ((eL (eP3 PyData.str PyData.str PyData.int)) s__1.1.2), none, none, none, none, some ((eL PyData.str) inner), some ((eL PyData.str) s__2), some ((eL eU) []), some (PyData.str stop), some (PyData.int at_), some (PyData.int rest), none, none, none, none, none, none, none, none, none, none, none, none, none]) (fun (rest : Int) => some s__1.2) (fun (rest : Int) => Out.nx ((fun (st : List Str) => [some (id sc), some (tokW), some (PyData.int turn), some ((eD PyData.str (eT (eP2 PyData.str PyData.int))) lines), some ((eT (eP2 PyData.str PyData.int)) line), some ((eL PyData.str) stops), some (PyData.int late), some (PyData.int stand), some (PyData.int later), some ((eL (eP3 PyData.str PyData.str PyData.int)) s__1.1.1), some ((eL (eP3 PyData.str PyData.str PyData.int)) s__1.1.2), none, none, none, none, some ((eL PyData.str) inner), some ((eL PyData.str) st), some ((eL eU) []), none, none, none, none, none, none, none, none, none, none, none, none, none, none, none, none]) (let able : List Str := (s__2 ++ (if ((decide (stop ∈ inner)) && (decide (late ≤ ((2 * rest) + stand)))) = true then [stop] else [])); able))) (fun (rest : Int) => some s__1.2) (XS.set (X.op1 (X.lcM (eP2 PyData.str PyData.int) PyData.int (xs := (cutL line (some (at_ + 1)) none)) [some (id sc), some (tokW), some (PyData.int turn), some ((eD PyData.str (eT (eP2 PyData.str PyData.int))) lines), some ((eT (eP2 PyData.str PyData.int)) line), some ((eL PyData.str) stops), some (PyData.int late), some (PyData.int stand), some (PyData.int later), some ((eL (eP3 PyData.str PyData.str PyData.int)) s__1.1.1), some ((eL (eP3 PyData.str PyData.str PyData.int)) s__1.1.2), none, none, none, none, some ((eL PyData.str) inner), some ((eL PyData.str) s__2), some ((eL eU) []), some (PyData.str stop), some (PyData.int at_), none, none, none, none, none, none, none, none, none, none, none, none, none, none] (fun (p : Str × Int) => [some (id sc), some (tokW), some (PyData.int turn), some ((eD PyData.str (eT (eP2 PyData.str PyData.int))) lines), some ((eT (eP2 PyData.str PyData.int)) line), some ((eL PyData.str) stops), some (PyData.int late), some (PyData.int stand), some (PyData.int later), some ((eL (eP3 PyData.str PyData.str PyData.int)) s__1.1.1), some ((eL (eP3 PyData.str PyData.str PyData.int)) s__1.1.2), none, none, none, none, some ((eL PyData.str) inner), some ((eL PyData.str) s__2), some ((eL eU) []), some (PyData.str stop), some (PyData.int at_), none, none, some (PyData.str p.1), none, none, none, none, none, none, none, none, some (PyData.int p.2), none, none]) (fun (p : Str × Int) => p.2) (XA.seqT (X.cut (X.var 4) (XO.some (X.op2 (X.var 19) (X.k _) (addD_i _ _))) XO.none (cutD_T (eP2 PyData.str PyData.int) line (some (at_ + 1)) none))) (fun p => (TG.tup (TGs.cons (TG.name 22) (TGs.cons (TG.name 31) TGs.nil)))) hq_61.1 (fun p hx_3 => (X.var 31))) (sumD_L ((cutL line (some (at_ + 1)) none).map (fun (p : Str × Int) => p.2)))) (TG.name 20)) (fun rest hv_10 => (have hq_60 := hq_61.2 rest hv_10; (XS.seqd (XS.ifF (XT.not (XT.val (X.call (XA.cons (X.call (XA.cons (X.var 4) (XA.cons (X.var 18) (XA.cons (X.var 7) XA.nil))) (saved_at_tie line stop stand hq_60.1 _)) (XA.cons (X.op2 (X.op2 (X.k _) (X.var 20) (mulI_kl 2)) (X.var 7) (addD_i _ _)) XA.nil)) (al_tie (e := PyData.int) hq_60.2.1 (AltE.i.alk _ trivial) _)))) XS.pass) (XS.seq1 (s__2 ++ (if ((decide (stop ∈ inner)) && (decide (late ≤ ((2 * rest) + stand)))) = true then [stop] else [])) (fun (able : List Str) => [some (id sc), some (tokW), some (PyData.int turn), some ((eD PyData.str (eT (eP2 PyData.str PyData.int))) lines), some ((eT (eP2 PyData.str PyData.int)) line), some ((eL PyData.str) stops), some (PyData.int late), some (PyData.int stand), some (PyData.int later), some ((eL (eP3 PyData.str PyData.str PyData.int)) s__1.1.1), some ((eL (eP3 PyData.str PyData.str PyData.int)) s__1.1.2), none, none, none, none, some ((eL PyData.str) inner), some ((eL PyData.str) able), some ((eL eU) []), some (PyData.str stop), some (PyData.int at_), some (PyData.int rest), none, none, none, none, none, none, none, none, none, none, none, none, none]) (fun (able : List Str) => some s__1.2) (fun (able : List Str) => Out.nx ((fun (st : List Str) => [some (id sc), some (tokW), some (PyData.int turn), some ((eD PyData.str (eT (eP2 PyData.str PyData.int))) lines), some ((eT (eP2 PyData.str PyData.int)) line), some ((eL PyData.str) stops), some (PyData.int late), some (PyData.int stand), some (PyData.int later), some ((eL (eP3 PyData.str PyData.str PyData.int)) s__1.1.1), some ((eL (eP3 PyData.str PyData.str PyData.int)) s__1.1.2), none, none, none, none, some ((eL PyData.str) inner), some ((eL PyData.str) st), some ((eL eU) []), none, none, none, none, none, none, none, none, none, none, none, none, none, none, none, none]) able)) (fun (able : List Str) => some s__1.2) (XS.set (X.op2 (X.var 16) (X.if (eL PyData.str) (u := [stop]) (v := []) (XT.and (XT.cmp (X.var 18) (X.var 15) (inAL EqS (by decide) stop inner)) (fun hk_3 => (XT.cmp (X.op2 (X.op2 (X.k _) (X.var 20) (mulI_kl 2)) (X.var 7) (addD_i _ _)) (X.var 6) (geD_i _ _)))) (fun hk_4 => (X.lst (XA.cons (X.var 18) XA.nil))) (fun hk_4 => (X.lst XA.nil))) (catD_L PyData.str s__2 (if ((decide (stop ∈ inner)) && (decide (late ≤ ((2 * rest) + stand)))) = true then [stop] else []) (hq_60.2.2).1)) (TG.name 16)) (fun able hv_9 => (have hq_59 := (hq_60.2.2).2 able hv_9; (XS.seqPass (XS.seqd (XS.ifF (XT.not (XT.val (X.call (XA.cons (X.call (XA.cons (X.var 4) (XA.cons (X.op1 (X.var 9) (tupD_l _)) (XA.cons (X.var 18) XA.nil))) (lost_riders_tie line s__1.1.1 stop hq_59.1 _)) (XA.cons (X.op1 (X.lcF (eP3 PyData.str PyData.str PyData.int) PyData.int (xs := s__1.1.1) [some (id sc), some (tokW), some (PyData.int turn), some ((eD PyData.str (eT (eP2 PyData.str PyData.int))) lines), some ((eT (eP2 PyData.str PyData.int)) line), some ((eL PyData.str) stops), some (PyData.int late), some (PyData.int stand), some (PyData.int later), some ((eL (eP3 PyData.str PyData.str PyData.int)) s__1.1.1), some ((eL (eP3 PyData.str PyData.str PyData.int)) s__1.1.2), none, none, none, none, some ((eL PyData.str) inner), some ((eL PyData.str) able), some ((eL eU) []), some (PyData.str stop), some (PyData.int at_), some (PyData.int rest), none, none, none, none, none, none, none, none, none, none, none, none, none] (fun (p_1 : Str × Str × Int) => [some (id sc), some (tokW), some (PyData.int turn), some ((eD PyData.str (eT (eP2 PyData.str PyData.int))) lines), some ((eT (eP2 PyData.str PyData.int)) line), some ((eL PyData.str) stops), some (PyData.int late), some (PyData.int stand), some (PyData.int later), some ((eL (eP3 PyData.str PyData.str PyData.int)) s__1.1.1), some ((eL (eP3 PyData.str PyData.str PyData.int)) s__1.1.2), none, none, none, some (PyData.int p_1.2.2), some ((eL PyData.str) inner), some ((eL PyData.str) able), some ((eL eU) []), some (PyData.str stop), some (PyData.int at_), some (PyData.int rest), none, none, none, none, none, none, none, none, none, none, none, some (PyData.str p_1.1), some (PyData.str p_1.2.1)]) (fun (p_1 : Str × Str × Int) => (decide (at_ < (stops.idxOf p_1.2.1 : Int)))) (fun (p_1 : Str × Str × Int) => p_1.2.2) (XA.seqL (X.var 9)) (fun p_1 => (TG.tup (TGs.cons (TG.name 32) (TGs.cons (TG.name 33) (TGs.cons (TG.name 14) TGs.nil))))) hq_59.2.1 (fun p_1 hx_4 => (have hq_57 := hq_59.2.2.1 p_1 hx_4; (XT.cmp (X.op2 (X.var 5) (X.var 33) (indexD_L EqS (by decide) p_1.2.1 stops hq_57)) (X.var 19) (gtD_i _ _)))) (fun p_1 hx_4 hb => (have hq_58 := hq_59.2.2.1 p_1 hx_4; (X.var 14)))) (sumD_L ((s__1.1.1.filter (fun (p_1 : Str × Str × Int) => (decide (at_ < (stops.idxOf p_1.2.1 : Int))))).map (fun (p_1 : Str × Str × Int) => p_1.2.2)))) XA.nil)) (al_tie (e := PyData.int) hq_59.2.2.2 (AltE.i.alk _ trivial) _)))) XS.pass) (XS.wpass (show LE _ _ from .same (.same (.same (.same (.same (.same (.same (.same (.same (.same (.same (.same (.same (.same (.same (.same (.same (.same (.skip (.skip (.skip (.same (.same (.same (.same (.same (.same (.same (.same (.same (.same (.same (.same (.same (.nil))))))))))))))))))))))))))))))))))))))))))))))))) hq_79.1) (fun able_1 hv_36 => (have hq_78 := hq_79.2 able_1 hv_36; (XL.seqd (XS.ifF (XT.not (XT.val (X.call (XA.cons (X.call (XA.cons (X.var 4) (XA.cons (X.var 6) (XA.cons (X.var 7) XA.nil))) (turn_stop_tie line late stand hq_78.1 _)) (XA.cons (X.if (eO PyData.str) (u := (some (idx able_1 ((able_1.length : Int) - 1)))) (v := (none : Option Str)) (XT.cmp (X.var 16) (X.lst XA.nil) (neE (EqL EqS) (by decide) able_1 [])) (fun hk_5 => (have hq_62 := hq_78.2.1 hk_5; (X.op2 (X.var 16) (X.op2 (X.op1 (X.var 16) (lenD_L PyData.str able_1)) (X.k _) (subD_i _ _)) (ixAD_L PyData.str hq_62)))) (fun hk_5 => (X.k _))) XA.nil)) (al_tie (e := (eO PyData.str)) hq_78.2.2.1 ((AltE.o AltE.s).alk _ (fun _ _ => trivial)) _)))) XS.pass) (XL.seqp1 (none : Option (Int × Option Str)) (fun (best : Option (Int × Option Str)) => [some (id sc), some (tokW), some (PyData.int turn), some ((eD PyData.str (eT (eP2 PyData.str PyData.int))) lines), some ((eT (eP2 PyData.str PyData.int)) line), some ((eL PyData.str) stops), some (PyData.int late), some (PyData.int stand), some (PyData.int later), some ((eL (eP3 PyData.str PyData.str PyData.int)) s__1.1.1), some ((eL (eP3 PyData.str PyData.str PyData.int)) s__1.1.2), none, none, none, none, some ((eL PyData.str) inner), some ((eL PyData.str) able_1), some ((eL eU) []), none, none, none, some ((eO (eP2 PyData.int (eO PyData.str))) best), none, none, none, none, none, none, none, none, none, none, none, none]) (XS.set (X.k _) (TG.name 21)) (fun best hv_35 => (have hq_77 := (hq_78.2.2.2) best hv_35; (XL.seqp1 (([(none : Option Str)] ++ (inner.reverse.map some)).foldl (fun (s__3 : (Option (Int × Option Str))) (stop_1 : Option Str) => (let own : Int := (law_cost_t line s__1.1.1 s__1.1.2 late stand later stop_1); (let best_1 : Option (Int × Option Str) := (if (s__3.isNone || (decide (own < (s__3.getD default).1))) = true then (some (own, stop_1)) else s__3); best_1))) best) (fun (best_2 : (Option (Int × Option Str))) => [some (id sc), some (tokW), some (PyData.int turn), some ((eD PyData.str (eT (eP2 PyData.str PyData.int))) lines), some ((eT (eP2 PyData.str PyData.int)) line), some ((eL PyData.str) stops), some (PyData.int late), some (PyData.int stand), some (PyData.int later), some ((eL (eP3 PyData.str PyData.str PyData.int)) s__1.1.1), some ((eL (eP3 PyData.str PyData.str PyData.int)) s__1.1.2), none, none, none, none, some ((eL PyData.str) inner), some ((eL PyData.str) able_1), some ((eL eU) []), none, none, none, some ((eO (eP2 PyData.int (eO PyData.str))) best_2), none, none, none, none, none, none, none, none, none, none, none, none]) (XS.for (eO PyData.str) (xs := ([(none : Option Str)] ++ (inner.reverse.map some))) best (fun (s__3 : (Option (Int × Option Str))) => [some (id sc), some (tokW), some (PyData.int turn), some ((eD PyData.str (eT (eP2 PyData.str PyData.int))) lines), some ((eT (eP2 PyData.str PyData.int)) line), some ((eL PyData.str) stops), some (PyData.int late), some (PyData.int stand), some (PyData.int later), some ((eL (eP3 PyData.str PyData.str PyData.int)) s__1.1.1), some ((eL (eP3 PyData.str PyData.str PyData.int)) s__1.1.2), none, none, none, none, some ((eL PyData.str) inner), some ((eL PyData.str) able_1), some ((eL eU) []), none, none, none, some ((eO (eP2 PyData.int (eO PyData.str))) s__3), none, none, none, none, none, none, none, none, none, none, none, none]) (fun _ => some s__1.2) (fun (s__3 : (Option (Int × Option Str))) (stop_1 : Option Str) => [some (id sc), some (tokW), some (PyData.int turn), some ((eD PyData.str (eT (eP2 PyData.str PyData.int))) lines), some ((eT (eP2 PyData.str PyData.int)) line), some ((eL PyData.str) stops), some (PyData.int late), some (PyData.int stand), some (PyData.int later), some ((eL (eP3 PyData.str PyData.str PyData.int)) s__1.1.1), some ((eL (eP3 PyData.str PyData.str PyData.int)) s__1.1.2), none, none, none, none, some ((eL PyData.str) inner), some ((eL PyData.str) able_1), some ((eL eU) []), some ((eO PyData.str) stop_1), none, none, some ((eO (eP2 PyData.int (eO PyData.str))) s__3), none, none, none, none, none, none, none, none, none, none, none, none]) (fun (s__3 : (Option (Int × Option Str))) (stop_1 : Option Str) => (let own : Int := (law_cost_t line s__1.1.1 s__1.1.2 late stand later stop_1); (let best_1 : Option (Int × Option Str) := (if (s__3.isNone || (decide (own < (s__3.getD default).1))) = true then (some (own, stop_1)) else s__3); best_1))) (fun (s__3 : (Option (Int × Option Str))) (stop_1 : Option Str) => law_cost_ok line s__1.1.1 s__1.1.2 late stand later stop_1 ∧ (∀ own : Int, own = (law_cost_t line s__1.1.1 s__1.1.2 late stand later stop_1) → cost_of_turn_ok line s__1.1.1 s__1.1.2 late stand later stop_1 ∧ (cost_of_turn_t line s__1.1.1 s__1.1.2 late stand later stop_1) = own ∧ (s__3.isNone = false → s__3.isSome = true))) (XA.seqL (X.op2 (X.lst (XA.cons (X.k _) XA.nil)) (X.op1 (X.var 15) (revD_LO PyData.str inner)) (catD_L (eO PyData.str) ([(none : Option Str)]) (inner.reverse.map some) hq_77.1))) (show LE _ _ from .same (.same (.same (.same (.same (.same (.same (.same (.same (.same (.same (.same (.same (.same (.same (.same (.same (.same (.same (.same (.same (.same (.same (.same (.same (.same (.same (.same (.same (.same (.same (.same (.same (.same (.nil))))))))))))))))))))))))))))))))))) (fun s__3 stop_1 => (TG.name 18)) (fun s__3 stop_1 hx_5 hk_6 => (XS.seq1 (law_cost_t line s__1.1.1 s__1.1.2 late stand later stop_1) (fun (own : Int) => [some (id sc), some (tokW), some (PyData.int turn), some ((eD PyData.str (eT (eP2 PyData.str PyData.int))) lines), some ((eT (eP2 PyData.str PyData.int)) line), some ((eL PyData.str) stops), some (PyData.int late), some (PyData.int stand), some (PyData.int later), some ((eL (eP3 PyData.str PyData.str PyData.int)) s__1.1.1), some ((eL (eP3 PyData.str PyData.str PyData.int)) s__1.1.2), none, none, none, none, some ((eL PyData.str) inner), some ((eL PyData.str) able_1), some ((eL eU) []), some ((eO PyData.str) stop_1), none, none, some ((eO (eP2 PyData.int (eO PyData.str))) s__3), some (PyData.int own), none, none, none, none, none, none, none, none, none, none, none]) (fun (own : Int) => some s__1.2) (fun (own : Int) => Out.nx ((fun (st : (Option (Int × Option Str))) => [some (id sc), some (tokW), some (PyData.int turn), some ((eD PyData.str (eT (eP2 PyData.str PyData.int))) lines), some ((eT (eP2 PyData.str PyData.int)) line), some ((eL PyData.str) stops), some (PyData.int late), some (PyData.int stand), some (PyData.int later), some ((eL (eP3 PyData.str PyData.str PyData.int)) s__1.1.1), some ((eL (eP3 PyData.str PyData.str PyData.int)) s__1.1.2), none, none, none, none, some ((eL PyData.str) inner), some ((eL PyData.str) able_1), some ((eL eU) []), none, none, none, some ((eO (eP2 PyData.int (eO PyData.str))) st), none, none, none, none, none, none, none, none, none, none, none, none]) (let best_1 : Option (Int × Option Str) := (if (s__3.isNone || (decide (own < (s__3.getD default).1))) = true then (some (own, stop_1)) else s__3); best_1))) (fun (own : Int) => some s__1.2) (XS.set (X.call (XA.cons (X.var 4) (XA.cons (X.var 9) (XA.cons (X.var 10) (XA.cons (X.var 6) (XA.cons (X.var 7) (XA.cons (X.var 8) (XA.cons (X.var 18) XA.nil))))))) (law_cost_tie line s__1.1.1 s__1.1.2 late stand later stop_1 hk_6.1 _)) (TG.name 22)) (fun own hv_13 => (have hq_64 := hk_6.2 own hv_13; (XS.seqd (XS.ifF (XT.not (XT.val (X.call (XA.cons (X.call (XA.cons (X.var 4) (XA.cons (X.op1 (X.var 9) (tupD_l _)) (XA.cons (X.op1 (X.var 10) (tupD_l _)) (XA.cons (X.var 6) (XA.cons (X.var 7) (XA.cons (X.var 8) (XA.cons (X.var 18) XA.nil))))))) (cost_of_turn_tie line s__1.1.1 s__1.1.2 late stand later stop_1 hq_64.1 _)) (XA.cons (X.var 22) XA.nil)) (al_tie (e := PyData.int) hq_64.2.1 (AltE.i.alk _ trivial) _)))) XS.pass) (XS.seqPass (XS.seq1 (if (s__3.isNone || (decide (own < (s__3.getD default).1))) = true then (some (own, stop_1)) else s__3) (fun (best_1 : Option (Int × Option Str)) => [some (id sc), some (tokW), some (PyData.int turn), some ((eD PyData.str (eT (eP2 PyData.str PyData.int))) lines), some ((eT (eP2 PyData.str PyData.int)) line), some ((eL PyData.str) stops), some (PyData.int late), some (PyData.int stand), some (PyData.int later), some ((eL (eP3 PyData.str PyData.str PyData.int)) s__1.1.1), some ((eL (eP3 PyData.str PyData.str PyData.int)) s__1.1.2), none, none, none, none, some ((eL PyData.str) inner), some ((eL PyData.str) able_1), some ((eL eU) []), some ((eO PyData.str) stop_1), none, none, some ((eO (eP2 PyData.int (eO PyData.str))) best_1), some (PyData.int own), none, none, none, none, none, none, none, none, none, none, none]) (fun (best_1 : Option (Int × Option Str)) => some s__1.2) (fun (best_1 : Option (Int × Option Str)) => Out.nx ((fun (st : (Option (Int × Option Str))) => [some (id sc), some (tokW), some (PyData.int turn), some ((eD PyData.str (eT (eP2 PyData.str PyData.int))) lines), some ((eT (eP2 PyData.str PyData.int)) line), some ((eL PyData.str) stops), some (PyData.int late), some (PyData.int stand), some (PyData.int later), some ((eL (eP3 PyData.str PyData.str PyData.int)) s__1.1.1), some ((eL (eP3 PyData.str PyData.str PyData.int)) s__1.1.2), none, none, none, none, some ((eL PyData.str) inner), some ((eL PyData.str) able_1), some ((eL eU) []), none, none, none, some ((eO (eP2 PyData.int (eO PyData.str))) st), none, none, none, none, none, none, none, none, none, none, none, none]) best_1)) (fun (best_1 : Option (Int × Option Str)) => some s__1.2) (XS.set (X.if (eO (eP2 PyData.int (eO PyData.str))) (u := (some (own, stop_1))) (v := s__3) (XT.or (XT.cmp (X.var 21) (X.k _) (isND_O NN.t s__3)) (fun hk_7 => (have hq_63 := (hq_64.2.2) hk_7; (XT.cmp (X.var 22) (X.op2 (X.get (e := (eP2 PyData.int (eO PyData.str))) (X.var 21) hq_63) (X.k _) ixAD_P) (ltD_i _ _))))) (fun hk_8 => (X.tup (XA.cons (X.var 22) (XA.cons (X.var 18) XA.nil)))) (fun hk_8 => (X.var 21))) (TG.name 21)) (fun best_1 hv_12 => (XS.wpass (show LE _ _ from .same (.same (.same (.same (.same (.same (.same (.same (.same (.same (.same (.same (.same (.same (.same (.same (.same (.same (.skip (.same (.same (.same (.skip (.same (.same (.same (.same (.same (.same (.same (.same (.same (.same (.same (.nil)))))))))))))))))))))))))))))))))))))))))))) hq_77.2.1) (fun best_2 hv_34 => (have hq_76 := hq_77.2.2 best_2 hv_34; (XL.seqd (XS.ifF (XT.not (XT.val (X.call (XA.cons (X.call (XA.cons (X.var 4) (XA.cons (X.op1 (X.var 9) (tupD_l _)) (XA.cons (X.op1 (X.var 10) (tupD_l _)) (XA.cons (X.var 6) (XA.cons (X.var 7) (XA.cons (X.var 8) XA.nil)))))) (best_turn_tie line s__1.1.1 s__1.1.2 late stand later hq_76.1 _)) (XA.cons (X.var 21) XA.nil)) (al_tie (e := (eO (eP2 PyData.int (eO PyData.str)))) hq_76.2.1 ((AltE.o (AltE.p2 AltE.i (AltE.o AltE.s))).alk _ (fun _ _ => ⟨trivial, (fun _ _ => trivial)⟩)) _)))) XS.pass) (XL.seq2 ((nextT s__1.2 60).1) ((law_pick_t stops ((nextT s__1.2 60).2)).1) ((law_pick_t stops ((nextT s__1.2 60).2)).2) (fun (begin : Int) (stop_2 : Str) => [some (id sc), some (tokW), some (PyData.int turn), some ((eD PyData.str (eT (eP2 PyData.str PyData.int))) lines), some ((eT (eP2 PyData.str PyData.int)) line), some ((eL PyData.str) stops), some (PyData.int late), some (PyData.int stand), some (PyData.int later), some ((eL (eP3 PyData.str PyData.str PyData.int)) s__1.1.1), some ((eL (eP3 PyData.str PyData.str PyData.int)) s__1.1.2), none, none, none, none, some ((eL PyData.str) inner), some ((eL PyData.str) able_1), some ((eL eU) []), some (PyData.str stop_2), none, none, some ((eO (eP2 PyData.int (eO PyData.str))) best_2), none, some (PyData.int begin), none, none, none, none, none, none, none, none, none, none]) (XS.par (XA.cons (X.call (XA.cons (X.var 1) (XA.cons (X.k _) XA.nil)) (next_tie (by decide))) (XA.cons (X.call (XA.cons (X.var 1) (XA.cons (X.var 5) XA.nil)) (law_pick_tie stops ((nextT s__1.2 60).2) (hq_76.2.2).1)) XA.nil)) (TGs.cons (TG.name 23) (TGs.cons (TG.name 18) TGs.nil))) (fun begin hv_31 stop_2 hv_32 l__7 hv_33 => (have hq_75 := (hq_76.2.2).2 begin hv_31 stop_2 hv_32 l__7 hv_33; (XL.seqp3 (stops.idxOf stop_2 : Int) begin ([((idx stops 0), begin)]) (fun (at__1 : Int) (now : Int) (rows : List (Str × Int)) => [some (id sc), some (tokW), some (PyData.int turn), some ((eD PyData.str (eT (eP2 PyData.str PyData.int))) lines), some ((eT (eP2 PyData.str PyData.int)) line), some ((eL PyData.str) stops), some (PyData.int late), some (PyData.int stand), some (PyData.int later), some ((eL (eP3 PyData.str PyData.str PyData.int)) s__1.1.1), some ((eL (eP3 PyData.str PyData.str PyData.int)) s__1.1.2), none, none, none, none, some ((eL PyData.str) inner), some ((eL PyData.str) able_1), some ((eL eU) []), some (PyData.str stop_2), some (PyData.int at__1), none, some ((eO (eP2 PyData.int (eO PyData.str))) best_2), none, some (PyData.int begin), some (PyData.int now), some ((eL (eP2 PyData.str PyData.int)) rows), none, none, none, none, none, none, none, none]) (XS.par (XA.cons (X.op2 (X.var 5) (X.var 18) (indexD_L EqS (by decide) stop_2 stops hq_75.1)) (XA.cons (X.var 23) (XA.cons (X.lst (XA.cons (X.tup (XA.cons (X.op2 (X.var 5) (X.k _) (ixAD_L PyData.str hq_75.2.1)) (XA.cons (X.var 23) XA.nil))) XA.nil)) XA.nil))) (TGs.cons (TG.name 19) (TGs.cons (TG.name 24) (TGs.cons (TG.name 25) TGs.nil)))) (fun at__1 hv_28 now hv_29 rows hv_30 => (have hq_74 := hq_75.2.2 at__1 hv_28 now hv_29 rows hv_30; (XL.seqp1 ((rangeI 1 (at__1 + 1)).foldl (fun (s__4 : Int × (List (Str × Int))) (k__1 : Int) => (let now_1 : Int := s__4.1 + (idx line k__1).2; (let rows_1 : List (Str × Int) := s__4.2 ++ [((idx stops k__1), now_1)]; (now_1, rows_1)))) (now, rows)) (fun (s__5 : Int × (List (Str × Int))) => [some (id sc), some (tokW), some (PyData.int turn), some ((eD PyData.str (eT (eP2 PyData.str PyData.int))) lines), some ((eT (eP2 PyData.str PyData.int)) line), some ((eL PyData.str) stops), some (PyData.int late), some (PyData.int stand), some (PyData.int later), some ((eL (eP3 PyData.str PyData.str PyData.int)) s__1.1.1), some ((eL (eP3 PyData.str PyData.str PyData.int)) s__1.1.2), none, none, none, none, some ((eL PyData.str) inner), some ((eL PyData.str) able_1), some ((eL eU) []), some (PyData.str stop_2), some (PyData.int at__1), none, some ((eO (eP2 PyData.int (eO PyData.str))) best_2), none, some (PyData.int begin), some (PyData.int s__5.1), some ((eL (eP2 PyData.str PyData.int)) s__5.2), none, none, none, none, none, none, none, none]) (XS.for PyData.int (xs := (rangeI 1 (at__1 + 1))) (now, rows) (fun (s__4 : Int × (List (Str × Int))) => [some (id sc), some (tokW), some (PyData.int turn), some ((eD PyData.str (eT (eP2 PyData.str PyData.int))) lines), some ((eT (eP2 PyData.str PyData.int)) line), some ((eL PyData.str) stops), some (PyData.int late), some (PyData.int stand), some (PyData.int later), some ((eL (eP3 PyData.str PyData.str PyData.int)) s__1.1.1), some ((eL (eP3 PyData.str PyData.str PyData.int)) s__1.1.2), none, none, none, none, some ((eL PyData.str) inner), some ((eL PyData.str) able_1), some ((eL eU) []), some (PyData.str stop_2), some (PyData.int at__1), none, some ((eO (eP2 PyData.int (eO PyData.str))) best_2), none, some (PyData.int begin), some (PyData.int s__4.1), some ((eL (eP2 PyData.str PyData.int)) s__4.2), none, none, none, none, none, none, none, none]) (fun _ => some l__7) (fun (s__4 : Int × (List (Str × Int))) (k__1 : Int) => [some (id sc), some (tokW), some (PyData.int turn), some ((eD PyData.str (eT (eP2 PyData.str PyData.int))) lines), some ((eT (eP2 PyData.str PyData.int)) line), some ((eL PyData.str) stops), some (PyData.int late), some (PyData.int stand), some (PyData.int later), some ((eL (eP3 PyData.str PyData.str PyData.int)) s__1.1.1), some ((eL (eP3 PyData.str PyData.str PyData.int)) s__1.1.2), some (PyData.int k__1), none, none, none, some ((eL PyData.str) inner), some ((eL PyData.str) able_1), some ((eL eU) []), some (PyData.str stop_2), some (PyData.int at__1), none, some ((eO (eP2 PyData.int (eO PyData.str))) best_2), none, some (PyData.int begin), some (PyData.int s__4.1), some ((eL (eP2 PyData.str PyData.int)) s__4.2), none, none, none, none, none, none, none, none]) (fun (s__4 : Int × (List (Str × Int))) (k__1 : Int) => (let now_1 : Int := s__4.1 + (idx line k__1).2; (let rows_1 : List (Str × Int) := s__4.2 ++ [((idx stops k__1), now_1)]; (now_1, rows_1)))) (fun (s__4 : Int × (List (Str × Int))) (k__1 : Int) => InR line k__1 ∧ (∀ now_1 : Int, now_1 = s__4.1 + (idx line k__1).2 → InR stops k__1 ∧ s__4.2.length < sizeLine)) (XA.r2 (X.k _) (X.op2 (X.var 19) (X.k _) (addD_i _ _)) (by unfold I62; decide) hq_74.1) (show LE _ _ from .same (.same (.same (.same (.same (.same (.same (.same (.same (.same (.same (.same (.same (.same (.same (.same (.same (.same (.same (.same (.same (.same (.same (.same (.same (.same (.same (.same (.same (.same (.same (.same (.same (.same (.nil))))))))))))))))))))))))))))))))))) (fun s__4 k__1 => (TG.name 11)) (fun s__4 k__1 hx_6 hk_9 => (XS.seq1 (s__4.1 + (idx line k__1).2) (fun (now_1 : Int) => [some (id sc), some (tokW), some (PyData.int turn), some ((eD PyData.str (eT (eP2 PyData.str PyData.int))) lines), some ((eT (eP2 PyData.str PyData.int)) line), some ((eL PyData.str) stops), some (PyData.int late), some (PyData.int stand), some (PyData.int later), some ((eL (eP3 PyData.str PyData.str PyData.int)) s__1.1.1), some ((eL (eP3 PyData.str PyData.str PyData.int)) s__1.1.2), some (PyData.int k__1), none, none, none, some ((eL PyData.str) inner), some ((eL PyData.str) able_1), some ((eL eU) []), some (PyData.str stop_2), some (PyData.int at__1), none, some ((eO (eP2 PyData.int (eO PyData.str))) best_2), none, some (PyData.int begin), some (PyData.int now_1), some ((eL (eP2 PyData.str PyData.int)) s__4.2), none, none, none, none, none, none, none, none]) (fun (now_1 : Int) => some l__7) (fun (now_1 : Int) => Out.nx ((fun (st : Int × (List (Str × Int))) => [some (id sc), some (tokW), some (PyData.int turn), some ((eD PyData.str (eT (eP2 PyData.str PyData.int))) lines), some ((eT (eP2 PyData.str PyData.int)) line), some ((eL PyData.str) stops), some (PyData.int late), some (PyData.int stand), some (PyData.int later), some ((eL (eP3 PyData.str PyData.str PyData.int)) s__1.1.1), some ((eL (eP3 PyData.str PyData.str PyData.int)) s__1.1.2), none, none, none, none, some ((eL PyData.str) inner), some ((eL PyData.str) able_1), some ((eL eU) []), some (PyData.str stop_2), some (PyData.int at__1), none, some ((eO (eP2 PyData.int (eO PyData.str))) best_2), none, some (PyData.int begin), some (PyData.int st.1), some ((eL (eP2 PyData.str PyData.int)) st.2), none, none, none, none, none, none, none, none]) (let rows_1 : List (Str × Int) := s__4.2 ++ [((idx stops k__1), now_1)]; (now_1, rows_1)))) (fun (now_1 : Int) => some l__7) (XS.aug 24 (X.op2 (X.op2 (X.var 4) (X.var 11) (ixAD_T (eP2 PyData.str PyData.int) hk_9.1)) (X.k _) ixAD_P) (addI_i _ _)) (fun now_1 hv_15 => (have hq_65 := hk_9.2 now_1 hv_15; (XS.seqPass (XS.seq1 (s__4.2 ++ [((idx stops k__1), now_1)]) (fun (rows_1 : List (Str × Int)) => [some (id sc), some (tokW), some (PyData.int turn), some ((eD PyData.str (eT (eP2 PyData.str PyData.int))) lines), some ((eT (eP2 PyData.str PyData.int)) line), some ((eL PyData.str) stops), some (PyData.int late), some (PyData.int stand), some (PyData.int later), some ((eL (eP3 PyData.str PyData.str PyData.int)) s__1.1.1), some ((eL (eP3 PyData.str PyData.str PyData.int)) s__1.1.2), some (PyData.int k__1), none, none, none, some ((eL PyData.str) inner), some ((eL PyData.str) able_1), some ((eL eU) []), some (PyData.str stop_2), some (PyData.int at__1), none, some ((eO (eP2 PyData.int (eO PyData.str))) best_2), none, some (PyData.int begin), some (PyData.int now_1), some ((eL (eP2 PyData.str PyData.int)) rows_1), none, none, none, none, none, none, none, none]) (fun (rows_1 : List (Str × Int)) => some l__7) (fun (rows_1 : List (Str × Int)) => Out.nx ((fun (st : Int × (List (Str × Int))) => [some (id sc), some (tokW), some (PyData.int turn), some ((eD PyData.str (eT (eP2 PyData.str PyData.int))) lines), some ((eT (eP2 PyData.str PyData.int)) line), some ((eL PyData.str) stops), some (PyData.int late), some (PyData.int stand), some (PyData.int later), some ((eL (eP3 PyData.str PyData.str PyData.int)) s__1.1.1), some ((eL (eP3 PyData.str PyData.str PyData.int)) s__1.1.2), none, none, none, none, some ((eL PyData.str) inner), some ((eL PyData.str) able_1), some ((eL eU) []), some (PyData.str stop_2), some (PyData.int at__1), none, some ((eO (eP2 PyData.int (eO PyData.str))) best_2), none, some (PyData.int begin), some (PyData.int st.1), some ((eL (eP2 PyData.str PyData.int)) st.2), none, none, none, none, none, none, none, none]) (now_1, rows_1))) (fun (rows_1 : List (Str × Int)) => some l__7) (XS.app 25 (eP2 PyData.str PyData.int) (v := ((idx stops k__1), now_1)) (X.tup (XA.cons (X.op2 (X.var 5) (X.var 11) (ixAD_L PyData.str hq_65.1)) (XA.cons (X.var 24) XA.nil))) hq_65.2) (fun rows_1 hv_14 => (XS.wpass (show LE _ _ from .same (.same (.same (.same (.same (.same (.same (.same (.same (.same (.same (.skip (.same (.same (.same (.same (.same (.same (.same (.same (.same (.same (.same (.same (.same (.same (.same (.same (.same (.same (.same (.same (.same (.same (.nil))))))))))))))))))))))))))))))))))))))))))) hq_74.2.1) (fun s__5 hv_27 => (have hq_73 := hq_74.2.2 s__5 hv_27; (XL.seqp1 ((rangeDI at__1 0).foldl (fun (s__6 : Int × (List (Str × Int))) (k__2 : Int) => (let now_2 : Int := s__6.1 + (idx line k__2).2; (let rows_2 : List (Str × Int) := s__6.2 ++ [((idx stops (k__2 - 1)), now_2)]; (now_2, rows_2)))) (s__5.1, s__5.2)) (fun (s__7 : Int × (List (Str × Int))) => [some (id sc), some (tokW), some (PyData.int turn), some ((eD PyData.str (eT (eP2 PyData.str PyData.int))) lines), some ((eT (eP2 PyData.str PyData.int)) line), some ((eL PyData.str) stops), some (PyData.int late), some (PyData.int stand), some (PyData.int later), some ((eL (eP3 PyData.str PyData.str PyData.int)) s__1.1.1), some ((eL (eP3 PyData.str PyData.str PyData.int)) s__1.1.2), none, none, none, none, some ((eL PyData.str) inner), some ((eL PyData.str) able_1), some ((eL eU) []), some (PyData.str stop_2), some (PyData.int at__1), none, some ((eO (eP2 PyData.int (eO PyData.str))) best_2), none, some (PyData.int begin), some (PyData.int s__7.1), some ((eL (eP2 PyData.str PyData.int)) s__7.2), none, none, none, none, none, none, none, none]) (XS.for PyData.int (xs := (rangeDI at__1 0)) (s__5.1, s__5.2) (fun (s__6 : Int × (List (Str × Int))) => [some (id sc), some (tokW), some (PyData.int turn), some ((eD PyData.str (eT (eP2 PyData.str PyData.int))) lines), some ((eT (eP2 PyData.str PyData.int)) line), some ((eL PyData.str) stops), some (PyData.int late), some (PyData.int stand), some (PyData.int later), some ((eL (eP3 PyData.str PyData.str PyData.int)) s__1.1.1), some ((eL (eP3 PyData.str PyData.str PyData.int)) s__1.1.2), none, none, none, none, some ((eL PyData.str) inner), some ((eL PyData.str) able_1), some ((eL eU) []), some (PyData.str stop_2), some (PyData.int at__1), none, some ((eO (eP2 PyData.int (eO PyData.str))) best_2), none, some (PyData.int begin), some (PyData.int s__6.1), some ((eL (eP2 PyData.str PyData.int)) s__6.2), none, none, none, none, none, none, none, none]) (fun _ => some l__7) (fun (s__6 : Int × (List (Str × Int))) (k__2 : Int) => [some (id sc), some (tokW), some (PyData.int turn), some ((eD PyData.str (eT (eP2 PyData.str PyData.int))) lines), some ((eT (eP2 PyData.str PyData.int)) line), some ((eL PyData.str) stops), some (PyData.int late), some (PyData.int stand), some (PyData.int later), some ((eL (eP3 PyData.str PyData.str PyData.int)) s__1.1.1), some ((eL (eP3 PyData.str PyData.str PyData.int)) s__1.1.2), some (PyData.int k__2), none, none, none, some ((eL PyData.str) inner), some ((eL PyData.str) able_1), some ((eL eU) []), some (PyData.str stop_2), some (PyData.int at__1), none, some ((eO (eP2 PyData.int (eO PyData.str))) best_2), none, some (PyData.int begin), some (PyData.int s__6.1), some ((eL (eP2 PyData.str PyData.int)) s__6.2), none, none, none, none, none, none, none, none]) (fun (s__6 : Int × (List (Str × Int))) (k__2 : Int) => (let now_2 : Int := s__6.1 + (idx line k__2).2; (let rows_2 : List (Str × Int) := s__6.2 ++ [((idx stops (k__2 - 1)), now_2)]; (now_2, rows_2)))) (fun (s__6 : Int × (List (Str × Int))) (k__2 : Int) => InR line k__2 ∧ (∀ now_2 : Int, now_2 = s__6.1 + (idx line k__2).2 → InR stops (k__2 - 1) ∧ s__6.2.length < sizeLine)) (XA.r3 (X.var 19) (X.k _) (X.op1 (X.k _) (negD_i _)) hq_73.1 (by unfold I62; decide)) (show LE _ _ from .same (.same (.same (.same (.same (.same (.same (.same (.same (.same (.same (.same (.same (.same (.same (.same (.same (.same (.same (.same (.same (.same (.same (.same (.same (.same (.same (.same (.same (.same (.same (.same (.same (.same (.nil))))))))))))))))))))))))))))))))))) (fun s__6 k__2 => (TG.name 11)) (fun s__6 k__2 hx_7 hk_10 => (XS.seq1 (s__6.1 + (idx line k__2).2) (fun (now_2 : Int) => [some (id sc), some (tokW), some (PyData.int turn), some ((eD PyData.str (eT (eP2 PyData.str PyData.int))) lines), some ((eT (eP2 PyData.str PyData.int)) line), some ((eL PyData.str) stops), some (PyData.int late), some (PyData.int stand), some (PyData.int later), some ((eL (eP3 PyData.str PyData.str PyData.int)) s__1.1.1), some ((eL (eP3 PyData.str PyData.str PyData.int)) s__1.1.2), some (PyData.int k__2), none, none, none, some ((eL PyData.str) inner), some ((eL PyData.str) able_1), some ((eL eU) []), some (PyData.str stop_2), some (PyData.int at__1), none, some ((eO (eP2 PyData.int (eO PyData.str))) best_2), none, some (PyData.int begin), some (PyData.int now_2), some ((eL (eP2 PyData.str PyData.int)) s__6.2), none, none, none, none, none, none, none, none]) (fun (now_2 : Int) => some l__7) (fun (now_2 : Int) => Out.nx ((fun (st : Int × (List (Str × Int))) => [some (id sc), some (tokW), some (PyData.int turn), some ((eD PyData.str (eT (eP2 PyData.str PyData.int))) lines), some ((eT (eP2 PyData.str PyData.int)) line), some ((eL PyData.str) stops), some (PyData.int late), some (PyData.int stand), some (PyData.int later), some ((eL (eP3 PyData.str PyData.str PyData.int)) s__1.1.1), some ((eL (eP3 PyData.str PyData.str PyData.int)) s__1.1.2), none, none, none, none, some ((eL PyData.str) inner), some ((eL PyData.str) able_1), some ((eL eU) []), some (PyData.str stop_2), some (PyData.int at__1), none, some ((eO (eP2 PyData.int (eO PyData.str))) best_2), none, some (PyData.int begin), some (PyData.int st.1), some ((eL (eP2 PyData.str PyData.int)) st.2), none, none, none, none, none, none, none, none]) (let rows_2 : List (Str × Int) := s__6.2 ++ [((idx stops (k__2 - 1)), now_2)]; (now_2, rows_2)))) (fun (now_2 : Int) => some l__7) (XS.aug 24 (X.op2 (X.op2 (X.var 4) (X.var 11) (ixAD_T (eP2 PyData.str PyData.int) hk_10.1)) (X.k _) ixAD_P) (addI_i _ _)) (fun now_2 hv_17 => (have hq_66 := hk_10.2 now_2 hv_17; (XS.seqPass (XS.seq1 (s__6.2 ++ [((idx stops (k__2 - 1)), now_2)]) (fun (rows_2 : List (Str × Int)) => [some (id sc), some (tokW), some (PyData.int turn), some ((eD PyData.str (eT (eP2 PyData.str PyData.int))) lines), some ((eT (eP2 PyData.str PyData.int)) line), some ((eL PyData.str) stops), some (PyData.int late), some (PyData.int stand), some (PyData.int later), some ((eL (eP3 PyData.str PyData.str PyData.int)) s__1.1.1), some ((eL (eP3 PyData.str PyData.str PyData.int)) s__1.1.2), some (PyData.int k__2), none, none, none, some ((eL PyData.str) inner), some ((eL PyData.str) able_1), some ((eL eU) []), some (PyData.str stop_2), some (PyData.int at__1), none, some ((eO (eP2 PyData.int (eO PyData.str))) best_2), none, some (PyData.int begin), some (PyData.int now_2), some ((eL (eP2 PyData.str PyData.int)) rows_2), none, none, none, none, none, none, none, none]) (fun (rows_2 : List (Str × Int)) => some l__7) (fun (rows_2 : List (Str × Int)) => Out.nx ((fun (st : Int × (List (Str × Int))) => [some (id sc), some (tokW), some (PyData.int turn), some ((eD PyData.str (eT (eP2 PyData.str PyData.int))) lines), some ((eT (eP2 PyData.str PyData.int)) line), some ((eL PyData.str) stops), some (PyData.int late), some (PyData.int stand), some (PyData.int later), some ((eL (eP3 PyData.str PyData.str PyData.int)) s__1.1.1), some ((eL (eP3 PyData.str PyData.str PyData.int)) s__1.1.2), none, none, none, none, some ((eL PyData.str) inner), some ((eL PyData.str) able_1), some ((eL eU) []), some (PyData.str stop_2), some (PyData.int at__1), none, some ((eO (eP2 PyData.int (eO PyData.str))) best_2), none, some (PyData.int begin), some (PyData.int st.1), some ((eL (eP2 PyData.str PyData.int)) st.2), none, none, none, none, none, none, none, none]) (now_2, rows_2))) (fun (rows_2 : List (Str × Int)) => some l__7) (XS.app 25 (eP2 PyData.str PyData.int) (v := ((idx stops (k__2 - 1)), now_2)) (X.tup (XA.cons (X.op2 (X.var 5) (X.op2 (X.var 11) (X.k _) (subD_i _ _)) (ixAD_L PyData.str hq_66.1)) (XA.cons (X.var 24) XA.nil))) hq_66.2) (fun rows_2 hv_16 => (XS.wpass (show LE _ _ from .same (.same (.same (.same (.same (.same (.same (.same (.same (.same (.same (.skip (.same (.same (.same (.same (.same (.same (.same (.same (.same (.same (.same (.same (.same (.same (.same (.same (.same (.same (.same (.same (.same (.same (.nil))))))))))))))))))))))))))))))))))))))))))) hq_73.2.1) (fun s__7 hv_26 => (have hq_72 := hq_73.2.2 s__7 hv_26; (XL.seqd (XS.ifF (XT.not (XT.val (X.call (XA.cons (X.call (XA.cons (X.var 4) (XA.cons (X.var 23) (XA.cons (X.var 18) XA.nil))) (turned_rows_tie line begin stop_2 hq_72.1 _)) (XA.cons (X.op1 (X.var 25) (tupD_l _)) XA.nil)) (al_tie (e := (eT (eP2 PyData.str PyData.int))) hq_72.2.1 hq_72.2.2.1 _)))) XS.pass) (XL.seq1 ((filterW (fun (own_1 : Str) (l__8 : St) => ((decide ((nextT l__8 2).1 = 0)), (nextT l__8 2).2)) (chrs ("abcdef" : Str)) l__7).1) ((filterW (fun (own_1 : Str) (l__8 : St) => ((decide ((nextT l__8 2).1 = 0)), (nextT l__8 2).2)) (chrs ("abcdef" : Str)) l__7).2) (fun (streets : List Str) => [some (id sc), some (tokW), some (PyData.int turn), some ((eD PyData.str (eT (eP2 PyData.str PyData.int))) lines), some ((eT (eP2 PyData.str PyData.int)) line), some ((eL PyData.str) stops), some (PyData.int late), some (PyData.int stand), some (PyData.int later), some ((eL (eP3 PyData.str PyData.str PyData.int)) s__1.1.1), some ((eL (eP3 PyData.str PyData.str PyData.int)) s__1.1.2), none, none, none, none, some ((eL PyData.str) inner), some ((eL PyData.str) able_1), some ((eL eU) []), some (PyData.str stop_2), some (PyData.int at__1), none, some ((eO (eP2 PyData.int (eO PyData.str))) best_2), none, some (PyData.int begin), some (PyData.int s__7.1), some ((eL (eP2 PyData.str PyData.int)) s__7.2), some ((eT PyData.str) streets), none, none, none, none, none, none, none]) (XS.set (X.op1 (X.lcSW PyData.str (xs := (chrs ("abcdef" : Str))) [some (id sc), some (tokW), some (PyData.int turn), some ((eD PyData.str (eT (eP2 PyData.str PyData.int))) lines), some ((eT (eP2 PyData.str PyData.int)) line), some ((eL PyData.str) stops), some (PyData.int late), some (PyData.int stand), some (PyData.int later), some ((eL (eP3 PyData.str PyData.str PyData.int)) s__1.1.1), some ((eL (eP3 PyData.str PyData.str PyData.int)) s__1.1.2), none, none, none, none, some ((eL PyData.str) inner), some ((eL PyData.str) able_1), some ((eL eU) []), some (PyData.str stop_2), some (PyData.int at__1), none, some ((eO (eP2 PyData.int (eO PyData.str))) best_2), none, some (PyData.int begin), some (PyData.int s__7.1), some ((eL (eP2 PyData.str PyData.int)) s__7.2), none, none, none, none, none, none, none, none] (fun (own_1 : Str) => [some (id sc), some (tokW), some (PyData.int turn), some ((eD PyData.str (eT (eP2 PyData.str PyData.int))) lines), some ((eT (eP2 PyData.str PyData.int)) line), some ((eL PyData.str) stops), some (PyData.int late), some (PyData.int stand), some (PyData.int later), some ((eL (eP3 PyData.str PyData.str PyData.int)) s__1.1.1), some ((eL (eP3 PyData.str PyData.str PyData.int)) s__1.1.2), none, none, none, none, some ((eL PyData.str) inner), some ((eL PyData.str) able_1), some ((eL eU) []), some (PyData.str stop_2), some (PyData.int at__1), none, some ((eO (eP2 PyData.int (eO PyData.str))) best_2), some (PyData.str own_1), some (PyData.int begin), some (PyData.int s__7.1), some ((eL (eP2 PyData.str PyData.int)) s__7.2), none, none, none, none, none, none, none, none]) (fun (own_1 : Str) (l__8 : St) => ((decide ((nextT l__8 2).1 = 0)), (nextT l__8 2).2)) (XA.str (X.k _)) (fun own_1 => (TG.name 22)) (hq_72.2.2.2).1 (fun own_1 hx_8 l__8 => (XT.cmp (X.call (XA.cons (X.var 1) (XA.cons (X.k _) XA.nil)) (next_tie (by decide))) (X.k _) (eqE EqI (by decide) ((nextT l__8 2).1) 0))) (fun own_1 l__8 => X.var 22)) (tupD_l _)) (TG.name 26)) (fun streets hv_24 l__9 hv_25 => (have hq_71 := (hq_72.2.2.2).2 streets hv_24 l__9 hv_25; (XL.seqd (XS.ifF (XT.not (XT.val (X.call (XA.cons (X.call (XA.cons (X.var 4) (XA.cons (X.var 26) XA.nil)) (turn_stops_tie line streets hq_71.1 _)) (XA.cons (X.op1 (X.lcS PyData.str (xs := inner) [some (id sc), some (tokW), some (PyData.int turn), some ((eD PyData.str (eT (eP2 PyData.str PyData.int))) lines), some ((eT (eP2 PyData.str PyData.int)) line), some ((eL PyData.str) stops), some (PyData.int late), some (PyData.int stand), some (PyData.int later), some ((eL (eP3 PyData.str PyData.str PyData.int)) s__1.1.1), some ((eL (eP3 PyData.str PyData.str PyData.int)) s__1.1.2), none, none, none, none, some ((eL PyData.str) inner), some ((eL PyData.str) able_1), some ((eL eU) []), some (PyData.str stop_2), some (PyData.int at__1), none, some ((eO (eP2 PyData.int (eO PyData.str))) best_2), none, some (PyData.int begin), some (PyData.int s__7.1), some ((eL (eP2 PyData.str PyData.int)) s__7.2), some ((eT PyData.str) streets), none, none, none, none, none, none, none] (fun (own_2 : Str) => [some (id sc), some (tokW), some (PyData.int turn), some ((eD PyData.str (eT (eP2 PyData.str PyData.int))) lines), some ((eT (eP2 PyData.str PyData.int)) line), some ((eL PyData.str) stops), some (PyData.int late), some (PyData.int stand), some (PyData.int later), some ((eL (eP3 PyData.str PyData.str PyData.int)) s__1.1.1), some ((eL (eP3 PyData.str PyData.str PyData.int)) s__1.1.2), none, none, none, none, some ((eL PyData.str) inner), some ((eL PyData.str) able_1), some ((eL eU) []), some (PyData.str stop_2), some (PyData.int at__1), none, some ((eO (eP2 PyData.int (eO PyData.str))) best_2), some (PyData.str own_2), some (PyData.int begin), some (PyData.int s__7.1), some ((eL (eP2 PyData.str PyData.int)) s__7.2), some ((eT PyData.str) streets), none, none, none, none, none, none, none]) (fun (own_2 : Str) => (decide (own_2 ∈ streets))) (XA.seqL (X.var 15)) (fun own_2 => (TG.name 22)) hq_71.2.1 (fun own_2 hx_9 => (XT.cmp (X.var 22) (X.var 26) (inAT EqS (by decide) own_2 streets))) (fun own_2 hx_9 hb_1 => (X.var 22))) (tupD_l _)) XA.nil)) (al_tie (e := (eT PyData.str)) hq_71.2.2.1 hq_71.2.2.2.1 _)))) XS.pass) (XL.seqd (XS.ifF (XT.not (XT.val (X.call (XA.cons (X.call (XA.cons (X.var 4) (XA.cons (X.var 18) XA.nil)) (part_line_tie line stop_2 (hq_71.2.2.2.2).1 _)) (XA.cons (X.if (eO (eT (eP2 PyData.str PyData.int))) (u := (some (cutL line none (some (at__1 + 1))))) (v := (none : Option (List (Str × Int)))) (XT.cmp (X.var 19) (X.k _) (gtD_i _ _)) (fun hk_11 => (X.cut (X.var 4) XO.none (XO.some (X.op2 (X.var 19) (X.k _) (addD_i _ _))) (cutD_T (eP2 PyData.str PyData.int) line none (some (at__1 + 1))))) (fun hk_11 => (X.k _))) XA.nil)) (al_tie (e := (eO (eT (eP2 PyData.str PyData.int)))) (hq_71.2.2.2.2).2.1 (hq_71.2.2.2.2).2.2.1 _)))) XS.pass) (XL.seq2 ((nextT l__9 7).1) (1 + (nextT ((nextT l__9 7).2) 30).1) ((nextT ((nextT l__9 7).2) 30).2) (fun (many : Int) (gap : Int) => [some (id sc), some (tokW), some (PyData.int turn), some ((eD PyData.str (eT (eP2 PyData.str PyData.int))) lines), some ((eT (eP2 PyData.str PyData.int)) line), some ((eL PyData.str) stops), some (PyData.int late), some (PyData.int stand), some (PyData.int later), some ((eL (eP3 PyData.str PyData.str PyData.int)) s__1.1.1), some ((eL (eP3 PyData.str PyData.str PyData.int)) s__1.1.2), none, none, none, none, some ((eL PyData.str) inner), some ((eL PyData.str) able_1), some ((eL eU) []), some (PyData.str stop_2), some (PyData.int at__1), none, some ((eO (eP2 PyData.int (eO PyData.str))) best_2), none, some (PyData.int begin), some (PyData.int s__7.1), some ((eL (eP2 PyData.str PyData.int)) s__7.2), some ((eT PyData.str) streets), some (PyData.int many), some (PyData.int gap), none, none, none, none, none]) (XS.par (XA.cons (X.call (XA.cons (X.var 1) (XA.cons (X.k _) XA.nil)) (next_tie (by decide))) (XA.cons (X.op2 (X.k _) (X.call (XA.cons (X.var 1) (XA.cons (X.k _) XA.nil)) (next_tie (by decide))) (addD_i _ _)) XA.nil)) (TGs.cons (TG.name 27) (TGs.cons (TG.name 28) TGs.nil))) (fun many hv_21 gap hv_22 l__10 hv_23 => (have hq_70 := ((hq_71.2.2.2.2).2.2.2) many hv_21 gap hv_22 l__10 hv_23; (XL.seq1 ((mapW (fun (k__3 : Int) (l__11 : St) => ((decide ((nextT l__11 2).1 = 0)), (nextT l__11 2).2)) (rangeI 0 ((nextT l__10 6).1)) ((nextT l__10 6).2)).1) ((mapW (fun (k__3 : Int) (l__11 : St) => ((decide ((nextT l__11 2).1 = 0)), (nextT l__11 2).2)) (rangeI 0 ((nextT l__10 6).1)) ((nextT l__10 6).2)).2) (fun (goes : List Bool) => [some (id sc), some (tokW), some (PyData.int turn), some ((eD PyData.str (eT (eP2 PyData.str PyData.int))) lines), some ((eT (eP2 PyData.str PyData.int)) line), some ((eL PyData.str) stops), some (PyData.int late), some (PyData.int stand), some (PyData.int later), some ((eL (eP3 PyData.str PyData.str PyData.int)) s__1.1.1), some ((eL (eP3 PyData.str PyData.str PyData.int)) s__1.1.2), none, none, none, none, some ((eL PyData.str) inner), some ((eL PyData.str) able_1), some ((eL eU) []), some (PyData.str stop_2), some (PyData.int at__1), none, some ((eO (eP2 PyData.int (eO PyData.str))) best_2), none, some (PyData.int begin), some (PyData.int s__7.1), some ((eL (eP2 PyData.str PyData.int)) s__7.2), some ((eT PyData.str) streets), some (PyData.int many), some (PyData.int gap), some ((eT PyData.bool) goes), none, none, none, none]) (XS.set (X.op1 (X.lcW PyData.int PyData.bool (xs := (rangeI 0 ((nextT l__10 6).1))) [some (id sc), some (tokW), some (PyData.int turn), some ((eD PyData.str (eT (eP2 PyData.str PyData.int))) lines), some ((eT (eP2 PyData.str PyData.int)) line), some ((eL PyData.str) stops), some (PyData.int late), some (PyData.int stand), some (PyData.int later), some ((eL (eP3 PyData.str PyData.str PyData.int)) s__1.1.1), some ((eL (eP3 PyData.str PyData.str PyData.int)) s__1.1.2), none, none, none, none, some ((eL PyData.str) inner), some ((eL PyData.str) able_1), some ((eL eU) []), some (PyData.str stop_2), some (PyData.int at__1), none, some ((eO (eP2 PyData.int (eO PyData.str))) best_2), none, some (PyData.int begin), some (PyData.int s__7.1), some ((eL (eP2 PyData.str PyData.int)) s__7.2), some ((eT PyData.str) streets), some (PyData.int many), some (PyData.int gap), none, none, none, none, none] (fun (k__3 : Int) => [some (id sc), some (tokW), some (PyData.int turn), some ((eD PyData.str (eT (eP2 PyData.str PyData.int))) lines), some ((eT (eP2 PyData.str PyData.int)) line), some ((eL PyData.str) stops), some (PyData.int late), some (PyData.int stand), some (PyData.int later), some ((eL (eP3 PyData.str PyData.str PyData.int)) s__1.1.1), some ((eL (eP3 PyData.str PyData.str PyData.int)) s__1.1.2), some (PyData.int k__3), none, none, none, some ((eL PyData.str) inner), some ((eL PyData.str) able_1), some ((eL eU) []), some (PyData.str stop_2), some (PyData.int at__1), none, some ((eO (eP2 PyData.int (eO PyData.str))) best_2), none, some (PyData.int begin), some (PyData.int s__7.1), some ((eL (eP2 PyData.str PyData.int)) s__7.2), some ((eT PyData.str) streets), some (PyData.int many), some (PyData.int gap), none, none, none, none, none]) (fun (k__3 : Int) (l__11 : St) => ((decide ((nextT l__11 2).1 = 0)), (nextT l__11 2).2)) (XA.r1 (X.call (XA.cons (X.var 1) (XA.cons (X.k _) XA.nil)) (next_tie (by decide))) hq_70.1) (fun k__3 => (TG.name 11)) hq_70.2.1 (fun k__3 hx_10 l__11 => (X.cT (XT.cmp (X.call (XA.cons (X.var 1) (XA.cons (X.k _) XA.nil)) (next_tie (by decide))) (X.k _) (eqE EqI (by decide) ((nextT l__11 2).1) 0))))) (tupD_l _)) (TG.name 29)) (fun goes hv_19 l__12 hv_20 => (have hq_69 := hq_70.2.2 goes hv_19 l__12 hv_20; (XL.seqd (XS.ifF (XT.not (XT.val (X.call (XA.cons (X.call (XA.cons (X.var 27) XA.nil) (every_other_tie many hq_69.1 _)) (XA.cons (X.op1 (X.lcM PyData.int PyData.bool (xs := (rangeI 0 many)) [some (id sc), some (tokW), some (PyData.int turn), some ((eD PyData.str (eT (eP2 PyData.str PyData.int))) lines), some ((eT (eP2 PyData.str PyData.int)) line), some ((eL PyData.str) stops), some (PyData.int late), some (PyData.int stand), some (PyData.int later), some ((eL (eP3 PyData.str PyData.str PyData.int)) s__1.1.1), some ((eL (eP3 PyData.str PyData.str PyData.int)) s__1.1.2), none, none, none, none, some ((eL PyData.str) inner), some ((eL PyData.str) able_1), some ((eL eU) []), some (PyData.str stop_2), some (PyData.int at__1), none, some ((eO (eP2 PyData.int (eO PyData.str))) best_2), none, some (PyData.int begin), some (PyData.int s__7.1), some ((eL (eP2 PyData.str PyData.int)) s__7.2), some ((eT PyData.str) streets), some (PyData.int many), some (PyData.int gap), some ((eT PyData.bool) goes), none, none, none, none] (fun (k__4 : Int) => [some (id sc), some (tokW), some (PyData.int turn), some ((eD PyData.str (eT (eP2 PyData.str PyData.int))) lines), some ((eT (eP2 PyData.str PyData.int)) line), some ((eL PyData.str) stops), some (PyData.int late), some (PyData.int stand), some (PyData.int later), some ((eL (eP3 PyData.str PyData.str PyData.int)) s__1.1.1), some ((eL (eP3 PyData.str PyData.str PyData.int)) s__1.1.2), some (PyData.int k__4), none, none, none, some ((eL PyData.str) inner), some ((eL PyData.str) able_1), some ((eL eU) []), some (PyData.str stop_2), some (PyData.int at__1), none, some ((eO (eP2 PyData.int (eO PyData.str))) best_2), none, some (PyData.int begin), some (PyData.int s__7.1), some ((eL (eP2 PyData.str PyData.int)) s__7.2), some ((eT PyData.str) streets), some (PyData.int many), some (PyData.int gap), some ((eT PyData.bool) goes), none, none, none, none]) (fun (k__4 : Int) => (decide (((k__4 / 2) * 2) = k__4))) (XA.r1 (X.var 27) hq_69.2.1) (fun k__4 => (TG.name 11)) hq_69.2.2.1 (fun k__4 hx_11 => (X.cT (XT.cmp (X.op2 (X.op2 (X.var 11) (X.k _) (divD_k 2)) (X.k _) (mulI_kr 2)) (X.var 11) (eqE EqI (by decide) ((k__4 / 2) * 2) k__4))))) (tupD_l _)) XA.nil)) (al_tie (e := (eT PyData.bool)) hq_69.2.2.2.1 hq_69.2.2.2.2.1 _)))) XS.pass) (XL.seqp1 (((goes.filter (fun (own_3 : Bool) => own_3)).map (fun (own_3 : Bool) => (1 : Int))).length : Int) (fun (on : Int) => [some (id sc), some (tokW), some (PyData.int turn), some ((eD PyData.str (eT (eP2 PyData.str PyData.int))) lines), some ((eT (eP2 PyData.str PyData.int)) line), some ((eL PyData.str) stops), some (PyData.int late), some (PyData.int stand), some (PyData.int later), some ((eL (eP3 PyData.str PyData.str PyData.int)) s__1.1.1), some ((eL (eP3 PyData.str PyData.str PyData.int)) s__1.1.2), none, none, none, none, some ((eL PyData.str) inner), some ((eL PyData.str) able_1), some ((eL eU) []), some (PyData.str stop_2), some (PyData.int at__1), none, some ((eO (eP2 PyData.int (eO PyData.str))) best_2), none, some (PyData.int begin), some (PyData.int s__7.1), some ((eL (eP2 PyData.str PyData.int)) s__7.2), some ((eT PyData.str) streets), some (PyData.int many), some (PyData.int gap), some ((eT PyData.bool) goes), some (PyData.int on), none, none, none]) (XS.set (X.op1 (X.lcF PyData.bool PyData.int (xs := goes) [some (id sc), some (tokW), some (PyData.int turn), some ((eD PyData.str (eT (eP2 PyData.str PyData.int))) lines), some ((eT (eP2 PyData.str PyData.int)) line), some ((eL PyData.str) stops), some (PyData.int late), some (PyData.int stand), some (PyData.int later), some ((eL (eP3 PyData.str PyData.str PyData.int)) s__1.1.1), some ((eL (eP3 PyData.str PyData.str PyData.int)) s__1.1.2), none, none, none, none, some ((eL PyData.str) inner), some ((eL PyData.str) able_1), some ((eL eU) []), some (PyData.str stop_2), some (PyData.int at__1), none, some ((eO (eP2 PyData.int (eO PyData.str))) best_2), none, some (PyData.int begin), some (PyData.int s__7.1), some ((eL (eP2 PyData.str PyData.int)) s__7.2), some ((eT PyData.str) streets), some (PyData.int many), some (PyData.int gap), some ((eT PyData.bool) goes), none, none, none, none] (fun (own_3 : Bool) => [some (id sc), some (tokW), some (PyData.int turn), some ((eD PyData.str (eT (eP2 PyData.str PyData.int))) lines), some ((eT (eP2 PyData.str PyData.int)) line), some ((eL PyData.str) stops), some (PyData.int late), some (PyData.int stand), some (PyData.int later), some ((eL (eP3 PyData.str PyData.str PyData.int)) s__1.1.1), some ((eL (eP3 PyData.str PyData.str PyData.int)) s__1.1.2), none, none, none, none, some ((eL PyData.str) inner), some ((eL PyData.str) able_1), some ((eL eU) []), some (PyData.str stop_2), some (PyData.int at__1), none, some ((eO (eP2 PyData.int (eO PyData.str))) best_2), some (PyData.bool own_3), some (PyData.int begin), some (PyData.int s__7.1), some ((eL (eP2 PyData.str PyData.int)) s__7.2), some ((eT PyData.str) streets), some (PyData.int many), some (PyData.int gap), some ((eT PyData.bool) goes), none, none, none, none]) (fun (own_3 : Bool) => own_3) (fun (own_3 : Bool) => (1 : Int)) (XA.seqT (X.var 29)) (fun own_3 => (TG.name 22)) (hq_69.2.2.2.2.2).1 (fun own_3 hx_12 => (XT.val (X.var 22))) (fun own_3 hx_12 hb_2 => (X.k _))) (lenD_L PyData.int ((goes.filter (fun (own_3 : Bool) => own_3)).map (fun (own_3 : Bool) => (1 : Int))))) (TG.name 30)) (fun on hv_18 => (have hq_68 := (hq_69.2.2.2.2.2).2 on hv_18; (XL.seqPass (XL.seqd (XS.ifF (XT.not (XT.val (X.call (XA.cons (X.call (XA.cons (X.var 28) (XA.cons (X.var 29) XA.nil)) (mean_gap_behind_tie gap goes hq_68.1 _)) (XA.cons (X.if (eO (eP2 PyData.int PyData.int)) (u := (some (law_fraction_t (gap * (goes.length : Int)) on))) (v := (none : Option (Int × Int))) (XT.cmp (X.var 30) (X.k _) (gtD_i _ _)) (fun hk_12 => (have hq_67 := hq_68.2.1 hk_12; (X.call (XA.cons (X.op2 (X.var 28) (X.op1 (X.var 29) (lenD_T PyData.bool goes)) (mulI_ok hq_67.1)) (XA.cons (X.var 30) XA.nil)) (law_fraction_tie (gap * (goes.length : Int)) on hq_67.2 _)))) (fun hk_12 => (X.k _))) XA.nil)) (al_tie (e := (eO (eP2 PyData.int PyData.int))) hq_68.2.2 ((AltE.o (AltE.p2 AltE.i AltE.i)).alk _ (fun _ _ => ⟨trivial, trivial⟩)) _)))) XS.pass) (XL.done (show LE _ _ from .same (.same (.skip (.skip (.skip (.skip (.skip (.skip (.skip (.skip (.skip (.same (.same (.same (.same (.skip (.skip (.skip (.skip (.skip (.same (.skip (.same (.skip (.skip (.skip (.skip (.skip (.skip (.skip (.skip (.same (.same (.same (.nil))))))))))))))))))))))))))))))))))) _))))))))))))))))))))))))))))))))))))))))))))))))))))))))))))) (fun l__13 => (XL.ret (X.k _))))
end W

set_option Elab.async false
set_option linter.all false
set_option autoImplicit false
set_option maxRecDepth 100000
namespace W
open PySem Q
theorem foldI {α σ : Type} {step : σ → α → σ} (I : σ → Prop) : ∀ {xs : List α} {s : σ}, I s → (∀ s x, x ∈ xs → I s → I (step s x)) → I (xs.foldl step s)
  | [], _, h, _ => h
  | x :: xs, s, h, k => foldI (xs := xs) (s := step s x) I (k s x List.mem_cons_self h) fun s y hy => k s y (List.mem_cons_of_mem _ hy)
theorem foldR {α σ τ : Type} {f : σ → α → σ} {g : τ → α → τ} (R : σ → τ → Prop) : ∀ {xs : List α} {s : σ} {t : τ}, R s t → (∀ s t x, x ∈ xs → R s t → R (f s x) (g t x)) → R (xs.foldl f s) (xs.foldl g t)
  | [], _, _, h, _ => h
  | x :: xs, s, t, h, k => foldR (xs := xs) (s := f s x) (t := g t x) R (k s t x List.mem_cons_self h) fun s t y hy => k s t y (List.mem_cons_of_mem _ hy)
abbrev Line := List (Str × Int)
structure LineOk (line : Line) : Prop where
  ex : ∃ a rest, line = (a, 0) :: rest
  two : 2 ≤ line.length
  six : line.length ≤ 6
  nd : (line.map fun p => p.1).Nodup
  pos : ∀ p ∈ line.drop 1, 1 ≤ p.2
/-- minutes to the stop at place k -/
def P (line : Line) (k : Nat) : Int := ((line.take (k + 1)).map fun p => p.2).sum
def R (line : Line) (k : Nat) : Int := ((line.drop (k + 1)).map fun p => p.2).sum
variable {line : Line} {riders back : List (Str × Str × Int)} {late stand later : Int}
theorem P_succ {k : Nat} (h : k + 1 < line.length) : P line (k + 1) = P line k + line[k + 1].2 := by
  unfold P
  rw [List.take_succ_eq_append_getElem h, List.map_append, List.sum_append]
  simp
theorem P_pos (L : LineOk line) {k : Nat} (h : k + 1 < line.length) : P line k < P line (k + 1) := by
  rw [P_succ h]
  have := L.pos line[k + 1] (by
    rw [List.mem_iff_getElem]
    exact ⟨k, by simp; omega, by simp [Nat.add_comm]⟩)
  omega
theorem P_mono (L : LineOk line) {i : Nat} : ∀ {j : Nat}, i < j → j < line.length → P line i < P line j
  | 0, h, _ => by omega
  | j + 1, h, k => by
    have h1 := P_pos L k
    by_cases e : i = j
    · subst e; exact h1
    · have := P_mono L (i := i) (j := j) (by omega) (by omega)
      omega
theorem P_lt (L : LineOk line) {i j : Nat} (hi : i < line.length) (hj : j < line.length) : P line i < P line j ↔ i < j := by
  constructor
  · intro h
    by_cases e : i < j
    · exact e
    · by_cases e2 : i = j
      · subst e2; omega
      · have := P_mono L (i := j) (j := i) (by omega) hi
        omega
  · exact fun h => P_mono L h hj
theorem P_zero (L : LineOk line) : P line 0 = 0 := by
  obtain ⟨a, r, rfl⟩ := L.ex
  simp [P]
theorem R_nn (L : LineOk line) (k : Nat) : 0 ≤ R line k := by
  unfold R
  have : ∀ (xs : Line), (∀ p ∈ xs, 0 ≤ p.2) → 0 ≤ (xs.map fun p => p.2).sum := by
    intro xs
    induction xs with
    | nil => intro _; simp
    | cons x xs ih =>
      intro h
      have h1 := h x List.mem_cons_self
      have h2 := ih fun p hp => h p (List.mem_cons_of_mem _ hp)
      simp only [List.map_cons, List.sum_cons]
      omega
  refine this _ fun p hp => ?_
  have : p ∈ line.drop 1 := by
    rw [show k + 1 = 1 + k from Nat.add_comm _ _, ← List.drop_drop] at hp
    exact List.mem_of_mem_drop hp
  have := L.pos p this
  omega
theorem PR (line : Line) (k : Nat) : long_of_t line = P line k + R line k := by
  unfold long_of_t P R
  rw [← List.sum_append, ← List.map_append, List.take_append_drop]
theorem ixl {s : Str} (h : s ∈ stops_on_t line) : (stops_on_t line).idxOf s < line.length := by
  have := List.idxOf_lt_length_iff.mpr h
  simpa [stops_on_t] using this
theorem mt {s : Str} (h : s ∈ stops_on_t line) : minutes_to_t line s = some (P line ((stops_on_t line).idxOf s)) := by
  unfold minutes_to_t
  rw [if_neg (by simpa using h), cutL_to _ (by omega)]
  have e : (((stops_on_t line).idxOf s : Int) + 1).toNat = (stops_on_t line).idxOf s + 1 := by omega
  rw [e]
  rfl
theorem mto (L : line.length ≤ 100) (s : Str) : minutes_to_ok line s :=
  ⟨le_sz (by omega), fun h => ⟨le_sz (by omega), by simpa using h, le_sz (Nat.le_trans (cutL_len _ _ _) (by omega))⟩⟩
theorem rest_eq (line : Line) (k : Nat) : ((cutL line (some ((k : Int) + 1)) none).map fun p => p.2).sum = R line k := by
  rw [cutL_from _ (by omega)]
  have e : ((k : Int) + 1).toNat = k + 1 := by omega
  rw [e]
  rfl
theorem saved_eq {s : Str} (h : s ∈ stops_on_t line) : saved_at_t line s stand = 2 * R line ((stops_on_t line).idxOf s) + stand := by
  unfold saved_at_t
  rw [mt h, Option.getD_some, PR line ((stops_on_t line).idxOf s)]
  omega
theorem saved_ok (L : line.length ≤ 100) {s : Str} (h : s ∈ stops_on_t line) : saved_at_ok line s stand := ⟨le_sz (by omega), mto L s, by rw [mt h]; rfl⟩
theorem lost_eq (L : LineOk line) {s : Str} (h : s ∈ stops_on_t line) (hr : ∀ p ∈ riders, p.2.1 ∈ stops_on_t line) : lost_riders_t line riders s = ((riders.filter fun p => decide (((stops_on_t line).idxOf s : Int) < ((stops_on_t line).idxOf p.2.1 : Int))).map fun p => p.2.2).sum := by
  unfold lost_riders_t
  dsimp only
  congr 2
  refine List.filter_congr fun p hp => ?_
  rw [mt h, mt (hr p hp), Option.getD_some, Option.getD_some]
  refine decide_eq_decide.mpr ?_
  rw [P_lt L (ixl h) (ixl (hr p hp))]
  omega
theorem lost_ok (L : line.length ≤ 100) {s : Str} (h : s ∈ stops_on_t line) (hl : riders.length ≤ 100) (hr : ∀ p ∈ riders, p.2.1 ∈ stops_on_t line) : lost_riders_ok line riders s :=
  ⟨mto L s, fun at_ ha => ⟨le_sz (by omega), fun p hp => ⟨mto L _, by rw [mt (hr p hp)]; rfl, by rw [ha, mt h]; rfl⟩⟩⟩
theorem max0 (a b : Int) : maxI 0 (a - b) = if decide (b < a) = true then a - b else 0 := by
  rw [maxI_eq]
  by_cases h : b < a
  · rw [if_pos (by simpa using h)]; omega
  · rw [if_neg (by simpa using h)]; omega
theorem cost_eq (L : LineOk line) (hb : ∀ p ∈ back, p.1 ∈ stops_on_t line) (hr : ∀ p ∈ riders, p.2.1 ∈ stops_on_t line) (o : Option Str) (ho : ∀ s, o = some s → s ∈ stops_on_t line) : cost_of_turn_t line riders back late stand later o = law_cost_t line riders back late stand later o := by
  unfold cost_of_turn_t law_cost_t
  dsimp only
  cases o with
  | none =>
    show _ * maxI 0 (late - stand) = _ * (if decide (stand < late) = true then late - stand else 0)
    rw [max0]
  | some s =>
    have hs := ho s rfl
    rw [if_neg (by simp), if_neg (by simp)]
    simp only [Option.getD_some]
    have e0 : law_stops_t line = stops_on_t line := rfl
    rw [e0, rest_eq, saved_eq hs, lost_eq L hs hr]
    have e1 : (back.filter fun p => decide (((minutes_to_t line s).getD default) < ((minutes_to_t line p.1).getD default))) = back.filter fun p => decide (((stops_on_t line).idxOf s : Int) < ((stops_on_t line).idxOf p.1 : Int)) := by
      refine List.filter_congr fun p hp => ?_
      rw [mt hs, mt (hb p hp), Option.getD_some, Option.getD_some]
      refine decide_eq_decide.mpr ?_
      rw [P_lt L (ixl hs) (ixl (hb p hp))]
      omega
    rw [e1]
    have e2 : late - (2 * R line ((stops_on_t line).idxOf s) + stand) = late - 2 * R line ((stops_on_t line).idxOf s) - stand := by omega
    rw [e2]
/-! inner stops -/
theorem inner_eq {xs : List Str} (h : 1 ≤ xs.length) : cutL xs (some 1) (some (-1)) = cutL xs (some 1) (some ((xs.length : Int) - 1)) := by
  unfold cutL
  have e : HT.sIx xs.length xs.length (some (-1)) = HT.sIx xs.length xs.length (some ((xs.length : Int) - 1)) := by
    show (if (-1 : Int) < 0 then ((-1 : Int) + (xs.length : Int)).toNat else min (-1 : Int).toNat xs.length) = (if ((xs.length : Int) - 1) < 0 then (((xs.length : Int) - 1) + (xs.length : Int)).toNat else min ((xs.length : Int) - 1).toNat xs.length)
    rw [if_pos (by omega), if_neg (by omega)]
    omega
  rw [e]
theorem inner_mid {a z : Str} {xs : List Str} : cutL (a :: (xs ++ [z])) (some 1) (some (((a :: (xs ++ [z])).length : Int) - 1)) = xs := by
  rw [cutL_mid _ (by omega) (by simp; omega)]
  have e : ((((a :: (xs ++ [z])).length : Int) - 1)).toNat - (1 : Int).toNat = xs.length := by simp
  rw [e]
  simp
theorem split3 {xs : List Str} (h : 2 ≤ xs.length) : ∃ a ys z, xs = a :: (ys ++ [z]) := by
  cases xs with
  | nil => simp at h
  | cons a r =>
    have hr : r ≠ [] := fun z => by subst z; simp at h
    exact ⟨a, r.dropLast, r.getLast hr, by rw [List.dropLast_concat_getLast]⟩
theorem fold_filter {α : Type} (p : α → Bool) : ∀ (xs s : List α), xs.foldl (fun s x => s ++ if p x = true then [x] else []) s = s ++ xs.filter p
  | [], s => by simp
  | x :: xs, s => by
    rw [List.foldl_cons, fold_filter p xs, List.filter_cons]
    split <;> simp
theorem filter_inner {xs : List Str} (h : 2 ≤ xs.length) (nd : xs.Nodup) (q : Str → Bool) : (xs.filter fun s => decide (s ∈ cutL xs (some 1) (some ((xs.length : Int) - 1))) && q s) = (cutL xs (some 1) (some ((xs.length : Int) - 1))).filter q := by
  obtain ⟨a, ys, z, rfl⟩ := split3 h
  rw [inner_mid]
  obtain ⟨n1, n2⟩ := List.nodup_cons.mp nd
  obtain ⟨n3, n4, n5⟩ := List.nodup_append.mp n2
  have na : a ∉ ys := fun z => n1 (List.mem_append_left _ z)
  have nz : z ∉ ys := fun k => n5 z k z (by simp) rfl
  rw [List.filter_cons_of_neg (by simp [na]), List.filter_append, List.filter_cons_of_neg (by simp [nz]), List.filter_nil, List.append_nil]
  exact List.filter_congr fun s hs => by simp [hs]
theorem neg1 {α : Type} [Inhabited α] (xs : List α) (h : xs ≠ []) : idx xs (-1) = idx xs ((xs.length : Int) - 1) := by
  have := List.length_pos_iff.mpr h
  unfold idx ixN'
  rw [if_neg (by omega), if_pos (by omega)]
  congr 1
/-! the least cost, first come -/
theorem min_first (f : Option Str → Int) (all : List (Option Str)) : ∀ (m : Nat) (c : Int) (k0 : Nat), k0 < m → k0 < all.length → c = f (idx all k0) → m ≤ all.length →
    let r := (((List.range' m (all.length - m)).map fun (k : Nat) => ((f (idx all (k : Int)), (k : Int)) : Int × Int)).foldl (fun a y => if lt2 ltI ltI y a = true then y else a) (c, (k0 : Int)))
    some (r.1, idx all r.2) = (all.drop m).foldl (fun (s : Option (Int × Option Str)) o => if (s.isNone || decide (f o < (s.getD default).1)) = true then some (f o, o) else s) (some (c, idx all k0)) := by
  intro m
  generalize hn : all.length - m = n
  induction n generalizing m with
  | zero =>
    intro c k0 h1 h2 h3 h4
    have : all.drop m = [] := List.drop_eq_nil_of_le (by omega)
    rw [this]
    rfl
  | succ n ih =>
    intro c k0 h1 h2 h3 h4
    have hm : m < all.length := by omega
    have e : all.drop m = all[m] :: all.drop (m + 1) := List.drop_eq_getElem_cons hm
    rw [e, List.range'_succ, List.map_cons, List.foldl_cons, List.foldl_cons]
    have e2 : idx all (m : Int) = all[m] := idx_lt all hm
    rw [e2]
    simp only [Option.isNone_some, Bool.false_or, Option.getD_some]
    by_cases hlt : f all[m] < c
    · have : lt2 ltI ltI (f all[m], (m : Int)) (c, (k0 : Int)) = true := by
        cases q : lt2 ltI ltI (f all[m], (m : Int)) (c, (k0 : Int)) with
        | true => rfl
        | false => have := lt_ii.mp q; omega
      rw [if_pos this, if_pos (by simpa using hlt)]
      have := ih (m + 1) (by omega) (f all[m]) m (by omega) hm (by rw [e2]) (by omega)
      rw [e2] at this
      exact this
    · have : lt2 ltI ltI (f all[m], (m : Int)) (c, (k0 : Int)) = false := lt_ii.mpr (by omega)
      rw [if_neg (by rw [this]; simp), if_neg (by simpa using hlt)]
      exact ih (m + 1) (by omega) c k0 (by omega) h2 h3 (by omega)
end W

set_option Elab.async false
set_option linter.all false
set_option autoImplicit false
set_option maxRecDepth 100000
namespace W
open PySem Q
variable {line : Line} {riders back : List (Str × Str × Int)} {late stand later : Int}
theorem foldl_app {α β : Type} (g : α → β) : ∀ (xs : List α) (s : List β), xs.foldl (fun s x => s ++ [g x]) s = s ++ xs.map g
  | [], s => by simp
  | x :: xs, s => by rw [List.foldl_cons, foldl_app g xs]; simp
theorem rangeI0 (n : Nat) : rangeI 0 (n : Int) = (List.range n).map fun i => ((i : Nat) : Int) := by
  unfold rangeI
  simp
theorem rows_eq (f : Option Str → Int) (all : List (Option Str)) : ((rangeI 0 (all.length : Int)).foldl (fun s k => s ++ [(f (idx all k), k)]) ([] : List (Int × Int))) = (List.range all.length).map fun (k : Nat) => (f (idx all (k : Int)), (k : Int)) := by
  rw [foldl_app (fun k => (f (idx all k), k)), rangeI0, List.map_map, List.nil_append]
  rfl
theorem best_first (f : Option Str → Int) (o : Option Str) (r : List (Option Str)) :
    some ((minT (lt2 ltI ltI) ((List.range (o :: r).length).map fun (k : Nat) => ((f (idx (o :: r) (k : Int)), (k : Int)) : Int × Int))).1, idx (o :: r) (minT (lt2 ltI ltI) ((List.range (o :: r).length).map fun (k : Nat) => ((f (idx (o :: r) (k : Int)), (k : Int)) : Int × Int))).2) = (o :: r).foldl (fun (s : Option (Int × Option Str)) o => if (s.isNone || decide (f o < (s.getD default).1)) = true then some (f o, o) else s) none := by
  have e : (List.range (o :: r).length).map (fun (k : Nat) => ((f (idx (o :: r) (k : Int)), (k : Int)) : Int × Int)) = (f o, 0) :: (List.range' 1 ((o :: r).length - 1)).map fun (k : Nat) => ((f (idx (o :: r) (k : Int)), (k : Int)) : Int × Int) := by
    rw [List.range_eq_range', show (o :: r).length = r.length + 1 from rfl, List.range'_succ, List.map_cons]
    rfl
  rw [e]
  exact min_first f (o :: r) 1 (f o) 0 (by omega) (by simp) rfl (by simp)
theorem inner_sub {xs : List Str} {s : Str} {lo hi : Option Int} (h : s ∈ cutL xs lo hi) : s ∈ xs := by
  unfold cutL at h
  exact List.mem_of_mem_drop (List.mem_of_mem_take h)
theorem best_eq (L : LineOk line) (hb : ∀ p ∈ back, p.1 ∈ stops_on_t line) (hr : ∀ p ∈ riders, p.2.1 ∈ stops_on_t line) :
    some (best_turn_t line riders back late stand later) = ([(none : Option Str)] ++ ((cutL (stops_on_t line) (some 1) (some (((stops_on_t line).length : Int) - 1))).reverse.map some)).foldl (fun (s : Option (Int × Option Str)) o => if (s.isNone || decide (law_cost_t line riders back late stand later o < (s.getD default).1)) = true then some (law_cost_t line riders back late stand later o, o) else s) none := by
  rw [List.singleton_append, ← best_first]
  have hlen : 1 ≤ (stops_on_t line).length := by have := L.two; simp [stops_on_t]; omega
  have e0 : inner_stops_t line = cutL (stops_on_t line) (some 1) (some (((stops_on_t line).length : Int) - 1)) := inner_eq hlen
  unfold best_turn_t
  rw [e0, List.singleton_append]
  generalize hall : (none : Option Str) :: (cutL (stops_on_t line) (some 1) (some (((stops_on_t line).length : Int) - 1))).reverse.map some = all
  dsimp only
  rw [rows_eq (fun o => cost_of_turn_t line riders back late stand later o)]
  have e1 : (List.range all.length).map (fun (k : Nat) => ((cost_of_turn_t line riders back late stand later (idx all (k : Int)), (k : Int)) : Int × Int)) = (List.range all.length).map fun (k : Nat) => ((law_cost_t line riders back late stand later (idx all (k : Int)), (k : Int)) : Int × Int) := by
    refine List.map_congr_left fun k hk => ?_
    have hk : k < all.length := by simpa using hk
    rw [idx_lt all hk, cost_eq L hb hr _ fun s hs => ?_]
    have hm : some s ∈ all := hs ▸ List.getElem_mem hk
    rw [← hall] at hm
    rcases List.mem_cons.mp hm with q | q
    · cases q
    · obtain ⟨u, hu, e⟩ := List.mem_map.mp q
      cases e
      exact inner_sub (List.mem_reverse.mp hu)
  rw [e1]
/-! rows there and back -/
theorem idx_take {α : Type} [Inhabited α] {xs : List α} {m : Nat} {k : Int} (h : 0 ≤ k) (h2 : k < m) : idx (xs.take m) k = idx xs k := by
  obtain ⟨n, rfl⟩ := Int.eq_ofNat_of_zero_le h
  rw [idx_nat, idx_nat, List.getD_eq_getElem?_getD, List.getD_eq_getElem?_getD, List.getElem?_take, if_pos (by omega)]
theorem idx_map {α β : Type} [Inhabited α] [Inhabited β] (f : α → β) {xs : List α} {k : Int} (h : 0 ≤ k) (h2 : k < xs.length) : idx (xs.map f) k = f (idx xs k) := by
  obtain ⟨n, rfl⟩ := Int.eq_ofNat_of_zero_le h
  rw [idx_lt xs (by omega), idx_lt (xs.map f) (by simp; omega), List.getElem_map]
theorem take_range {α : Type} [Inhabited α] {xs : List α} {m : Nat} (h : m < xs.length) : xs.take (m + 1) = idx xs 0 :: (rangeI 1 ((m : Int) + 1)).map (idx xs) := by
  refine List.ext_getElem (by simp [len_rangeI]; omega) fun i h1 h2 => ?_
  cases i with
  | zero =>
    rw [List.getElem_cons_zero, List.getElem_take]
    exact (idx_lt xs (i := 0) (by omega)).symm
  | succ i =>
    have h3 : i < m := by simp at h1; omega
    rw [List.getElem_cons_succ, List.getElem_take, List.getElem_map]
    unfold rangeI
    rw [List.getElem_map, List.getElem_range]
    have : (1 : Int) + (i : Nat) = ((i + 1 : Nat) : Int) := by omega
    rw [this, idx_lt xs]
theorem own_eq (line : Line) (k : Nat) : cutL line none (some ((k : Int) + 1)) = line.take (k + 1) := by
  rw [cutL_to _ (by omega)]
  have e : ((k : Int) + 1).toNat = k + 1 := by omega
  rw [e]
theorem turned_eq (L : LineOk line) {s : Str} (h : s ∈ stops_on_t line) (begin : Int) : turned_rows_t line begin s =
    ((rangeDI ((stops_on_t line).idxOf s : Int) 0).foldl (fun (q : Int × List (Str × Int)) (k : Int) => (q.1 + (idx line k).2, q.2 ++ [(idx (stops_on_t line) (k - 1), q.1 + (idx line k).2)]))
      ((rangeI 1 (((stops_on_t line).idxOf s : Int) + 1)).foldl (fun (q : Int × List (Str × Int)) (k : Int) => (q.1 + (idx line k).2, q.2 ++ [(idx (stops_on_t line) k, q.1 + (idx line k).2)])) (begin, [(idx (stops_on_t line) 0, begin)]))).2 := by
  unfold turned_rows_t
  have hk := ixl h
  generalize (stops_on_t line).idxOf s = k at hk
  rw [own_eq]
  dsimp only
  have hl : (line.take (k + 1)).length = k + 1 := by simp; omega
  have e0 : ((line.take (k + 1)).length : Int) - 1 = (k : Int) := by omega
  have hst : stops_on_t line = line.map fun p => p.1 := rfl
  have i0 : idx line 0 = ((idx (stops_on_t line) 0), 0) := by
    obtain ⟨a, r, rfl⟩ := L.ex
    rfl
  have key : ∀ (st : List (Str × Int) × Int) (tt : Int × List (Str × Int)), st = (tt.2, tt.1) →
      ((rangeDI (k : Int) 0).foldl (fun (s__2 : (List (Str × Int)) × Int) (k_ : Int) => (s__2.1 ++ [((idx (line.take (k + 1)) (k_ - 1)).1, s__2.2 + (idx (line.take (k + 1)) k_).2)], s__2.2 + (idx (line.take (k + 1)) k_).2)) st) = (((rangeDI (k : Int) 0).foldl (fun (q : Int × List (Str × Int)) (k : Int) => (q.1 + (idx line k).2, q.2 ++ [(idx (stops_on_t line) (k - 1), q.1 + (idx line k).2)])) tt).2, ((rangeDI (k : Int) 0).foldl (fun (q : Int × List (Str × Int)) (k : Int) => (q.1 + (idx line k).2, q.2 ++ [(idx (stops_on_t line) (k - 1), q.1 + (idx line k).2)])) tt).1) := fun st tt e => by
    refine foldR (fun (st : List (Str × Int) × Int) (tt : Int × List (Str × Int)) => st = (tt.2, tt.1)) e fun st tt x hx e => ?_
    obtain ⟨x1, x2⟩ := mem_rangeDI.mp hx
    subst e
    rw [idx_take (by omega) (by omega), idx_take (by omega) (by omega), hst, idx_map _ (by omega) (by omega)]
  rw [e0]
  rw [key _ ((rangeI 1 ((k : Int) + 1)).foldl (fun (q : Int × List (Str × Int)) (k : Int) => (q.1 + (idx line k).2, q.2 ++ [(idx (stops_on_t line) k, q.1 + (idx line k).2)])) (begin, [(idx (stops_on_t line) 0, begin)])) ?_]
  rw [take_range hk, List.foldl_cons, List.foldl_map]
  refine foldR (fun (st : List (Str × Int) × Int) (tt : Int × List (Str × Int)) => st = (tt.2, tt.1)) ?_ fun st tt x hx e => ?_
  · rw [i0]
    simp
  · obtain ⟨x1, x2⟩ := mem_rangeI.mp hx
    subst e
    rw [hst, idx_map _ (by omega) (by omega)]
end W

set_option Elab.async false
set_option linter.all false
set_option autoImplicit false
set_option maxRecDepth 100000
namespace W
open PySem Q
variable {line : Line} {riders back : List (Str × Str × Int)} {late stand later : Int}
/-! part of a line -/
theorem head_mem (L : LineOk line) : (idx line 0).1 ∈ stops_on_t line ∧ (stops_on_t line).idxOf (idx line 0).1 = 0 := by
  obtain ⟨a, r, rfl⟩ := L.ex
  have e : (idx ((a, 0) :: r) 0).1 = a := rfl
  rw [e]
  have : stops_on_t ((a, 0) :: r) = a :: stops_on_t r := rfl
  rw [this]
  exact ⟨List.mem_cons_self, List.idxOf_cons_self⟩
theorem part_eq (L : LineOk line) {s : Str} (h : s ∈ stops_on_t line) : part_line_t line s = if decide (0 < ((stops_on_t line).idxOf s : Int)) = true then some (cutL line none (some (((stops_on_t line).idxOf s : Int) + 1))) else none := by
  obtain ⟨hm, h0⟩ := head_mem L
  have hk := ixl h
  unfold part_line_t part_of_t between_t
  rw [mt hm, mt h, h0, P_zero L]
  dsimp only
  simp only [Option.isNone_some, Bool.false_or, Option.getD_some]
  by_cases hz : (stops_on_t line).idxOf s = 0
  · rw [hz, P_zero L]
    simp
  · have hp : 0 < P line ((stops_on_t line).idxOf s) := by
      have := P_mono L (i := 0) (j := (stops_on_t line).idxOf s) (by omega) hk
      rw [P_zero L] at this; exact this
    generalize P line ((stops_on_t line).idxOf s) = v at hp
    have q1 : (if decide (v < 0) = true then (none : Option Int) else some (v - 0)) = some v := by
      rw [if_neg (by simpa using Int.le_of_lt hp), Int.sub_zero]
    have q2 : ¬ decide (some v ∈ [(none : Option Int), some 0]) = true := by
      simp; omega
    rw [q1, if_neg q2, if_pos (by simp; omega)]
    congr 1
    rw [own_eq, cutL_mid _ (by omega) (by omega)]
    obtain ⟨a, r, rfl⟩ := L.ex
    have e : (idx ((a, 0) :: r) 0).1 = a := rfl
    rw [e] at h0 ⊢
    rw [h0]
    generalize (stops_on_t ((a, 0) :: r)).idxOf s = k at *
    have e1 : (((0 : Nat) : Int) + 1).toNat = 1 := rfl
    have e2 : ((k : Int) + 1).toNat = k + 1 := by omega
    rw [e1, e2]
    simp
theorem part_ok (L : LineOk line) {s : Str} (h : s ∈ stops_on_t line) : part_line_ok line s := by
  have hz := L.six
  obtain ⟨hm, h0⟩ := head_mem L
  have ho : ∀ s, minutes_to_ok line s := fun s => mto (by omega) s
  refine ⟨⟨by omega, by have := L.two; omega⟩, ⟨ho _, ho _, fun f hf l hl => ⟨fun _ _ => ⟨by rw [hl, mt h]; rfl, by rw [hf, mt hm]; rfl⟩, fun _ => ⟨by rw [hl, mt h]; rfl, by rw [hf, mt hm]; rfl⟩⟩⟩, fun _ => ⟨le_sz (by omega), fun st e => ?_⟩⟩
  subst e
  refine ⟨hm, h, fun f _ l _ => le_sz ?_⟩
  have := cutL_len line (some (f + 1)) (some (l + 1))
  simp
  omega
/-! the greatest common part -/
abbrev gC : Int × Int → Bool := fun s => !decide (s.2 = 0)
abbrev gF : Int × Int → Int × Int := fun s => (s.2, Int.fmod s.1 s.2)
theorem while0 (n : Nat) (a : Int) : whileT gC gF n (a, 0) = (a, 0) := by
  cases n with
  | zero => rfl
  | succ n => rfl
theorem gcd_ok : ∀ (n : Nat) (a b : Int), 0 ≤ a → 0 ≤ b → b < n → OkW (fun _ => True) gC (fun s => s.2 ≠ 0) gF n (a, b) ∧ (0 < b → 0 < (whileT gC gF n (a, b)).1 ∧ (whileT gC gF n (a, b)).1 ≤ b)
  | 0, a, b, _, h, k => by omega
  | n + 1, a, b, ha, hb, hn => by
    have hf : Int.fmod a b = a % b := Int.fmod_eq_emod_of_nonneg _ hb
    by_cases h0 : b = 0
    · subst h0
      exact ⟨⟨trivial, fun h => by simp [gC] at h⟩, fun h => by omega⟩
    · have hb0 : 0 < b := by omega
      have m1 : 0 ≤ a % b := Int.emod_nonneg _ h0
      have m2 : a % b < b := Int.emod_lt_of_pos _ hb0
      have e : gF (a, b) = (b, a % b) := by show (b, Int.fmod a b) = _; rw [hf]
      obtain ⟨i1, i2⟩ := gcd_ok n b (a % b) hb m1 (by omega)
      have hc : gC (a, b) = true := by simp [gC, h0]
      refine ⟨⟨trivial, fun _ => ⟨h0, by rw [e]; exact i1⟩⟩, fun _ => ?_⟩
      have ew : whileT gC gF (n + 1) (a, b) = whileT gC gF n (b, a % b) := by
        show (if gC (a, b) = true then whileT gC gF n (gF (a, b)) else (a, b)) = _
        rw [if_pos hc, e]
      rw [ew]
      by_cases hz : a % b = 0
      · rw [hz, while0]
        exact ⟨hb0, Int.le_refl _⟩
      · have := i2 (by omega)
        omega
theorem abs_nn {a : Int} (h : 0 ≤ a) : absI a = a := by unfold absI; rw [if_neg (by omega)]
theorem frac_all {a b : Int} (ha : 0 ≤ a) (ha2 : a ≤ 100000) (hb : 0 < b) (hb2 : b ≤ 1000) : fraction_ok a b ∧ law_fraction_ok a b ∧ fraction_t a b = law_fraction_t a b := by
  obtain ⟨w1, w2⟩ := gcd_ok 1000000 a b ha (by omega) (by omega)
  have w2 := w2 hb
  have ed : divisor_t a b = (whileT gC gF 1000000 (a, b)).1 := by
    show (if (!decide ((whileT gC gF 1000000 (a, b)).1 = 0)) = true then (whileT gC gF 1000000 (a, b)).1 else 1) = _
    rw [if_pos (by simp; omega)]
  have hp : (if decide (0 < b) = true then (1 : Int) else -1) = 1 := if_pos (by simpa using hb)
  refine ⟨?_, ?_, ?_⟩
  · unfold fraction_ok
    rw [abs_nn ha, abs_nn (by omega : 0 ≤ b), ed, hp]
    refine ⟨w1, M64_r (by omega) (by omega), fun c hc => ?_⟩
    subst hc
    unfold D30
    omega
  · intro x hx y hy
    rw [abs_nn ha] at hx
    rw [abs_nn (by omega : 0 ≤ b)] at hy
    subst hx hy
    refine ⟨w1, fun s hs => ?_⟩
    have hs : s = whileT gC gF 1000000 (x, y) := hs
    subst hs
    unfold D30
    exact ⟨fun _ => by omega, fun _ => by omega⟩
  · unfold fraction_t law_fraction_t
    dsimp only
    rw [abs_nn ha, abs_nn (by omega : 0 ≤ b), ed, hp, if_pos (by simpa using hb), Int.mul_one]
/-! the lines that the law makes -/
theorem OkF.ix {α σ : Type} {ok : σ → α → Prop} {step : σ → α → σ} (I : Nat → σ → Prop) : ∀ (xs : List α) (s : σ) (n : Nat), I n s → (∀ i s (h : i < xs.length), I (n + i) s → ok s xs[i] ∧ I (n + i + 1) (step s xs[i])) → OkF ok step s xs ∧ I (n + xs.length) (xs.foldl step s)
  | [], s, n, h, _ => ⟨trivial, h⟩
  | x :: xs, s, n, h, k => by
    have h0 := k 0 s (by simp) h
    obtain ⟨i1, i2⟩ := OkF.ix I xs (step s x) (n + 1) h0.2 fun i s hi hI => by
      have := k (i + 1) s (by simp; omega) (by rw [← Nat.add_assoc, Nat.add_right_comm]; exact hI)
      rw [Nat.add_right_comm n 1 i]
      exact this
    refine ⟨⟨h0.1, i1⟩, ?_⟩
    rw [List.length_cons, List.foldl_cons, show n + (xs.length + 1) = n + 1 + xs.length by omega]
    exact i2
theorem range_get {n : Nat} {i : Nat} (h : i < (rangeI 0 (n : Int)).length) : (rangeI 0 (n : Int))[i] = (i : Int) := by
  unfold rangeI
  simp
theorem mem_putT {κ α : Type} [DecidableEq κ] {l : List (κ × α)} {k : κ} {v : α} {p : κ × α} (h : p ∈ putT l k v) : p.2 = v ∨ p ∈ l := by
  unfold putT at h
  split at h
  · obtain ⟨q, hq, rfl⟩ := List.mem_map.mp h
    by_cases e : q.1 = k
    · rw [if_pos e]; exact .inl rfl
    · rw [if_neg e]; exact .inr hq
  · rcases List.mem_append.mp h with q | q
    · exact .inr q
    · rw [List.mem_singleton.mp q]; exact .inl rfl
theorem len_putT {κ α : Type} [DecidableEq κ] (l : List (κ × α)) (k : κ) (v : α) : (putT l k v).length ≤ l.length + 1 := by
  unfold putT
  split <;> simp
theorem mem_lookT {κ α : Type} [DecidableEq κ] {l : List (κ × α)} {k : κ} {v : α} (h : lookT l k = some v) : ∃ p ∈ l, p.2 = v := by
  unfold lookT at h
  obtain ⟨p, hp, e⟩ := Option.map_eq_some_iff.mp h
  exact ⟨p, List.mem_of_find?_eq_some hp, e⟩
theorem erase_perm {α : Type} : ∀ {l : List α} {j : Nat} (h : j < l.length), (l[j] :: l.eraseIdx j).Perm l
  | x :: l, 0, _ => List.Perm.refl _
  | x :: l, j + 1, h => by
    have ih := erase_perm (l := l) (j := j) (by simpa using h)
    rw [List.getElem_cons_succ, List.eraseIdx_cons_succ]
    exact (List.Perm.swap _ _ _).trans (ih.cons x)
/-- a line under way -/
structure Way (i : Nat) (left : List Str) (line : Line) : Prop where
  len : line.length = i
  lft : left.length = 6 - i
  nd : ((line.map fun p => p.1) ++ left).Nodup
  zero : i = 0 → line = []
  one : 1 ≤ i → ∃ a r, line = (a, 0) :: r ∧ ∀ p ∈ r, 1 ≤ p.2
theorem Way.step {i : Nat} {left : List Str} {line : Line} (w : Way i left line) (hi : i < 6) {v m : Int} (h0 : 0 ≤ v) (h1 : v < left.length) (hm : (i = 0 → m = 0) ∧ (i ≠ 0 → 1 ≤ m)) : Way (i + 1) (left.eraseIdx (ixN' left.length v)) (line ++ [(idx left v, m)]) := by
  obtain ⟨j, rfl⟩ := Int.eq_ofNat_of_zero_le h0
  have hj : j < left.length := by omega
  have ej : ixN' left.length (j : Int) = j := by unfold ixN'; rw [if_pos (by omega)]; omega
  rw [ej, idx_lt left hj]
  refine ⟨by simp [w.len], by rw [List.length_eraseIdx_of_lt hj, w.lft]; omega, ?_, fun h => by omega, fun _ => ?_⟩
  · have hp : (((line ++ [(left[j], m)]).map fun p => p.1) ++ left.eraseIdx j).Perm ((line.map fun p => p.1) ++ left) := by
      rw [List.map_append, List.append_assoc]
      refine List.Perm.append_left _ ?_
      show (left[j] :: left.eraseIdx j).Perm left
      exact erase_perm hj
    exact hp.nodup_iff.mpr w.nd
  · by_cases hz : i = 0
    · rw [w.zero hz, hm.1 hz]
      exact ⟨left[j], [], rfl, fun p hp => by simp at hp⟩
    · obtain ⟨a, r, e, hr⟩ := w.one (by omega)
      rw [e]
      refine ⟨a, r ++ [(left[j], m)], rfl, fun p hp => ?_⟩
      rcases List.mem_append.mp hp with q | q
      · exact hr p q
      · rw [List.mem_singleton.mp q]; exact hm.2 hz
theorem Way.ok {i : Nat} {left : List Str} {line : Line} (w : Way i left line) (h2 : 2 ≤ i) (h6 : i ≤ 6) : LineOk line := by
  obtain ⟨a, r, e, hr⟩ := w.one (by omega)
  refine ⟨⟨a, r, e⟩, by rw [w.len]; exact h2, by rw [w.len]; exact h6, (List.nodup_append.mp w.nd).1, fun p hp => ?_⟩
  rw [e] at hp
  exact hr p (by simpa using hp)
end W

set_option Elab.async false
set_option linter.all false
set_option autoImplicit false
set_option maxRecDepth 100000
namespace W
open PySem Q
abbrev SL := (List Str × Line) × St
def drawM (l : St) (k : Int) : Int × St := if decide (k = 0) = true then (0, l) else (1 + (nextT l 9).1, (nextT l 9).2)
def stepL (s : SL) (k : Int) : SL :=
  ((s.1.1.eraseIdx (ixN' s.1.1.length (nextT s.2 (s.1.1.length : Int)).1), s.1.2 ++ [(idx s.1.1 (nextT s.2 (s.1.1.length : Int)).1, (drawM (nextT s.2 (s.1.1.length : Int)).2 k).1)]), (drawM (nextT s.2 (s.1.1.length : Int)).2 k).2)
def okL (s : SL) (k : Int) : Prop := (s.1.1.length : Int) ≠ 0 ∧ InR s.1.1 ((nextT s.2 (s.1.1.length : Int)).1) ∧ I62 ((nextT s.2 (s.1.1.length : Int)).1) ∧ s.1.2.length < sizeLine
def left0 : List Str := [("a" : Str), ("b" : Str), ("c" : Str), ("d" : Str), ("e" : Str), ("f" : Str)]
theorem way0 : Way 0 left0 [] := ⟨rfl, rfl, by decide, fun _ => rfl, fun h => by omega⟩
theorem drawM_ok (l : St) (i : Nat) : (i = 0 → (drawM l (i : Int)).1 = 0) ∧ (i ≠ 0 → 1 ≤ (drawM l (i : Int)).1) := by
  constructor
  · rintro rfl; rfl
  · intro h
    unfold drawM
    rw [if_neg (by simpa using h)]
    have := nextT_bnd l (m := 9) (by decide)
    show 1 ≤ 1 + (nextT l 9).1
    omega
theorem inner_run (l : St) (m : Nat) (hm : m ≤ 5) : OkF okL stepL ((left0, []), l) (rangeI 0 (m : Int)) ∧ Way m ((rangeI 0 (m : Int)).foldl stepL ((left0, []), l)).1.1 ((rangeI 0 (m : Int)).foldl stepL ((left0, []), l)).1.2 := by
  have h := OkF.ix (ok := okL) (step := stepL) (fun i s => Way i s.1.1 s.1.2) (rangeI 0 (m : Int)) ((left0, []), l) 0 way0 fun i s hi w => by
    rw [range_get hi]
    have hi : i < m := by rw [len_rangeI] at hi; omega
    rw [Nat.zero_add] at w ⊢
    have hl := w.lft
    have hn := nextT_bnd s.2 (m := (s.1.1.length : Int)) (by omega)
    refine ⟨⟨by omega, ⟨by omega, hn.2⟩, I62_of (by omega) (by omega), lt_sz (by rw [w.len]; omega)⟩, ?_⟩
    exact w.step (by omega) hn.1 hn.2 (drawM_ok _ i)
  rw [len_rangeI, Nat.zero_add] at h
  have e : ((m : Int) - 0).toNat = m := by omega
  rw [e] at h
  exact h
abbrev SN := List (Str × Line) × St
def stepN (s : SN) (name : Str) : SN := (putT s.1 name ((rangeI 0 (2 + (nextT s.2 4).1)).foldl stepL ((left0, []), (nextT s.2 4).2)).1.2, ((rangeI 0 (2 + (nextT s.2 4).1)).foldl stepL ((left0, []), (nextT s.2 4).2)).2)
def okN (s : SN) (name : Str) : Prop := ∀ left : List Str, left = left0 → I62 (2 + (nextT s.2 4).1) ∧ OkF okL stepL ((left, []), (nextT s.2 4).2) (rangeI 0 (2 + (nextT s.2 4).1)) ∧ (∀ r : SL, r = (rangeI 0 (2 + (nextT s.2 4).1)).foldl stepL ((left, []), (nextT s.2 4).2) → s.1.length < sizeLine)
theorem names_run (l : St) (xs : List Str) (hx : xs.length ≤ 100) : OkF okN stepN ([], l) xs ∧ ∀ p ∈ (xs.foldl stepN ([], l)).1, LineOk p.2 := by
  have h := OkF.ix (ok := okN) (step := stepN) (fun i s => s.1.length ≤ i ∧ ∀ p ∈ s.1, LineOk p.2) xs ([], l) 0 ⟨Nat.le_refl _, fun p hp => by simp at hp⟩ fun i s hi w => by
    have hn := nextT_bnd s.2 (m := 4) (by decide)
    obtain ⟨v, hv⟩ := Int.eq_ofNat_of_zero_le hn.1
    have e : 2 + (nextT s.2 4).1 = ((2 + v : Nat) : Int) := by rw [hv]; omega
    obtain ⟨r1, r2⟩ := inner_run (nextT s.2 4).2 (2 + v) (by omega)
    refine ⟨?_, ?_, ?_⟩
    · rintro left rfl
      rw [e]
      exact ⟨I62_of (by omega) (by omega), r1, fun r _ => lt_sz (by have := w.1; omega)⟩
    · have := len_putT s.1 xs[i] ((rangeI 0 (2 + (nextT s.2 4).1)).foldl stepL ((left0, []), (nextT s.2 4).2)).1.2
      have h2 := w.1
      show (putT _ _ _).length ≤ _
      omega
    · intro p hp
      rcases mem_putT hp with q | q
      · rw [q, e]
        exact r2.ok (by omega) (by omega)
      · exact w.2 p q
  exact ⟨h.1, h.2.2⟩
theorem lines_all (l : St) : law_lines_ok 2 l ∧ ∀ p ∈ (law_lines_t 2 l).1, LineOk p.2 := by
  have hx : (cutL ([("moon" : Str), ("owl" : Str), ("bat" : Str), ("star" : Str)]) none (some ((nextT l (2 + 1)).1))).length ≤ 100 := Nat.le_trans (cutL_len _ _ _) (by simp)
  have h := names_run (nextT l (2 + 1)).2 _ hx
  refine ⟨?_, h.2⟩
  rintro found rfl
  exact ⟨by decide, h.1⟩
theorem line0 : LineOk [(("a" : Str), 0), (("b" : Str), 4), (("c" : Str), 3)] := ⟨⟨_, _, rfl⟩, by simp, by simp, by decide, fun p hp => by
  simp only [List.drop_succ_cons, List.drop_zero, List.mem_cons, List.not_mem_nil, or_false] at hp
  rcases hp with rfl | rfl <;> decide⟩
end W

set_option Elab.async false
set_option linter.all false
set_option autoImplicit false
set_option maxRecDepth 100000
namespace W
open PySem Q
abbrev Rd := List (Str × Str × Int)
abbrev SR := (Rd × Rd) × St
def stepR (stops : List Str) (s : SR) (k : Int) : SR :=
  (let i : Int := (nextT s.2 ((stops.length : Int) - 1)).1; let l3 : St := (nextT s.2 ((stops.length : Int) - 1)).2
   let j : Int := ((i + 1) + (nextT l3 (((stops.length : Int) - i) - 1)).1); let l4 : St := (nextT l3 (((stops.length : Int) - i) - 1)).2
   let people : Int := (1 + (nextT l4 9).1); let l5 : St := (nextT l4 9).2
   ((s.1.1 ++ [((idx stops i), (idx stops j), people)], s.1.2 ++ [((idx stops j), (idx stops i), (1 + (nextT l5 9).1))]), (nextT l5 9).2))
def okR (stops : List Str) (s : SR) (k : Int) : Prop := ((stops.length : Int) - 1) ≠ 0 ∧
  (∀ i : Int, i = (nextT s.2 ((stops.length : Int) - 1)).1 → ∀ l3 : St, l3 = (nextT s.2 ((stops.length : Int) - 1)).2 → (((stops.length : Int) - i) - 1) ≠ 0 ∧
    (∀ j : Int, j = ((i + 1) + (nextT l3 (((stops.length : Int) - i) - 1)).1) → ∀ l4 : St, l4 = (nextT l3 (((stops.length : Int) - i) - 1)).2 → ∀ people : Int, people = (1 + (nextT l4 9).1) → ∀ l5 : St, l5 = (nextT l4 9).2 →
      InR stops i ∧ InR stops j ∧ s.1.1.length + ([((idx stops i), (idx stops j), people)]).length ≤ sizeLine ∧ s.1.2.length + ([((idx stops j), (idx stops i), (1 + (nextT l5 9).1))]).length ≤ sizeLine))
structure RdOk (stops : List Str) (i : Nat) (s : SR) : Prop where
  r : s.1.1.length ≤ i
  b : s.1.2.length ≤ i
  rm : ∀ p ∈ s.1.1, p.2.1 ∈ stops
  bm : ∀ p ∈ s.1.2, p.1 ∈ stops
theorem riders_run (stops : List Str) (h2 : 2 ≤ stops.length) (l : St) (m : Nat) (hm : m ≤ 100) : OkF (okR stops) (stepR stops) (([], []), l) (rangeI 0 (m : Int)) ∧ RdOk stops m ((rangeI 0 (m : Int)).foldl (stepR stops) (([], []), l)) := by
  have h := OkF.ix (ok := okR stops) (step := stepR stops) (RdOk stops) (rangeI 0 (m : Int)) (([], []), l) 0 ⟨Nat.le_refl _, Nat.le_refl _, fun p hp => by simp at hp, fun p hp => by simp at hp⟩ fun i s hi w => by
    have hi : i < m := by rw [len_rangeI] at hi; omega
    rw [Nat.zero_add] at w ⊢
    have n1 := nextT_bnd s.2 (m := (stops.length : Int) - 1) (by omega)
    have n2 := nextT_bnd (nextT s.2 ((stops.length : Int) - 1)).2 (m := (stops.length : Int) - (nextT s.2 ((stops.length : Int) - 1)).1 - 1) (by omega)
    have a1 : InR stops (nextT s.2 ((stops.length : Int) - 1)).1 := InR.of n1.1 (by omega)
    have a2 : InR stops ((nextT s.2 ((stops.length : Int) - 1)).1 + 1 + (nextT (nextT s.2 ((stops.length : Int) - 1)).2 ((stops.length : Int) - (nextT s.2 ((stops.length : Int) - 1)).1 - 1)).1) := InR.of (by omega) (by omega)
    refine ⟨⟨by omega, ?_⟩, ⟨?_, ?_, ?_, ?_⟩⟩
    · rintro i rfl l3 rfl
      refine ⟨by omega, ?_⟩
      rintro j rfl l4 rfl people rfl l5 rfl
      have := w.r
      have := w.b
      exact ⟨a1, a2, le_sz (by simp; omega), le_sz (by simp; omega)⟩
    · show (s.1.1 ++ [_]).length ≤ _
      have := w.r
      simp; omega
    · show (s.1.2 ++ [_]).length ≤ _
      have := w.b
      simp; omega
    · intro p hp
      rcases List.mem_append.mp hp with q | q
      · exact w.rm p q
      · rw [List.mem_singleton.mp q]; exact idx_mem a2
    · intro p hp
      rcases List.mem_append.mp hp with q | q
      · exact w.bm p q
      · rw [List.mem_singleton.mp q]; exact idx_mem a2
  rw [len_rangeI, Nat.zero_add] at h
  have e : ((m : Int) - 0).toNat = m := by omega
  rw [e] at h
  exact h
variable {line : Line} {riders back : Rd} {late stand later : Int}
theorem len_stops (line : Line) : (stops_on_t line).length = line.length := by simp [stops_on_t]
theorem len_app {α β γ : Type} (g : List β × γ → α → β) (h : List β × γ → α → γ) : ∀ (xs : List α) (s : List β × γ), (xs.foldl (fun s x => (s.1 ++ [g s x], h s x)) s).1.length = s.1.length + xs.length
  | [], s => by simp
  | x :: xs, s => by rw [List.foldl_cons, len_app g h xs]; simp; omega
theorem turned_ok (L : LineOk line) {s : Str} (h : s ∈ stops_on_t line) (begin : Int) : turned_rows_ok line begin s := by
  have six := L.six
  have hk := ixl h
  rintro now rfl
  refine ⟨le_sz (by omega), h, ?_⟩
  rintro own rfl
  rw [own_eq]
  have hl : (line.take ((stops_on_t line).idxOf s + 1)).length = (stops_on_t line).idxOf s + 1 := by simp; omega
  generalize line.take ((stops_on_t line).idxOf s + 1) = own at hl
  refine ⟨OkF.invN (fun i s => s.1.length ≤ i) 0 (by simp) fun i s p hp hi w => ⟨fun _ _ => lt_sz (by omega), by simp; omega⟩, ?_⟩
  rintro s1 rfl
  refine ⟨I62_of (by omega) (by omega), ?_⟩
  refine OkF.invN (fun i s => s.1.length ≤ i) 6 ?_ fun i s k hk2 hi w => ?_
  · have := len_app (fun (s : List (Str × Int) × Int) (p : Str × Int) => (p.1, s.2 + p.2)) (fun s p => s.2 + p.2) own ([], now)
    have : (own.foldl (fun (s : List (Str × Int) × Int) (p : Str × Int) => (s.1 ++ [(p.1, s.2 + p.2)], s.2 + p.2)) ([], now)).1.length ≤ 6 := by rw [this]; simp; omega
    exact this
  · obtain ⟨x1, x2⟩ := mem_rangeDI.mp hk2
    rw [len_rangeDI] at hi
    exact ⟨⟨InR.of (by omega) (by omega), fun _ _ => ⟨InR.of (by omega) (by omega), lt_sz (by omega)⟩⟩, by simp; omega⟩
theorem turned_len (L : LineOk line) {s : Str} (h : s ∈ stops_on_t line) (begin : Int) : (turned_rows_t line begin s).length ≤ 100 := by
  have six := L.six
  have hk := ixl h
  unfold turned_rows_t
  rw [own_eq]
  have hl : (line.take ((stops_on_t line).idxOf s + 1)).length = (stops_on_t line).idxOf s + 1 := by simp; omega
  generalize line.take ((stops_on_t line).idxOf s + 1) = own at hl
  dsimp only
  rw [len_app (fun (s : List (Str × Int) × Int) (k : Int) => ((idx own (k - 1)).1, s.2 + (idx own k).2)) (fun s k => s.2 + (idx own k).2), len_app (fun (s : List (Str × Int) × Int) (p : Str × Int) => (p.1, s.2 + p.2)) (fun s p => s.2 + p.2), len_rangeDI]
  simp; omega
theorem left_bnd (L : LineOk line) (hl : 1 ≤ late) (hl2 : late ≤ 40) (hs : 0 ≤ stand) (k : Nat) : 0 ≤ maxI 0 (late - 2 * R line k - stand) ∧ maxI 0 (late - 2 * R line k - stand) ≤ 40 := by
  have := R_nn L k
  rw [maxI_eq]
  omega
theorem lcost_ok (L : LineOk line) (hr : riders.length ≤ 100) (hb : back.length ≤ 100) (hbm : ∀ p ∈ back, p.1 ∈ stops_on_t line) (hrm : ∀ p ∈ riders, p.2.1 ∈ stops_on_t line) (h1 : 1 ≤ late) (h2 : late ≤ 40) (h3 : 0 ≤ stand) (h4 : 0 ≤ later) (h5 : later ≤ 40) (o : Option Str) (ho : ∀ s, o = some s → s ∈ stops_on_t line) : law_cost_ok line riders back late stand later o := by
  have six := L.six
  refine ⟨le_sz (by omega), le_sz (by omega), ?_⟩
  rintro stops rfl whole rfl
  refine ⟨fun _ => M64_r ?_ ?_, fun hn => ?_⟩
  · rw [← max0, maxI_eq]; omega
  · rw [← max0, maxI_eq]; omega
  · cases o with
    | none => cases hn
    | some s =>
      have hs := ho s rfl
      refine ⟨rfl, hs, ?_⟩
      rintro at_ rfl
      refine ⟨le_sz (Nat.le_trans (cutL_len _ _ _) (by omega)), ?_⟩
      rintro rest rfl left rfl
      refine ⟨le_sz (by omega), hbm, ?_⟩
      rintro behind rfl
      refine ⟨le_sz (by omega), hrm, ?_⟩
      rintro gone rfl
      have e : ((cutL line (some (((law_stops_t line).idxOf ((some s).getD default) : Int) + 1)) none).map fun p => p.2).sum = R line ((stops_on_t line).idxOf s) := rest_eq line _
      rw [e]
      have hb := left_bnd L h1 h2 h3 ((stops_on_t line).idxOf s)
      exact ⟨M64_l (by omega) (by omega), M64_l (by omega) (by omega)⟩
theorem ccost_ok (L : LineOk line) (hr : riders.length ≤ 100) (hb : back.length ≤ 100) (hbm : ∀ p ∈ back, p.1 ∈ stops_on_t line) (hrm : ∀ p ∈ riders, p.2.1 ∈ stops_on_t line) (h1 : 1 ≤ late) (h2 : late ≤ 40) (h3 : 0 ≤ stand) (h4 : 0 ≤ later) (h5 : later ≤ 40) (o : Option Str) (ho : ∀ s, o = some s → s ∈ stops_on_t line) : cost_of_turn_ok line riders back late stand later o := by
  have six := L.six
  refine ⟨le_sz (by omega), ?_⟩
  rintro whole rfl
  refine ⟨fun _ => M64_r ?_ ?_, fun hn => ?_⟩
  · rw [maxI_eq]; omega
  · rw [maxI_eq]; omega
  · cases o with
    | none => cases hn
    | some s =>
      have hs := ho s rfl
      have hs' : (some s).getD default ∈ stops_on_t line := hs
      refine ⟨rfl, mto (by omega) _, ?_⟩
      rintro at_ rfl
      refine ⟨le_sz (by omega), fun p hp => ⟨mto (by omega) _, by rw [mt (hbm p hp)]; rfl, by rw [mt hs']; rfl⟩, ?_⟩
      rintro behind rfl
      refine ⟨rfl, saved_ok (by omega) hs', ?_⟩
      rintro left rfl
      refine ⟨rfl, lost_ok (by omega) hs' (by omega) hrm, M64_l (by omega) (by omega), ?_⟩
      rw [saved_eq hs']
      have e2 : late - (2 * R line ((stops_on_t line).idxOf ((some s).getD default)) + stand) = late - 2 * R line ((stops_on_t line).idxOf ((some s).getD default)) - stand := by omega
      rw [e2]
      have hb := left_bnd L h1 h2 h3 ((stops_on_t line).idxOf ((some s).getD default))
      exact M64_l (by omega) (by omega)
theorem best_ok (L : LineOk line) (hr : riders.length ≤ 100) (hb : back.length ≤ 100) (hbm : ∀ p ∈ back, p.1 ∈ stops_on_t line) (hrm : ∀ p ∈ riders, p.2.1 ∈ stops_on_t line) (h1 : 1 ≤ late) (h2 : late ≤ 40) (h3 : 0 ≤ stand) (h4 : 0 ≤ later) (h5 : later ≤ 40) : best_turn_ok line riders back late stand later := by
  have six := L.six
  have hil : (inner_stops_t line).length ≤ 6 := Nat.le_trans (cutL_len _ _ _) (by rw [len_stops]; omega)
  refine ⟨le_sz (by omega), le_sz (by simp; omega), ?_⟩
  intro all hall
  have hal : all.length ≤ 7 := by rw [hall]; simp; omega
  have hne : all ≠ [] := by rw [hall]; simp
  have hm : ∀ o ∈ all, ∀ s, o = some s → s ∈ stops_on_t line := by
    rintro o ho s rfl
    rw [hall] at ho
    rcases List.mem_append.mp ho with q | q
    · simp at q
    · obtain ⟨u, hu, e⟩ := List.mem_map.mp q
      cases e
      exact inner_sub (List.mem_reverse.mp hu)
  refine ⟨I62_nat (by omega), ?_, ?_⟩
  · refine OkF.invN (fun i s => s.length ≤ i) 0 (by simp) fun i s k hk hi w => ?_
    rw [len_rangeI] at hi
    obtain ⟨x1, x2⟩ := mem_rangeI.mp hk
    have hin : InR all k := InR.of x1 x2
    exact ⟨⟨hin, ccost_ok L hr hb hbm hrm h1 h2 h3 h4 h5 _ (hm _ (idx_mem hin)), lt_sz (by omega)⟩, by simp; omega⟩
  · intro rows hrows
    have e : rows = (List.range all.length).map fun (k : Nat) => (cost_of_turn_t line riders back late stand later (idx all (k : Int)), (k : Int)) := by
      rw [hrows]
      exact rows_eq (fun o => cost_of_turn_t line riders back late stand later o) all
    have hl := List.length_pos_iff.mpr hne
    have hrne : rows ≠ [] := by
      rw [e]
      intro z
      exact hne (by simpa using z)
    refine ⟨hrne, ?_⟩
    have hmin := minT_mem Lin.ii hrne
    generalize minT (lt2 ltI ltI) rows = q at hmin
    rw [e] at hmin
    obtain ⟨k, hk, hq⟩ := List.mem_map.mp hmin
    rw [← hq]
    exact InR.nat (by simpa using hk)
end W

set_option Elab.async false
set_option linter.all false
set_option autoImplicit false
set_option maxRecDepth 100000
namespace W
open PySem Q
theorem alt_rows {l : List (Str × Int)} (h : l.length ≤ 100) : Alt 12 ((eT (eP2 PyData.str PyData.int)) l) := (AltE.t (AltE.p2 AltE.s AltE.i)).alk l ⟨by omega, fun _ _ => ⟨trivial, trivial⟩⟩
set_option maxHeartbeats 1000000 in
theorem all_ok (l0 : St) : law_ok l0 := by
  intro turn hturn l
  obtain ⟨q1, q2⟩ := lines_all l
  refine ⟨q1, ?_⟩
  rintro lines rfl l1 rfl
  refine ⟨fun h => h, ?_⟩
  intro line hline
  have L : LineOk line := by
    rw [hline]
    split
    · rename_i h
      obtain ⟨v, hv⟩ := Option.isSome_iff_exists.mp h
      obtain ⟨p, hp, e⟩ := mem_lookT hv
      rw [hv, Option.getD_some, ← e]
      exact q2 p hp
    · exact line0
  clear hline
  have six := L.six
  have two := L.two
  have ns := len_stops line
  refine ⟨le_sz (by omega), ?_⟩
  intro stops hstops
  have hS : stops = stops_on_t line := hstops
  clear hstops
  subst hS
  intro late hlate stand hstand later hlater l2 hl2
  have b1 := nextT_bnd (law_lines_t 2 l).2 (m := 40) (by decide)
  have b2 := nextT_bnd (nextT (law_lines_t 2 l).2 40).2 (m := 9) (by decide)
  have b3 := nextT_bnd (nextT (nextT (law_lines_t 2 l).2 40).2 9).2 (m := 30) (by decide)
  have late1 : 1 ≤ late ∧ late ≤ 40 := by omega
  have stand1 : 0 ≤ stand ∧ stand ≤ 8 := by omega
  have later1 : 0 ≤ later ∧ later ≤ 40 := by omega
  clear hlate hstand hlater b1 b2 b3 hl2
  have b4 := nextT_bnd l2 (m := 6) (by decide)
  obtain ⟨m, hm⟩ := Int.eq_ofNat_of_zero_le b4.1
  rw [hm]
  obtain ⟨r1, r2⟩ := riders_run (stops_on_t line) (by omega) (nextT l2 6).2 m (by omega)
  refine ⟨I62_of (by omega) (by omega), r1, ?_⟩
  intro s1 hs1 inner hinner
  have RO : RdOk (stops_on_t line) m s1 := by rw [hs1]; exact r2
  clear hs1 r1 r2
  have hr := RO.r
  have hb := RO.b
  have hrm := RO.rm
  have hbm := RO.bm
  have hin : inner.length ≤ 6 := by rw [hinner]; exact Nat.le_trans (cutL_len _ _ _) (by omega)
  have e0 : inner_stops_t line = inner := by rw [hinner]; exact inner_eq (by omega)
  have ins : ∀ s ∈ inner, s ∈ stops_on_t line := fun s hs => by rw [hinner] at hs; exact inner_sub hs
  refine ⟨?_, ?_⟩
  · refine OkF.invN (fun i s => s.length ≤ i) 0 (by simp) fun i s st hst hi w => ?_
    refine ⟨⟨hst, ?_⟩, ?_⟩
    · rintro at_ rfl
      refine ⟨le_sz (Nat.le_trans (cutL_len _ _ _) (by omega)), ?_⟩
      rintro rest rfl
      refine ⟨saved_ok (by omega) hst, by rw [saved_eq hst, rest_eq], le_sz ?_, ?_⟩
      · split <;> simp <;> omega
      · rintro able -
        exact ⟨lost_ok (by omega) hst (by omega) hrm, le_sz (by omega), hrm, lost_eq L hst hrm⟩
    · show (s ++ _).length ≤ _
      rw [List.length_append]
      split <;> simp <;> omega
  intro able hable
  have ha : able = inner.filter fun s => decide (late ≤ saved_at_t line s stand) := by
    have hf := fold_filter (fun s => decide (s ∈ inner) && decide (late ≤ 2 * ((cutL line (some (((stops_on_t line).idxOf s : Int) + 1)) none).map fun p => p.2).sum + stand)) (stops_on_t line) []
    rw [hable]
    refine hf.trans ?_
    rw [List.nil_append, hinner, filter_inner (xs := stops_on_t line) (by omega) L.nd]
    refine List.filter_congr fun s hs => ?_
    rw [← hinner] at hs
    rw [rest_eq, saved_eq (ins s hs)]
  have al : able ≠ [] → InR able ((able.length : Int) - 1) := fun h => by
    have := List.length_pos_iff.mpr h
    exact InR.of (by omega) (by omega)
  refine ⟨⟨le_sz (by omega), le_sz (by rw [e0]; omega), fun s hs => saved_ok (by omega) (ins s (by rw [← e0]; exact hs)), fun ab hab hne => ?_⟩, fun hne => al (by simpa using hne), ?_, ?_⟩
  · rw [e0] at hab
    have : ab = able := hab.trans ha.symm
    subst this
    have h1 : ab ≠ [] := by simpa using hne
    have := List.length_pos_iff.mpr h1
    exact ⟨by omega, by omega⟩
  · unfold turn_stop_t
    rw [e0, ← ha]
    dsimp only
    by_cases h : able = []
    · rw [h]; rfl
    · rw [if_pos (by simpa using h), if_pos (by simpa using h), neg1 able h]
  rintro best rfl
  have allm : ∀ o ∈ ([(none : Option Str)] ++ inner.reverse.map some), ∀ s, o = some s → s ∈ stops_on_t line := by
    rintro o ho s rfl
    rcases List.mem_append.mp ho with q | q
    · simp at q
    · obtain ⟨u, hu, e⟩ := List.mem_map.mp q
      cases e
      exact ins _ (List.mem_reverse.mp hu)
  refine ⟨le_sz (by simp; omega), ?_, ?_⟩
  · refine OkF.all fun s o ho => ?_
    refine ⟨lcost_ok L (by omega) (by omega) hbm hrm late1.1 late1.2 stand1.1 later1.1 later1.2 o (allm o ho), ?_⟩
    rintro own rfl
    refine ⟨ccost_ok L (by omega) (by omega) hbm hrm late1.1 late1.2 stand1.1 later1.1 later1.2 o (allm o ho), cost_eq L hbm hrm o (allm o ho), fun h => ?_⟩
    cases s with
    | none => cases h
    | some v => rfl
  intro best2 hbest2
  refine ⟨best_ok L (by omega) (by omega) hbm hrm late1.1 late1.2 stand1.1 later1.1 later1.2, ?_, ?_⟩
  · rw [best_eq L hbm hrm, hbest2, hinner]
  have b5 := nextT_bnd (nextT s1.2 60).2 (m := ((stops_on_t line).length : Int)) (by omega)
  refine ⟨⟨by omega, b5.2 |> fun h => InR.of b5.1 h⟩, ?_⟩
  intro begin hbegin stop hstop l7 hl7
  have hsm : stop ∈ stops_on_t line := by
    rw [hstop]
    exact idx_mem (InR.of b5.1 b5.2)
  clear hstop hl7 hbegin
  have hk := ixl hsm
  refine ⟨hsm, InR.of (by omega) (by omega), ?_⟩
  intro at_ hat now hnow rows hrows
  have hat2 : 0 ≤ at_ ∧ at_ < line.length := by omega
  refine ⟨I62_of (by omega) (by omega), ?_, ?_⟩
  · rw [hrows]
    refine OkF.invN (fun i s => s.2.length ≤ i) 1 (by simp) fun i s k hk2 hi w => ?_
    obtain ⟨x1, x2⟩ := mem_rangeI.mp hk2
    rw [len_rangeI] at hi
    exact ⟨⟨InR.of (by omega) (by omega), fun _ _ => ⟨InR.of (by omega) (by omega), lt_sz (by omega)⟩⟩, by simp; omega⟩
  intro s5 hs5
  have s5l : s5.2.length ≤ 10 := by
    have hl : ∀ (xs : List Int) (s : Int × List (Str × Int)), (xs.foldl (fun (s : Int × List (Str × Int)) (k : Int) => (s.1 + (idx line k).2, s.2 ++ [((idx (stops_on_t line) k), s.1 + (idx line k).2)])) s).2.length = s.2.length + xs.length := by
      intro xs
      induction xs with
      | nil => intro s; simp
      | cons x xs ih => intro s; rw [List.foldl_cons, ih]; simp; omega
    have h2 := hl (rangeI 1 (at_ + 1)) (now, rows)
    have h3 : s5.2.length = rows.length + (rangeI 1 (at_ + 1)).length := by rw [hs5]; exact h2
    rw [h3, len_rangeI, hrows]
    simp; omega
  refine ⟨I62_of (by omega) (by omega), ?_, ?_⟩
  · refine OkF.invN (fun i s => s.2.length ≤ i) 10 s5l fun i s k hk2 hi w => ?_
    obtain ⟨x1, x2⟩ := mem_rangeDI.mp hk2
    rw [len_rangeDI] at hi
    exact ⟨⟨InR.of (by omega) (by omega), fun _ _ => ⟨InR.of (by omega) (by omega), lt_sz (by omega)⟩⟩, by simp; omega⟩
  intro s7 hs7
  refine ⟨turned_ok L hsm begin, ?_, alt_rows (turned_len L hsm begin), le_sz (by decide +kernel), ?_⟩
  · rw [turned_eq L hsm, hs7, hs5, hrows, hnow, ← hat]
  intro streets hstreets l9 hl9
  refine ⟨⟨le_sz (by omega), le_sz (by rw [e0]; omega)⟩, le_sz (by omega), ?_, ?_, part_ok L hsm, ?_, ?_, ?_⟩
  · unfold turn_stops_t
    rw [e0]
  · refine (AltE.t AltE.s).alk _ ⟨?_, fun _ _ => trivial⟩
    unfold turn_stops_t
    rw [e0]
    exact Nat.le_trans (List.length_filter_le _ _) (by omega)
  · rw [part_eq L hsm, ← hat]
  · rw [part_eq L hsm, ← hat]
    split
    · exact alt_rows (Nat.le_trans (cutL_len _ _ _) (by omega))
    · exact Alt.n
  intro many hmany gap hgap l10 hl10
  have b6 := nextT_bnd l9 (m := 7) (by decide)
  have b7 := nextT_bnd (nextT l9 7).2 (m := 30) (by decide)
  have b8 := nextT_bnd l10 (m := 6) (by decide)
  have hm1 : 0 ≤ many ∧ many ≤ 6 := by omega
  have hg1 : 1 ≤ gap ∧ gap ≤ 30 := by omega
  refine ⟨I62_of (by omega) (by omega), le_sz (by rw [len_rangeI]; omega), ?_⟩
  intro goes hgoes l12 hl12
  have hgl : goes.length ≤ 5 := by rw [hgoes, mapW_len, len_rangeI]; omega
  have hml : (rangeI 0 many).length ≤ 6 := by rw [len_rangeI]; omega
  refine ⟨⟨I62_of (by omega) (by omega), le_sz (by omega)⟩, I62_of (by omega) (by omega), le_sz (by omega), ?_, ?_, le_sz (by omega), ?_⟩
  · unfold every_other_t
    refine List.map_congr_left fun k hk => ?_
    refine decide_eq_decide.mpr ?_
    omega
  · refine (AltE.t AltE.b).alk _ ⟨?_, fun _ _ => trivial⟩
    unfold every_other_t
    rw [List.length_map]
    omega
  intro on hon
  have hon1 : 0 ≤ on ∧ on ≤ 5 := by
    have := List.length_filter_le (fun b : Bool => b) goes
    rw [hon, List.length_map]
    omega
  have hgp : 0 ≤ gap * (goes.length : Int) ∧ gap * (goes.length : Int) ≤ 30 * 5 := mul_bnd (by omega) hg1.2 (by omega) (by omega)
  have hfr : 0 < on → fraction_ok (gap * (goes.length : Int)) on ∧ law_fraction_ok (gap * (goes.length : Int)) on ∧ fraction_t (gap * (goes.length : Int)) on = law_fraction_t (gap * (goes.length : Int)) on := fun h => frac_all hgp.1 (by omega) h (by omega)
  refine ⟨⟨le_sz (by omega), fun mm hmm hd => ?_⟩, fun hd => ⟨M64_l (by omega) (by omega), (hfr (by simpa using hd)).2.1⟩, ?_⟩
  · have : mm = on := hmm.trans hon.symm
    subst this
    exact ⟨M64_l (by omega) (by omega), (hfr (by simpa using hd)).1⟩
  · unfold mean_gap_behind_t
    dsimp only
    rw [← hon]
    by_cases h : 0 < on
    · rw [if_pos (by simpa using h), if_pos (by simpa using h), (hfr h).2.2]
    · rw [if_neg (by simpa using h), if_neg (by simpa using h)]
end W

set_option Elab.async false
set_option linter.all false
set_option autoImplicit false
set_option maxRecDepth 100000
namespace W
open PySem Q
theorem math : ∀ ns : List Int, ns.length ≤ 63 → ∃ l w', e_law (some (tokS ns) :: List.replicate 33 none) none = some (.list (l.map .int), none) ∧ b_law ((some (tokS ns) :: List.replicate 33 none).set 1 (some tokW)) (some l) = some (.rt (.bool true), w') := by
  intro ns hns
  obtain ⟨l, hl⟩ := draws2_ok ns 400 (by omega) (by omega) hns none
  have hl : f_law_draws [tokS ns, .int 400] none = some (.list (l.map .int), none) := hl
  have he : e_law (some (tokS ns) :: List.replicate 33 none) none = some (.list (l.map .int), none) := by
    unfold e_law
    simp -implicitDefEqProofs [hl]
  obtain ⟨o, l', e, k⟩ := (law_tie (tokS ns) l (all_ok l)).run _ (LE.rfl' _)
  cases k
  exact ⟨l, some l', he, e⟩
end W

open PySem PySem.W PyProof.Rows
set_option maxHeartbeats 0 in
theorem PySem.Challenge.cw_nightbus_k42_turned_on_the_way_holds : PySem.Challenge.rw_nightbus_k42_turned_on_the_way.Holds := by
  w_on; o_law; k_head; (case hw => w_witness2)
  k_fill
  refine L2.walk_of (l := PySem.Challenge.rw_nightbus_k42_turned_on_the_way) (n := 63) (k := 14) (x := "script") (CX := fun _ => L2.CX0) (sp := fun w => Q.spLaw _ 63) rfl (by decide) rfl ⟨rfl, by decide, by decide⟩ (fun w h Y => PySem.W.kIn_of Y) ?F (fun _ _ a ns hl _ hS => ⟨a, ns, rfl, hS, hl, fun _ => rfl⟩) (fun _ _ _ _ _ h => h)
  case F =>
    intro w mg fa h KX G hmg
    refine' W.all_mk KX G hmg ?a0 ?l0 ?c0 ?k0 ?a1 ?l1 ?c1 ?k1 ?a2 ?l2 ?c2 ?k2 ?a3 ?l3 ?c3 ?k3 ?a4 ?l4 ?c4 ?k4 ?a5 ?l5 ?c5 ?k5 ?a6 ?l6 ?c6 ?k6 ?a7 ?l7 ?c7 ?k7 ?a8 ?l8 ?c8 ?k8 ?a9 ?l9 ?c9 ?k9 ?a10 ?l10 ?c10 ?k10 ?a11 ?l11 ?c11 ?k11 ?a12 ?l12 ?c12 ?k12 ?a13 ?l13 ?c13 ?k13 ?a14 ?l14 ?c14 ?k14 ?a15 ?l15 ?c15 ?k15 ?a16 ?l16 ?c16 ?k16 ?a17 ?l17 ?c17 ?k17 ?a18 ?l18 ?c18 ?k18 ?a19 ?l19 ?c19 ?k19 ?a20 ?l20 ?c20 ?k20 ?a21 ?l21 ?c21 ?k21 ?a22 ?l22 ?c22 ?k22 ?a23 ?l23 ?c23 ?k23 ?a24 ?l24 ?c24 ?k24 ?a25 ?l25 ?c25 ?k25 ?a26 ?l26 ?c26 ?k26 ?z_abs ?z_bool ?z_int ?z_isinstance ?z_len ?z_max ?z_min ?z_range ?z_str ?z_sum ?z_tuple ?hmath
    (case a0 => k_is); (case l0 => k_is); (case c0 => k_is); (case k0 => k_is); (case a1 => k_is); (case l1 => k_is); (case c1 => k_is); (case k1 => k_is); (case a2 => k_is); (case l2 => k_is); (case c2 => k_is); (case k2 => k_is); (case a3 => k_is); (case l3 => k_is); (case c3 => k_is); (case k3 => k_is); (case a4 => k_is); (case l4 => k_is); (case c4 => k_is); (case k4 => k_is); (case a5 => k_is); (case l5 => k_is); (case c5 => k_is); (case k5 => k_is); (case a6 => k_is); (case l6 => k_is); (case c6 => k_is); (case k6 => k_is); (case a7 => k_is); (case l7 => k_is); (case c7 => k_is); (case k7 => k_is); (case a8 => k_is); (case l8 => k_is); (case c8 => k_is); (case k8 => k_is); (case a9 => k_is); (case l9 => k_is); (case c9 => k_is); (case k9 => k_is); (case a10 => k_is); (case l10 => k_is); (case c10 => k_is); (case k10 => k_is); (case a11 => k_is); (case l11 => k_is); (case c11 => k_is); (case k11 => k_is); (case a12 => k_is); (case l12 => k_is); (case c12 => k_is); (case k12 => k_is); (case a13 => k_is); (case l13 => k_is); (case c13 => k_is); (case k13 => k_is); (case a14 => k_is); (case l14 => k_is); (case c14 => k_is); (case k14 => k_is); (case a15 => k_is); (case l15 => k_is); (case c15 => k_is); (case k15 => k_is); (case a16 => k_is); (case l16 => k_is); (case c16 => k_is); (case k16 => k_is); (case a17 => k_is); (case l17 => k_is); (case c17 => k_is); (case k17 => k_is); (case a18 => k_is); (case l18 => k_is); (case c18 => k_is); (case k18 => k_is); (case a19 => k_is); (case l19 => k_is); (case c19 => k_is); (case k19 => k_is); (case a20 => k_is); (case l20 => k_is); (case c20 => k_is); (case k20 => k_is); (case a21 => k_is); (case l21 => k_is); (case c21 => k_is); (case k21 => k_is); (case a22 => k_is); (case l22 => k_is); (case c22 => k_is); (case k22 => k_is); (case a23 => k_is); (case l23 => k_is); (case c23 => k_is); (case k23 => k_is); (case a24 => k_is); (case l24 => k_is); (case c24 => k_is); (case k24 => k_is); (case a25 => k_is); (case l25 => k_is); (case c25 => k_is); (case k25 => k_is); (case a26 => k_is); (case l26 => k_is); (case c26 => k_is); (case k26 => k_is)
    (case z_abs => k_is); (case z_bool => k_is); (case z_int => k_is); (case z_isinstance => k_is); (case z_len => k_is); (case z_max => k_is); (case z_min => k_is); (case z_range => k_is); (case z_str => k_is); (case z_sum => k_is); (case z_tuple => k_is)
    case hmath => exact W.math
